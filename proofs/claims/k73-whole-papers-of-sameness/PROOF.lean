import PyProof.Rows.All
import Wide.All
import OpenK.AllK
import Wide.FinOn
import HandS.ForMost
import KE.KeyNested
import HandS.Lambda
import KE.KNestM
import HandS.ForExc
import HandS.IsInst
import HandS.TupAny
import HandS.Deep
import HandS.Wide
import HandS.CallSlots
import HandS.Defaults
import KE.KUnpackStar
import HandS.Text
import KE.KIntText
import HandS.SetFor
import HandS.Strs
import HandS.SortInts
import HandS.List
import HandS.Comp
import HandS.SortKw
import HandS.MakeKw
import HandS.MakeKwOnly
import HandS.Style
import HandS.Flow
import HandS.TryMany
import HandS.ExcInit
import HandS.ExcIs
import HandS.ExcField
import HandS.Zip
import HandS.TupMul
import KE.KxMul
import HandS.TryOnly
import PyProof.Rows.SortStr
import PyProof.Rows.SortShellK
import PyProof.NeKinds
import KE.GoesMore
import PyProof.EnumMake
import HandS.DictComp
import HandS.TupSets
import HandS.SortOrd
import HandS.OwnEq
import PyProof.StrOps2
import KE.KDictDisplayH
import HandS.DictTup
import HandS.ListItems
import KE.KDictCopyH
import PyProof.Rows.SortShellAny
import HandS.Nested
import KE.KMinKey
import KE.KDictWalk
import HandS.EndTab
import KE.KDictSum
import HandS.Small
import HandS.Ends
import PyProof.ReprRoads
import PyProof.ReprLen
import PyProof.FitsInt
import PySem.Challenge.RW_stoodin_k73_whole_papers_of_sameness
set_option Elab.async false
set_option linter.all false
set_option autoImplicit false
set_option maxRecDepth 100000
set_option maxHeartbeats 4000000
namespace DL
open PySem L2
/-- what is known of the text, and the world -/
structure KW where
  fr : PySem.W.Frag
  w : World
instance : Coe KW PySem.W.Frag := ⟨KW.fr⟩
abbrev kw (X : Cx) : KW := ⟨X.K, X.w⟩
/-! ### the table of the code objects that a def with a lambda makes -/
def lamNs : List Str := ["judged", "judged_judging"]
def LamT (K : PySem.W.Frag) (P : Addr) (q : Str) : Prop := ∃ c, PySem.W.codeHdIn K c P = true ∧ PySem.W.codeIn K (.ref c) q = true ∧ q ∈ lamNs
def NoLam (K : PySem.W.Frag) : Prop := ∀ P q, ¬ LamT K P q
def lamQ (q : Str) : Str := (q ++ ".<locals>.") ++ "<lambda>"
structure TabA (F H0 : Hp) (H : Hp) (P : Addr) (q : Str) : Prop where
  h0 : H0 P = none
  hF : F P = none
  tab : ∃ ps : Array Value, H P = some (.tbl ps) ∧ TriplesOk ps.toList ∧ ∀ (pos : Pos) (cv : Value), codeAmong pos ps.toList = some cv → ∃ c, cv = .ref c ∧ H0 c = some (LamX.CodeO c (lamQ q))
theorem TabA.step {F F' H0 H0' H H' : Hp} {P : Addr} {q : Str} (t : TabA F H0 H P q) (s : ∀ b u, H0 b = some u → H0' b = some u) (e0 : H0' P = none) (eF : F' P = none) (e : H' P = H P) : TabA F' H0' H' P q :=
  ⟨e0, eF, let ⟨ps, h1, h2, h3⟩ := t.tab; ⟨ps, e.trans h1, h2, fun pos cv hc => let ⟨c, a, b⟩ := h3 pos cv hc; ⟨c, a, s _ _ b⟩⟩⟩
theorem TabA.ne_none {F H0 H : Hp} {P p : Addr} {q : Str} (t : TabA F H0 H P q) (h : H p = none) : P ≠ p := fun z => by
  obtain ⟨ps, h1, _⟩ := t.tab
  rw [z, h] at h1; cases h1
theorem TabA.ne_some {F H0 H : Hp} {P p : Addr} {q : Str} {o : HO} (t : TabA F H0 H P q) (h : H p = some o) (ht : ∀ ps, o ≠ .tbl ps) : P ≠ p := fun z => by
  obtain ⟨ps, h1, _⟩ := t.tab
  rw [z, h] at h1; exact ht ps (Option.some.inj h1)
theorem TabA.ne_frame {F H0 H : Hp} {P p : Addr} {q : Str} {o : HO} (t : TabA F H0 H P q) (h : F p = some o) : P ≠ p := fun z => by
  have := t.hF
  rw [z, h] at this; cases this
/-! ### a dict whose keys are tuples, nested -/
def RE (e : NestedKey × Addr × V) (x : NestedKey × Addr × Value) : Prop := e.1 = x.1 ∧ e.2.1 = x.2.1 ∧ RelV e.2.2 x.2.2
def dgEnt (w : World) (x : NestedKey × Addr × Value) : DictEntry := ⟨x.1.hash w, .ref x.2.1, x.2.2⟩
def DGp (w : World) (a : Addr) (L : List (NestedKey × Addr × V)) (h : Heap) : Prop :=
  (a == sysModules) = false ∧ L.length ≤ sizeLine ∧ ∃ xs : List (NestedKey × Addr × Value), Paired RE L xs ∧ (xs.map (·.1)).Nodup ∧ ∃ o es ep, h.get? a = some o ∧ o.ExactDict ∧ o.data = .dict es ep ∧ es.toList = xs.map (dgEnt w)
def DGO (w : World) (a : Addr) (L : List (NestedKey × Addr × V)) : HO := .ext (DGp w a L)
end DL
namespace DL
open PySem L2
/-! ### data -/
/-- the module's name n holds the object at C (a class, a def) -/
def ClsAt (K : PySem.W.Frag) (n : Str) (C : Addr) : Prop := PySem.W.nsIn K mainGlobals n = some (some (.ref C))
inductive D where
  | non | bl (b : Bool) | int (i : Int) | str (x : Str) | ty (n : String) | adr (a : Addr) | glb (n : Str) | exc (a C dd : Addr) (n : Str) (fs : List (Str × D))
  | lst (ds : List D) | tup (ds : List D) | dct (kvs : List (Key × D)) | ins (n : Str) (fs : List (Str × D))
/-- what may change -/
inductive MO where
  | lst (ds : List D) | dct (kvs : List (Key × D)) | dgt (kvs : List (D × D)) | dgl (o : Obj) (kvs : List (D × D)) | ins (n : Str) (fs : List (Str × D))
mutual
/-- data as a key, up to == -/
def nk : D → NestedKey
  | .bl b => .num (if b = true then 1 else 0)
  | .int i => .num i
  | .str x => .text x
  | .tup ds => .tup (nks ds)
  | _ => .none
def nks : List D → List NestedKey
  | [] => []
  | d :: ds => nk d :: nks ds
end
mutual
def kyB : D → Bool
  | .non => true
  | .bl _ => true
  | .int _ => true
  | .str _ => true
  | .tup ds => kyBs ds
  | _ => false
def kyBs : List D → Bool
  | [] => true
  | d :: ds => kyB d && kyBs ds
end
/-- a tuple that can be a key -/
def ktB : D → Bool
  | .tup ds => kyBs ds && decide ((nk (.tup ds)).depth ≤ 8)
  | _ => false
abbrev Mu := Addr → Option MO
def mset (m : Mu) (a : Addr) (o : MO) : Mu := fun b => if b = a then some o else m b
def mdel (m : Mu) (a : Addr) : Mu := fun b => if b = a then none else m b
mutual
inductive Rp (K : PySem.W.Frag) (H : Hp) : V → D → Prop
  | non : Rp K H .non .non
  | bl (b : Bool) : Rp K H (.bl b) (.bl b)
  | int (i : Int) : Rp K H (.int i) (.int i)
  | str (x : Str) : Rp K H (.str x) (.str x)
  | ty (n : String) : Rp K H (.ty n) (.ty n)
  | adr (a : Addr) : Rp K H (.ref a) (.adr a)
  | glb {n : Str} {C : Addr} : ClsAt K n C → Rp K H (.ref C) (.glb n)
  | exc {a C dd : Addr} {n : Str} {fv : List (Str × V)} {fs : List (Str × D)} : ClsAt K n C → H dd = some (.xd fv) → fv.map (·.1) = fs.map (·.1) → RpL K H (fv.map (·.2)) (fs.map (·.2)) → Rp K H (.ref a) (.exc a C dd n fs)
  | lst {a : Addr} {vs : List V} {ds : List D} : SqL K H a vs → RpL K H vs ds → Rp K H (.ref a) (.lst ds)
  | tup {a : Addr} {vs : List V} {ds : List D} : SqT K H a vs → RpL K H vs ds → Rp K H (.ref a) (.tup ds)
  | dct {a : Addr} {kvs : List (Key × V)} {ds : List (Key × D)} : H a = some (.dK kvs) → kvs.map (·.1) = ds.map (·.1) → RpL K H (kvs.map (·.2)) (ds.map (·.2)) → Rp K H (.ref a) (.dct ds)
  | ins {a C dx : Addr} {n : Str} {fs : List (Str × V)} {ds : List (Str × D)} : ClsAt K n C → H a = some (.ins C dx fs) → fs.map (·.1) = ds.map (·.1) → RpL K H (fs.map (·.2)) (ds.map (·.2)) → Rp K H (.ref a) (.ins n ds)
inductive RpL (K : PySem.W.Frag) (H : Hp) : List V → List D → Prop
  | nil : RpL K H [] []
  | cons {v : V} {vs : List V} {d : D} {ds : List D} : Rp K H v d → RpL K H vs ds → RpL K H (v :: vs) (d :: ds)
end
theorem seqT_mono {K : PySem.W.Frag} {H H' : Hp} {a : Addr} {xs : List V} (e : Same H H') (h : SqT K H a xs) : SqT K H' a xs := by
  rcases h with (h | ⟨o, h⟩) | h
  · exact .inl (.inl (e _ _ h))
  · exact .inl (.inr ⟨o, e _ _ h⟩)
  · exact .inr h
mutual
theorem Rp.mono {K : PySem.W.Frag} {H H' : Hp} (s : Same H H') : ∀ {v : V} {d : D}, Rp K H v d → Rp K H' v d
  | _, _, .non => .non
  | _, _, .bl b => .bl b
  | _, _, .int i => .int i
  | _, _, .str x => .str x
  | _, _, .ty n => .ty n
  | _, _, .adr a => .adr a
  | _, _, .glb h => .glb h
  | _, _, .exc c h e r => .exc c (s _ _ h) e (RpL.mono s r)
  | _, _, .lst h r => .lst (s.seq h) (RpL.mono s r)
  | _, _, .tup h r => .tup (seqT_mono s h) (RpL.mono s r)
  | _, _, .dct h e r => .dct (s _ _ h) e (RpL.mono s r)
  | _, _, .ins c h e r => .ins c (s _ _ h) e (RpL.mono s r)
theorem RpL.mono {K : PySem.W.Frag} {H H' : Hp} (s : Same H H') : ∀ {vs : List V} {ds : List D}, RpL K H vs ds → RpL K H' vs ds
  | _, _, .nil => .nil
  | _, _, .cons h r => .cons (Rp.mono s h) (RpL.mono s r)
end
/-! ### worlds: H0 what never changes, m what may -/
def MRep (K : KW) (H0 H : Hp) (a : Addr) : MO → Prop
  | .lst ds => ∃ vs, H a = some (.lst vs) ∧ RpL K H0 vs ds
  | .dct kvs => ∃ kv, H a = some (.dK kv) ∧ kv.map (·.1) = kvs.map (·.1) ∧ RpL K H0 (kv.map (·.2)) (kvs.map (·.2))
  | .dgt kvs => ∃ L, H a = some (DGO K.w a L) ∧ Paired (fun e p => e.1 = nk p.1 ∧ ktB p.1 = true ∧ Rp K H0 (.ref e.2.1) p.1 ∧ Rp K H0 e.2.2 p.2) L kvs
  | .dgl o kvs => ∃ L, H a = some (.frz o (DGO K.w a L)) ∧ Paired (fun e p => e.1 = nk p.1 ∧ ktB p.1 = true ∧ Rp K H0 (.ref e.2.1) p.1 ∧ Rp K H0 e.2.2 p.2) L kvs
  | .ins n fs => ∃ C dx fv, ClsAt K n C ∧ H a = some (.ins C dx fv) ∧ fv.map (·.1) = fs.map (·.1) ∧ RpL K H0 (fv.map (·.2)) (fs.map (·.2))
theorem MRep.some {K : KW} {H0 H : Hp} {a : Addr} {o : MO} (h : MRep K H0 H a o) : ∃ u, H a = some u := by
  cases o with
  | lst ds => obtain ⟨vs, h, _⟩ := h; exact ⟨_, h⟩
  | dct ds => obtain ⟨vs, h, _⟩ := h; exact ⟨_, h⟩
  | dgt ds => obtain ⟨vs, h, _⟩ := h; exact ⟨_, h⟩
  | dgl o ds => obtain ⟨vs, h, _⟩ := h; exact ⟨_, h⟩
  | ins C ds => obtain ⟨_, _, vs, _, h, _⟩ := h; exact ⟨_, h⟩
theorem mrep_noT {K : KW} {H0 H : Hp} {a : Addr} {o : MO} (h : MRep K H0 H a o) : ∃ u, H a = some u ∧ ∀ ps, u ≠ .tbl ps := by
  cases o with
  | lst ds => obtain ⟨vs, h, _⟩ := h; exact ⟨_, h, fun _ z => nomatch z⟩
  | dct ds => obtain ⟨vs, h, _⟩ := h; exact ⟨_, h, fun _ z => nomatch z⟩
  | dgt ds => obtain ⟨vs, h, _⟩ := h; exact ⟨_, h, fun _ z => nomatch z⟩
  | dgl o ds => obtain ⟨vs, h, _⟩ := h; exact ⟨_, h, fun _ z => nomatch z⟩
  | ins C ds => obtain ⟨_, _, vs, _, h, _⟩ := h; exact ⟨_, h, fun _ z => nomatch z⟩
theorem MRep.mono {K : KW} {H0 H H0' H' : Hp} {a : Addr} {o : MO} (h : MRep K H0 H a o) (s : Same H0 H0') (e : H' a = H a) : MRep K H0' H' a o := by
  cases o with
  | lst ds => obtain ⟨vs, h, r⟩ := h; exact ⟨vs, e.trans h, r.mono s⟩
  | dct ds => obtain ⟨vs, h, q, r⟩ := h; exact ⟨vs, e.trans h, q, r.mono s⟩
  | dgt ds => obtain ⟨L, h, q⟩ := h; exact ⟨L, e.trans h, L2.Paired.mapP q fun _ _ z => ⟨z.1, z.2.1, z.2.2.1.mono s, z.2.2.2.mono s⟩⟩
  | dgl o ds => obtain ⟨L, h, q⟩ := h; exact ⟨L, e.trans h, L2.Paired.mapP q fun _ _ z => ⟨z.1, z.2.1, z.2.2.1.mono s, z.2.2.2.mono s⟩⟩
  | ins C ds => obtain ⟨C, dx, vs, c, h, q, r⟩ := h; exact ⟨C, dx, vs, c, e.trans h, q, r.mono s⟩
/-- F: a frame that stays as it is -/
structure Ok (K : KW) (F : Hp) (H0 : Hp) (m : Mu) (H : Hp) : Prop where
  same : Same H0 H
  cell : ∀ a o, m a = some o → H0 a = none ∧ MRep K H0 H a o
  fr : ∀ a o, F a = some o → H a = some o ∧ H0 a = none ∧ m a = none
  tab : ∀ P q, LamT K.fr P q → TabA F H0 H P q
theorem Ok.neM {K : KW} {F H0 H : Hp} {m : Mu} {P p : Addr} {q : Str} {o : MO} (ok : Ok K F H0 m H) (l : LamT K.fr P q) (h : m p = some o) : P ≠ p :=
  let ⟨_, h1, h2⟩ := mrep_noT (ok.cell p o h).2; (ok.tab P q l).ne_some h1 h2
theorem Ok.free {K : KW} {F : Hp} {H0 H : Hp} {m : Mu} {a : Addr} (ok : Ok K F H0 m H) (h : H a = none) : H0 a = none ∧ m a = none := by
  refine ⟨ok.same.free h, ?_⟩
  cases e : m a with
  | none => rfl
  | some o =>
    obtain ⟨u, hu⟩ := (ok.cell a o e).2.some
    rw [h] at hu; cases hu
theorem same_new {H : Hp} {p : Addr} {o : HO} (h : H p = none) : Same H (upd H p o) := fun b u e => by
  rw [upd_ne (ne_of_none e h)]; exact e
/-- a new thing that never changes -/
theorem Ok.new {K : KW} {F : Hp} {H0 H : Hp} {m : Mu} {p : Addr} (ok : Ok K F H0 m H) (h : H p = none) (o : HO) : Ok K F (upd H0 p o) m (upd H p o) := by
  obtain ⟨h0, hm⟩ := ok.free h
  refine ⟨fun b u e => ?_, fun a q e => ?_, fun a q e => ?_, fun P q l => have t := ok.tab P q l; have n := t.ne_none h; t.step (same_new h0) ((upd_ne n).trans t.h0) t.hF (upd_ne n)⟩
  · by_cases hb : b = p
    · subst hb; rw [upd_same] at e ⊢; exact e
    · rw [upd_ne hb] at e ⊢; exact ok.same b u e
  · obtain ⟨c1, c2⟩ := ok.cell a q e
    have ha : a ≠ p := fun z => by rw [z, hm] at e; cases e
    exact ⟨by rw [upd_ne ha]; exact c1, c2.mono (same_new h0) (upd_ne ha)⟩
  · obtain ⟨c1, c2, c3⟩ := ok.fr a q e
    have ha : a ≠ p := ne_of_none c1 h
    exact ⟨by rw [upd_ne ha]; exact c1, by rw [upd_ne ha]; exact c2, c3⟩
/-- a new thing of ours that may change -/
theorem Ok.newM {K : KW} {F : Hp} {H0 H : Hp} {m : Mu} {p : Addr} {u : HO} {o : MO} (ok : Ok K F H0 m H) (h : H p = none) (r : MRep K H0 (upd H p u) p o) : Ok K F H0 (mset m p o) (upd H p u) := by
  obtain ⟨h0, hm⟩ := ok.free h
  refine ⟨fun b q e => ?_, fun a q e => ?_, fun a q e => ?_, fun P q l => have t := ok.tab P q l; t.step (fun _ _ z => z) t.h0 t.hF (upd_ne (t.ne_none h))⟩
  · rw [upd_ne (ne_of_none (ok.same b q e) h)]; exact ok.same b q e
  · unfold mset at e
    by_cases ha : a = p
    · subst ha; rw [if_pos rfl] at e; cases e; exact ⟨h0, r⟩
    · rw [if_neg ha] at e
      obtain ⟨c1, c2⟩ := ok.cell a q e
      exact ⟨c1, c2.mono (Same.refl _) (upd_ne ha)⟩
  · obtain ⟨c1, c2, c3⟩ := ok.fr a q e
    have ha : a ≠ p := ne_of_none c1 h
    exact ⟨by rw [upd_ne ha]; exact c1, c2, by unfold mset; rw [if_neg ha]; exact c3⟩
/-- a thing of ours changes -/
theorem Ok.write {K : KW} {F : Hp} {H0 H : Hp} {m : Mu} {p : Addr} {u : HO} {o o' : MO} (ok : Ok K F H0 m H) (h : m p = some o') (r : MRep K H0 (upd H p u) p o) : Ok K F H0 (mset m p o) (upd H p u) := by
  obtain ⟨h0, _⟩ := ok.cell p o' h
  refine ⟨fun b q e => ?_, fun a q e => ?_, fun a q e => ?_, fun P q l => have t := ok.tab P q l; t.step (fun _ _ z => z) t.h0 t.hF (upd_ne (ok.neM l h))⟩
  · rw [upd_ne (ne_of_none e h0)]; exact ok.same b q e
  · unfold mset at e
    by_cases ha : a = p
    · subst ha; rw [if_pos rfl] at e; cases e; exact ⟨h0, r⟩
    · rw [if_neg ha] at e
      obtain ⟨c1, c2⟩ := ok.cell a q e
      exact ⟨c1, c2.mono (Same.refl _) (upd_ne ha)⟩
  · obtain ⟨c1, c2, c3⟩ := ok.fr a q e
    have ha : a ≠ p := fun z => by rw [z, h] at c3; cases c3
    exact ⟨by rw [upd_ne ha]; exact c1, c2, by unfold mset; rw [if_neg ha]; exact c3⟩
/-- less is known to be ours -/
theorem Ok.weak {K : KW} {F : Hp} {H0 H : Hp} {m m' : Mu} (ok : Ok K F H0 m H) (h : ∀ a o, m' a = some o → m a = some o) : Ok K F H0 m' H := by
  refine ⟨ok.same, fun a o e => ok.cell a o (h a o e), fun a o e => ?_, ok.tab⟩
  obtain ⟨c1, c2, c3⟩ := ok.fr a o e
  refine ⟨c1, c2, ?_⟩
  cases q : m' a with
  | none => rfl
  | some u => rw [h a u q] at c3; cases c3
/-- something that is neither goes into the frame -/
theorem Ok.frame {K : KW} {F : Hp} {H0 H : Hp} {m : Mu} {p : Addr} {o : HO} (ok : Ok K F H0 m H) (h : H p = some o) (h0 : H0 p = none) (hm : m p = none) (ht : ∀ ps, o ≠ .tbl ps) : Ok K (upd F p o) H0 m H := by
  refine ⟨ok.same, ok.cell, fun a u e => ?_, fun P q l => have t := ok.tab P q l; t.step (fun _ _ z => z) t.h0 ((upd_ne (t.ne_some h ht)).trans t.hF) rfl⟩
  by_cases ha : a = p
  · subst ha; rw [upd_same] at e; cases e; exact ⟨h, h0, hm⟩
  · rw [upd_ne ha] at e; exact ok.fr a u e
/-- and out of it, whatever it was before -/
theorem Ok.unframe {K : KW} {F : Hp} {H0 H : Hp} {m : Mu} {p : Addr} {o : HO} (ok : Ok K (upd F p o) H0 m H) (hF : F p = none) : Ok K F H0 m H ∧ H p = some o ∧ H0 p = none ∧ m p = none := by
  refine ⟨⟨ok.same, ok.cell, fun a u e => ?_, fun P q l => have t := ok.tab P q l; have n := t.ne_frame upd_same; t.step (fun _ _ z => z) t.h0 ((upd_ne n).symm.trans t.hF) rfl⟩, ok.fr p o upd_same⟩
  have ha : a ≠ p := ne_of_none e hF
  exact ok.fr a u (by rw [upd_ne ha]; exact e)
theorem Ok.freeF {K : KW} {F : Hp} {H0 H : Hp} {m : Mu} {a : Addr} (ok : Ok K F H0 m H) (h : H a = none) : F a = none := by
  cases e : F a with
  | none => rfl
  | some o => rw [(ok.fr a o e).1] at h; cases h
abbrev DSt := List (Option D)
abbrev DK := D → Mu → Prop
abbrev DX := Str → List (Str × D) → Mu → Prop
abbrev DE := DSt → Mu → DK → DX → Prop
abbrev DT := DSt → Mu → (Bool → Mu → Prop) → DX → Prop
abbrev DA := DSt → Mu → (List D → Mu → Prop) → DX → Prop
structure DEnds where
  nx : DSt → Mu → Prop
  rt : DK
  bk : DSt → Mu → Prop
  ct : DSt → Mu → Prop
  xx : Str → List (Str × D) → DSt → Mu → Prop
abbrev DS := DEnds → DSt → Mu → Prop
structure RpS (K : PySem.W.Frag) (H0 : Hp) (σ : St) (δ : DSt) : Prop where
  len : σ.length = δ.length
  at_ : ∀ (i : Nat) (d : D), δ[i]? = some (some d) → ∃ v, σ[i]? = some (some v) ∧ Rp K H0 v d
theorem RpS.mono {K : PySem.W.Frag} {H0 H0' : Hp} {σ : St} {δ : DSt} (r : RpS K H0 σ δ) (s : Same H0 H0') : RpS K H0' σ δ := ⟨r.len, fun i d e => let ⟨v, h, q⟩ := r.at_ i d e; ⟨v, h, q.mono s⟩⟩
theorem RpS.set {K : PySem.W.Frag} {H0 : Hp} {σ : St} {δ : DSt} {v : V} {d : D} (r : RpS K H0 σ δ) (h : Rp K H0 v d) (i : Nat) : RpS K H0 (σ.set i (some v)) (δ.set i (some d)) := by
  refine ⟨by simp [r.len], fun j e he => ?_⟩
  by_cases hj : i = j
  · subst hj
    by_cases hl : i < δ.length
    · rw [List.getElem?_set_self hl] at he
      cases he
      exact ⟨v, List.getElem?_set_self (by rw [r.len]; exact hl), h⟩
    · rw [List.getElem?_eq_none (by simpa using hl)] at he; cases he
  · rw [List.getElem?_set_ne hj] at he ⊢
    exact r.at_ j e he
theorem RpS.clear {K : PySem.W.Frag} {H0 : Hp} {σ : St} {δ : DSt} {o : Option V} (r : RpS K H0 σ δ) (i : Nat) : RpS K H0 (σ.set i o) (δ.set i none) := by
  refine ⟨by simp [r.len], fun j e he => ?_⟩
  by_cases hj : i = j
  · subst hj
    by_cases hl : i < δ.length
    · rw [List.getElem?_set_self hl] at he; cases he
    · rw [List.getElem?_eq_none (by simpa using hl)] at he; cases he
  · rw [List.getElem?_set_ne hj] at he ⊢
    exact r.at_ j e he
/-- what an exception bears -/
def XRp (K : PySem.W.Frag) (H0 : Hp) (c : Value) (xd : Option Addr) (nf : Str × List (Str × D)) : Prop :=
  ∃ C, c = .ref C ∧ ClsAt K nf.1 C ∧ ∃ dd fv, xd = some dd ∧ H0 dd = some (.xd fv) ∧ fv.map (·.1) = nf.2.map (·.1) ∧ RpL K H0 (fv.map (·.2)) (nf.2.map (·.2))
theorem XRp.mono {K : PySem.W.Frag} {H0 H0' : Hp} {c : Value} {xd : Option Addr} {nf : Str × List (Str × D)} (x : XRp K H0 c xd nf) (s : Same H0 H0') : XRp K H0' c xd nf := by
  obtain ⟨C, e0, hc, dd, fv, e, h, q, r⟩ := x
  exact ⟨C, e0, hc, dd, fv, e, s _ _ h, q, r.mono s⟩
def GV (K : KW) (F : Hp) (H0 : Hp) (P : DK) (Q : VK) : Prop := ∀ v H' H0' m' d, Same H0 H0' → Ok K F H0' m' H' → Rp K H0' v d → P d m' → Q v H'
def GB (K : KW) (F : Hp) (H0 : Hp) (P : Bool → Mu → Prop) (Q : Bool → Hp → Prop) : Prop := ∀ b H' H0' m', Same H0 H0' → Ok K F H0' m' H' → P b m' → Q b H'
def GA (K : KW) (F : Hp) (H0 : Hp) (P : List D → Mu → Prop) (Q : List V → Hp → Prop) : Prop := ∀ vs H' H0' m' ds, Same H0 H0' → Ok K F H0' m' H' → RpL K H0' vs ds → P ds m' → Q vs H'
def GX (K : KW) (F : Hp) (H0 : Hp) (PX : DX) (E : XK) : Prop := ∀ c xd H' H0' m' fs, Same H0 H0' → Ok K F H0' m' H' → XRp K H0' c xd fs → PX fs.1 fs.2 m' → E c xd H'
def GS (K : KW) (F : Hp) (H0 : Hp) (P : DSt → Mu → Prop) (Q : St → Hp → Prop) : Prop := ∀ σ' H' H0' m' δ', Same H0 H0' → Ok K F H0' m' H' → RpS K H0' σ' δ' → P δ' m' → Q σ' H'
def GW (K : KW) (F : Hp) (H0 : Hp) (PX : Str → List (Str × D) → DSt → Mu → Prop) (W : WX) : Prop := ∀ c xd σ' H' H0' m' fs δ', Same H0 H0' → Ok K F H0' m' H' → RpS K H0' σ' δ' → XRp K H0' c xd fs → PX fs.1 fs.2 δ' m' → W c xd σ' H'
theorem GV.mono {K : KW} {F : Hp} {H0 H1 : Hp} {P : DK} {Q : VK} (g : GV K F H0 P Q) (s : Same H0 H1) : GV K F H1 P Q := fun v H' H0' m' d s' => g v H' H0' m' d (s.trans s')
theorem GB.mono {K : KW} {F : Hp} {H0 H1 : Hp} {P : Bool → Mu → Prop} {Q : Bool → Hp → Prop} (g : GB K F H0 P Q) (s : Same H0 H1) : GB K F H1 P Q := fun v H' H0' m' s' => g v H' H0' m' (s.trans s')
theorem GA.mono {K : KW} {F : Hp} {H0 H1 : Hp} {P : List D → Mu → Prop} {Q : List V → Hp → Prop} (g : GA K F H0 P Q) (s : Same H0 H1) : GA K F H1 P Q := fun v H' H0' m' d s' => g v H' H0' m' d (s.trans s')
theorem GX.mono {K : KW} {F : Hp} {H0 H1 : Hp} {P : DX} {Q : XK} (g : GX K F H0 P Q) (s : Same H0 H1) : GX K F H1 P Q := fun c xd H' H0' m' fs s' => g c xd H' H0' m' fs (s.trans s')
theorem GS.mono {K : KW} {F : Hp} {H0 H1 : Hp} {P : DSt → Mu → Prop} {Q : St → Hp → Prop} (g : GS K F H0 P Q) (s : Same H0 H1) : GS K F H1 P Q := fun v H' H0' m' d s' => g v H' H0' m' d (s.trans s')
theorem GW.mono {K : KW} {F : Hp} {H0 H1 : Hp} {P : Str → List (Str × D) → DSt → Mu → Prop} {Q : WX} (g : GW K F H0 P Q) (s : Same H0 H1) : GW K F H1 P Q := fun c xd σ' H' H0' m' fs δ' s' => g c xd σ' H' H0' m' fs δ' (s.trans s')
def lE (K : KW) (W : WX) (r : DE) : TE := fun σ H Q => ∃ F H0 m δ P PX, Ok K F H0 m H ∧ RpS K H0 σ δ ∧ r δ m P PX ∧ GV K F H0 P Q ∧ GX K F H0 PX fun c xd H' => W c xd σ H'
def lT (K : KW) (W : WX) (r : DT) : TT := fun σ H Q => ∃ F H0 m δ P PX, Ok K F H0 m H ∧ RpS K H0 σ δ ∧ r δ m P PX ∧ GB K F H0 P Q ∧ GX K F H0 PX fun c xd H' => W c xd σ H'
def lA (K : KW) (W : WX) (r : DA) : TA := fun σ H Q => ∃ F H0 m δ P PX, Ok K F H0 m H ∧ RpS K H0 σ δ ∧ r δ m P PX ∧ GA K F H0 P Q ∧ GX K F H0 PX fun c xd H' => W c xd σ H'
structure GD (K : KW) (F : Hp) (H0 : Hp) (W : WX) (DD : DEnds) (Dn : Ends) : Prop where
  nx : GS K F H0 DD.nx Dn.nx
  rt : GV K F H0 DD.rt Dn.rt
  bk : GS K F H0 DD.bk Dn.bk
  ct : GS K F H0 DD.ct Dn.ct
  xx : GW K F H0 DD.xx W
theorem GD.mono {K : KW} {F : Hp} {H0 H1 : Hp} {W : WX} {DD : DEnds} {Dn : Ends} (g : GD K F H0 W DD Dn) (s : Same H0 H1) : GD K F H1 W DD Dn := ⟨g.nx.mono s, g.rt.mono s, g.bk.mono s, g.ct.mono s, g.xx.mono s⟩
def lS (K : KW) (W : WX) (r : DS) : TS := fun Dn σ H => ∃ F H0 m δ DD, Ok K F H0 m H ∧ RpS K H0 σ δ ∧ r DD δ m ∧ GD K F H0 W DD Dn
abbrev SpD := List D → Mu → DK → DX → Prop
def lP (K : KW) (sp : SpD) : Sp := fun vs H Q E => ∃ F H0 m ds P PX, Ok K F H0 m H ∧ RpL K H0 vs ds ∧ sp ds m P PX ∧ GV K F H0 P Q ∧ GX K F H0 PX E
theorem PE.imp {X : Cx} {e : Expr} {t t' : TE} (h : PE X e t) (k : ∀ σ H Q, t' σ H Q → t σ H Q) : PE X e t' := ⟨fun pins s σ H Q I w => h.run pins s σ H Q I (k σ H Q w)⟩
theorem PT.imp {X : Cx} {e : Expr} {t t' : TT} (h : PT X e t) (k : ∀ σ H Q, t' σ H Q → t σ H Q) : PT X e t' := ⟨fun pins s σ H Q I w => h.run pins s σ H Q I (k σ H Q w)⟩
theorem PW.imp {X : Cx} {e : Expr} {t t' : TT} (h : PW X e t) (k : ∀ σ H Q, t' σ H Q → t σ H Q) : PW X e t' := ⟨fun wh pins s σ H Q I w => h.run wh pins s σ H Q I (k σ H Q w)⟩
theorem PA.imp {X : Cx} {e : List Expr} {t t' : TA} (h : PA X e t) (k : ∀ σ H Q, t' σ H Q → t σ H Q) : PA X e t' := ⟨fun pos pins s σ H Q I w => h.run pos pins s σ H Q I (k σ H Q w)⟩
theorem PS.imp {X : Cx} {e : Stmt} {t t' : TS} (h : PS X e t) (k : ∀ Dn σ H, t' Dn σ H → t Dn σ H) : PS X e t' := ⟨fun pins s σ H Dn I w => h.run pins s σ H Dn I (k Dn σ H w)⟩
theorem PSs.imp {X : Cx} {e : List Stmt} {t t' : TS} (h : PSs X e t) (k : ∀ Dn σ H, t' Dn σ H → t Dn σ H) : PSs X e t' := ⟨fun pins s σ H Dn I w => h.run pins s σ H Dn I (k Dn σ H w)⟩
end DL
namespace DL
open PySem L2
section
variable {X : Cx} {W : WX} {a b c : Expr} {ra rb rc : DE} {pos : Pos}
/-! ### names, constants -/
def rV (i : Nat) : DE := fun δ m P _ => match δ[i]? with
  | some (some d) => P d m
  | _ => False
def rC (d : D) : DE := fun _ m P _ => P d m
theorem pd_v (i : Nat) {x : Str} (hN : X.N[i]? = some x := by rfl) (hv : Vis X.env.scope x := by first | exact Or.inl rfl | exact Or.inr (Or.inl rfl) | exact Or.inr (Or.inr rfl)) (hd : (x == ("__debug__" : Str)) = false := by decide)
    (hcd : (x == ("__classdict__" : Str)) = false := by decide) : PE X (.Name x pos) (lE (kw X) W (rV i)) := by
  refine PE.imp (pe_var hN hv hd hcd) fun σ H Q h => ?_
  obtain ⟨F, H0, m, δ, P, PX, ok, rs, h, g, gx⟩ := h
  unfold rV at h
  split at h
  · rename_i d e
    obtain ⟨v, hv, rv⟩ := rs.at_ i d e
    exact ⟨v, hv, g v H H0 m d (Same.refl _) ok rv h⟩
  · exact h.elim
theorem pd_tC {e : Expr} {v : V} {d : D} (h : PE X e (tC v)) (r : ∀ H, Rp X.K H v d) : PE X e (lE (kw X) W (rC d)) := by
  refine PE.imp h fun σ H Q h => ?_
  obtain ⟨F, H0, m, δ, P, PX, ok, rs, h, g, gx⟩ := h
  exact g v H H0 m d (Same.refl _) ok (r H0) h
theorem pd_int {i : Int} {k : Nat} : PE X (.Constant (.int i) k pos) (lE (kw X) W (rC (.int i))) := pd_tC pe_int fun _ => .int i
theorem pd_str {x : Str} {k : Nat} : PE X (.Constant (.str x) k pos) (lE (kw X) W (rC (.str x))) := pd_tC pe_str fun _ => .str x
theorem pd_bl {x : Bool} {k : Nat} : PE X (.Constant (.bool x) k pos) (lE (kw X) W (rC (.bl x))) := pd_tC pe_bl fun _ => .bl x
theorem pd_non {k : Nat} : PE X (.Constant .none k pos) (lE (kw X) W (rC .non)) := pd_tC pe_non fun _ => .non
theorem pd_gint {x : Str} {i : Int} {t : Tok} (hm : X.mg x = some (.int i t)) (hg : Gl X x := by rfl) (hd : (x == ("__debug__" : Str)) = false := by decide) : PE X (.Name x pos) (lE (kw X) W (rC (.int i))) := pd_tC (pe_glob hg hm (v := .int i) ⟨t, rfl⟩ hd) fun _ => .int i
theorem pd_gstr {x : Str} {i : Str} {t : Tok} (hm : X.mg x = some (.str i t)) (hg : Gl X x := by rfl) (hd : (x == ("__debug__" : Str)) = false := by decide) : PE X (.Name x pos) (lE (kw X) W (rC (.str i))) := pd_tC (pe_glob hg hm (v := .str i) ⟨t, rfl⟩ hd) fun _ => .str i
theorem pd_ty {x : Str} {n : String} (hm : X.mg x = none) (hv : bootBuiltins x = some (.type n)) (hg : Gl X x := by rfl) (hn : x ≠ "__name__" := by decide) (hd : (x == ("__debug__" : Str)) = false := by decide) : PE X (.Name x pos) (lE (kw X) W (rC (.ty n))) := pd_tC (pe_bltn hg hm hv (v := .ty n) rfl hn hd) fun _ => .ty n
/-! ### operations on two values -/
abbrev DO := D → D → Mu → DK → Prop
def OpD (K : KW) (r : R2) (ro : DO) : Prop := ∀ F H0 m H x y dx dy P Q, Ok K F H0 m H → Rp K H0 x dx → Rp K H0 y dy → ro dx dy m P → GV K F H0 P Q → r x y H Q
def rOp (ro : DO) (ra rb : DE) : DE := fun δ m P PX => ra δ m (fun x m1 => rb δ m1 (fun y m2 => ro x y m2 P) PX) PX
theorem lE_op {K : KW} {r : R2} {ro : DO} (od : OpD K r ro) {σ : St} {H : Hp} {Q : VK} (h : lE K W (rOp ro ra rb) σ H Q) : tOp r (lE K W ra) (lE K W rb) σ H Q := by
  obtain ⟨F, H0, m, δ, P, PX, ok, rs, h, g, gx⟩ := h
  exact ⟨F, H0, m, δ, _, PX, ok, rs, h, fun x H1 H01 m1 d1 s1 ok1 r1 h1 => ⟨F, H01, m1, δ, _, PX, ok1, rs.mono s1, h1, fun y H2 H02 m2 d2 s2 ok2 r2 h2 => od F H02 m2 H2 x y d1 d2 P Q ok2 (r1.mono s2) r2 h2 (g.mono (s1.trans s2)), gx.mono s1⟩, gx⟩
theorem pd_op {op : Operator} {r : R2} {ro : DO} (ho : OpR X (binaryOp op) r) (od : OpD (kw X) r ro) (ha : PE X a (lE (kw X) W ra)) (hb : PE X b (lE (kw X) W rb)) : PE X (.BinOp a op b pos) (lE (kw X) W (rOp ro ra rb)) :=
  PE.imp (pe_op ho ha hb) fun _ _ _ h => lE_op od h
theorem pd_cmp {op : CmpOp} {r : R2} {ro : DO} (ho : OpR X (compareOp op) r) (od : OpD (kw X) r ro) (ha : PE X a (lE (kw X) W ra)) (hb : PE X b (lE (kw X) W rb)) (hm : behindInMarks op b = false := by first | exact nomark _ | rfl) : PE X (.Compare a [op] [b] pos) (lE (kw X) W (rOp ro ra rb)) :=
  PE.imp (pe_cmpR ho ha hb hm) fun _ _ _ h => lE_op od h
theorem OpD.or {K : KW} {F : Hp} {r r' : R2} {ro : DO} (h : ∀ F H0 m H x y dx dy P Q, Ok K F H0 m H → Rp K H0 x dx → Rp K H0 y dy → ro dx dy m P → GV K F H0 P Q → r x y H Q ∨ r' x y H Q) : OpD K (fun x y H Q => r x y H Q ∨ r' x y H Q) ro := h
/-- new lists, new tuples -/
theorem GV.lst {K : KW} {F : Hp} {H0 H : Hp} {m : Mu} {P : DK} {Q : VK} {p : Addr} {vs : List V} {ds : List D} (g : GV K F H0 P Q) (ok : Ok K F H0 m H) (hp : H p = none) (r : RpL K H0 vs ds) (h : P (.lst ds) m) : Q (.ref p) (upd H p (.lst vs)) :=
  g _ _ (upd H0 p (.lst vs)) m _ (same_new (ok.free hp).1) (ok.new hp _) (.lst (SqL.of upd_same) (r.mono (same_new (ok.free hp).1))) h
theorem GV.tup {K : KW} {F : Hp} {H0 H : Hp} {m : Mu} {P : DK} {Q : VK} {p : Addr} {vs : List V} {ds : List D} (g : GV K F H0 P Q) (ok : Ok K F H0 m H) (hp : H p = none) (r : RpL K H0 vs ds) (h : P (.tup ds) m) : Q (.ref p) (upd H p (.tup vs)) :=
  g _ _ (upd H0 p (.tup vs)) m _ (same_new (ok.free hp).1) (ok.new hp _) (.tup (SqT.of upd_same) (r.mono (same_new (ok.free hp).1))) h
theorem GV.id {K : KW} {F : Hp} {H0 H : Hp} {m : Mu} {P : DK} {Q : VK} {v : V} {d : D} (g : GV K F H0 P Q) (ok : Ok K F H0 m H) (r : Rp K H0 v d) (h : P d m) : Q v H := g _ _ H0 m _ (Same.refl _) ok r h
theorem RpL.length {K : PySem.W.Frag} {H : Hp} : ∀ {vs : List V} {ds : List D}, RpL K H vs ds → vs.length = ds.length
  | _, _, .nil => rfl
  | _, _, .cons _ r => by simp [RpL.length r]
theorem RpL.append {K : PySem.W.Frag} {H : Hp} : ∀ {vs ws : List V} {ds es : List D}, RpL K H vs ds → RpL K H ws es → RpL K H (vs ++ ws) (ds ++ es)
  | _, _, _, _, .nil, s => s
  | _, _, _, _, .cons h r, s => .cons h (RpL.append r s)
theorem RpL.get {K : PySem.W.Frag} {H : Hp} : ∀ {vs : List V} {ds : List D} {i : Nat} {d : D}, RpL K H vs ds → ds[i]? = some d → ∃ v, vs[i]? = some v ∧ Rp K H v d
  | _, _, _, _, .nil, e => by simp at e
  | _, _, 0, _, .cons h _, e => by simp at e; subst e; exact ⟨_, rfl, h⟩
  | _, _, i + 1, d, .cons _ t, e => by
    obtain ⟨u, h1, h2⟩ := RpL.get (i := i) (d := d) t (by simpa using e)
    exact ⟨u, by simpa using h1, h2⟩
theorem RpL.take {K : PySem.W.Frag} {H : Hp} : ∀ {vs : List V} {ds : List D} (n : Nat), RpL K H vs ds → RpL K H (vs.take n) (ds.take n)
  | _, _, 0, _ => .nil
  | _, _, _ + 1, .nil => .nil
  | _, _, n + 1, .cons h r => .cons h (RpL.take n r)
theorem RpL.drop {K : PySem.W.Frag} {H : Hp} : ∀ {vs : List V} {ds : List D} (n : Nat), RpL K H vs ds → RpL K H (vs.drop n) (ds.drop n)
  | _, _, 0, r => r
  | _, _, _ + 1, .nil => .nil
  | _, _, n + 1, .cons _ r => RpL.drop n r
theorem RpL.set {K : PySem.W.Frag} {H : Hp} {v : V} {d : D} (q : Rp K H v d) : ∀ {vs : List V} {ds : List D} (n : Nat), RpL K H vs ds → RpL K H (vs.set n v) (ds.set n d)
  | _, _, _, .nil => .nil
  | _, _, 0, .cons _ r => .cons q r
  | _, _, n + 1, .cons h r => .cons h (RpL.set q n r)
theorem RpL.snoc {K : PySem.W.Frag} {H : Hp} {vs : List V} {ds : List D} {v : V} {d : D} (r : RpL K H vs ds) (h : Rp K H v d) : RpL K H (vs ++ [v]) (ds ++ [d]) := r.append (.cons h .nil)
def cutD (xs : List D) (lo hi : Option Int) : List D := (xs.drop (HT.sIx xs.length 0 lo)).take (HT.sIx xs.length xs.length hi - HT.sIx xs.length 0 lo)
theorem RpL.cut {K : PySem.W.Frag} {H : Hp} {vs : List V} {ds : List D} (r : RpL K H vs ds) (lo hi : Option Int) : RpL K H (cutV vs lo hi) (cutD ds lo hi) := by
  unfold cutV cutD
  rw [r.length]
  exact (r.drop _).take _
theorem RpL.at_ {K : PySem.W.Frag} {H : Hp} {vs : List V} {ds : List D} {i : Int} {d : D} (r : RpL K H vs ds) (h : atI ds i = some d) : ∃ v, atI vs i = some v ∧ Rp K H v d := by
  unfold atI at h ⊢
  rw [r.length]
  cases e : ixN ds.length i with
  | none => rw [e] at h; cases h
  | some j =>
    rw [e] at h
    exact r.get h
/-- what is read as a list: one that never changes, or one of ours -/
def asL (m : Mu) : D → Option (List D)
  | .lst ds => some ds
  | .adr a => match m a with
    | some (.lst ds) => some ds
    | _ => none
  | _ => none
theorem asL_rp {K : KW} {F : Hp} {H0 H : Hp} {m : Mu} {v : V} {d : D} {ds : List D} (ok : Ok K F H0 m H) (r : Rp K H0 v d) (h : asL m d = some ds) : ∃ a vs, v = .ref a ∧ SqL K H a vs ∧ RpL K H0 vs ds := by
  cases d with
  | lst es =>
    cases h
    cases r with
    | lst q t => exact ⟨_, _, rfl, ok.same.seq q, t⟩
  | adr a =>
    cases r
    unfold asL at h
    dsimp only at h
    split at h
    · rename_i ds' e
      cases h
      obtain ⟨_, vs, hv, rv⟩ := ok.cell a _ e
      exact ⟨a, vs, rfl, SqL.of hv, rv⟩
    · cases h
  | _ => cases h
theorem tup_rp {K : KW} {F : Hp} {H0 H : Hp} {m : Mu} {v : V} {ds : List D} (ok : Ok K F H0 m H) (r : Rp K H0 v (.tup ds)) : ∃ a vs, v = .ref a ∧ SqT K H a vs ∧ RpL K H0 vs ds := by
  cases r with
  | tup q t => exact ⟨_, _, rfl, seqT_mono ok.same q, t⟩
end
/-! ### list + list, whatever they are -/
section
variable {X : Cx}
def rCatQ (K : PySem.W.Frag) : R2 := fun x y H Q => ∃ l b xs zs, x = .ref l ∧ y = .ref b ∧ SqL K H l xs ∧ SqL K H b zs ∧ xs.length + zs.length ≤ sizeLine ∧ ∀ p, H p = none → Q (.ref p) (upd H p (.lst (xs ++ zs)))
theorem op_catQ : OpR X (binaryOp .Add) (rCatQ X.K) := by
  intro pins s σ H x y v u Q I rx ry h
  obtain ⟨l, b, xs, zs, rfl, rfl, hH, hB, hz, q⟩ := h
  cases rx
  cases ry
  obtain ⟨its, r, ⟨o, n, e, hc, hd, hs⟩, _⟩ := I.list hH
  obtain ⟨its2, r2, ⟨o2, n2, e2, hc2, hd2, hs2⟩, _⟩ := I.list hB
  have hl := r.length
  have hl2 := r2.length
  obtain ⟨oc, od, dt, sl⟩ := o
  obtain ⟨oc2, od2, dt2, sl2⟩ := o2
  simp only at hc hd hs hc2 hd2 hs2
  subst hc hd hs hc2 hd2 hs2
  have ea : its.toArray ++ its2.toArray = (its ++ its2).toArray := by simp
  refine PySem.concat_meets ⟨_, e, rfl⟩ ⟨_, e2, rfl⟩ PySem.noFill_list_add PySem.seq_list_add PySem.F.slot_list_add PySem.F.entry_list_add (PySem.F.args_list_add_2 _ _) (PyProof.Rows.list_addW l b its.toArray its2.toArray n n2 none none sl sl2 (by rw [List.size_toArray, List.size_toArray]; omega)) ⟨e, e2, ?_⟩
  rw [ea]
  exact ⟨.ref _, _, I.lnew (t' := s.toks) (r.append r2) (by rw [List.length_append]; omega), rfl, q _ I.fresh⟩
end
end DL
namespace DL
open PySem L2
section
variable {X : Cx} {W : WX} {a b c : Expr} {ra rb rc : DE} {pos : Pos}
/-! ### arithmetic -/
def oAdd : DO := fun x y m P => match x, y with
  | .int i, .int j => P (.int (i + j)) m
  | .str i, .str j => i.length + j.length ≤ sizeLine ∧ P (.str (i ++ j)) m
  | .tup i, .tup j => i.length + j.length ≤ sizeLine ∧ P (.tup (i ++ j)) m
  | x, y => match asL m x, asL m y with
    | some i, some j => i.length + j.length ≤ sizeLine ∧ P (.lst (i ++ j)) m
    | _, _ => False
theorem add_ok (X : Cx) : ∃ r, OpR X (binaryOp .Add) r ∧ OpD (kw X) r oAdd := by
  refine ⟨_, op_add.or (op_add_str.or (op_catA.or op_catQ)), ?_⟩
  intro F H0 m H x y dx dy P Q ok rx ry h g
  have fin : (match asL m dx, asL m dy with
    | some i, some j => i.length + j.length ≤ sizeLine ∧ P (.lst (i ++ j)) m
    | _, _ => False) → rCatQ X.K x y H Q := fun h => by
    split at h
    · rename_i i j e1 e2
      obtain ⟨hz, h⟩ := h
      obtain ⟨p, vs, rfl, q1, r1⟩ := asL_rp ok rx e1
      obtain ⟨p2, ws, rfl, q2, r2⟩ := asL_rp ok ry e2
      exact ⟨p, p2, vs, ws, rfl, rfl, q1, q2, by rw [r1.length, r2.length]; exact hz, fun z hz => g.lst ok hz (r1.append r2) h⟩
    · exact h.elim
  unfold oAdd at h
  split at h
  · cases rx; cases ry
    exact .inl ⟨_, _, rfl, rfl, g.id ok (.int _) h⟩
  · cases rx; cases ry
    exact .inr (.inl ⟨_, _, rfl, rfl, h.1, g.id ok (.str _) h.2⟩)
  · rename_i i j
    obtain ⟨p, vs, rfl, q1, r1⟩ := tup_rp ok rx
    obtain ⟨p2, ws, rfl, q2, r2⟩ := tup_rp ok ry
    refine .inr (.inr (.inl ⟨p, p2, vs, ws, rfl, rfl, q1, q2, by rw [r1.length, r2.length]; exact h.1, fun e => ?_, fun _ e => ?_, fun _ _ z hz => g.tup ok hz (r1.append r2) h.2⟩))
    · subst e
      cases r1
      exact g.id ok ry h.2
    · subst e
      cases r2
      have h2 := h.2
      rw [List.append_nil] at h2
      exact g.id ok rx h2
  · exact .inr (.inr (.inr (fin h)))
theorem pd_add (ha : PE X a (lE (kw X) W ra)) (hb : PE X b (lE (kw X) W rb)) : PE X (.BinOp a .Add b pos) (lE (kw X) W (rOp oAdd ra rb)) :=
  let ⟨_, h1, h2⟩ := add_ok X
  pd_op h1 h2 ha hb
def oI (C : Int → Int → Prop) (f : Int → Int → D) : DO := fun x y m P => match x, y with
  | .int i, .int j => C i j ∧ P (f i j) m
  | _, _ => False
def oI0 (f : Int → Int → D) : DO := fun x y m P => match x, y with
  | .int i, .int j => P (f i j) m
  | _, _ => False
theorem opI_ok {K : KW} {C : Int → Int → Prop} {g : Int → Int → V} {f : Int → Int → D} (r : ∀ H i j, Rp K H (g i j) (f i j)) : OpD K (rI C g) (oI C f) := by
  intro F H0 m H x y dx dy P Q ok rx ry h gv
  unfold oI at h
  split at h
  · cases rx; cases ry
    exact ⟨_, _, rfl, rfl, h.1, gv.id ok (r _ _ _) h.2⟩
  · exact h.elim
theorem opI0_ok {K : KW} {g : Int → Int → V} {f : Int → Int → D} (r : ∀ H i j, Rp K H (g i j) (f i j)) : OpD K (rI0 g) (oI0 f) := by
  intro F H0 m H x y dx dy P Q ok rx ry h gv
  unfold oI0 at h
  split at h
  · cases rx; cases ry
    exact ⟨_, _, rfl, rfl, gv.id ok (r _ _ _) h⟩
  · exact h.elim
abbrev oSub : DO := oI0 fun i j => .int (i - j)
abbrev oMul : DO := oI CMul fun i j => .int (i * j)
abbrev oDiv : DO := oI CDivW fun i j => .int (i / j)
abbrev oMod : DO := oI (fun _ j => 0 < j) fun i j => .int (i % j)
abbrev oPow : DO := oI CPow fun i j => .int (i ^ j.toNat)
theorem pd_sub (ha : PE X a (lE (kw X) W ra)) (hb : PE X b (lE (kw X) W rb)) : PE X (.BinOp a .Sub b pos) (lE (kw X) W (rOp oSub ra rb)) := pd_op op_sub (opI0_ok fun _ _ _ => .int _) ha hb
theorem pd_mul (ha : PE X a (lE (kw X) W ra)) (hb : PE X b (lE (kw X) W rb)) : PE X (.BinOp a .Mult b pos) (lE (kw X) W (rOp oMul ra rb)) := pd_op op_mul (opI_ok fun _ _ _ => .int _) ha hb
theorem pd_div (ha : PE X a (lE (kw X) W ra)) (hb : PE X b (lE (kw X) W rb)) : PE X (.BinOp a .FloorDiv b pos) (lE (kw X) W (rOp oDiv ra rb)) := pd_op op_fdivW (opI_ok fun _ _ _ => .int _) ha hb
theorem pd_mod (ha : PE X a (lE (kw X) W ra)) (hb : PE X b (lE (kw X) W rb)) : PE X (.BinOp a .Mod b pos) (lE (kw X) W (rOp oMod ra rb)) := pd_op op_mod (opI_ok fun _ _ _ => .int _) ha hb
theorem pd_pow (ha : PE X a (lE (kw X) W ra)) (hb : PE X b (lE (kw X) W rb)) : PE X (.BinOp a .Pow b pos) (lE (kw X) W (rOp oPow ra rb)) := pd_op op_pow (opI_ok fun _ _ _ => .int _) ha hb
/-! ### comparisons -/
abbrev oLt : DO := oI0 fun i j => .bl (decide (i < j))
abbrev oLe : DO := oI0 fun i j => .bl (decide (i ≤ j))
abbrev oGt : DO := oI0 fun i j => .bl (decide (j < i))
abbrev oGe : DO := oI0 fun i j => .bl (decide (j ≤ i))
theorem lt_ok : OpD (kw X) (rI0 fun i j => .bl (decide (i < j))) oLt := opI0_ok fun _ _ _ => .bl _
theorem le_ok : OpD (kw X) (rI0 fun i j => .bl (decide (i ≤ j))) oLe := opI0_ok fun _ _ _ => .bl _
theorem gt_ok : OpD (kw X) (rI0 fun i j => .bl (decide (j < i))) oGt := opI0_ok fun _ _ _ => .bl _
theorem ge_ok : OpD (kw X) (rI0 fun i j => .bl (decide (j ≤ i))) oGe := opI0_ok fun _ _ _ => .bl _
/-! ### data as the library's data -/
mutual
def py : D → PyData
  | .non => .none
  | .bl b => .bool b
  | .int i => .int i
  | .str x => .str x
  | .lst ds => .list (pyL ds)
  | .tup ds => .tuple (pyL ds)
  | .ty _ => .dict []
  | .adr _ => .dict []
  | .glb _ => .dict []
  | .exc _ _ _ _ _ => .dict []
  | .dct _ => .dict []
  | .ins _ _ => .dict []
def pyL : List D → List PyData
  | [] => []
  | d :: ds => py d :: pyL ds
end
mutual
theorem dp_of {K : PySem.W.Frag} {H : Hp} : ∀ {v : V} {d : D}, Rp K H v d → (py d).canLay0 = true → Dp K H v (py d)
  | _, _, .non, _ => by rw [py]; exact .non
  | _, _, .bl b, _ => by rw [py]; exact .bl b
  | _, _, .int i, _ => by rw [py]; exact .int i
  | _, _, .str x, _ => by rw [py]; exact .str x
  | _, _, .ty n, h => by rw [py, PyData.canLay0] at h; cases h
  | _, _, .adr a, h => by rw [py, PyData.canLay0] at h; cases h
  | _, _, .glb _, h => by rw [py, PyData.canLay0] at h; cases h
  | _, _, .exc _ _ _ _, h => by rw [py, PyData.canLay0] at h; cases h
  | _, _, .dct _ _ _, h => by rw [py, PyData.canLay0] at h; cases h
  | _, _, .ins _ _ _ _, h => by rw [py, PyData.canLay0] at h; cases h
  | _, _, .lst q r, h => by rw [py, PyData.canLay0] at h; rw [py]; exact .lst q (dpL_of r h)
  | _, _, .tup q r, h => by rw [py, PyData.canLay0] at h; rw [py]; exact .tup q (dpL_of r h)
theorem dpL_of {K : PySem.W.Frag} {H : Hp} : ∀ {vs : List V} {ds : List D}, RpL K H vs ds → PyData.canLayAll0 (pyL ds) = true → DpAll K H vs (pyL ds)
  | _, _, .nil, _ => by rw [pyL]; exact .nil
  | _, _, .cons q r, h => by
    rw [pyL, PyData.canLayAll0, Bool.and_eq_true] at h
    rw [pyL]
    exact .cons (dp_of q h.1) (dpL_of r h.2)
end
/-- a list of ours, read as data -/
def dat (m : Mu) (d : D) : D := match asL m d with
  | some ds => .lst ds
  | none => d
theorem dat_rp {K : KW} {F : Hp} {H0 H : Hp} {m : Mu} {v : V} {d : D} (ok : Ok K F H0 m H) (r : Rp K H0 v d) : Rp K H v (dat m d) := by
  unfold dat
  split
  · rename_i ds e
    obtain ⟨p, vs, rfl, q, t⟩ := asL_rp ok r e
    exact .lst q (t.mono ok.same)
  · exact r.mono ok.same
def shp (d : D) : Prop := SeqAt.shaped (py d) = true
def deq (d e : D) : Bool := PyData.eqv (py d) (py e)
/-- two flat things whose == is plain -/
def flatEq : D → D → Option Bool
  | .non, .non => some true | .non, .int _ => some false | .int _, .non => some false | .non, .bl _ => some false | .bl _, .non => some false | .non, .str _ => some false | .str _, .non => some false
  | .int i, .int j => some (decide (i = j)) | .bl i, .bl j => some (decide (i = j)) | .str i, .str j => some (decide (i = j))
  | .int _, .str _ => some false | .str _, .int _ => some false | .bl _, .str _ => some false | .str _, .bl _ => some false
  | _, _ => none
def oEqN (neg : Bool) : DO := fun x y m P => match flatEq x y with
  | some k => P (.bl (if neg then !k else k)) m
  | none => shp (dat m x) ∧ shp (dat m y) ∧ P (.bl (if neg then !deq (dat m x) (dat m y) else deq (dat m x) (dat m y))) m
abbrev oEq : DO := oEqN false
abbrev oNe : DO := oEqN true
theorem flat_scal {K : PySem.W.Frag} {H : Hp} {x y : V} {dx dy : D} {k : Bool} (rx : Rp K H x dx) (ry : Rp K H y dy) (h : flatEq dx dy = some k) : scal x y = true ∧ decide (x = y) = k := by
  unfold flatEq at h
  split at h <;> first | (cases h; cases rx; cases ry; exact ⟨rfl, by simp⟩) | cases h
theorem eq_ok (hu : X.A.units + 64 < cLine) : ∃ r, OpR X (compareOp .Eq) r ∧ OpD (kw X) r oEq := by
  refine ⟨_, op_eq.or (op_eqD hu), ?_⟩
  intro F H0 m H x y dx dy P Q ok rx ry h g
  unfold oEq oEqN at h
  split at h
  · rename_i k e
    obtain ⟨h1, h2⟩ := flat_scal rx ry e
    exact .inl ⟨h1, by rw [h2]; exact g.id ok (.bl _) h⟩
  · obtain ⟨s1, s2, h⟩ := h
    exact .inr ⟨_, _, dp_of (dat_rp ok rx) (SeqAt.canLay_of_shaped s1), dp_of (dat_rp ok ry) (SeqAt.canLay_of_shaped s2), s1, s2, g.id ok (.bl _) h⟩
theorem ne_ok (hu : X.A.units + 64 < cLine) : ∃ r, OpR X (compareOp .NotEq) r ∧ OpD (kw X) r oNe := by
  refine ⟨_, op_ne.or (op_neD hu), ?_⟩
  intro F H0 m H x y dx dy P Q ok rx ry h g
  unfold oNe oEqN at h
  split at h
  · rename_i k e
    obtain ⟨h1, h2⟩ := flat_scal rx ry e
    exact .inl ⟨h1, by rw [h2]; exact g.id ok (.bl _) h⟩
  · obtain ⟨s1, s2, h⟩ := h
    exact .inr ⟨_, _, dp_of (dat_rp ok rx) (SeqAt.canLay_of_shaped s1), dp_of (dat_rp ok ry) (SeqAt.canLay_of_shaped s2), s1, s2, g.id ok (.bl _) h⟩
/-- is None -/
def isNone : D → Bool
  | .non => true
  | _ => false
def oIsN (neg : Bool) : DO := fun x y m P => match y with
  | .non => P (.bl (if neg then !isNone x else isNone x)) m
  | _ => False
theorem non_of {K : PySem.W.Frag} {H : Hp} {x : V} {dx : D} (rx : Rp K H x dx) : decide (x = .non) = isNone dx := by
  cases rx <;> simp [isNone]
theorem isN_ok : OpD (kw X) (fun x y H Q => y = .non ∧ Q (.bl (decide (x = .non))) H) (oIsN false) := by
  intro F H0 m H x y dx dy P Q ok rx ry h g
  unfold oIsN at h
  split at h
  · cases ry
    exact ⟨rfl, by rw [non_of rx]; exact g.id ok (.bl _) h⟩
  · exact h.elim
theorem pd_le (ha : PE X a (lE (kw X) W ra)) (hb : PE X b (lE (kw X) W rb)) : PE X (.Compare a [.LtE] [b] pos) (lE (kw X) W (rOp oLe ra rb)) := pd_cmp op_le le_ok ha hb
theorem pd_ge (ha : PE X a (lE (kw X) W ra)) (hb : PE X b (lE (kw X) W rb)) : PE X (.Compare a [.GtE] [b] pos) (lE (kw X) W (rOp oGe ra rb)) := pd_cmp op_ge ge_ok ha hb
theorem pd_eq (hu : X.A.units + 64 < cLine) (ha : PE X a (lE (kw X) W ra)) (hb : PE X b (lE (kw X) W rb)) : PE X (.Compare a [.Eq] [b] pos) (lE (kw X) W (rOp oEq ra rb)) := let ⟨_, h1, h2⟩ := eq_ok hu; pd_cmp h1 h2 ha hb
theorem pd_isN (ha : PE X a (lE (kw X) W ra)) (hb : PE X b (lE (kw X) W rb)) : PE X (.Compare a [.Is] [b] pos) (lE (kw X) W (rOp (oIsN false) ra rb)) := pd_cmp op_isN isN_ok ha hb
/-! ### in -/
def flatD : D → Bool
  | .non => true | .bl _ => true | .int _ => true | .str _ => true | _ => false
def inStr (w z : Str) : Bool := match w.cps.toList with
  | [c] => decide (c ∈ z.cps.toList)
  | _ => !(Builtin.Str.occurrences z w 0 z.length 1).isEmpty
def oInN (neg : Bool) : DO := fun x y m P => match y with
  | .str z => match x with
    | .str w => P (.bl (if neg then !inStr w z else inStr w z)) m
    | _ => False
  | .tup ds => (flatD x = true ∧ ds.all flatD = true) ∧ P (.bl (if neg then !ds.any (fun z => deq z x) else ds.any fun z => deq z x)) m
  | y => match asL m y with
    | some ds => ((flatD x = true ∧ ds.all flatD = true) ∨ (shp (dat m x) ∧ shp (.lst ds))) ∧ P (.bl (if neg then !ds.any (fun z => deq z (dat m x)) else ds.any fun z => deq z (dat m x))) m
    | none => False
theorem flat_rp {K : PySem.W.Frag} {H : Hp} {x : V} {dx : D} (rx : Rp K H x dx) (h : flatD dx = true) : flatV x = true := by
  cases rx <;> first | rfl | cases h
theorem flatL_rp {K : PySem.W.Frag} {H : Hp} : ∀ {vs : List V} {ds : List D}, RpL K H vs ds → ds.all flatD = true → vs.all flatV = true
  | _, _, .nil, _ => rfl
  | _, _, .cons q r, h => by
    simp only [List.all_cons, Bool.and_eq_true] at h ⊢
    exact ⟨flat_rp q h.1, flatL_rp r h.2⟩
theorem flat_eq {K : PySem.W.Frag} {H H' : Hp} {x y : V} {dx dy : D} (rx : Rp K H x dx) (ry : Rp K H' y dy) (h : flatD dx = true) (h' : flatD dy = true) : eqV x y = deq dx dy := by
  unfold deq
  cases rx <;> first | cases h | skip
  all_goals (cases ry <;> first | cases h' | skip)
  all_goals (simp only [py, PyData.eqv, eqV])
theorem flat_any {K : PySem.W.Frag} {H H' : Hp} {x : V} {dx : D} (rx : Rp K H' x dx) (hx : flatD dx = true) : ∀ {vs : List V} {ds : List D}, RpL K H vs ds → ds.all flatD = true → inV x vs = ds.any fun z => deq z dx
  | _, _, .nil, _ => rfl
  | _, _, .cons q r, h => by
    simp only [List.all_cons, Bool.and_eq_true] at h
    have ih := flat_any rx hx r h.2
    unfold inV at ih ⊢
    simp only [List.any_cons]
    rw [ih, flat_eq q rx h.1 hx]
theorem dat_flat {m : Mu} {d : D} (h : flatD d = true) : dat m d = d := by
  cases d <;> first | rfl | cases h
theorem pyL_any (d : PyData) : ∀ ds : List D, (pyL ds).any (fun z => PyData.eqv z d) = ds.any fun z => PyData.eqv (py z) d
  | [] => by rw [pyL]; rfl
  | e :: ds => by rw [pyL, List.any_cons, List.any_cons, pyL_any d ds]
theorem in_core (neg : Bool) (hu : X.A.units + 65 < cLine) {op : CmpOp} (h1 : OpR X (compareOp op) (fun x y H Q => ∃ i j, x = .str i ∧ y = .str j ∧ Q (.bl (if neg then !(!(Builtin.Str.occurrences j i 0 j.length 1).isEmpty) else !(Builtin.Str.occurrences j i 0 j.length 1).isEmpty)) H))
    (h2 : OpR X (compareOp op) (fun x y H Q => ∃ (c : Nat) (z : Str), x = .str ⟨#[c]⟩ ∧ y = .str z ∧ Q (.bl (if neg then !decide (c ∈ z.cps.toList) else decide (c ∈ z.cps.toList))) H)) (h3 : OpR X (compareOp op) (rIn X.K neg))
    (h4 : OpR X (compareOp op) (fun x y H Q => ∃ d ds, Dp X.K H x d ∧ Dp X.K H y (.list ds) ∧ SeqAt.shaped d = true ∧ SeqAt.shaped (.list ds) = true ∧ Q (.bl (if neg then !ds.any fun z => PyData.eqv z d else ds.any fun z => PyData.eqv z d)) H)) :
    ∃ r, OpR X (compareOp op) r ∧ OpD (kw X) r (oInN neg) := by
  refine ⟨_, h1.or (h2.or (h3.or h4)), ?_⟩
  intro F H0 m H x y dx dy P Q ok rx ry h g
  unfold oInN at h
  split at h
  · rename_i z
    split at h
    · rename_i w
      cases rx; cases ry
      by_cases hc : ∃ c, w.cps.toList = [c]
      · obtain ⟨c, hc⟩ := hc
        have e : inStr w z = decide (c ∈ z.cps.toList) := by unfold inStr; rw [hc]
        rw [e] at h
        refine .inr (.inl ⟨c, z, ?_, rfl, g.id ok (.bl _) h⟩)
        obtain ⟨cp⟩ := w
        have : cp = #[c] := by
          have h2 : cp.toList = [c] := hc
          have := congrArg List.toArray h2
          simpa using this
        rw [this]
      · have e : inStr w z = !(Builtin.Str.occurrences z w 0 z.length 1).isEmpty := by
          unfold inStr
          split
          · rename_i c hw
            exact absurd ⟨c, hw⟩ hc
          · rfl
        rw [e] at h
        exact .inl ⟨w, z, rfl, rfl, g.id ok (.bl _) h⟩
    · exact h.elim
  · rename_i ds
    obtain ⟨⟨f1, f2⟩, h⟩ := h
    obtain ⟨p, vs, rfl, q, r⟩ := tup_rp ok ry
    refine .inr (.inr (.inl ⟨p, vs, rfl, .inr q, flat_rp rx f1, flatL_rp r f2, ?_⟩))
    rw [flat_any rx f1 r f2]
    exact g.id ok (.bl _) h
  · split at h
    · rename_i ds e
      obtain ⟨f, h⟩ := h
      obtain ⟨p, vs, rfl, q, r⟩ := asL_rp ok ry e
      rcases f with ⟨f1, f2⟩ | ⟨s1, s2⟩
      · refine .inr (.inr (.inl ⟨p, vs, rfl, .inl q, flat_rp rx f1, flatL_rp r f2, ?_⟩))
        rw [dat_flat f1] at h
        rw [flat_any rx f1 r f2]
        exact g.id ok (.bl _) h
      · have e2 : py (.lst ds) = .list (pyL ds) := by rw [py]
        have s2' := s2
        unfold shp at s2'
        rw [e2] at s2'
        have hd := dp_of (Rp.lst q (r.mono ok.same)) (SeqAt.canLay_of_shaped s2)
        rw [e2] at hd
        refine .inr (.inr (.inr ⟨_, _, dp_of (dat_rp ok rx) (SeqAt.canLay_of_shaped s1), hd, s1, s2', ?_⟩))
        rw [pyL_any]
        exact g.id ok (.bl _) h
    · exact h.elim
theorem in_ok (hu : X.A.units + 65 < cLine) : ∃ r, OpR X (compareOp .In) r ∧ OpD (kw X) r (oInN false) := in_core false hu op_in_str (by
  intro pins s σ H x y v u Q I rx ry h
  exact op_in_sign pins s σ H x y v u Q I rx ry h) op_in_seq (op_inD hu)
theorem notIn_ok (hu : X.A.units + 65 < cLine) : ∃ r, OpR X (compareOp .NotIn) r ∧ OpD (kw X) r (oInN true) := in_core true hu op_notin_str (by
  intro pins s σ H x y v u Q I rx ry h
  exact op_notIn_sign pins s σ H x y v u Q I rx ry h) op_notIn_seq (op_notInD hu)
theorem pd_in (hu : X.A.units + 65 < cLine) (ha : PE X a (lE (kw X) W ra)) (hb : PE X b (lE (kw X) W rb)) (hm : behindInMarks .In b = false := by rfl) : PE X (.Compare a [.In] [b] pos) (lE (kw X) W (rOp (oInN false) ra rb)) := let ⟨_, h1, h2⟩ := in_ok hu; pd_cmp h1 h2 ha hb hm
theorem pd_notIn (hu : X.A.units + 65 < cLine) (ha : PE X a (lE (kw X) W ra)) (hb : PE X b (lE (kw X) W rb)) (hm : behindInMarks .NotIn b = false := by rfl) : PE X (.Compare a [.NotIn] [b] pos) (lE (kw X) W (rOp (oInN true) ra rb)) := let ⟨_, h1, h2⟩ := notIn_ok hu; pd_cmp h1 h2 ha hb hm
end
end DL
namespace DL
open PySem L2
section
variable {X : Cx} {W : WX} {a b c : Expr} {ra rb rc : DE} {pos : Pos}
/-! ### tests -/
def truD (m : Mu) : D → Option Bool
  | .non => some false
  | .bl b => some b
  | .int i => some (i != 0)
  | .tup ds => some (!ds.isEmpty)
  | d => match asL m d with
    | some ds => some (!ds.isEmpty)
    | none => none
def rTru (ra : DE) : DT := fun δ m P PX => ra δ m (fun x m1 => match x with
  | .bl b => P b m1
  | .str y => y.length ≤ sizeLine ∧ P ((y.length : Int) != 0) m1
  | x => match truD m1 x with
    | some k => P k m1
    | none => False) PX
theorem isEmpty_rp {K : PySem.W.Frag} {H : Hp} {vs : List V} {ds : List D} (r : RpL K H vs ds) : vs.isEmpty = ds.isEmpty := by cases r <;> rfl
theorem tru_rp {K : KW} {F : Hp} {H0 H : Hp} {m : Mu} {v : V} {d : D} {k : Bool} (ok : Ok K F H0 m H) (r : Rp K H0 v d) (h : truD m d = some k) : TruV K v H k := by
  have fin : (match asL m d with | some ds => some (!ds.isEmpty) | none => none) = some k → TruV K v H k := fun h => by
    split at h
    · rename_i ds e
      cases h
      obtain ⟨p, vs, rfl, q, t⟩ := asL_rp ok r e
      exact .inl ⟨vs, q, by rw [isEmpty_rp t]⟩
    · cases h
  cases r with
  | non => cases h; rfl
  | bl b => cases h; rfl
  | int i => cases h; rfl
  | str x => exact fin h
  | ty n => exact fin h
  | adr p => exact fin h
  | lst q t => exact fin h
  | tup q t => cases h; exact .inr (.inl ⟨_, seqT_mono ok.same q, by rw [isEmpty_rp t]⟩)
  | dct _ _ _ => exact fin h
  | ins _ _ _ _ => exact fin h
  | glb _ => exact fin h
  | exc _ _ _ _ => exact fin h
theorem dt_tru (ha : PE X a (lE (kw X) W ra)) (he : ∀ whole, isTrue a X.env whole = (do let v ← whole; standAt a.pos; holding [v] (truthy v)) := by intro _; rfl) : PT X a (lT (kw X) W (rTru ra)) := by
  refine PT.imp (pt_truth ha he) fun σ H Q h => ?_
  obtain ⟨F, H0, m, δ, P, PX, ok, rs, h, g, gx⟩ := h
  refine ⟨F, H0, m, δ, _, PX, ok, rs, h, fun x H1 H01 m1 d s1 ok1 r1 h1 => ?_, gx⟩
  dsimp only at h1
  split at h1
  · cases r1
    exact ⟨_, rfl, g _ _ _ _ s1 ok1 h1⟩
  · cases r1
    exact ⟨_, ⟨h1.1, rfl⟩, g _ _ _ _ s1 ok1 h1.2⟩
  · split at h1
    · rename_i k e
      exact ⟨_, tru_rp ok1 r1 e, g _ _ _ _ s1 ok1 h1⟩
    · exact h1.elim
/-- a comparison as a test -/
def rTst (ra : DE) : DT := fun δ m P PX => ra δ m (fun x m1 => match x with | .bl b => P b m1 | _ => False) PX
theorem lT_test {K : KW} {σ : St} {H : Hp} {Q : Bool → Hp → Prop} (h : lT K W (rTst ra) σ H Q) : tTest (lE K W ra) σ H Q := by
  obtain ⟨F, H0, m, δ, P, PX, ok, rs, h, g, gx⟩ := h
  refine ⟨F, H0, m, δ, _, PX, ok, rs, h, fun x H1 H01 m1 d s1 ok1 r1 h1 => ?_, gx⟩
  dsimp only at h1
  split at h1
  · cases r1
    exact ⟨_, rfl, g _ _ _ _ s1 ok1 h1⟩
  · exact h1.elim
theorem tOp_mono {K : KW} {r : R2} {ro : DO} (od : OpD K r ro) {σ : St} {H : Hp} {Q : Bool → Hp → Prop} (h : lT K W (rTst (rOp ro ra rb)) σ H Q) : tTest (tOp r (lE K W ra) (lE K W rb)) σ H Q := lE_op od (lT_test h)
theorem dt_cmp {op : CmpOp} {r : R2} {ro : DO} (ho : OpR X (compareOp op) r) (od : OpD (kw X) r ro) (ha : PE X a (lE (kw X) W ra)) (hb : PE X b (lE (kw X) W rb)) (hm : behindInMarks op b = false := by first | exact nomark _ | rfl) : PT X (.Compare a [op] [b] pos) (lT (kw X) W (rTst (rOp ro ra rb))) :=
  PT.imp (pt_cmpR ho ha hb hm) fun _ _ _ h => tOp_mono od h
theorem dt_lt (ha : PE X a (lE (kw X) W ra)) (hb : PE X b (lE (kw X) W rb)) : PT X (.Compare a [.Lt] [b] pos) (lT (kw X) W (rTst (rOp oLt ra rb))) := dt_cmp op_lt lt_ok ha hb
theorem dt_le (ha : PE X a (lE (kw X) W ra)) (hb : PE X b (lE (kw X) W rb)) : PT X (.Compare a [.LtE] [b] pos) (lT (kw X) W (rTst (rOp oLe ra rb))) := dt_cmp op_le le_ok ha hb
theorem dt_gt (ha : PE X a (lE (kw X) W ra)) (hb : PE X b (lE (kw X) W rb)) : PT X (.Compare a [.Gt] [b] pos) (lT (kw X) W (rTst (rOp oGt ra rb))) := dt_cmp op_gt gt_ok ha hb
theorem dt_eq (hu : X.A.units + 64 < cLine) (ha : PE X a (lE (kw X) W ra)) (hb : PE X b (lE (kw X) W rb)) : PT X (.Compare a [.Eq] [b] pos) (lT (kw X) W (rTst (rOp oEq ra rb))) := let ⟨_, h1, h2⟩ := eq_ok hu; dt_cmp h1 h2 ha hb
theorem dt_ne (hu : X.A.units + 64 < cLine) (ha : PE X a (lE (kw X) W ra)) (hb : PE X b (lE (kw X) W rb)) : PT X (.Compare a [.NotEq] [b] pos) (lT (kw X) W (rTst (rOp oNe ra rb))) := let ⟨_, h1, h2⟩ := ne_ok hu; dt_cmp h1 h2 ha hb
theorem dt_isN (ha : PE X a (lE (kw X) W ra)) (hb : PE X b (lE (kw X) W rb)) : PT X (.Compare a [.Is] [b] pos) (lT (kw X) W (rTst (rOp (oIsN false) ra rb))) := dt_cmp op_isN isN_ok ha hb
theorem dt_in (hu : X.A.units + 65 < cLine) (ha : PE X a (lE (kw X) W ra)) (hb : PE X b (lE (kw X) W rb)) (hm : behindInMarks .In b = false := by rfl) : PT X (.Compare a [.In] [b] pos) (lT (kw X) W (rTst (rOp (oInN false) ra rb))) := let ⟨_, h1, h2⟩ := in_ok hu; dt_cmp h1 h2 ha hb hm
theorem dt_notIn (hu : X.A.units + 65 < cLine) (ha : PE X a (lE (kw X) W ra)) (hb : PE X b (lE (kw X) W rb)) (hm : behindInMarks .NotIn b = false := by rfl) : PT X (.Compare a [.NotIn] [b] pos) (lT (kw X) W (rTst (rOp (oInN true) ra rb))) := let ⟨_, h1, h2⟩ := notIn_ok hu; dt_cmp h1 h2 ha hb hm
/-! ### chains of whole numbers -/
def rChain (ro ro' : DO) (ra rb rc : DE) : DE := fun δ m P PX => ra δ m (fun x m1 => rb δ m1 (fun y m2 => ro x y m2 fun z m3 => match z with
  | .bl true => rc δ m3 (fun w m4 => ro' y w m4 P) PX
  | .bl false => P (.bl false) m3
  | _ => False) PX) PX
theorem lE_chain {K : KW} {r r' : R2} {ro ro' : DO} (od : OpD K r ro) (od' : OpD K r' ro') {σ : St} {H : Hp} {Q : VK} (h : lE K W (rChain ro ro' ra rb rc) σ H Q) : tChain r r' (lE K W ra) (lE K W rb) (lE K W rc) σ H Q := by
  obtain ⟨F, H0, m, δ, P, PX, ok, rs, h, g, gx⟩ := h
  refine ⟨F, H0, m, δ, _, PX, ok, rs, h, fun x H1 H01 m1 d1 s1 ok1 r1 h1 => ⟨F, H01, m1, δ, _, PX, ok1, rs.mono s1, h1, fun y H2 H02 m2 d2 s2 ok2 r2 h2 => ?_, gx.mono s1⟩, gx⟩
  refine od F H02 m2 H2 x y d1 d2 _ _ ok2 (r1.mono s2) r2 h2 fun z H3 H03 m3 d3 s3 ok3 r3 h3 => ?_
  split at h3
  · cases r3
    refine ⟨true, rfl, ?_⟩
    rw [if_pos rfl]
    have s13 := (s1.trans s2).trans s3
    exact ⟨F, H03, m3, δ, _, PX, ok3, rs.mono s13, h3, fun w H4 H04 m4 d4 s4 ok4 r4 h4 => od' F H04 m4 H4 y w d2 d4 P Q ok4 (r2.mono (s3.trans s4)) r4 h4 (g.mono (s13.trans s4)), gx.mono s13⟩
  · cases r3
    refine ⟨false, rfl, ?_⟩
    rw [if_neg Bool.false_ne_true]
    exact g _ _ _ _ _ ((s1.trans s2).trans s3) ok3 (.bl _) h3
  · exact h3.elim
theorem pd_chain {op op' : CmpOp} {r r' : R2} {ro ro' : DO} (ho : OpR X (compareOp op) r) (ho' : OpR X (compareOp op') r') (od : OpD (kw X) r ro) (od' : OpD (kw X) r' ro') (ha : PE X a (lE (kw X) W ra)) (hb : PE X b (lE (kw X) W rb)) (hc : PE X c (lE (kw X) W rc))
    (hm : lastMarks [op, op'] [b, c] = false := by with_unfolding_all rfl) : PE X (.Compare a [op, op'] [b, c] pos) (lE (kw X) W (rChain ro ro' ra rb rc)) := PE.imp (pe_chain ho ho' ha hb hc hm) fun _ _ _ h => lE_chain od od' h
theorem dt_chain {op op' : CmpOp} {r r' : R2} {ro ro' : DO} (ho : OpR X (compareOp op) r) (ho' : OpR X (compareOp op') r') (od : OpD (kw X) r ro) (od' : OpD (kw X) r' ro') (ha : PE X a (lE (kw X) W ra)) (hb : PE X b (lE (kw X) W rb)) (hc : PE X c (lE (kw X) W rc))
    (hm : lastMarks [op, op'] [b, c] = false := by with_unfolding_all rfl) : PT X (.Compare a [op, op'] [b, c] pos) (lT (kw X) W (rTst (rChain ro ro' ra rb rc))) := PT.imp (pt_chain ho ho' ha hb hc hm) fun _ _ _ h => lE_chain od od' (lT_test h)
/-! ### and, or, not, if -/
variable {qa qb : DT} {rest : List Expr}
def rAnd (qa qb : DT) : DT := fun δ m P PX => qa δ m (fun k m1 => match k with | true => qb δ m1 P PX | false => P false m1) PX
def rOr (qa qb : DT) : DT := fun δ m P PX => qa δ m (fun k m1 => match k with | true => P true m1 | false => qb δ m1 P PX) PX
def rNot (qa : DT) : DT := fun δ m P PX => qa δ m (fun k m1 => P (!k) m1) PX
theorem dw_and1 (ha : PT X a (lT (kw X) W qa)) : PW X (.BoolOp .And [a] pos) (lT (kw X) W qa) := pw_and1 ha
theorem dw_or1 (ha : PT X a (lT (kw X) W qa)) : PW X (.BoolOp .Or [a] pos) (lT (kw X) W qa) := pw_or1 ha
theorem dw_and (ha : PT X a (lT (kw X) W qa)) (hb : PW X (.BoolOp .And (b :: rest) pos) (lT (kw X) W qb)) : PW X (.BoolOp .And (a :: b :: rest) pos) (lT (kw X) W (rAnd qa qb)) := by
  refine PW.imp (pw_and ha hb) fun σ H Q h => ?_
  obtain ⟨F, H0, m, δ, P, PX, ok, rs, h, g, gx⟩ := h
  refine ⟨F, H0, m, δ, _, PX, ok, rs, h, fun k H1 H01 m1 s1 ok1 h1 => ?_, gx⟩
  cases k with
  | true => rw [if_pos rfl]; exact ⟨F, H01, m1, δ, P, PX, ok1, rs.mono s1, h1, g.mono s1, gx.mono s1⟩
  | false => rw [if_neg Bool.false_ne_true]; exact g _ _ _ _ s1 ok1 h1
theorem dw_or (ha : PT X a (lT (kw X) W qa)) (hb : PW X (.BoolOp .Or (b :: rest) pos) (lT (kw X) W qb)) : PW X (.BoolOp .Or (a :: b :: rest) pos) (lT (kw X) W (rOr qa qb)) := by
  refine PW.imp (pw_or ha hb) fun σ H Q h => ?_
  obtain ⟨F, H0, m, δ, P, PX, ok, rs, h, g, gx⟩ := h
  refine ⟨F, H0, m, δ, _, PX, ok, rs, h, fun k H1 H01 m1 s1 ok1 h1 => ?_, gx⟩
  cases k with
  | true => rw [if_pos rfl]; exact g _ _ _ _ s1 ok1 h1
  | false => rw [if_neg Bool.false_ne_true]; exact ⟨F, H01, m1, δ, P, PX, ok1, rs.mono s1, h1, g.mono s1, gx.mono s1⟩
theorem dt_not (ha : PT X a (lT (kw X) W qa)) : PT X (.UnaryOp .Not a pos) (lT (kw X) W (rNot qa)) := by
  refine PT.imp (pt_not ha) fun σ H Q h => ?_
  obtain ⟨F, H0, m, δ, P, PX, ok, rs, h, g, gx⟩ := h
  exact ⟨F, H0, m, δ, _, PX, ok, rs, h, fun k H1 H01 m1 s1 ok1 h1 => g _ _ _ _ s1 ok1 h1, gx⟩
/-- as values, truths -/
def rAndV (ra rb : DE) : DE := fun δ m P PX => ra δ m (fun x m1 => match x with | .bl true => rb δ m1 P PX | .bl false => P (.bl false) m1 | _ => False) PX
def rOrV (ra rb : DE) : DE := fun δ m P PX => ra δ m (fun x m1 => match x with | .bl true => P (.bl true) m1 | .bl false => rb δ m1 P PX | _ => False) PX
def rNotV (ra : DE) : DE := fun δ m P PX => ra δ m (fun x m1 => match x with | .bl k => P (.bl (!k)) m1 | _ => False) PX
theorem pd_one {op} (h : PE X a (lE (kw X) W ra)) : PE X (.BoolOp op [a] pos) (lE (kw X) W ra) := pe_one h
theorem pd_and (ha : PE X a (lE (kw X) W ra)) (hb : PE X (.BoolOp .And (b :: rest) pos) (lE (kw X) W rb)) : PE X (.BoolOp .And (a :: b :: rest) pos) (lE (kw X) W (rAndV ra rb)) := by
  refine PE.imp (pe_and ha hb) fun σ H Q h => ?_
  obtain ⟨F, H0, m, δ, P, PX, ok, rs, h, g, gx⟩ := h
  refine ⟨F, H0, m, δ, _, PX, ok, rs, h, fun x H1 H01 m1 d s1 ok1 r1 h1 => ?_, gx⟩
  dsimp only at h1
  split at h1
  · cases r1
    exact ⟨true, rfl, by rw [if_pos rfl]; exact ⟨F, H01, m1, δ, P, PX, ok1, rs.mono s1, h1, g.mono s1, gx.mono s1⟩⟩
  · cases r1
    exact ⟨false, rfl, by rw [if_neg Bool.false_ne_true]; exact g _ _ _ _ _ s1 ok1 (.bl _) h1⟩
  · exact h1.elim
theorem pd_not (ha : PE X a (lE (kw X) W ra)) : PE X (.UnaryOp .Not a pos) (lE (kw X) W (rNotV ra)) := by
  refine PE.imp (pe_not ha) fun σ H Q h => ?_
  obtain ⟨F, H0, m, δ, P, PX, ok, rs, h, g, gx⟩ := h
  refine ⟨F, H0, m, δ, _, PX, ok, rs, h, fun x H1 H01 m1 d s1 ok1 r1 h1 => ?_, gx⟩
  dsimp only at h1
  split at h1
  · cases r1
    exact ⟨_, rfl, g _ _ _ _ _ s1 ok1 (.bl _) h1⟩
  · exact h1.elim
def rIfE (qa : DT) (ra rb : DE) : DE := fun δ m P PX => qa δ m (fun k m1 => match k with | true => ra δ m1 P PX | false => rb δ m1 P PX) PX
theorem pd_if (hc : PT X c (lT (kw X) W qa)) (ha : PE X a (lE (kw X) W ra)) (hb : PE X b (lE (kw X) W rb)) : PE X (.IfExp c a b pos) (lE (kw X) W (rIfE qa ra rb)) := by
  refine PE.imp (pe_ifExp hc ha hb) fun σ H Q h => ?_
  obtain ⟨F, H0, m, δ, P, PX, ok, rs, h, g, gx⟩ := h
  refine ⟨F, H0, m, δ, _, PX, ok, rs, h, fun k H1 H01 m1 s1 ok1 h1 => ?_, gx⟩
  cases k with
  | true => rw [if_pos rfl]; exact ⟨F, H01, m1, δ, P, PX, ok1, rs.mono s1, h1, g.mono s1, gx.mono s1⟩
  | false => rw [if_neg Bool.false_ne_true]; exact ⟨F, H01, m1, δ, P, PX, ok1, rs.mono s1, h1, g.mono s1, gx.mono s1⟩
/-! ### arguments, displays -/
variable {e : Expr} {es : List Expr} {qs : DA}
def rNil : DA := fun _ m P _ => P [] m
def rCons (ra : DE) (qs : DA) : DA := fun δ m P PX => ra δ m (fun x m1 => qs δ m1 (fun xs m2 => P (x :: xs) m2) PX) PX
theorem da_nil : PA X [] (lA (kw X) W rNil) := by
  refine PA.imp pa_nil fun σ H Q h => ?_
  obtain ⟨F, H0, m, δ, P, PX, ok, rs, h, g, gx⟩ := h
  exact g _ _ _ _ _ (Same.refl _) ok .nil h
theorem da_cons (ha : PE X e (lE (kw X) W ra)) (hr : PA X es (lA (kw X) W qs)) (hs : starEach (e :: es) X.env = (false, eval e X.env) :: starEach es X.env := by rfl) : PA X (e :: es) (lA (kw X) W (rCons ra qs)) := by
  refine PA.imp (pa_cons ha hr hs) fun σ H Q h => ?_
  obtain ⟨F, H0, m, δ, P, PX, ok, rs, h, g, gx⟩ := h
  exact ⟨F, H0, m, δ, _, PX, ok, rs, h, fun x H1 H01 m1 d s1 ok1 r1 h1 => ⟨F, H01, m1, δ, _, PX, ok1, rs.mono s1, h1, fun xs H2 H02 m2 ds s2 ok2 r2 h2 => g _ _ _ _ _ (s1.trans s2) ok2 (.cons (r1.mono s2) r2) h2, gx.mono s1⟩, gx⟩
def rTup (qs : DA) : DE := fun δ m P PX => qs δ m (fun xs m1 => xs.length ≤ sizeLine ∧ P (.tup xs) m1) PX
def rLst (qs : DA) : DE := fun δ m P PX => qs δ m (fun xs m1 => xs.length ≤ sizeLine ∧ P (.lst xs) m1) PX
theorem pd_tup {x1} (h : PA X es (lA (kw X) W qs)) : PE X (.Tuple es x1 pos) (lE (kw X) W (rTup qs)) := by
  refine PE.imp (pe_tup h) fun σ H Q h => ?_
  obtain ⟨F, H0, m, δ, P, PX, ok, rs, h, g, gx⟩ := h
  exact ⟨F, H0, m, δ, _, PX, ok, rs, h, fun xs H1 H01 m1 ds s1 ok1 r1 h1 => ⟨by rw [r1.length]; exact h1.1, fun p hp => (g.mono s1).tup ok1 hp r1 h1.2⟩, gx⟩
theorem pd_lst (h : PA X es (lA (kw X) W qs)) : PE X (.List es pos) (lE (kw X) W (rLst qs)) := by
  refine PE.imp (pe_lst h) fun σ H Q h => ?_
  obtain ⟨F, H0, m, δ, P, PX, ok, rs, h, g, gx⟩ := h
  exact ⟨F, H0, m, δ, _, PX, ok, rs, h, fun xs H1 H01 m1 ds s1 ok1 r1 h1 => ⟨by rw [r1.length]; exact h1.1, fun p hp => (g.mono s1).lst ok1 hp r1 h1.2⟩, gx⟩
/-- a list of ours -/
def rLstM (qs : DA) : DE := fun δ m P PX => qs δ m (fun xs m1 => xs.length ≤ sizeLine ∧ ∀ p, m1 p = none → P (.adr p) (mset m1 p (.lst xs))) PX
theorem GV.lstM {K : KW} {F : Hp} {H0 H : Hp} {m : Mu} {P : DK} {Q : VK} {p : Addr} {vs : List V} {ds : List D} (g : GV K F H0 P Q) (ok : Ok K F H0 m H) (hp : H p = none) (r : RpL K H0 vs ds) (h : ∀ p, m p = none → P (.adr p) (mset m p (.lst ds))) : Q (.ref p) (upd H p (.lst vs)) :=
  g _ _ H0 _ _ (Same.refl _) (ok.newM (o := .lst ds) hp ⟨vs, upd_same, r⟩) (.adr p) (h p (ok.free hp).2)
theorem pd_lstM (h : PA X es (lA (kw X) W qs)) : PE X (.List es pos) (lE (kw X) W (rLstM qs)) := by
  refine PE.imp (pe_lst h) fun σ H Q h => ?_
  obtain ⟨F, H0, m, δ, P, PX, ok, rs, h, g, gx⟩ := h
  exact ⟨F, H0, m, δ, _, PX, ok, rs, h, fun xs H1 H01 m1 ds s1 ok1 r1 h1 => ⟨by rw [r1.length]; exact h1.1, fun p hp => (g.mono s1).lstM ok1 hp r1 h1.2⟩, gx⟩
/-! ### items, slices -/
def oIx : DO := fun x y m P => match y with
  | .int i => match x with
    | .tup ds => match atI ds i with
      | some d => P d m
      | none => False
    | .str z => z.length ≤ sizeLine ∧ match atI z.cps.toList i with
      | some c => P (.str ⟨#[c]⟩) m
      | none => False
    | x => match asL m x with
      | some ds => match atI ds i with
        | some d => P d m
        | none => False
      | none => False
  | _ => False
theorem ix_ok {K : KW} : OpD K (fun x y H Q => rIxL K x y H Q ∨ rIxT K x y H Q ∨ rIxS x y H Q) oIx := by
  intro F H0 m H x y dx dy P Q ok rx ry h g
  unfold oIx at h
  split at h
  · rename_i i
    cases ry
    split at h
    · rename_i ds
      obtain ⟨p, vs, rfl, q, r⟩ := tup_rp ok rx
      split at h
      · rename_i d e
        obtain ⟨v, e2, rv⟩ := r.at_ e
        exact .inr (.inl ⟨p, vs, i, v, rfl, rfl, q, e2, g.id ok rv h⟩)
      · exact h.elim
    · rename_i z
      cases rx
      obtain ⟨hz, h⟩ := h
      split at h
      · rename_i c e
        exact .inr (.inr ⟨z, i, c, rfl, rfl, hz, e, g.id ok (.str _) h⟩)
      · exact h.elim
    · split at h
      · rename_i ds e
        obtain ⟨p, vs, rfl, q, r⟩ := asL_rp ok rx e
        split at h
        · rename_i d e
          obtain ⟨v, e2, rv⟩ := r.at_ e
          exact .inl ⟨p, vs, i, v, rfl, rfl, q, e2, g.id ok rv h⟩
        · exact h.elim
      · exact h.elim
  · exact h.elim
theorem pd_ix (ha : PE X a (lE (kw X) W ra)) (hb : PE X b (lE (kw X) W rb)) (hs : PlainIx b := by intro _ _; rfl) : PE X (.Subscript a b pos) (lE (kw X) W (rOp oIx ra rb)) :=
  PE.imp (pe_ix ix_seq ha hb hs) fun _ _ _ h => lE_op ix_ok h
abbrev DP := DSt → Mu → (Option Int → Mu → Prop) → DX → Prop
def GO (K : KW) (F : Hp) (H0 : Hp) (P : Option Int → Mu → Prop) (Q : Option Int → Hp → Prop) : Prop := ∀ o H' H0' m', Same H0 H0' → Ok K F H0' m' H' → P o m' → Q o H'
def lO (K : KW) (W : WX) (r : DP) : TO := fun σ H Q => ∃ F H0 m δ P PX, Ok K F H0 m H ∧ RpS K H0 σ δ ∧ r δ m P PX ∧ GO K F H0 P Q ∧ GX K F H0 PX fun c xd H' => W c xd σ H'
def rNoP : DP := fun _ m P _ => P none m
def rPart (ra : DE) : DP := fun δ m P PX => ra δ m (fun x m1 => match x with | .int i => P (some i) m1 | _ => False) PX
theorem PO.imp {X : Cx} {e : Option Expr} {t t' : TO} (h : PO X e t) (k : ∀ σ H Q, t' σ H Q → t σ H Q) : PO X e t' := ⟨fun pins s σ H Q I w => h.run pins s σ H Q I (k σ H Q w)⟩
theorem dp_none : PO X none (lO (kw X) W rNoP) := by
  refine PO.imp po_none fun σ H Q h => ?_
  obtain ⟨F, H0, m, δ, P, PX, ok, rs, h, g, gx⟩ := h
  exact g _ _ _ _ (Same.refl _) ok h
theorem dp_some (ha : PE X a (lE (kw X) W ra)) : PO X (some a) (lO (kw X) W (rPart ra)) := by
  refine PO.imp (po_some ha) fun σ H Q h => ?_
  obtain ⟨F, H0, m, δ, P, PX, ok, rs, h, g, gx⟩ := h
  refine ⟨F, H0, m, δ, _, PX, ok, rs, h, fun x H1 H01 m1 d s1 ok1 r1 h1 => ?_, gx⟩
  dsimp only at h1
  split at h1
  · cases r1
    exact ⟨_, rfl, g _ _ _ _ s1 ok1 h1⟩
  · exact h1.elim
def oSl : D → Option Int → Option Int → Mu → DK → Prop := fun x lo hi m P => match x with
  | .tup ds => P (.tup (cutD ds lo hi)) m
  | .str z => z.length ≤ sizeLine ∧ P (.str (cutS z lo hi)) m
  | x => match asL m x with
    | some ds => P (.lst (cutD ds lo hi)) m
    | none => False
def rSl (ra : DE) (pl ph : DP) : DE := fun δ m P PX => ra δ m (fun x m1 => pl δ m1 (fun l m2 => ph δ m2 (fun u m3 => oSl x l u m3 P) PX) PX) PX
theorem pd_sl {lo hi : Option Expr} {pl ph : DP} {p2 : Pos} (ha : PE X a (lE (kw X) W ra)) (hl : PO X lo (lO (kw X) W pl)) (hh : PO X hi (lO (kw X) W ph)) : PE X (.Subscript a (.Slice lo hi none p2) pos) (lE (kw X) W (rSl ra pl ph)) := by
  refine PE.imp (pe_slice (sl_list.or (sl_tupA.or sl_str)) ha hl hh) fun σ H Q h => ?_
  obtain ⟨F, H0, m, δ, P, PX, ok, rs, h, g, gx⟩ := h
  refine ⟨F, H0, m, δ, _, PX, ok, rs, h, fun x H1 H01 m1 d1 s1 ok1 r1 h1 => ⟨F, H01, m1, δ, _, PX, ok1, rs.mono s1, h1, fun l H2 H02 m2 s2 ok2 h2 => ⟨F, H02, m2, δ, _, PX, ok2, (rs.mono s1).mono s2, h2, fun u H3 H03 m3 s3 ok3 h3 => ?_, (gx.mono s1).mono s2⟩, gx.mono s1⟩, gx⟩
  have g3 := ((g.mono s1).mono s2).mono s3
  have r3 := (r1.mono s2).mono s3
  unfold oSl at h3
  split at h3
  · rename_i ds
    obtain ⟨p, vs, rfl, q, r⟩ := tup_rp ok3 r3
    refine .inr (.inl ⟨p, vs, rfl, q, fun hw => ?_, fun _ z hz => g3.tup ok3 hz (r.cut _ _) h3⟩)
    have e : cutD ds l u = ds := by
      unfold cutD
      rw [← r.length, hw.1, hw.2, r.length]
      simp
    rw [e] at h3
    exact g3.id ok3 r3 h3
  · cases r3
    exact .inr (.inr ⟨_, rfl, h3.1, g3.id ok3 (.str _) h3.2⟩)
  · split at h3
    · rename_i ds e
      obtain ⟨p, vs, rfl, q, r⟩ := asL_rp ok3 r3 e
      exact .inl ⟨p, vs, rfl, q, fun z hz => g3.lst ok3 hz (r.cut _ _) h3⟩
    · exact h3.elim
end
end DL
namespace DL
open PySem L2
section
variable {X : Cx} {W : WX} {a b c : Expr} {ra rb rc : DE} {pos p : Pos} {e : Expr} {es : List Expr} {qs : DA}
/-! ### calls of built-ins -/
abbrev DC := List D → Mu → DK → Prop
def CalD (K : KW) (r : List V → Hp → VK → Prop) (ro : DC) : Prop := ∀ F H0 m H vs ds P Q, Ok K F H0 m H → RpL K H0 vs ds → ro ds m P → GV K F H0 P Q → r vs H Q
def rCB (ro : DC) (qs : DA) : DE := fun δ m P PX => qs δ m (fun xs m1 => ro xs m1 P) PX
theorem lE_cb {K : KW} {r : List V → Hp → VK → Prop} {ro : DC} (cd : CalD K r ro) {σ : St} {H : Hp} {Q : VK} (h : lE K W (rCB ro qs) σ H Q) : tCB r (lA K W qs) σ H Q := by
  obtain ⟨F, H0, m, δ, P, PX, ok, rs, h, g, gx⟩ := h
  exact ⟨F, H0, m, δ, _, PX, ok, rs, h, fun xs H1 H01 m1 ds s1 ok1 r1 h1 => cd _ _ _ _ _ _ _ _ ok1 r1 h1 (g.mono s1), gx⟩
theorem pd_callB {x : Str} {id : String} {r : List V → Hp → VK → Prop} {ro : DC} (hc : CallR X (.builtin id) r) (cd : CalD (kw X) r ro) (hm : X.mg x = none) (hv : bootBuiltins x = some (.builtin id)) (ha : PA X (e :: es) (lA (kw X) W qs)) (hg : Gl X x := by rfl) (hn : x ≠ "__name__" := by decide) (hdb : (x == ("__debug__" : Str)) = false := by decide)
    (he : starEach (e :: es) X.env = (false, eval e X.env) :: starEach es X.env := by rfl) (hpl : (backTo pos (starEach es X.env)).any (·.1) = false := by rfl) : PE X (.Call (.Name x p) (e :: es) [] pos) (lE (kw X) W (rCB ro qs)) :=
  PE.imp (pe_callB hc hg hm hv ha hn hdb he hpl) fun _ _ _ h => lE_cb cd h
theorem pd_callTy {x : Str} {T : String} {r : List V → Hp → VK → Prop} {ro : DC} (hc : CallR X (.type T) r) (cd : CalD (kw X) r ro) (hm : X.mg x = none) (hv : bootBuiltins x = some (.type T)) (ha : PA X (e :: es) (lA (kw X) W qs)) (hg : Gl X x := by rfl) (hn : x ≠ "__name__" := by decide) (hdb : (x == ("__debug__" : Str)) = false := by decide)
    (he : starEach (e :: es) X.env = (false, eval e X.env) :: starEach es X.env := by rfl) (hpl : (backTo pos (starEach es X.env)).any (·.1) = false := by rfl) : PE X (.Call (.Name x p) (e :: es) [] pos) (lE (kw X) W (rCB ro qs)) :=
  PE.imp (pe_callTy hc hg hm hv ha hn hdb he hpl) fun _ _ _ h => lE_cb cd h
theorem RpL.one {K : PySem.W.Frag} {H : Hp} {vs : List V} {d : D} (r : RpL K H vs [d]) : ∃ v, vs = [v] ∧ Rp K H v d := by
  cases r with
  | cons h t => cases t; exact ⟨_, rfl, h⟩
theorem RpL.two {K : PySem.W.Frag} {H : Hp} {vs : List V} {d e : D} (r : RpL K H vs [d, e]) : ∃ v w, vs = [v, w] ∧ Rp K H v d ∧ Rp K H w e := by
  cases r with
  | cons h t =>
    obtain ⟨w, rfl, q⟩ := t.one
    exact ⟨_, _, rfl, h, q⟩
def cLen : DC := fun xs m P => match xs with
  | [.str y] => y.length ≤ sizeLine ∧ P (.int y.length) m
  | [.tup ds] => P (.int ds.length) m
  | [x] => match asL m x with
    | some ds => P (.int ds.length) m
    | none => False
  | _ => False
theorem len_ok {K : KW} : CalD K (fun xs H Q => ∃ x n, xs = [x] ∧ LenV K x H n ∧ Q (.int n) H) cLen := by
  intro F H0 m H vs ds P Q ok r h g
  unfold cLen at h
  split at h
  · obtain ⟨v, rfl, q⟩ := r.one
    cases q
    exact ⟨_, _, rfl, ⟨h.1, rfl⟩, g.id ok (.int _) h.2⟩
  · obtain ⟨v, rfl, q⟩ := r.one
    obtain ⟨p, ws, rfl, q2, r2⟩ := tup_rp ok q
    exact ⟨_, _, rfl, .inr ⟨_, q2, rfl⟩, by rw [r2.length]; exact g.id ok (.int _) h⟩
  · obtain ⟨v, rfl, q⟩ := r.one
    split at h
    · rename_i es e1
      obtain ⟨p, ws, rfl, q2, r2⟩ := asL_rp ok q e1
      exact ⟨_, _, rfl, .inl ⟨_, q2, rfl⟩, by rw [r2.length]; exact g.id ok (.int _) h⟩
    · exact h.elim
  · exact h.elim
theorem pd_len {x : Str} (hm : X.mg x = none) (hv : bootBuiltins x = some (.builtin "len")) (ha : PA X (e :: es) (lA (kw X) W qs)) (hg : Gl X x := by rfl) (hn : x ≠ "__name__" := by decide) (hdb : (x == ("__debug__" : Str)) = false := by decide)
    (he : starEach (e :: es) X.env = (false, eval e X.env) :: starEach es X.env := by rfl) (hpl : (backTo pos (starEach es X.env)).any (·.1) = false := by rfl) : PE X (.Call (.Name x p) (e :: es) [] pos) (lE (kw X) W (rCB cLen qs)) := pd_callB call_len len_ok hm hv ha hg hn hdb he hpl
def cInt : DC := fun xs m P => match xs with
  | [.int i] => P (.int i) m
  | [.bl k] => P (.int (if k then 1 else 0)) m
  | _ => False
theorem int_ok {K : KW} : CalD K (fun xs H Q => (∃ i, xs = [.int i] ∧ Q (.int i) H) ∨ ∃ k, xs = [.bl k] ∧ Q (.int (if k then 1 else 0)) H) cInt := by
  intro F H0 m H vs ds P Q ok r h g
  unfold cInt at h
  split at h
  · obtain ⟨v, rfl, q⟩ := r.one
    cases q
    exact .inl ⟨_, rfl, g.id ok (.int _) h⟩
  · obtain ⟨v, rfl, q⟩ := r.one
    cases q
    exact .inr ⟨_, rfl, g.id ok (.int _) h⟩
  · exact h.elim
theorem pd_intOf {x : Str} (hm : X.mg x = none) (hv : bootBuiltins x = some (.type "int")) (ha : PA X (e :: es) (lA (kw X) W qs)) (hg : Gl X x := by rfl) (hn : x ≠ "__name__" := by decide) (hdb : (x == ("__debug__" : Str)) = false := by decide)
    (he : starEach (e :: es) X.env = (false, eval e X.env) :: starEach es X.env := by rfl) (hpl : (backTo pos (starEach es X.env)).any (·.1) = false := by rfl) : PE X (.Call (.Name x p) (e :: es) [] pos) (lE (kw X) W (rCB cInt qs)) := pd_callTy call_int1 int_ok hm hv ha hg hn hdb he hpl
def cStr : DC := fun xs m P => match xs with
  | [.int i] => i.natAbs.log2 < 1920 ∧ P (.str (toString i)) m
  | _ => False
/-! isinstance of a built-in class -/
def tyN (m : Mu) : D → Option String
  | .non => some "NoneType"
  | .bl _ => some "bool"
  | .int _ => some "int"
  | .str _ => some "str"
  | .lst _ => some "list"
  | .tup _ => some "tuple"
  | .dct _ => some "dict"
  | .adr a => match m a with
    | some (.lst _) => some "list"
    | some (.dct _) => some "dict"
    | _ => none
  | _ => none
theorem tyN_rp {K : KW} {F : Hp} {H0 H : Hp} {m : Mu} {v : V} {d : D} {t : String} (ok : Ok K F H0 m H) (r : Rp K H0 v d) (h : tyN m d = some t) : TyX K H v (.type t) := by
  cases r with
  | non => cases h; exact .base .non
  | bl b => cases h; exact .base (.bl b)
  | int i => cases h; exact .base (.int i)
  | str x => cases h; exact .base (.str x)
  | ty n => cases h
  | adr p =>
    unfold tyN at h
    dsimp only at h
    split at h
    · rename_i e1
      cases h
      obtain ⟨_, vs, hv, _⟩ := ok.cell _ _ e1
      exact .base (.lst hv)
    · rename_i e1
      cases h
      obtain ⟨_, vs, hv, _⟩ := ok.cell _ _ e1
      exact .base (.dK hv)
    · cases h
  | lst q _ =>
    cases h
    rcases ok.same.seq q with (q | ⟨o, q⟩) | ⟨o, its, n, h1, h2, _⟩
    · exact .base (.lst q)
    · exact .base (.frz q)
    · exact .kList h1 h2
  | tup q _ =>
    cases h
    rcases seqT_mono ok.same q with (q | ⟨o, q⟩) | ⟨o, its, n, h1, h2, _⟩
    · exact .base (.tup q)
    · exact .fTuple q
    · exact .kTuple h1 h2
  | dct q _ _ => cases h; exact .base (.dK (ok.same _ _ q))
  | ins _ _ _ _ => cases h
  | glb _ => cases h
  | exc _ _ _ _ => cases h
/-- is one built-in class under another one -/
def isB (t T : String) : Option Bool := kitB t T
def cIsi : DC := fun xs m P => match xs with
  | [x, .ty T] => match tyN m x with
    | some t => match isB t T with
      | some k => P (.bl k) m
      | none => False
    | none => False
  | _ => False
theorem isi_ok {K : KW} : CalD K (rIsi K) cIsi := by
  intro F H0 m H vs ds P Q ok r h g
  unfold cIsi at h
  split at h
  · obtain ⟨v, w, rfl, q1, q2⟩ := r.two
    cases q2
    split at h
    · rename_i t e1
      split at h
      · rename_i k e2
        exact ⟨_, _, _, _, k, rfl, .ty _, tyN_rp ok q1 e1, kit_ty e2, g.id ok (.bl _) h⟩
      · exact h.elim
    · exact h.elim
  · exact h.elim
theorem pd_isi {x : Str} (hm : X.mg x = none) (hv : bootBuiltins x = some (.builtin "isinstance")) (ha : PA X (e :: es) (lA (kw X) W qs)) (hg : Gl X x := by rfl) (hn : x ≠ "__name__" := by decide) (hdb : (x == ("__debug__" : Str)) = false := by decide)
    (he : starEach (e :: es) X.env = (false, eval e X.env) :: starEach es X.env := by rfl) (hpl : (backTo pos (starEach es X.env)).any (·.1) = false := by rfl) : PE X (.Call (.Name x p) (e :: es) [] pos) (lE (kw X) W (rCB cIsi qs)) := pd_callB call_isi isi_ok hm hv ha hg hn hdb he hpl
/-! list(..), tuple(..) -/
def cLst : DC := fun xs m P => match xs with
  | [.tup ds] => P (.lst ds) m
  | [x] => match asL m x with
    | some ds => P (.lst ds) m
    | none => False
  | _ => False
theorem list_ok {K : KW} : CalD K (fun xs H Q => ∃ p ys, xs = [.ref p] ∧ (SqL K H p ys ∨ SqT K H p ys) ∧ ∀ l, H l = none → Q (.ref l) (upd H l (.lst ys))) cLst := by
  intro F H0 m H vs ds P Q ok r h g
  unfold cLst at h
  split at h
  · obtain ⟨v, rfl, q⟩ := r.one
    obtain ⟨p, ws, rfl, q2, r2⟩ := tup_rp ok q
    exact ⟨p, ws, rfl, .inr q2, fun l hl => g.lst ok hl r2 h⟩
  · obtain ⟨v, rfl, q⟩ := r.one
    split at h
    · rename_i es e1
      obtain ⟨p, ws, rfl, q2, r2⟩ := asL_rp ok q e1
      exact ⟨p, ws, rfl, .inl q2, fun l hl => g.lst ok hl r2 h⟩
    · exact h.elim
  · exact h.elim
theorem pd_listOf {x : Str} (hm : X.mg x = none) (hv : bootBuiltins x = some (.type "list")) (ha : PA X (e :: es) (lA (kw X) W qs)) (hg : Gl X x := by rfl) (hn : x ≠ "__name__" := by decide) (hdb : (x == ("__debug__" : Str)) = false := by decide)
    (he : starEach (e :: es) X.env = (false, eval e X.env) :: starEach es X.env := by rfl) (hpl : (backTo pos (starEach es X.env)).any (·.1) = false := by rfl) : PE X (.Call (.Name x p) (e :: es) [] pos) (lE (kw X) W (rCB cLst qs)) := pd_callTy call_list_of list_ok hm hv ha hg hn hdb he hpl
def cTup : DC := fun xs m P => match xs with
  | [.tup ds] => P (.tup ds) m
  | [x] => match asL m x with
    | some ds => P (.tup ds) m
    | none => False
  | _ => False
theorem tuple_ok {K : KW} : CalD K (fun xs H Q => ∃ p ys, xs = [.ref p] ∧ ((SqL K H p ys ∧ ∀ l, H l = none → Q (.ref l) (upd H l (.tup ys))) ∨ (SqT K H p ys ∧ Q (.ref p) H))) cTup := by
  intro F H0 m H vs ds P Q ok r h g
  unfold cTup at h
  split at h
  · obtain ⟨v, rfl, q⟩ := r.one
    obtain ⟨p, ws, rfl, q2, r2⟩ := tup_rp ok q
    exact ⟨p, ws, rfl, .inr ⟨q2, g.id ok q h⟩⟩
  · obtain ⟨v, rfl, q⟩ := r.one
    split at h
    · rename_i es e1
      obtain ⟨p, ws, rfl, q2, r2⟩ := asL_rp ok q e1
      exact ⟨p, ws, rfl, .inl ⟨q2, fun l hl => g.tup ok hl r2 h⟩⟩
    · exact h.elim
  · exact h.elim
theorem pd_tupleOf {x : Str} (hm : X.mg x = none) (hv : bootBuiltins x = some (.type "tuple")) (ha : PA X (e :: es) (lA (kw X) W qs)) (hg : Gl X x := by rfl) (hn : x ≠ "__name__" := by decide) (hdb : (x == ("__debug__" : Str)) = false := by decide)
    (he : starEach (e :: es) X.env = (false, eval e X.env) :: starEach es X.env := by rfl) (hpl : (backTo pos (starEach es X.env)).any (·.1) = false := by rfl) : PE X (.Call (.Name x p) (e :: es) [] pos) (lE (kw X) W (rCB cTup qs)) := pd_callTy call_tuple_of tuple_ok hm hv ha hg hn hdb he hpl
/-! all, any of truths -/
def boolsD : List D → Option (List Bool)
  | [] => some []
  | .bl b :: ds => (boolsD ds).map (b :: ·)
  | _ :: _ => none
theorem boolsD_map : ∀ bs : List Bool, boolsD (bs.map .bl) = some bs
  | [] => rfl
  | b :: bs => by simp [boolsD, boolsD_map bs]
theorem boolsD_rp {K : PySem.W.Frag} {H : Hp} : ∀ {vs : List V} {ds : List D} {bs : List Bool}, RpL K H vs ds → boolsD ds = some bs → vs = bs.map V.bl
  | _, _, _, .nil, h => by cases h; rfl
  | _, _, _, .cons q r, h => by
    cases q with
    | bl b =>
      simp only [boolsD, Option.map_eq_some_iff] at h
      obtain ⟨z, e2, rfl⟩ := h
      rw [boolsD_rp r e2]; rfl
    | _ => simp [boolsD] at h
def cAllAny (f : List Bool → Bool) : DC := fun xs m P => match xs with
  | [x] => match asL m x with
    | some ds => match boolsD ds with
      | some bs => P (.bl (f bs)) m
      | none => False
    | none => False
  | _ => False
theorem allAny_ok {K : KW} {f : List Bool → Bool} : CalD K (fun vs H Q => ∃ (a : Addr) (bs : List Bool), vs = [V.ref a] ∧ SqL K H a (bs.map V.bl) ∧ Q (.bl (f bs)) H) (cAllAny f) := by
  intro F H0 m H vs ds P Q ok r h g
  unfold cAllAny at h
  split at h
  · obtain ⟨v, rfl, q⟩ := r.one
    split at h
    · rename_i es e1
      obtain ⟨p, ws, rfl, q2, r2⟩ := asL_rp ok q e1
      split at h
      · rename_i bs e2
        exact ⟨p, bs, rfl, by rw [← boolsD_rp r2 e2]; exact q2, g.id ok (.bl _) h⟩
      · exact h.elim
    · exact h.elim
  · exact h.elim
abbrev cAll : DC := cAllAny fun bs => bs.all id
abbrev cAny : DC := cAllAny fun bs => bs.any id
theorem pd_all {x : Str} (hc : X.calm = true) (hm : X.mg x = none) (hv : bootBuiltins x = some (.builtin "all")) (ha : PA X (e :: es) (lA (kw X) W qs)) (hg : Gl X x := by rfl) (hn : x ≠ "__name__" := by decide) (hdb : (x == ("__debug__" : Str)) = false := by decide)
    (he : starEach (e :: es) X.env = (false, eval e X.env) :: starEach es X.env := by rfl) (hpl : (backTo pos (starEach es X.env)).any (·.1) = false := by rfl) : PE X (.Call (.Name x p) (e :: es) [] pos) (lE (kw X) W (rCB cAll qs)) := pd_callB (cr_all hc) allAny_ok hm hv ha hg hn hdb he hpl
theorem pd_any {x : Str} (hc : X.calm = true) (hm : X.mg x = none) (hv : bootBuiltins x = some (.builtin "any")) (ha : PA X (e :: es) (lA (kw X) W qs)) (hg : Gl X x := by rfl) (hn : x ≠ "__name__" := by decide) (hdb : (x == ("__debug__" : Str)) = false := by decide)
    (he : starEach (e :: es) X.env = (false, eval e X.env) :: starEach es X.env := by rfl) (hpl : (backTo pos (starEach es X.env)).any (·.1) = false := by rfl) : PE X (.Call (.Name x p) (e :: es) [] pos) (lE (kw X) W (rCB cAny qs)) := pd_callB (cr_any hc) allAny_ok hm hv ha hg hn hdb he hpl
/-! ### sep.join(texts) -/
def textsD : List D → Option (List Str)
  | [] => some []
  | .str b :: ds => (textsD ds).map (b :: ·)
  | _ :: _ => none
def asLT (m : Mu) : D → Option (List D)
  | .tup ds => some ds
  | d => asL m d
def rJoin (ra rb : DE) : DE := fun δ m P PX => ra δ m (fun x m1 => match x with
  | .str s => rb δ m1 (fun y m2 => match asLT m2 y with
    | some ds => match textsD ds with
      | some ys => (ys.map (·.length)).sum + ys.length * s.length ≤ 16777216 ∧ P (.str (Txt.join s ys)) m2
      | none => False
    | none => False) PX
  | _ => False) PX
theorem asLT_rp {K : KW} {F : Hp} {H0 H : Hp} {m : Mu} {v : V} {d : D} {ds : List D} (ok : Ok K F H0 m H) (r : Rp K H0 v d) (h : asLT m d = some ds) : ∃ a vs, v = .ref a ∧ (SqL K H a vs ∨ SqT K H a vs) ∧ RpL K H0 vs ds := by
  unfold asLT at h
  split at h
  · cases h
    obtain ⟨p, vs, rfl, q, r⟩ := tup_rp ok r
    exact ⟨p, vs, rfl, .inr q, r⟩
  · obtain ⟨p, vs, rfl, q, r⟩ := asL_rp ok r h
    exact ⟨p, vs, rfl, .inl q, r⟩
end
end DL
namespace DL
open PySem L2
section
variable {X : Cx} {W : WX} {a b c : Expr} {ra rb rc : DE} {pos p : Pos} {e : Expr} {es : List Expr} {qs qk : DA}
/-! ### calls of defs -/
variable {k : Nat} {f : Addr} {fd : FuncData} {ps ks : List Str} {sp : SpD} {dvs : List V} {ds : List Value} {dD : List D} {x : Str}
def rCall (sp : SpD) (dD : List D) (qs : DA) : DE := fun δ m P PX => qs δ m (fun xs m1 => sp (xs ++ dD) m1 P PX) PX
theorem lE_call {K : KW} (hD : ∀ H, RpL K H dvs dD) {σ : St} {H : Hp} {Q : VK} (h : lE K W (rCall sp dD qs) σ H Q) : tCallSD (lP K sp) dvs (WE W) (lA K W qs) σ H Q := by
  obtain ⟨F, H0, m, δ, P, PX, ok, rs, h, g, gx⟩ := h
  exact ⟨F, H0, m, δ, _, PX, ok, rs, h, fun xs H1 H01 m1 es s1 ok1 r1 h1 => ⟨F, H01, m1, _, P, PX, ok1, r1.append (hD _), h1, g.mono s1, gx.mono s1⟩, gx⟩
theorem pd_call (G : FnOk X.prog X.w X.K X.mg X.base (L2.CX X.prog X.w) k f fd ps (lP (kw X) sp)) (hr : Room k X.A) (hm : X.mg x = some (.ref f)) (hk : PySem.W.keepIn X.K (.ref f) = true) (hb : Binds X.K fd ps ds) (hd : Vals dvs ds) (hD : ∀ H, RpL X.K H dvs dD) (tk : Takes X W)
    (ha : PA X (e :: es) (lA (kw X) W qs)) (hg : Gl X x := by rfl) (hdb : (x == ("__debug__" : Str)) = false := by decide) (he : starEach (e :: es) X.env = (false, eval e X.env) :: starEach es X.env := by rfl) (hpl : (backTo pos (starEach es X.env)).any (·.1) = false := by rfl) :
    PE X (.Call (.Name x p) (e :: es) [] pos) (lE (kw X) W (rCall sp dD qs)) :=
  PE.imp (pe_callSD G hr hg hm hk hb hd (fun σ => passAt tk σ) ha hdb he hpl) fun _ _ _ h => lE_call hD h
/-- how keywords bind, over data -/
structure KBd (K : PySem.W.Frag) (fd : FuncData) (ps : List Str) (n : Nat) (ks : List Str) (gD : List D → List D → List D) : Prop where
  ex : ∃ g gV, KBn K fd ps n ks g gV ∧ ∀ H vs ds zs es, vs.length = n → zs.length = ks.length → RpL K H vs ds → RpL K H zs es → RpL K H (gV vs zs) (gD ds es)
def rCallK (sp : SpD) (n j : Nat) (gD : List D → List D → List D) (qs qk : DA) : DE := fun δ m P PX => qs δ m (fun xs m1 => qk δ m1 (fun zs m2 => xs.length = n ∧ zs.length = j ∧ sp (gD xs zs) m2 P PX) PX) PX
theorem PK.imp {X : Cx} {e : List Keyword} {t t' : TA} (h : PK X e t) (k : ∀ σ H Q, t' σ H Q → t σ H Q) : PK X e t' := ⟨fun pos pins s σ H Q I w => h.run pos pins s σ H Q I (k σ H Q w)⟩
theorem dk_nil : PK X [] (lA (kw X) W rNil) := by
  refine PK.imp pk_nil fun σ H Q h => ?_
  obtain ⟨F, H0, m, δ, P, PX, ok, rs, h, g, gx⟩ := h
  exact g _ _ _ _ _ (Same.refl _) ok .nil h
theorem dk_cons {nm : Option Str} {kpos : Pos} {kws : List Keyword} (ha : PE X e (lE (kw X) W ra)) (hr : PK X kws (lA (kw X) W qs)) : PK X (⟨nm, e, kpos⟩ :: kws) (lA (kw X) W (rCons ra qs)) := by
  refine PK.imp (pk_cons ha hr) fun σ H Q h => ?_
  obtain ⟨F, H0, m, δ, P, PX, ok, rs, h, g, gx⟩ := h
  exact ⟨F, H0, m, δ, _, PX, ok, rs, h, fun x H1 H01 m1 d s1 ok1 r1 h1 => ⟨F, H01, m1, δ, _, PX, ok1, rs.mono s1, h1, fun xs H2 H02 m2 ds s2 ok2 r2 h2 => g _ _ _ _ _ (s1.trans s2) ok2 (.cons (r1.mono s2) r2) h2, gx.mono s1⟩, gx⟩
theorem run_kS {n : Nat} {g : List Value → List Value → List Value} {gV : List V → List V → List V} {spH : Sp} {E : XK} {pins : List (Addr × Obj)} {σ : St} {H : Hp} {s : Shared} {Q : VK} {us ws : List Value} {vs zs : List V} (G : FnOk X.prog X.w X.K X.mg X.base (L2.CX X.prog X.w) k f fd ps spH) (hr : Room k X.A) (hb : KBn X.K fd ps n ks g gV) (hx : PassesAt (L2.CX X.prog X.w) X σ E)
    (I : L2.Inv X pins σ H s) (r : Vals vs us) (rz : Vals zs ws) (l1 : vs.length = n) (l2 : zs.length = ks.length) (h : spH (gV vs zs) H Q E) : wpAny (model X.prog X.w) X.A (call (.ref f) us (ks.zip ws)) (EP X pins σ Q) X.xe s := by
  refine wpAny_call (codeAny_mono (G.run X.A X.stack s H _ (g us ws) (gV vs zs) Q E hr I.env0 (hb.to s us ws I.kIn (r.length.symm.trans l1) (rz.length.symm.trans l2)) (hb.rel r rz) h) fun rr s' hq => ?_)
  cases rr with
  | error er => exact hx pins H s er s' I hq
  | ok fl => cases fl with
    | ret u => exact I.after hq
    | _ => exact False.elim hq
/-! ### statements -/
variable {st : Stmt} {rest : List Stmt} {us ut : DS} {qa : DT}
def sSeq (us ut : DS) : DS := fun DD δ m => us { DD with nx := ut DD } δ m
def sNext : DS := fun DD δ m => DD.nx δ m
theorem dss_nil : PSs X [] (lS (kw X) W sNext) := by
  refine PSs.imp pss_nil fun Dn σ H h => ?_
  obtain ⟨F, H0, m, δ, DD, ok, rs, h, g⟩ := h
  exact g.nx _ _ _ _ _ (Same.refl _) ok rs h
theorem dss_cons (h1 : PS X st (lS (kw X) W us)) (h2 : PSs X rest (lS (kw X) W ut)) : PSs X (st :: rest) (lS (kw X) W (sSeq us ut)) := by
  refine PSs.imp (pss_cons h1 h2) fun Dn σ H h => ?_
  obtain ⟨F, H0, m, δ, DD, ok, rs, h, g⟩ := h
  exact ⟨F, H0, m, δ, _, ok, rs, h, ⟨fun σ1 H1 H01 m1 δ1 s1 ok1 rs1 h1 => ⟨F, H01, m1, δ1, DD, ok1, rs1, h1, g.mono s1⟩, g.rt, g.bk, g.ct, g.xx⟩⟩
theorem dss_one (h1 : PS X st (lS (kw X) W us)) : PSs X [st] (lS (kw X) W us) := pss_one h1
def sSet (i : Nat) (ra : DE) : DS := fun DD δ m => ra δ m (fun d m1 => DD.nx (δ.set i (some d)) m1) fun c fs m1 => DD.xx c fs δ m1
theorem GW.at_ {K : KW} {F H0 : Hp} {PX : Str → List (Str × D) → DSt → Mu → Prop} {W : WX} {σ : St} {δ : DSt} (g : GW K F H0 PX W) (rs : RpS K H0 σ δ) : GX K F H0 (fun c fs m1 => PX c fs δ m1) fun c xd H' => W c xd σ H' :=
  fun c xd H' H0' m' fs s ok x h => g c xd σ H' H0' m' fs δ s ok (rs.mono s) x h
theorem ds_set {i : Nat} {y : Str} {pos' : Pos} (hN : X.N.Nodup) (ha : PE X a (lE (kw X) W ra)) (hi : X.N[i]? = some y := by rfl) (hx : Loc X.env.scope y := by first | exact Or.inl rfl | exact Or.inr rfl) (hs : swapsWith a (some (.Name y pos')) pos.line X.env = pure false := by rfl) (hf : X.fn y = true ∨ X.env.scope.names.lookup y = some .local := by first | exact .inl rfl | exact .inr rfl) :
    PS X (.Assign [.Name y pos'] a pos) (lS (kw X) W (sSet i ra)) := by
  refine PS.imp (ps_set hN hi hx ha hs hf) fun Dn σ H h => ?_
  obtain ⟨F, H0, m, δ, DD, ok, rs, h, g⟩ := h
  exact ⟨F, H0, m, δ, _, _, ok, rs, h, fun v H1 H01 m1 d s1 ok1 r1 h1 => g.nx _ _ _ _ _ s1 ok1 ((rs.mono s1).set r1 i) h1, g.xx.at_ rs⟩
def sExpr (ra : DE) : DS := fun DD δ m => ra δ m (fun _ m1 => DD.nx δ m1) fun c fs m1 => DD.xx c fs δ m1
theorem ds_expr (ha : PE X a (lE (kw X) W ra)) (hs : swapsWith a none pos.line X.env = pure false := by rfl) : PS X (.Expr a pos) (lS (kw X) W (sExpr ra)) := by
  refine PS.imp (ps_expr ha hs) fun Dn σ H h => ?_
  obtain ⟨F, H0, m, δ, DD, ok, rs, h, g⟩ := h
  exact ⟨F, H0, m, δ, _, _, ok, rs, h, fun v H1 H01 m1 d s1 ok1 r1 h1 => g.nx _ _ _ _ _ s1 ok1 (rs.mono s1) h1, g.xx.at_ rs⟩
def sRet (ra : DE) : DS := fun DD δ m => ra δ m DD.rt fun c fs m1 => DD.xx c fs δ m1
theorem ds_ret (ha : PE X a (lE (kw X) W ra)) : PS X (.Return (some a) pos) (lS (kw X) W (sRet ra)) := by
  refine PS.imp (ps_ret ha) fun Dn σ H h => ?_
  obtain ⟨F, H0, m, δ, DD, ok, rs, h, g⟩ := h
  exact ⟨F, H0, m, δ, _, _, ok, rs, h, g.rt, g.xx.at_ rs⟩
def sIf (qa : DT) (us ut : DS) : DS := fun DD δ m => qa δ m (fun k m1 => match k with | true => us DD δ m1 | false => ut DD δ m1) fun c fs m1 => DD.xx c fs δ m1
theorem ds_if {body els : List Stmt} (hc : PT X c (lT (kw X) W qa)) (h1 : PSs X body (lS (kw X) W us)) (h2 : PSs X els (lS (kw X) W ut)) : PS X (.If c body els pos) (lS (kw X) W (sIf qa us ut)) := by
  refine PS.imp (ps_if hc h1 h2) fun Dn σ H h => ?_
  obtain ⟨F, H0, m, δ, DD, ok, rs, h, g⟩ := h
  refine ⟨F, H0, m, δ, _, _, ok, rs, h, fun k H1 H01 m1 s1 ok1 h1 => ?_, g.xx.at_ rs⟩
  cases k with
  | true => rw [if_pos rfl]; exact ⟨F, H01, m1, δ, DD, ok1, rs.mono s1, h1, g.mono s1⟩
  | false => rw [if_neg Bool.false_ne_true]; exact ⟨F, H01, m1, δ, DD, ok1, rs.mono s1, h1, g.mono s1⟩
/-- o[i] = v, o a list of ours -/
def sSetIx (rv ro ri : DE) : DS := fun DD δ m => rv δ m (fun v m1 => ro δ m1 (fun o m2 => ri δ m2 (fun i m3 => match o, i with
  | .adr p, .int k => match m3 p with
    | some (.lst ds) => match ixN ds.length k with
      | some j => DD.nx δ (mset m3 p (.lst (ds.set j v)))
      | none => False
    | _ => False
  | _, _ => False) fun c fs m1 => DD.xx c fs δ m1) fun c fs m1 => DD.xx c fs δ m1) fun c fs m1 => DD.xx c fs δ m1
theorem ds_setIx {o i : Expr} {ro ri rv : DE} {p2 : Pos} (hv : PE X a (lE (kw X) W rv)) (ho : PE X o (lE (kw X) W ro)) (hi : PE X i (lE (kw X) W ri))
    (hA : ∀ v, assign (.Subscript o i p2) X.env v = (do
      let ov ← holding [v] (eval o X.env)
      let iv ← holding [v, ov] (eval i X.env)
      standAt p2
      holding [v, ov, iv] (setItem ov iv v)
      release [v, ov, iv] []) := by intro _; rfl)
    (hs : swapsWithSole [.Subscript o i p2] a pos.line X.env = pure false := by rfl) (hw : swappedStores [.Subscript o i p2] a X.env = pure none := by rfl) (h1 : (assignEach [.Subscript o i p2] X.env).map (·.2) = [assign (.Subscript o i p2) X.env] := by rfl) :
    PS X (.Assign [.Subscript o i p2] a pos) (lS (kw X) W (sSetIx rv ro ri)) := by
  refine PS.imp (ps_asg hv (pg_sub ho hi set_list hA) hs hw h1) fun Dn σ H h => ?_
  obtain ⟨F, H0, m, δ, DD, ok, rs, h, g⟩ := h
  refine ⟨F, H0, m, δ, _, _, ok, rs, h, fun v H1 H01 m1 d1 s1 ok1 r1 h1 => ⟨F, H01, m1, δ, _, _, ok1, rs.mono s1, h1, fun o H2 H02 m2 d2 s2 ok2 r2 h2 => ⟨F, H02, m2, δ, _, _, ok2, (rs.mono s1).mono s2, h2, fun iv H3 H03 m3 d3 s3 ok3 r3 h3 => ?_, ((g.mono s1).mono s2).xx.at_ ((rs.mono s1).mono s2)⟩, (g.mono s1).xx.at_ (rs.mono s1)⟩, g.xx.at_ rs⟩
  dsimp only at h3
  split at h3
  · rename_i q k
    cases r3
    cases r2
    split at h3
    · rename_i ds e1
      obtain ⟨_, vs, hv3, rv3⟩ := ok3.cell q _ e1
      split at h3
      · rename_i j e2
        refine ⟨q, vs, k, j, rfl, rfl, hv3, by rw [rv3.length]; exact e2, ?_⟩
        have s123 := (s1.trans s2).trans s3
        exact g.nx _ _ _ _ _ s123 (ok3.write (o := .lst (ds.set j d1)) e1 ⟨_, upd_same, rv3.set ((r1.mono s2).mono s3) j⟩) (rs.mono s123) h3
      · exact h3.elim
    · exact h3.elim
  · exact h3.elim
/-- xs.append(v), xs a list of ours -/
def rApp (ro rv : DE) : DE := fun δ m P PX => ro δ m (fun o m1 => match o with
  | .adr p => (∃ es, m1 p = some (.lst es)) ∧ rv δ m1 (fun v m2 => match m2 p with
    | some (.lst ds) => ds.length < sizeLine ∧ P .non (mset m2 p (.lst (ds ++ [v])))
    | _ => False) PX
  | _ => False) PX
theorem pd_app {apos : Pos} (ho : PE X a (lE (kw X) W ra)) (hv : PE X b (lE (kw X) W rb)) (hbase : attributeBase a "append" X.env (eval a X.env) = eval a X.env := by rfl)
    (hfew : ((backTo pos (starEach [b] X.env)).all (fun x => !x.1) && (backToKw pos (keywordEach [] X.env)).all (fun x => x.1.isSome) && decide (([b] : List Expr).length + ([] : List Keyword).length + (if ([] : List Keyword).isEmpty then 0 else 1) < 30)) = true := by rfl)
    (hline : (apos.endLine == pos.line) = true := by rfl) (hs : starEach [b] X.env = (false, eval b X.env) :: starEach [] X.env := by rfl) (hpl : (backTo pos (starEach [] X.env)).any (·.1) = false := by rfl) :
    PE X (.Call (.Attribute a "append" apos) [b] [] pos) (lE (kw X) W (rApp ra rb)) := by
  refine PE.imp (pe_bm PySem.F.plainAttrs_list PySem.F.slot_list_append PySem.F.type_list_append mt_append ho (pa_cons hv pa_nil hs) hbase hfew hline hs hpl) fun σ H Q h => ?_
  obtain ⟨F, H0, m, δ, P, PX, ok, rs, h, g, gx⟩ := h
  have h' : ra δ m (fun o m1 => match o with
    | .adr p => (∃ es, m1 p = some (.lst es)) ∧ rb δ m1 (fun v m2 => match m2 p with
      | some (.lst ds) => ds.length < sizeLine ∧ P .non (mset m2 p (.lst (ds ++ [v])))
      | _ => False) PX
    | _ => False) PX := h
  refine ⟨F, H0, m, δ, _, PX, ok, rs, h', fun x H1 H01 m1 d s1 ok1 r1 h1 => ?_, gx⟩
  dsimp only at h1
  split at h1
  · rename_i q
    obtain ⟨⟨es, he⟩, h1⟩ := h1
    cases r1
    obtain ⟨_, vs, hv1, _⟩ := ok1.cell q _ he
    refine ⟨.inl ⟨rfl, vs, SqL.of hv1⟩, F, H01, m1, δ, _, PX, ok1, rs.mono s1, h1, fun v H2 H02 m2 d2 s2 ok2 r2 h2 => ?_, gx.mono s1⟩
    dsimp only at h2
    split at h2
    · rename_i ds e1
      obtain ⟨_, ws, hw, rw2⟩ := ok2.cell q _ e1
      refine ⟨q, ws, v, rfl, rfl, hw, by rw [rw2.length]; exact h2.1, ?_⟩
      exact g _ _ H02 _ _ (s1.trans s2) (ok2.write (o := .lst (ds ++ [d2])) e1 ⟨_, upd_same, rw2.snoc r2⟩) .non h2.2
    · exact h2.elim
  · exact h1.elim
end
end DL
namespace DL
open PySem L2
/-! ### what is walked: while Ph holds of what is ours, the items are ds -/
def ItD (K : KW) (F : Hp) (J : It) (H0 : Hp) (Ph : Mu → Prop) (ds : List D) : Prop := ∀ (i : Nat) (H H1 : Hp) (m : Mu), Same H0 H1 → Ok K F H1 m H → Ph m →
  (∀ d, ds[i]? = some d → J.go i H ∧ ∀ x H', J.yld i H x H' → ∃ H2, Same H1 H2 ∧ Ok K F H2 m H' ∧ Rp K H2 x d) ∧ (i = ds.length → J.stop i H)
abbrev DI := DSt → Mu → ((Mu → Prop) → List D → Mu → Prop) → DX → Prop
/-- (whatever further frame stands around) -/
def GI (K : KW) (F : Hp) (H0 : Hp) (P : (Mu → Prop) → List D → Mu → Prop) (R : It → Hp → Prop) : Prop := ∀ J H' H0' m' Ph ds, Same H0 H0' → Ok K F H0' m' H' → (∀ F', ItD K F' J H0' Ph ds) → Ph m' → P Ph ds m' → R J H'
def lI (K : KW) (W : WX) (r : DI) : TI := fun σ H R => ∃ F H0 m δ P PX, Ok K F H0 m H ∧ RpS K H0 σ δ ∧ r δ m P PX ∧ GI K F H0 P R ∧ GX K F H0 PX fun c xd H' => W c xd σ H'
section
variable {X : Cx} {W : WX} {a b c tg : Expr} {ra rb rc : DE} {pos p : Pos} {e : Expr} {es : List Expr} {qs : DA}
theorem PI.imp {X : Cx} {tg e : Expr} {t t' : TI} (h : PI X tg e t) (k : ∀ σ H R, t' σ H R → t σ H R) : PI X tg e t' := ⟨fun pins s σ H R I w => h.run pins s σ H R I (k σ H R w)⟩
/-- a list, a tuple, a text -/
theorem pi_any {l : Expr} {tl : TE} (hl : PE X l tl) : PI X tg l (fun σ H R => tl σ H fun x H1 => (∃ a, x = .ref a ∧ (∃ xs, SqL X.K H1 a xs) ∧ R (Itl X.K a) H1) ∨ (∃ a, x = .ref a ∧ (∃ xs, SqT X.K H1 a xs) ∧ R (Itt X.K a) H1) ∨ ∃ z, x = .str z ∧ R (Its z) H1) := by
  refine ⟨fun pins s σ H R I h => thn (hl.run pins s σ H _ I h) fun v s1 hh => ?_⟩
  obtain ⟨x, H1, I1, r1, q1⟩ := hh
  rcases q1 with ⟨a, rfl, ⟨xs, hq⟩, q⟩ | ⟨a, rfl, ⟨xs, hq⟩, q⟩ | ⟨z, rfl, q⟩
  · cases r1
    obtain ⟨its, rv, pl, hz⟩ := I1.list hq
    exact wpAny_pyIter_list pl.isList (pi_one (tk := s1.toks) I1 _ (turn_list a _) ⟨_, Heap.get?_push_size _ rfl, rfl, rfl⟩ q)
  · cases r1
    obtain ⟨its, rv, pl, hz⟩ := I1.tuple hq
    exact wpAny_pyIter_tuple (show s1.heap.IsTuple a its.toArray from pl) (pi_one (tk := s1.toks) I1 _ (turn_tuple a _) ⟨_, Heap.get?_push_size _ rfl, rfl, rfl⟩ q)
  · obtain ⟨t, rfl⟩ := r1
    cases ha : z.cps.all (· < 128)
    · exact wpAny_pyIter_wide ha (pi_one (tk := s1.toks) I1 _ (turn_str _ z t "str_iterator" (.inr rfl)) ⟨_, Heap.get?_push_size _ rfl, rfl, rfl⟩ q)
    · exact wpAny_pyIter_ascii ha (pi_one (tk := s1.toks) I1 _ (turn_str _ z t "str_ascii_iterator" (.inl rfl)) ⟨_, Heap.get?_push_size _ rfl, rfl, rfl⟩ q)
def signs (z : Str) : List D := z.cps.toList.map fun c => .str ⟨#[c]⟩
def iAny (ra : DE) : DI := fun δ m P PX => ra δ m (fun x m1 => match x with
  | .tup ds => P (fun _ => True) ds m1
  | .lst ds => P (fun _ => True) ds m1
  | .str z => P (fun _ => True) (signs z) m1
  | .adr q => match m1 q with
    | some (.lst ds) => P (fun m => m q = some (.lst ds)) ds m1
    | _ => False
  | _ => False) PX
theorem ItD.list {K : KW} {H0 : Hp} {q : Addr} {vs : List V} {ds : List D} {Ph : Mu → Prop} (r : RpL K H0 vs ds) (h : ∀ F H1 m H, Same H0 H1 → Ok K F H1 m H → Ph m → SqL K H q vs ∨ ∃ ws, SqL K H q ws ∧ RpL K H1 ws ds) (F : Hp) : ItD K F (Itl K q) H0 Ph ds := by
  intro i H H1 m s1 ok1 ph
  obtain ⟨ws, hq, rw1⟩ : ∃ ws, SqL K H q ws ∧ RpL K H1 ws ds := by
    rcases h F H1 m H s1 ok1 ph with h | h
    · exact ⟨vs, h, r.mono s1⟩
    · exact h
  refine ⟨fun d e => ?_, fun e => ⟨ws, hq, by rw [rw1.length, e]; exact Nat.le_refl _⟩⟩
  obtain ⟨v, e1, rv⟩ := rw1.get e
  refine ⟨⟨ws, v, hq, e1⟩, fun x H' y => ?_⟩
  obtain ⟨rfl, y⟩ := y
  have e2 := y ws hq
  rw [e1] at e2
  cases e2
  exact ⟨H1, Same.refl _, ok1, rv⟩
theorem ItD.tuple {K : KW} {H0 : Hp} {q : Addr} {vs : List V} {ds : List D} {Ph : Mu → Prop} (r : RpL K H0 vs ds) (h : SqT K H0 q vs) (F : Hp) : ItD K F (Itt K q) H0 Ph ds := by
  intro i H H1 m s1 ok1 ph
  have hq := seqT_mono (s1.trans ok1.same) h
  refine ⟨fun d e => ?_, fun e => ⟨vs, hq, by rw [r.length, e]; exact Nat.le_refl _⟩⟩
  obtain ⟨v, e1, rv⟩ := r.get e
  refine ⟨⟨vs, v, hq, e1⟩, fun x H' y => ?_⟩
  obtain ⟨rfl, y⟩ := y
  have e2 := y vs hq
  rw [e1] at e2
  cases e2
  exact ⟨H1, Same.refl _, ok1, rv.mono s1⟩
theorem ItD.text {K : KW} {H0 : Hp} {z : Str} {Ph : Mu → Prop} (F : Hp) : ItD K F (Its z) H0 Ph (signs z) := by
  intro i H H1 m s1 ok1 ph
  refine ⟨fun d e => ?_, fun e => ?_⟩
  · unfold signs at e
    rw [List.getElem?_map] at e
    cases hc : z.cps.toList[i]? with
    | none => rw [hc] at e; cases e
    | some c =>
      rw [hc] at e
      cases e
      have hlt : i < z.cps.size := by
        have := (List.getElem?_eq_some_iff.mp hc).1
        simpa using this
      refine ⟨hlt, fun x H' y => ?_⟩
      obtain ⟨rfl, c', e1, rfl⟩ := y
      have e2 : z.cps[i]? = some c := by simpa using hc
      rw [e2] at e1
      cases e1
      exact ⟨H1, Same.refl _, ok1, .str _⟩
  · show z.cps.size ≤ i
    rw [e]
    simp [signs]
theorem di_any (ha : PE X a (lE (kw X) W ra)) : PI X tg a (lI (kw X) W (iAny ra)) := by
  refine PI.imp (pi_any ha) fun σ H R h => ?_
  obtain ⟨F, H0, m, δ, P, PX, ok, rs, h, g, gx⟩ := h
  refine ⟨F, H0, m, δ, _, PX, ok, rs, h, fun x H1 H01 m1 d s1 ok1 r1 h1 => ?_, gx⟩
  dsimp only at h1
  split at h1
  · cases r1 with
    | tup q r => exact .inr (.inl ⟨_, rfl, ⟨_, seqT_mono ok1.same q⟩, g _ _ _ _ _ _ s1 ok1 (ItD.tuple r q) trivial h1⟩)
  · cases r1 with
    | lst q r => exact .inl ⟨_, rfl, ⟨_, ok1.same.seq q⟩, g _ _ _ _ _ _ s1 ok1 (ItD.list r fun F H1 m H s ok _ => .inl ((s.trans ok.same).seq q)) trivial h1⟩
  · cases r1
    exact .inr (.inr ⟨_, rfl, g _ _ _ _ _ _ s1 ok1 ItD.text trivial h1⟩)
  · rename_i q
    split at h1
    · rename_i ds e1
      cases r1
      obtain ⟨_, vs, hv, rv⟩ := ok1.cell q _ e1
      refine .inl ⟨q, rfl, ⟨vs, SqL.of hv⟩, g _ _ _ _ _ _ s1 ok1 (ItD.list rv fun F H1 m H s ok ph => ?_) e1 h1⟩
      obtain ⟨_, ws, hw, rw1⟩ := ok.cell q _ ph
      exact .inr ⟨ws, SqL.of hw, rw1⟩
    · exact h1.elim
  · exact h1.elim
def rangeD (lo : Int) (n : Nat) : List D := (List.range n).map fun i : Nat => .int (lo + i)
theorem ItD.range {K : KW} {H0 : Hp} {lo : Int} {n : Nat} {Ph : Mu → Prop} (F : Hp) : ItD K F (Itr lo n) H0 Ph (rangeD lo n) := by
  intro i H H1 m s1 ok1 ph
  refine ⟨fun d e => ?_, fun e => ?_⟩
  · unfold rangeD at e
    rw [List.getElem?_map] at e
    by_cases hi : i < n
    · rw [List.getElem?_range hi] at e
      cases e
      refine ⟨hi, fun x H' y => ?_⟩
      obtain ⟨rfl, rfl⟩ := y
      exact ⟨H1, Same.refl _, ok1, .int _⟩
    · rw [List.getElem?_eq_none (by simpa using hi)] at e
      cases e
  · show n ≤ i
    rw [e]
    simp [rangeD]
def iRange (qs : DA) : DI := fun δ m P PX => qs δ m (fun xs m1 => match xs with
  | [.int j] => (-(2 ^ 62) ≤ j ∧ j < 2 ^ 62) ∧ P (fun _ => True) (rangeD 0 j.toNat) m1
  | _ => False) PX
theorem di_range {q : Pos} (hm : X.mg "range" = none) (ha : PA X [a] (lA (kw X) W qs)) (hg : Gl X "range" := by rfl) (hs : starEach [a] X.env = [(false, eval a X.env)] := by rfl) : PI X tg (.Call (.Name "range" q) [a] [] pos) (lI (kw X) W (iRange qs)) := by
  refine PI.imp (pi_range1 hg hm ha hs) fun σ H R h => ?_
  obtain ⟨F, H0, m, δ, P, PX, ok, rs, h, g, gx⟩ := h
  refine ⟨F, H0, m, δ, _, PX, ok, rs, h, fun xs H1 H01 m1 ds s1 ok1 r1 h1 => ?_, gx⟩
  dsimp only at h1
  split at h1
  · obtain ⟨v, rfl, q⟩ := r1.one
    cases q
    exact ⟨_, rfl, h1.1.1, h1.1.2, g _ _ _ _ _ _ s1 ok1 ItD.range trivial h1.2⟩
  · exact h1.elim
def enumD : Nat → List D → List D
  | _, [] => []
  | i, d :: ds => .tup [.int (i : Nat), d] :: enumD (i + 1) ds
theorem enumD_get : ∀ (ds : List D) (k i : Nat), (enumD k ds)[i]? = ds[i]?.map fun d => .tup [.int ((k + i : Nat) : Int), d]
  | [], k, i => by simp [enumD]
  | d :: ds, k, 0 => by simp [enumD]
  | d :: ds, k, i + 1 => by
    simp only [enumD, List.getElem?_cons_succ]
    rw [enumD_get ds (k + 1) i]
    have e : k + 1 + i = k + (i + 1) := by omega
    rw [e]
theorem enumD_length : ∀ (ds : List D) (k : Nat), (enumD k ds).length = ds.length
  | [], _ => rfl
  | _ :: ds, k => by simp [enumD, enumD_length ds]
def iEnumD (qs : DA) : DI := fun δ m P PX => qs δ m (fun xs m1 => match xs with
  | [.lst ds] => P (fun _ => True) (enumD 0 ds) m1
  | [.adr q] => match m1 q with
    | some (.lst ds) => P (fun m => m q = some (.lst ds)) (enumD 0 ds) m1
    | _ => False
  | _ => False) PX
theorem ItD.enum {K : KW} {H0 : Hp} {q : Addr} {vs : List V} {ds : List D} {Ph : Mu → Prop} (r : RpL K H0 vs ds) (h : ∀ F H1 m H, Same H0 H1 → Ok K F H1 m H → Ph m → SqL K H q vs ∨ ∃ ws, SqL K H q ws ∧ RpL K H1 ws ds) (F : Hp) : ItD K F (Ite K q) H0 Ph (enumD 0 ds) := by
  intro i H H1 m s1 ok1 ph
  obtain ⟨ws, hq, rw1⟩ : ∃ ws, SqL K H q ws ∧ RpL K H1 ws ds := by
    rcases h F H1 m H s1 ok1 ph with h | h
    · exact ⟨vs, h, r.mono s1⟩
    · exact h
  refine ⟨fun d e => ?_, fun e => ⟨ws, hq, by rw [rw1.length, e, enumD_length]; exact Nat.le_refl _⟩⟩
  rw [enumD_get] at e
  cases e2 : ds[i]? with
  | none => rw [e2] at e; cases e
  | some d' =>
    rw [e2] at e
    cases e
    obtain ⟨v, e1, rv⟩ := rw1.get e2
    refine ⟨⟨ws, v, hq, e1⟩, fun x H' y => ?_⟩
    obtain ⟨T, x', rfl, hT, rfl, y⟩ := y
    have e3 := y ws hq
    rw [e1] at e3
    cases e3
    have sn := same_new (o := HO.tup [V.int (i : Nat), v]) (ok1.free hT).1
    refine ⟨_, sn, ok1.new hT _, .tup (SqT.of upd_same) (.cons ?_ (.cons (rv.mono sn) .nil))⟩
    have e4 : ((0 + i : Nat) : Int) = ((i : Nat) : Int) := by simp
    rw [e4]
    exact .int _
theorem di_enum {elts : List Expr} {kk : Nat} {tpos : Pos} {q : Pos} (hm : X.mg "enumerate" = none) (ha : PA X [a] (lA (kw X) W qs)) (hg : Gl X "enumerate" := by rfl) (hs : starEach [a] X.env = [(false, eval a X.env)] := by rfl) : PI X (.Tuple elts kk tpos) (.Call (.Name "enumerate" q) [a] [] pos) (lI (kw X) W (iEnumD qs)) := by
  refine PI.imp (pi_enum hg hm ha hs) fun σ H R h => ?_
  obtain ⟨F, H0, m, δ, P, PX, ok, rs, h, g, gx⟩ := h
  refine ⟨F, H0, m, δ, _, PX, ok, rs, h, fun xs H1 H01 m1 ds s1 ok1 r1 h1 => ?_, gx⟩
  dsimp only at h1
  split at h1
  · obtain ⟨v, rfl, r2⟩ := r1.one
    cases r2 with
    | lst q r => exact ⟨_, _, rfl, ok1.same.seq q, g _ _ _ _ _ _ s1 ok1 (ItD.enum r fun F H1 m H s ok _ => .inl ((s.trans ok.same).seq q)) trivial h1⟩
  · rename_i q
    obtain ⟨v, rfl, r2⟩ := r1.one
    cases r2
    split at h1
    · rename_i ds e1
      obtain ⟨_, vs, hv, rv⟩ := ok1.cell q _ e1
      refine ⟨q, vs, rfl, SqL.of hv, g _ _ _ _ _ _ s1 ok1 (ItD.enum rv fun F H1 m H s ok ph => ?_) e1 h1⟩
      obtain ⟨_, ws, hw, rw1⟩ := ok.cell q _ ph
      exact .inr ⟨ws, SqL.of hw, rw1⟩
    · exact h1.elim
  · exact h1.elim
end
end DL
namespace DL
open PySem L2
/-! ### targets -/
abbrev DG := D → DSt → Mu → (DSt → Mu → Prop) → Prop
def gN (i : Nat) : DG := fun d δ m P => P (δ.set i (some d)) m
def asg (δ : DSt) : List Nat → List D → DSt
  | j :: js, d :: ds => asg (δ.set j (some d)) js ds
  | _, _ => δ
def asgV (σ : St) : List Nat → List V → St
  | j :: js, v :: vs => asgV (σ.set j (some v)) js vs
  | _, _ => σ
def gT (js : List Nat) : DG := fun d δ m P => match d with
  | .tup ds => ds.length = js.length ∧ P (asg δ js ds) m
  | _ => False
theorem RpS.asg {K : PySem.W.Frag} {H0 : Hp} : ∀ {js : List Nat} {vs : List V} {ds : List D} {σ : St} {δ : DSt}, RpL K H0 vs ds → RpS K H0 σ δ → RpS K H0 (asgV σ js vs) (DL.asg δ js ds)
  | [], _, _, _, _, _, h => h
  | _ :: _, _, _, _, _, .nil, h => h
  | j :: js, _, _, _, _, .cons q r, h => RpS.asg (js := js) r (h.set q j)
theorem wipe_get (σ : St) : ∀ (vs : List Nat) (i : Nat), (wipe σ vs)[i]? = if i ∈ vs ∧ i < σ.length then some none else σ[i]?
  | [], i => by simp [wipe]
  | v :: vs, i => by
    have ih := wipe_get σ vs i
    unfold wipe
    by_cases hv : v = i
    · subst hv
      by_cases hl : v < σ.length
      · rw [List.getElem?_set_self (by rw [wipe_length]; exact hl), if_pos ⟨List.mem_cons_self, hl⟩]
      · rw [List.getElem?_eq_none (by simpa [wipe_length] using hl), if_neg (fun z => hl z.2), List.getElem?_eq_none (by simpa using hl)]
    · rw [List.getElem?_set_ne hv, ih]
      have e : (i ∈ v :: vs ∧ i < σ.length) ↔ (i ∈ vs ∧ i < σ.length) := by
        constructor
        · rintro ⟨h1, h2⟩
          rcases List.mem_cons.mp h1 with h | h
          · exact absurd h.symm hv
          · exact ⟨h, h2⟩
        · rintro ⟨h1, h2⟩
          exact ⟨List.mem_cons_of_mem _ h1, h2⟩
      by_cases hc : i ∈ vs ∧ i < σ.length
      · rw [if_pos hc, if_pos (e.mpr hc)]
      · rw [if_neg hc, if_neg (fun z => hc (e.mp z))]
theorem wipe_same {σ σ' : St} {vs : List Nat} (hl : σ'.length = σ.length) (h : ∀ i, i ∉ vs → σ'[i]? = σ[i]?) : wipe σ' vs = wipe σ vs := by
  apply List.ext_getElem?
  intro i
  rw [wipe_get, wipe_get, hl]
  by_cases hi : i ∈ vs
  · by_cases hlt : i < σ.length
    · rw [if_pos ⟨hi, hlt⟩, if_pos ⟨hi, hlt⟩]
    · rw [if_neg (fun z => hlt z.2), if_neg (fun z => hlt z.2), List.getElem?_eq_none (by omega), List.getElem?_eq_none (by omega)]
  · rw [if_neg (fun z => hi z.1), if_neg (fun z => hi z.1)]
    exact h i hi
theorem asgV_length : ∀ (js : List Nat) (vs : List V) (σ : St), (asgV σ js vs).length = σ.length
  | [], _, _ => rfl
  | _ :: _, [], _ => rfl
  | j :: js, v :: vs, σ => by
    show (asgV (σ.set j (some v)) js vs).length = σ.length
    rw [asgV_length js vs, List.length_set]
theorem asgV_out : ∀ (js : List Nat) (vs : List V) (σ : St) (i : Nat), i ∉ js → (asgV σ js vs)[i]? = σ[i]?
  | [], _, _, _, _ => rfl
  | _ :: _, [], _, _, _ => rfl
  | j :: js, v :: vs, σ, i, h => by
    show (asgV (σ.set j (some v)) js vs)[i]? = σ[i]?
    rw [asgV_out js vs _ i (fun z => h (List.mem_cons_of_mem _ z)), List.getElem?_set_ne (fun z => h (by rw [z]; exact List.mem_cons_self))]
/-- a target: what it does to the slots of js alone -/
def Gok (K : KW) (js : List Nat) (g : TG) (rg : DG) : Prop := ∀ F H0 m H σ δ v d P Q, Ok K F H0 m H → RpS K H0 σ δ → Rp K H0 v d → rg d δ m P → (∀ σ' δ', RpS K H0 σ' δ' → wipe σ' js = wipe σ js → P δ' m → Q σ' H) → g v σ H Q
theorem gN_ok {K : KW} {j : Nat} : Gok K [j] (gName j) (gN j) := fun F H0 m H σ δ v d P Q ok rs r h k =>
  k _ _ (rs.set r j) (wipe_same (by simp) fun i hi => List.getElem?_set_ne fun z => hi (by simp [z])) h
/-- a tuple of names -/
def gNames (js : List Nat) : TGs := fun vs σ H Q => vs.length = js.length ∧ Q (asgV σ js vs) H
section
variable {X : Cx} {W : WX} {a b c tg : Expr} {ra rb rc : DE} {pos p : Pos} {e : Expr} {es : List Expr} {qs : DA}
theorem PGs.imp {X : Cx} {e : List Expr} {t t' : TGs} (h : PGs X e t) (k : ∀ v σ H Q, t' v σ H Q → t v σ H Q) : PGs X e t' := ⟨fun pins s σ H vs us Q I r w => h.run pins s σ H vs us Q I r (k vs σ H Q w)⟩
theorem PG.imp {X : Cx} {e : Expr} {t t' : TG} (h : PG X e t) (k : ∀ v σ H Q, t' v σ H Q → t v σ H Q) : PG X e t' := ⟨fun pins s σ H v u Q I r w => h.run pins s σ H v u Q I r (k v σ H Q w)⟩
theorem dgs_nil : PGs X [] (gNames []) := PGs.imp pgs_nil fun vs σ H Q h => by
  have e : vs = [] := List.eq_nil_of_length_eq_zero h.1
  subst e
  exact ⟨rfl, h.2⟩
theorem dgs_cons {j : Nat} {js : List Nat} (h1 : PG X e (gName j)) (h2 : PGs X es (gNames js)) (hs : (assignEach (e :: es) X.env).map (·.2) = assign e X.env :: (assignEach es X.env).map (·.2) := by rfl) : PGs X (e :: es) (gNames (j :: js)) :=
  PGs.imp (pgs_cons h1 h2 hs) fun vs σ H Q h => by
    cases vs with
    | nil => exact absurd h.1 (by simp)
    | cons v vs => exact ⟨v, vs, rfl, by simpa using h.1, h.2⟩
theorem gT_ok {K : KW} {js : List Nat} : Gok K js (gTup K js.length (gNames js)) (gT js) := by
  intro F H0 m H σ δ v d P Q ok rs r h k
  unfold gT at h
  split at h
  · obtain ⟨q, vs, rfl, hq, rv⟩ := tup_rp ok r
    have hl : vs.length = js.length := rv.length.trans h.1
    exact ⟨q, vs, rfl, hq, hl, hl, k _ _ (rs.asg rv) (wipe_same (asgV_length _ _ _) fun i hi => asgV_out _ _ _ i hi) h.2⟩
  · exact h.elim
/-! ### for -/
def sLoop0 (Ph : Mu → Prop) (rg : DG) (rb : DS) (DD : DEnds) : List D → DSt → Mu → Prop
  | [], δ, m => Ph m ∧ DD.nx δ m
  | d :: ds, δ, m => Ph m ∧ rg d δ m fun δ' m' => rb { DD with nx := sLoop0 Ph rg rb DD ds, ct := sLoop0 Ph rg rb DD ds, bk := DD.nx } δ' m'
@[irreducible] def sLoop (Ph : Mu → Prop) (rg : DG) (rb : DS) (DD : DEnds) (ds : List D) (δ : DSt) (m : Mu) : Prop := sLoop0 Ph rg rb DD ds δ m
theorem sLoop_nil {Ph : Mu → Prop} {rg : DG} {rb : DS} {DD : DEnds} {δ : DSt} {m : Mu} : sLoop Ph rg rb DD [] δ m = (Ph m ∧ DD.nx δ m) := by unfold sLoop; rfl
theorem sLoop_cons {Ph : Mu → Prop} {rg : DG} {rb : DS} {DD : DEnds} {δ : DSt} {m : Mu} {d : D} {ds : List D} : sLoop Ph rg rb DD (d :: ds) δ m = (Ph m ∧ rg d δ m fun δ' m' => rb { DD with nx := sLoop Ph rg rb DD ds, ct := sLoop Ph rg rb DD ds, bk := DD.nx } δ' m') := by
  have e : sLoop Ph rg rb DD ds = sLoop0 Ph rg rb DD ds := by funext δ m; unfold sLoop; rfl
  rw [e]
  unfold sLoop
  rfl
def sFor (ri : DI) (rg : DG) (rb : DS) : DS := fun DD δ m => ri δ m (fun Ph ds m1 => sLoop Ph rg rb DD ds δ m1) fun c fs m1 => DD.xx c fs δ m1
theorem ds_for {iter : Expr} {body : List Stmt} {ri : DI} {g : TG} {rg : DG} {rb : DS} {js : List Nat} (hp : PassesOwn (model X.prog X.w) X.A X.env X.xe) (hc : X.calm = true) (hi : PI X tg iter (lI (kw X) W ri)) (hg : PG X tg g) (go : Gok (kw X) js g rg) (hb : PSs X body (lS (kw X) W rb))
    (hs : ∀ x, foldedSetIterable iter X.env x = pure x := by intro _; rfl) : PS X (.For tg iter body [] pos) (lS (kw X) W (sFor ri rg rb)) := by
  refine PS.imp (ps_for hp hc hi hg hb hs) fun Dn σ H h => ?_
  obtain ⟨F, H0, m, δ, DD, ok, rs, h, gd⟩ := h
  refine ⟨F, H0, m, δ, _, _, ok, rs, h, fun J H1 H01 m1 Ph ds s1 ok1 it ph h1 => ?_, gd.xx.at_ rs⟩
  refine ⟨fun i k σ' H' => ∃ H0' m' δ', Same H01 H0' ∧ Ok (kw X) F H0' m' H' ∧ RpS X.K H0' σ' δ' ∧ i + k = ds.length ∧ sLoop Ph rg rb DD (ds.drop i) δ' m', ⟨ds.length, H01, m1, δ, Same.refl _, ok1, rs.mono s1, by omega, h1⟩, ?_⟩
  rintro i k σ2 H2 ⟨H02, m2, δ2, s2, ok2, rs2, hik, h2⟩
  by_cases hlt : i < ds.length
  · have e1 : ds[i]? = some ds[i] := List.getElem?_eq_getElem hlt
    rw [List.drop_eq_getElem_cons hlt, sLoop_cons] at h2
    obtain ⟨ph2, h2⟩ := h2
    obtain ⟨go1, yl⟩ := (it F i H2 H02 m2 s2 ok2 ph2).1 _ e1
    refine .inr ⟨go1, fun σ' H' => ∃ H0' m' δ', Same H01 H0' ∧ Ok (kw X) F H0' m' H' ∧ RpS X.K H0' σ' δ' ∧ sLoop Ph rg rb DD (ds.drop (i + 1)) δ' m', fun σ' H' hN => ?_, fun x H' y => ?_⟩
    · obtain ⟨H0', m', δ', z1, z2, z3, z4⟩ := hN
      exact ⟨k - 1, by omega, H0', m', δ', z1, z2, z3, by omega, z4⟩
    · obtain ⟨H03, s3, ok3, r3⟩ := yl x H' y
      refine go F H03 m2 H' σ2 δ2 x _ _ _ ok3 (rs2.mono s3) r3 h2 fun σ4 δ4 rs4 _ h4 => ?_
      have s13 := s1.trans (s2.trans s3)
      refine ⟨F, H03, m2, δ4, _, ok3, rs4, h4, ⟨fun σ5 H5 H05 m5 δ5 s5 ok5 rs5 h5 => ⟨H05, m5, δ5, (s2.trans s3).trans s5, ok5, rs5, h5⟩, (gd.mono s13).rt, (gd.mono s13).nx, fun σ5 H5 H05 m5 δ5 s5 ok5 rs5 h5 => ⟨H05, m5, δ5, (s2.trans s3).trans s5, ok5, rs5, h5⟩, (gd.mono s13).xx⟩⟩
  · have e : i = ds.length := by omega
    subst e
    rw [List.drop_length, sLoop_nil] at h2
    exact .inl ⟨(it F _ H2 H02 m2 s2 ok2 h2.1).2 rfl, gd.nx _ _ _ _ _ (s1.trans s2) ok2 rs2 h2.2⟩
/-! ### list comprehensions -/
def wipeD (δ : DSt) : List Nat → DSt
  | [] => δ
  | v :: vs => (wipeD δ vs).set v none
theorem RpS.wipe {K : PySem.W.Frag} {H0 : Hp} {σ : St} {δ : DSt} (r : RpS K H0 σ δ) : ∀ vs : List Nat, RpS K H0 (L2.wipe σ vs) (wipeD δ vs)
  | [] => r
  | v :: vs => (RpS.wipe r vs).clear v
theorem wipe_twice (σ : St) (vs : List Nat) : wipe (wipe σ vs) vs = wipe σ vs := wipe_same (wipe_length σ vs) fun i hi => by rw [wipe_get, if_neg fun z => hi z.1]
abbrev noX : DX := fun _ _ _ => False
abbrev noW : WX := fun _ _ _ _ => False
def rComp0 (Ph : Mu → Prop) (rg : DG) (qt : DT) (re : DE) (δ : DSt) (P : List D → Mu → Prop) : List D → List D → Mu → Prop
  | [], acc, m => Ph m ∧ P acc m
  | d :: ds, acc, m => Ph m ∧ rg d δ m fun δ' m' => qt δ' m' (fun k m1 => match k with
    | true => re δ' m1 (fun x m2 => acc.length < sizeLine ∧ rComp0 Ph rg qt re δ P ds (acc ++ [x]) m2) noX
    | false => rComp0 Ph rg qt re δ P ds acc m1) noX
@[irreducible] def rComp (Ph : Mu → Prop) (rg : DG) (qt : DT) (re : DE) (δ : DSt) (P : List D → Mu → Prop) (ds acc : List D) (m : Mu) : Prop := rComp0 Ph rg qt re δ P ds acc m
theorem rComp_nil {Ph : Mu → Prop} {rg : DG} {qt : DT} {re : DE} {δ : DSt} {P : List D → Mu → Prop} {acc : List D} {m : Mu} : rComp Ph rg qt re δ P [] acc m = (Ph m ∧ P acc m) := by unfold rComp; rfl
theorem rComp_cons {Ph : Mu → Prop} {rg : DG} {qt : DT} {re : DE} {δ : DSt} {P : List D → Mu → Prop} {d : D} {ds acc : List D} {m : Mu} : rComp Ph rg qt re δ P (d :: ds) acc m = (Ph m ∧ rg d δ m fun δ' m' => qt δ' m' (fun k m1 => match k with
    | true => re δ' m1 (fun x m2 => acc.length < sizeLine ∧ rComp Ph rg qt re δ P ds (acc ++ [x]) m2) noX
    | false => rComp Ph rg qt re δ P ds acc m1) noX) := by
  have e : rComp Ph rg qt re δ P ds = rComp0 Ph rg qt re δ P ds := by funext acc m; unfold rComp; rfl
  rw [e]
  unfold rComp
  rfl
def rLc (ri : DI) (js : List Nat) (rg : DG) (qt : DT) (re : DE) : DE := fun δ m P PX => ri δ m (fun Ph ds m1 => rComp Ph rg qt re (wipeD δ js) (fun acc m2 => P (.lst acc) m2) ds [] m1) PX
def rLcM (ri : DI) (js : List Nat) (rg : DG) (qt : DT) (re : DE) : DE := fun δ m P PX => ri δ m (fun Ph ds m1 => rComp Ph rg qt re (wipeD δ js) (fun acc m2 => ∀ q, m2 q = none → P (.adr q) (mset m2 q (.lst acc))) ds [] m1) PX
theorem Ok.addF {K : KW} {F H0 H : Hp} {m : Mu} {q : Addr} {o : HO} (ok : Ok K F H0 m H) (h : H q = none) : Ok K (upd F q o) H0 m (upd H q o) := by
  obtain ⟨h0, hm⟩ := ok.free h
  refine ⟨fun b u e => ?_, fun a u e => ?_, fun a u e => ?_, fun P q l => have t := ok.tab P q l; have n := t.ne_none h; t.step (fun _ _ z => z) t.h0 ((upd_ne n).trans t.hF) (upd_ne n)⟩
  · rw [upd_ne (ne_of_none e h0)]; exact ok.same b u e
  · have ha : a ≠ q := fun z => by rw [z, hm] at e; cases e
    obtain ⟨c1, c2⟩ := ok.cell a u e
    exact ⟨c1, c2.mono (Same.refl _) (upd_ne ha)⟩
  · by_cases ha : a = q
    · subst ha; rw [upd_same] at e ⊢; exact ⟨e, h0, hm⟩
    · rw [upd_ne ha] at e ⊢; exact ok.fr a u e
theorem Ok.reF {K : KW} {F H0 H : Hp} {m : Mu} {q : Addr} {o o' : HO} (ok : Ok K (upd F q o) H0 m H) : Ok K (upd F q o') H0 m (upd H q o') := by
  obtain ⟨h1, h0, hm⟩ := ok.fr q o upd_same
  refine ⟨fun b u e => ?_, fun a u e => ?_, fun a u e => ?_, fun P q l => have t := ok.tab P q l; have n := t.ne_frame upd_same; t.step (fun _ _ z => z) t.h0 ((upd_ne n).trans ((upd_ne n).symm.trans t.hF)) (upd_ne n)⟩
  · rw [upd_ne (ne_of_none e h0)]; exact ok.same b u e
  · have ha : a ≠ q := fun z => by rw [z, hm] at e; cases e
    obtain ⟨c1, c2⟩ := ok.cell a u e
    exact ⟨c1, c2.mono (Same.refl _) (upd_ne ha)⟩
  · by_cases ha : a = q
    · subst ha; rw [upd_same] at e ⊢; exact ⟨e, h0, hm⟩
    · rw [upd_ne ha] at e ⊢
      exact ok.fr a u (by rw [upd_ne ha]; exact e)
theorem Ok.promote {K : KW} {F H0 H : Hp} {m : Mu} {q : Addr} {o : HO} (ok : Ok K F H0 m H) (h : H q = some o) (h0 : H0 q = none) (hm : m q = none) (hF : F q = none) (ht : ∀ ps, o ≠ .tbl ps := by intro _ z; cases z) : Ok K F (upd H0 q o) m H := by
  refine ⟨fun b u e => ?_, fun a u e => ?_, fun a u e => ?_, fun P q l => have t := ok.tab P q l; t.step (same_new h0) ((upd_ne (t.ne_some h ht)).trans t.h0) t.hF rfl⟩
  · by_cases hb : b = q
    · subst hb; rw [upd_same] at e; cases e; exact h
    · rw [upd_ne hb] at e; exact ok.same b u e
  · have ha : a ≠ q := fun z => by rw [z, hm] at e; cases e
    obtain ⟨c1, c2⟩ := ok.cell a u e
    exact ⟨by rw [upd_ne ha]; exact c1, c2.mono (same_new h0) rfl⟩
  · have ha : a ≠ q := ne_of_none e hF
    obtain ⟨c1, c2, c3⟩ := ok.fr a u e
    exact ⟨c1, by rw [upd_ne ha]; exact c2, c3⟩
theorem Ok.own {K : KW} {F H0 H : Hp} {m : Mu} {q : Addr} {o : MO} (ok : Ok K F H0 m H) (h : MRep K H0 H q o) (h0 : H0 q = none) (hF : F q = none) : Ok K F H0 (mset m q o) H := by
  refine ⟨ok.same, fun a u e => ?_, fun a u e => ?_, ok.tab⟩
  · unfold mset at e
    by_cases ha : a = q
    · subst ha; rw [if_pos rfl] at e; cases e; exact ⟨h0, h⟩
    · rw [if_neg ha] at e; exact ok.cell a u e
  · have ha : a ≠ q := ne_of_none e hF
    obtain ⟨c1, c2, c3⟩ := ok.fr a u e
    exact ⟨c1, c2, by unfold mset; rw [if_neg ha]; exact c3⟩
theorem lc_lift {K : KW} {ri : DI} {g : TG} {rg : DG} {qt : DT} {re : DE} {js : List Nat} {Pf : DK → List D → Mu → Prop} (go : Gok K js g rg)
    (fin : ∀ F H0 m H q vs acc P Q, Ok K F H0 m H → H q = some (.lst vs) → H0 q = none → m q = none → F q = none → RpL K H0 vs acc → Pf P acc m → GV K F H0 P Q → Q (.ref q) H)
    {σ : St} {H : Hp} {Q : VK} (h : lE K W (fun δ m P PX => ri δ m (fun Ph ds m1 => rComp Ph rg qt re (wipeD δ js) (Pf P) ds [] m1) PX) σ H Q) : tLc (lI K W ri) g (lT K noW qt) (lE K noW re) js σ H Q := by
  obtain ⟨F, H0, m, δ, P, PX, ok, rs, h, gv, gx⟩ := h
  refine ⟨F, H0, m, δ, _, _, ok, rs, h, fun J H1 H01 m1 Ph ds s1 ok1 it ph h1 q hq => ?_, gx⟩
  have hF : F q = none := ok1.freeF hq
  refine ⟨fun i k H' => ∃ H0' m' vs acc, Same H01 H0' ∧ Ok K (upd F q (.lst vs)) H0' m' H' ∧ RpL K H0' vs acc ∧ i + k = ds.length ∧ rComp Ph rg qt re (wipeD δ js) (Pf P) (ds.drop i) acc m', ⟨ds.length, H01, m1, [], [], Same.refl _, ok1.addF hq, .nil, by omega, h1⟩, ?_⟩
  rintro i k H2 ⟨H02, m2, vs, acc, s2, ok2, rl, hik, h2⟩
  by_cases hlt : i < ds.length
  · have e1 : ds[i]? = some ds[i] := List.getElem?_eq_getElem hlt
    rw [List.drop_eq_getElem_cons hlt, rComp_cons] at h2
    obtain ⟨ph2, h2⟩ := h2
    obtain ⟨go1, yl⟩ := (it _ i H2 H02 m2 s2 ok2 ph2).1 _ e1
    refine .inr ⟨go1, fun H' => ∃ H0' m' vs acc, Same H01 H0' ∧ Ok K (upd F q (.lst vs)) H0' m' H' ∧ RpL K H0' vs acc ∧ rComp Ph rg qt re (wipeD δ js) (Pf P) (ds.drop (i + 1)) acc m', fun H' hN => ?_, fun x H' y => ?_⟩
    · obtain ⟨H0', m', vs', acc', z1, z2, z3, z4⟩ := hN
      exact ⟨k - 1, by omega, H0', m', vs', acc', z1, z2, z3, by omega, z4⟩
    · obtain ⟨H03, s3, ok3, r3⟩ := yl x H' y
      have rs3 := (rs.wipe js).mono (s1.trans (s2.trans s3))
      refine go _ H03 m2 H' _ _ x _ _ _ ok3 rs3 r3 h2 fun σ4 δ4 rs4 hw4 h4 => ⟨by rw [hw4, wipe_twice], ?_⟩
      refine ⟨_, H03, m2, δ4, _, noX, ok3, rs4, h4, fun b H5 H05 m5 s5 ok5 h5 => ?_, fun _ _ _ _ _ _ _ _ _ z => z⟩
      cases b with
      | false =>
        rw [if_neg Bool.false_ne_true]
        exact ⟨H05, m5, vs, acc, (s2.trans s3).trans s5, ok5, (rl.mono s3).mono s5, h5⟩
      | true =>
        rw [if_pos rfl]
        refine ⟨_, H05, m5, δ4, _, noX, ok5, rs4.mono s5, h5, fun y H6 H06 m6 d6 s6 ok6 r6 h6 => ?_, fun _ _ _ _ _ _ _ _ _ z => z⟩
        have rl6 := ((rl.mono s3).mono s5).mono s6
        exact ⟨vs, (ok6.fr q _ upd_same).1, by rw [rl6.length]; exact h6.1, H06, m6, vs ++ [y], acc ++ [d6], ((s2.trans s3).trans s5).trans s6, ok6.reF, rl6.snoc r6, h6.2⟩
  · have e : i = ds.length := by omega
    subst e
    rw [List.drop_length, rComp_nil] at h2
    obtain ⟨ok3, z1, z2, z3⟩ := ok2.unframe hF
    exact .inl ⟨(it _ _ H2 H02 m2 s2 ok2 h2.1).2 rfl, fin F H02 m2 H2 q vs acc P Q ok3 z1 z2 z3 hF rl h2.2 (gv.mono (s1.trans s2))⟩
theorem lc_fin {K : KW} : ∀ F H0 m H q vs acc P Q, Ok K F H0 m H → H q = some (.lst vs) → H0 q = none → m q = none → F q = none → RpL K H0 vs acc → P (.lst acc) m → GV K F H0 P Q → Q (.ref q) H :=
  fun F H0 m H q vs acc P Q ok h h0 hm hF r h1 g => g _ _ (upd H0 q (.lst vs)) m _ (same_new h0) (ok.promote h h0 hm hF) (.lst (SqL.of upd_same) (r.mono (same_new h0))) h1
theorem lc_finM {K : KW} : ∀ F H0 m H q vs acc P Q, Ok K F H0 m H → H q = some (.lst vs) → H0 q = none → m q = none → F q = none → RpL K H0 vs acc → (∀ q, m q = none → P (.adr q) (mset m q (.lst acc))) → GV K F H0 P Q → Q (.ref q) H :=
  fun F H0 m H q vs acc P Q ok h h0 hm hF r h1 g => g _ _ H0 _ _ (Same.refl _) (ok.own (o := .lst acc) ⟨vs, h, r⟩ h0 hF) (.adr q) (h1 q hm)
variable {ifs : List Expr} {scope : Scope} {own : List (Str × Nat)} {ri : DI} {g : TG} {rg : DG} {qt : DT} {re : DE}
theorem pd_lc {elt iter : Expr} {js : List Nat} (hc : X.calm = true) (hN : X.N.Nodup) (hi : PI X tg iter (lI (kw X) W ri)) (ok : BlkOk X.N X.env.scope scope own) (go : Gok (kw X) js g rg) (hj : own.map (·.2) = js)
    (hg : ∀ (s : Shared) (H : Hp) (C : Addr) (cl : List (Str × Addr)) (fp : List Addr), PG (X.blk s H scope (compEnvC scope cl C X.env) fp) tg g) (ht : ∀ (s : Shared) (H : Hp) (C : Addr) (cl : List (Str × Addr)) (fp : List Addr), PTs (X.blk s H scope (compEnvC scope cl C X.env) fp) ifs (lT (kw X) noW qt))
    (he : ∀ (s : Shared) (H : Hp) (C : Addr) (cl : List (Str × Addr)) (fp : List Addr), PE (X.blk s H scope (compEnvC scope cl C X.env) fp) elt (lE (kw X) noW re)) (hs : ∀ x, foldedSetIterable iter X.env x = pure x := by intro _; rfl) :
    PE X (.ListComp elt [⟨tg, iter, ifs, 0⟩] scope pos) (lE (kw X) W (rLc ri js rg qt re)) := by
  subst hj
  exact PE.imp (pe_lc hc hN hi ok hg ht he hs) fun _ _ _ h => lc_lift go lc_fin h
theorem ds_setLc {elt iter : Expr} {js : List Nat} {i : Nat} {y : Str} {py spos : Pos} (hc : X.calm = true) (hN : X.N.Nodup) (hsw : swapsWith (.ListComp elt [⟨tg, iter, ifs, 0⟩] scope pos) (some (.Name y py)) spos.line X.env = pure true) (hi : PI X tg iter (lI (kw X) W ri)) (ok : BlkOk X.N X.env.scope scope own) (go : Gok (kw X) js g rg) (hj : own.map (·.2) = js)
    (hg : ∀ (s : Shared) (H : Hp) (C : Addr) (cl : List (Str × Addr)) (fp : List Addr), PG (X.blk s H scope (compEnvC scope cl C X.env) fp) tg g) (ht : ∀ (s : Shared) (H : Hp) (C : Addr) (cl : List (Str × Addr)) (fp : List Addr), PTs (X.blk s H scope (compEnvC scope cl C X.env) fp) ifs (lT (kw X) noW qt))
    (he : ∀ (s : Shared) (H : Hp) (C : Addr) (cl : List (Str × Addr)) (fp : List Addr), PE (X.blk s H scope (compEnvC scope cl C X.env) fp) elt (lE (kw X) noW re)) (hy : X.N[i]? = some y := by rfl) (hyl : X.env.scope.names.lookup y = some .local := by rfl) (hs : ∀ x, foldedSetIterable iter X.env x = pure x := by intro _; rfl) :
    PS X (.Assign [.Name y py] (.ListComp elt [⟨tg, iter, ifs, 0⟩] scope pos) spos) (lS (kw X) W (sSet i (rLc ri js rg qt re))) := by
  subst hj
  refine PS.imp (ps_setLc (i := i) hc hN hy hyl hsw hi ok hg ht he hs) fun Dn σ H h => ?_
  obtain ⟨F, H0, m, δ, DD, ok, rs, h, gd⟩ := h
  unfold sSet rLc at h
  refine lc_lift go lc_fin (Q := fun x H1 => gName i x σ H1 Dn.nx) ⟨F, H0, m, δ, fun d m1 => DD.nx (δ.set i (some d)) m1, fun c fs m1 => DD.xx c fs δ m1, ok, rs, h, fun v H1 H01 m1 d s1 ok1 r1 h1 => gd.nx _ _ _ _ _ s1 ok1 ((rs.mono s1).set r1 i) h1, gd.xx.at_ rs⟩
def qYes : DT := fun _ m P _ => P true m
theorem PTs.imp {X : Cx} {e : List Expr} {t t' : TT} (h : PTs X e t) (k : ∀ σ H Q, t' σ H Q → t σ H Q) : PTs X e t' := ⟨fun pins s σ H Q I w => h.run pins s σ H Q I (k σ H Q w)⟩
theorem dts_nil : PTs X [] (lT (kw X) W qYes) := PTs.imp pts_nil fun σ H Q h => by
  obtain ⟨F, H0, m, δ, P, PX, ok, rs, h, g, gx⟩ := h
  exact g _ _ _ _ (Same.refl _) ok h
theorem dts_one (h : PT X c (lT (kw X) W qt)) : PTs X [c] (lT (kw X) W qt) := pts_one h
end
/-! ### a def -/
def dstart (N : List Str) (ds : List D) : DSt := ds.map some ++ List.replicate (N.length - ds.length) none
def dEnds (P : DK) (PX : DX) : DEnds := { nx := fun _ m => P .non m, rt := P, bk := fun _ _ => False, ct := fun _ _ => False, xx := fun c fs _ m => PX c fs m }
theorem rps_start {K : PySem.W.Frag} {H0 : Hp} {N : List Str} {vs : List V} {ds : List D} (r : RpL K H0 vs ds) : RpS K H0 (L2.start N vs) (dstart N ds) := by
  have hl := r.length
  refine ⟨by simp [L2.start, dstart, hl], fun i d e => ?_⟩
  unfold dstart at e
  unfold L2.start
  by_cases hi : i < ds.length
  · rw [List.getElem?_append_left (by simpa using hi), List.getElem?_map] at e
    cases e2 : ds[i]? with
    | none => rw [e2] at e; cases e
    | some d' =>
      rw [e2] at e
      cases e
      obtain ⟨v, e3, rv⟩ := r.get e2
      exact ⟨v, by rw [List.getElem?_append_left (by simpa [hl] using hi), List.getElem?_map, e3]; rfl, rv⟩
  · rw [List.getElem?_append_right (by simpa using hi)] at e
    rw [List.getElem?_replicate] at e
    split at e <;> cases e
section
variable {P : Program} {w : World} {K : PySem.W.Frag} {mg : Str → Option Value} {base : Heap}
theorem fn_ok {x qual : Str} {st : Stmt} {f : Addr} {fd : FuncData} {N ps : List Str} {k : Nat} {sp : SpD} {r : DS} (G : Fun K x qual st f fd) (S : FnScope N ps (defScope st)) (hlen : ∀ ds m Q PX, sp ds m Q PX → ds.length = ps.length)
    (hd : ∀ (cdv : Value) (A : Around) (outer : List Env) (s : Shared) (H : Hp) (E : XK), Room k (A.deeper (PyProof.Rows.envOfC qual (defScope st) s.heap.objs.size f cdv)) →
      PSs (cxOf (L2.CX P w) P w K mg base N qual (defScope st) f cdv A outer s H E) (defBody st) (lS ⟨K, w⟩ (fun c d _ H => E c d H) r))
    (hp : ∀ ds m Q PX, sp ds m Q PX → r (dEnds Q PX) (dstart N ds) m) : FnOk P w K mg base (L2.CX P w) (k + 1) f fd ps (lP ⟨K, w⟩ sp) := by
  refine G.okX S (fun vs H Q E h => ?_) (fun cdv A outer s H vs Q E hr h => ⟨_, hd cdv A outer s H E hr, ?_⟩)
  · obtain ⟨F, H0, m, ds, Q', PX, ok, rl, h, _⟩ := h
    exact rl.length.trans (hlen _ _ _ _ h)
  · obtain ⟨F, H0, m, ds, Q', PX, ok, rl, h, g, gx⟩ := h
    exact ⟨F, H0, m, _, _, ok, rps_start rl, hp ds m Q' PX h, ⟨fun σ' H' H0' m' δ' s ok' _ z => g _ _ _ _ _ s ok' .non z, g, fun _ _ _ _ _ _ _ _ z => z.elim, fun _ _ _ _ _ _ _ _ z => z.elim, fun c xd σ' H' H0' m' fs δ' s ok' _ x z => gx c xd H' H0' m' fs s ok' x z⟩⟩
end
/-! ### the law -/
theorem rpl_ints {K : PySem.W.Frag} {H : Hp} : ∀ ns : List Int, RpL K H (ns.map V.int) (ns.map D.int)
  | [] => .nil
  | n :: ns => .cons (.int n) (rpl_ints ns)
def spLaw : SpD := fun ds _ P _ => ∃ ns : List Int, ds = [.lst (ns.map .int)] ∧ ns.length ≤ 63 ∧ ∀ m, P (.bl true) m
theorem law_sp (K : KW) (NL : NoLam K.fr) (H : Hp) (a : Addr) (ns : List Int) (hl : ns.length ≤ 63) (hS : SqL K H a (ns.map V.int)) : lP K spLaw [.ref a] H (fun v _ => v = .bl true) fun _ _ _ => False :=
  ⟨fun _ => none, H, fun _ => none, [.lst (ns.map .int)], fun d _ => d = .bl true, fun _ _ _ => False, ⟨Same.refl _, fun _ _ e => (by cases e), fun _ _ e => (by cases e), fun P q l => (NL P q l).elim⟩, .cons (.lst hS (rpl_ints ns)) .nil, ⟨ns, rfl, hl, fun _ => rfl⟩, fun v H' H0' m' d _ _ r e => by subst e; cases r; rfl, fun _ _ _ _ _ _ _ _ _ z => z⟩
theorem cx_false {P : Program} {w : World} {H : Hp} {s : Shared} {e : Value} {s' : Shared} (h : L2.CX P w [] H s (fun _ _ _ => False) e s') : False := by
  obtain ⟨_, _, _, _, _, _, _, _, _, _, _, _, z⟩ := h
  exact z
end DL
namespace DL
open PySem L2
theorem units65 {k : Nat} {A : Around} (r : Room k A) : A.units + 65 < cLine := by have := r.un; omega
/-! ### a def of the text by its name -/
def FunAt (K : PySem.W.Frag) (mg : Str → Option Value) (x qual : Str) (st : Stmt) : Prop := ∃ f fd, mg x = some (.ref f) ∧ Fun K x qual st f fd
theorem funAt_mk {K : PySem.W.Frag} {h : Heap} {mg : Str → Option Value} {x : Str} {st : Stmt} {f : Addr} {oc : Value} {od an : Option Addr} {osl : Array (Option Value)} {kV doc pm cdv ct : Value} (X : K.In h) (G : h.Ns mainGlobals mg)
    (a : PySem.W.nsIn K mainGlobals x = some (some (.ref f))) (l : K.lookup f = some ⟨oc, od, .func (PySem.W.fnOf x x (defArgs st) (defBody st) (defScope st) .none kV doc pm an cdv ct), osl⟩)
    (c : PySem.W.codeIn K cdv x = true) (k : PySem.W.keepIn K (.ref f) = true) : FunAt K mg x x st := ⟨f, _, PySem.W.mg_of X G a, fun_mk l c k⟩
structure DefOk (P : Program) (w : World) (K : PySem.W.Frag) (mg : Str → Option Value) (base : Heap) (k : Nat) (x qual : Str) (st : Stmt) (ps : List Str) (sp : SpD) : Prop where
  ex : ∃ f fd, mg x = some (.ref f) ∧ Fun K x qual st f fd ∧ FnOk P w K mg base (L2.CX P w) k f fd ps (lP ⟨K, w⟩ sp)
def BindAll (x qual : Str) (st : Stmt) (ps : List Str) : Prop := ∀ (kV doc pm : Value) (an : Option Addr) (cdv ct : Value) (us : List Value), us.length = ps.length → bindArgs (PySem.W.fnOf x qual (defArgs st) (defBody st) (defScope st) .none kV doc pm an cdv ct) ⟨us, []⟩ = pure (ps.zip us)
section
variable {P : Program} {w : World} {K : PySem.W.Frag} {mg : Str → Option Value} {base : Heap}
theorem def_ok {x qual : Str} {st : Stmt} {N ps : List Str} {k : Nat} {sp : SpD} {r : DS} (G : FunAt K mg x qual st) (S : FnScope N ps (defScope st)) (hlen : ∀ ds m Q PX, sp ds m Q PX → ds.length = ps.length)
    (hd : ∀ (f : Addr) (cdv : Value) (A : Around) (outer : List Env) (s : Shared) (H : Hp) (E : XK), Room k (A.deeper (PyProof.Rows.envOfC qual (defScope st) s.heap.objs.size f cdv)) →
      PSs (cxOf (L2.CX P w) P w K mg base N qual (defScope st) f cdv A outer s H E) (defBody st) (lS ⟨K, w⟩ (fun c d _ H => E c d H) r))
    (hp : ∀ ds m Q PX, sp ds m Q PX → r (dEnds Q PX) (dstart N ds) m) : DefOk P w K mg base (k + 1) x qual st ps sp := by
  obtain ⟨f, fd, e, G⟩ := G
  exact ⟨f, fd, e, G, fn_ok G S hlen (hd f) hp⟩
theorem DefOk.mono {x qual : Str} {st : Stmt} {ps : List Str} {j k : Nat} {sp : SpD} (G : DefOk P w K mg base j x qual st ps sp) (h : j ≤ k) : DefOk P w K mg base k x qual st ps sp := by
  obtain ⟨f, fd, e, G1, G2⟩ := G.ex
  exact ⟨f, fd, e, G1, G2.mono h⟩
end
section
variable {X : Cx} {W : WX} {pos p : Pos} {e : Expr} {es : List Expr} {qs qk : DA} {k : Nat} {ps ks : List Str} {sp : SpD} {x qual : Str} {st : Stmt}
theorem pd_callD (G : DefOk X.prog X.w X.K X.mg X.base k x qual st ps sp) (B : BindAll x qual st ps) (hr : Room k X.A) (tk : Takes X W)
    (ha : PA X (e :: es) (lA (kw X) W qs)) (hg : Gl X x := by rfl) (hdb : (x == ("__debug__" : Str)) = false := by decide) (he : starEach (e :: es) X.env = (false, eval e X.env) :: starEach es X.env := by rfl) (hpl : (backTo pos (starEach es X.env)).any (·.1) = false := by rfl) :
    PE X (.Call (.Name x p) (e :: es) [] pos) (lE (kw X) W (rCall sp [] qs)) := by
  obtain ⟨f, fd, hm, G1, G2⟩ := G.ex
  exact pd_call G2 hr hm G1.kp (G1.binds B) .nil (fun _ => .nil) tk ha hg hdb he hpl
/-- the arguments in the parameters' order: by their places, positional ones first, then keywords -/
def gI {α : Type} (ix : List Nat) (us ws : List α) : List α := ix.filterMap fun i => (us ++ ws)[i]?
theorem gI_rp {K : PySem.W.Frag} {H : Hp} {vs zs : List V} {ds es : List D} (r1 : RpL K H vs ds) (r2 : RpL K H zs es) : ∀ ix : List Nat, RpL K H (gI ix vs zs) (gI ix ds es)
  | [] => .nil
  | i :: ix => by
    have ih := gI_rp r1 r2 ix
    have r := r1.append r2
    unfold gI at ih ⊢
    rw [List.filterMap_cons, List.filterMap_cons]
    cases h : (ds ++ es)[i]? with
    | none =>
      have h2 : (vs ++ zs)[i]? = none := by
        have := List.getElem?_eq_none_iff.mp h
        exact List.getElem?_eq_none_iff.mpr (by rw [r.length]; exact this)
      rw [h2]
      exact ih
    | some d =>
      obtain ⟨v, h2, q⟩ := r.get h
      rw [h2]
      exact .cons q ih
theorem gI_vals {vs zs : List V} {us ws : List Value} (r1 : Vals vs us) (r2 : Vals zs ws) : ∀ ix : List Nat, Vals (gI ix vs zs) (gI ix us ws)
  | [] => .nil
  | i :: ix => by
    have ih := gI_vals r1 r2 ix
    have r : Vals (vs ++ zs) (us ++ ws) := r1.append r2
    unfold gI at ih ⊢
    rw [List.filterMap_cons, List.filterMap_cons]
    cases h : (vs ++ zs)[i]? with
    | none => rw [r.none_of h]; exact ih
    | some d =>
      obtain ⟨v, h2, q⟩ := r.get h
      rw [h2]
      exact .cons q ih
def BindKw (x qual : Str) (st : Stmt) (ps : List Str) (n : Nat) (ks : List Str) (ix : List Nat) : Prop := ∀ (kV doc pm : Value) (an : Option Addr) (cdv ct : Value) (us ws : List Value), us.length = n → ws.length = ks.length → bindArgs (PySem.W.fnOf x qual (defArgs st) (defBody st) (defScope st) .none kV doc pm an cdv ct) ⟨us, ks.zip ws⟩ = pure (ps.zip (gI ix us ws))
end
end DL
namespace DL
open PySem L2
section
variable {X : Cx} {W : WX} {a b c : Expr} {ra rb rc : DE} {pos p : Pos}
def rNeg (ra : DE) : DE := fun δ m P PX => ra δ m (fun x m1 => match x with | .int i => P (.int (-i)) m1 | _ => False) PX
theorem pd_neg (ha : PE X a (lE (kw X) W ra)) : PE X (.UnaryOp .USub a pos) (lE (kw X) W (rNeg ra)) := by
  refine PE.imp (pe_un un_neg ha) fun σ H Q h => ?_
  obtain ⟨F, H0, m, δ, P, PX, ok, rs, h, g, gx⟩ := h
  refine ⟨F, H0, m, δ, _, PX, ok, rs, h, fun x H1 H01 m1 d s1 ok1 r1 h1 => ?_, gx⟩
  dsimp only at h1
  split at h1
  · cases r1
    exact ⟨_, rfl, g _ _ _ _ _ s1 ok1 (.int _) h1⟩
  · exact h1.elim
/-! ### dicts that are handed about -/
def rDct0 : DE := fun _ m P _ => P (.dct []) m
theorem pd_dct0 : PE X (.Dict [] [] pos) (lE (kw X) W rDct0) := by
  refine PE.imp pe_dnewK fun σ H Q h => ?_
  obtain ⟨F, H0, m, δ, P, PX, ok, rs, h, g, gx⟩ := h
  exact fun q hq => g _ _ _ _ _ (same_new (ok.free hq).1) (ok.new hq (.dK [])) (.dct (kvs := []) upd_same rfl .nil) h
def keyD : D → Option Key
  | .int i => some (.inl i)
  | .str x => some (.inr x)
  | _ => none
def rDct1 (ra rb : DE) : DE := fun δ m P PX => ra δ m (fun x m1 => rb δ m1 (fun y m2 => match keyD x with
  | some k => P (.dct [(k, y)]) m2
  | none => False) PX) PX
theorem keyD_rp {K : PySem.W.Frag} {H : Hp} {v : V} {d : D} {k : Key} (r : Rp K H v d) (h : keyD d = some k) : v = kV k := by
  cases r <;> first | (cases h; rfl) | cases h
end
end DL
namespace DL
open PySem L2
theorem constS_mk {K : PySem.W.Frag} {h : Heap} {mg : Str → Option Value} {x z : Str} {u : Value} (X : K.In h) (G : h.Ns mainGlobals mg) (a : PySem.W.nsIn K mainGlobals x = some (some u)) (r : ∃ t, u = .str z t) : ∃ t, mg x = some (.str z t) := by
  obtain ⟨t, rfl⟩ := r
  exact ⟨t, PySem.W.mg_of X G a⟩
theorem constI_mk {K : PySem.W.Frag} {h : Heap} {mg : Str → Option Value} {x : Str} {z : Int} {u : Value} (X : K.In h) (G : h.Ns mainGlobals mg) (a : PySem.W.nsIn K mainGlobals x = some (some u)) (r : ∃ t, u = .int z t) : ∃ t, mg x = some (.int z t) := by
  obtain ⟨t, rfl⟩ := r
  exact ⟨t, PySem.W.mg_of X G a⟩
end DL
namespace DL
open PySem L2
theorem isB_NoneType_int : isB "NoneType" "int" = some false := by decide +kernel
theorem isB_NoneType_bool : isB "NoneType" "bool" = some false := by decide +kernel
theorem isB_NoneType_str : isB "NoneType" "str" = some false := by decide +kernel
theorem isB_NoneType_tuple : isB "NoneType" "tuple" = some false := by decide +kernel
theorem isB_NoneType_list : isB "NoneType" "list" = some false := by decide +kernel
theorem isB_NoneType_dict : isB "NoneType" "dict" = some false := by decide +kernel
theorem isB_bool_int : isB "bool" "int" = some true := by decide +kernel
theorem isB_bool_bool : isB "bool" "bool" = some true := by decide +kernel
theorem isB_bool_str : isB "bool" "str" = some false := by decide +kernel
theorem isB_bool_tuple : isB "bool" "tuple" = some false := by decide +kernel
theorem isB_bool_list : isB "bool" "list" = some false := by decide +kernel
theorem isB_bool_dict : isB "bool" "dict" = some false := by decide +kernel
theorem isB_int_int : isB "int" "int" = some true := by decide +kernel
theorem isB_int_bool : isB "int" "bool" = some false := by decide +kernel
theorem isB_int_str : isB "int" "str" = some false := by decide +kernel
theorem isB_int_tuple : isB "int" "tuple" = some false := by decide +kernel
theorem isB_int_list : isB "int" "list" = some false := by decide +kernel
theorem isB_int_dict : isB "int" "dict" = some false := by decide +kernel
theorem isB_str_int : isB "str" "int" = some false := by decide +kernel
theorem isB_str_bool : isB "str" "bool" = some false := by decide +kernel
theorem isB_str_str : isB "str" "str" = some true := by decide +kernel
theorem isB_str_tuple : isB "str" "tuple" = some false := by decide +kernel
theorem isB_str_list : isB "str" "list" = some false := by decide +kernel
theorem isB_str_dict : isB "str" "dict" = some false := by decide +kernel
theorem isB_list_int : isB "list" "int" = some false := by decide +kernel
theorem isB_list_bool : isB "list" "bool" = some false := by decide +kernel
theorem isB_list_str : isB "list" "str" = some false := by decide +kernel
theorem isB_list_tuple : isB "list" "tuple" = some false := by decide +kernel
theorem isB_list_list : isB "list" "list" = some true := by decide +kernel
theorem isB_list_dict : isB "list" "dict" = some false := by decide +kernel
theorem isB_tuple_int : isB "tuple" "int" = some false := by decide +kernel
theorem isB_tuple_bool : isB "tuple" "bool" = some false := by decide +kernel
theorem isB_tuple_str : isB "tuple" "str" = some false := by decide +kernel
theorem isB_tuple_tuple : isB "tuple" "tuple" = some true := by decide +kernel
theorem isB_tuple_list : isB "tuple" "list" = some false := by decide +kernel
theorem isB_tuple_dict : isB "tuple" "dict" = some false := by decide +kernel
theorem isB_dict_int : isB "dict" "int" = some false := by decide +kernel
theorem isB_dict_bool : isB "dict" "bool" = some false := by decide +kernel
theorem isB_dict_str : isB "dict" "str" = some false := by decide +kernel
theorem isB_dict_tuple : isB "dict" "tuple" = some false := by decide +kernel
theorem isB_dict_list : isB "dict" "list" = some false := by decide +kernel
theorem isB_dict_dict : isB "dict" "dict" = some true := by decide +kernel
/-- the words of the readings, unfolded -/
local macro_rules | `(tactic| walk_at "dl") => `(tactic| simp only [rV, rC, rOp, rNil, rCons, rTup, rLst, rLstM, rCB, rCall, rCallK, rAndV, rOrV, rNotV, rIfE, rTru, rTst, rAnd, rOr, rNot, rChain, rSl, rNoP, rPart, rJoin, rApp, rLc, rLcM, rNeg, rDct0, rDct1, sSeq, sSet, sRet, sIf, sExpr, sNext, sFor, sSetIx, iAny, iRange, iEnumD, qYes, gN, gT, asg, wipeD, dEnds, dstart, oAdd, oI, oI0, oSub, oMul, oDiv, oMod, oPow, oLt, oLe, oGt, oGe, oIx, oSl, cLen, cInt, cStr, cLst, cTup, cIsi, asL, asLT, tyN, truD, gI, oIsN, isNone, isB_NoneType_int, isB_NoneType_bool, isB_NoneType_str, isB_NoneType_tuple, isB_NoneType_list, isB_NoneType_dict, isB_bool_int, isB_bool_bool, isB_bool_str, isB_bool_tuple, isB_bool_list, isB_bool_dict, isB_int_int, isB_int_bool, isB_int_str, isB_int_tuple, isB_int_list, isB_int_dict, isB_str_int, isB_str_bool, isB_str_str, isB_str_tuple, isB_str_list, isB_str_dict, isB_list_int, isB_list_bool, isB_list_str, isB_list_tuple, isB_list_list, isB_list_dict, isB_tuple_int, isB_tuple_bool, isB_tuple_str, isB_tuple_tuple, isB_tuple_list, isB_tuple_dict, isB_dict_int, isB_dict_bool, isB_dict_str, isB_dict_tuple, isB_dict_list, isB_dict_dict, List.getElem?_cons_zero, List.getElem?_cons_succ, List.set_cons_zero, List.set_cons_succ, List.map_cons, List.map_nil, List.length_cons, List.length_nil, List.cons_append, List.nil_append, List.append_nil, List.replicate, Nat.sub_self, Nat.reduceSub, Nat.reduceAdd, List.filterMap_cons, List.filterMap_nil, Bool.not_true, Bool.not_false, if_true, if_false, Bool.false_eq_true])
end DL
namespace DL
open PySem L2
/-! ### reading loops and comprehensions -/
section
variable {Ph : Mu → Prop} {rg : DG} {rb : DS} {DD : DEnds} {qt : DT} {re : DE} {δ : DSt} {P : List D → Mu → Prop}
theorem loop_inv {ds : List D} (I : Nat → DSt → Mu → Prop) (hs : ∀ (i : Nat) d δ m, ds[i]? = some d → I i δ m → Ph m ∧ ∀ Nx : DSt → Mu → Prop, (∀ δ' m', I (i + 1) δ' m' → Nx δ' m') → rg d δ m fun δ' m' => rb { DD with nx := Nx, ct := Nx, bk := DD.nx } δ' m')
    (hd : ∀ δ m, I ds.length δ m → Ph m ∧ DD.nx δ m) {δ : DSt} {m : Mu} (h0 : I 0 δ m) : sLoop Ph rg rb DD ds δ m := by
  have go : ∀ (k i : Nat) δ m, i + k = ds.length → I i δ m → sLoop Ph rg rb DD (ds.drop i) δ m := by
    intro k
    induction k with
    | zero =>
      intro i δ m e h
      have e : i = ds.length := by omega
      subst e
      rw [List.drop_length, sLoop_nil]
      exact hd δ m h
    | succ k ih =>
      intro i δ m e h
      have hlt : i < ds.length := by omega
      rw [List.drop_eq_getElem_cons hlt, sLoop_cons]
      obtain ⟨ph, h2⟩ := hs i _ δ m (List.getElem?_eq_getElem hlt) h
      exact ⟨ph, h2 _ fun δ' m' h' => ih (i + 1) δ' m' (by omega) h'⟩
  exact go ds.length 0 δ m (by omega) h0
theorem comp_inv {ds : List D} (I : Nat → List D → Mu → Prop) (hl : ∀ (i : Nat) acc m, I i acc m → acc.length ≤ i) (hn : ds.length ≤ 16777216)
    (hs : ∀ (i : Nat) d acc m, ds[i]? = some d → I i acc m → Ph m ∧ ∀ (Kt : D → Mu → Prop) (Kf : Mu → Prop), (∀ x m2, I (i + 1) (acc ++ [x]) m2 → Kt x m2) → (∀ m1, I (i + 1) acc m1 → Kf m1) → rg d δ m fun δ' m' => qt δ' m' (fun k m1 => match k with
      | true => re δ' m1 Kt noX
      | false => Kf m1) noX)
    (hd : ∀ acc m, I ds.length acc m → Ph m ∧ P acc m) {m : Mu} (h0 : I 0 [] m) : rComp Ph rg qt re δ P ds [] m := by
  have go : ∀ (k i : Nat) acc m, i + k = ds.length → I i acc m → rComp Ph rg qt re δ P (ds.drop i) acc m := by
    intro k
    induction k with
    | zero =>
      intro i acc m e h
      have e : i = ds.length := by omega
      subst e
      rw [List.drop_length, rComp_nil]
      exact hd acc m h
    | succ k ih =>
      intro i acc m e h
      have hlt : i < ds.length := by omega
      rw [List.drop_eq_getElem_cons hlt, rComp_cons]
      obtain ⟨ph, h2⟩ := hs i _ acc m (List.getElem?_eq_getElem hlt) h
      have hz : acc.length < sizeLine := by
        have h3 := hl i acc m h
        have h4 : sizeLine = 16777216 := sizeLine_eq
        omega
      exact ⟨ph, h2 (fun x m2 => acc.length < sizeLine ∧ rComp Ph rg qt re δ P (ds.drop (i + 1)) (acc ++ [x]) m2) (fun m1 => rComp Ph rg qt re δ P (ds.drop (i + 1)) acc m1) (fun x m2 h' => ⟨hz, ih (i + 1) _ m2 (by omega) h'⟩) (fun m1 h' => ih (i + 1) _ m1 (by omega) h')⟩
  exact go ds.length 0 [] m (by omega) h0
/-- where nothing changes -/
theorem comp_fm {ds : List D} {j : Nat} {m : Mu} (p : D → Bool) (f : D → D) (hn : ds.length ≤ 16777216) (ph : Ph m) (ht : ∀ d ∈ ds, ∀ Q : Bool → Mu → Prop, Q (p d) m → qt (δ.set j (some d)) m Q noX) (he : ∀ d ∈ ds, p d = true → ∀ Q : DK, Q (f d) m → re (δ.set j (some d)) m Q noX)
    (h : P ((ds.filter p).map f) m) : rComp Ph (gN j) qt re δ P ds [] m := by
  refine comp_inv (fun i acc m' => m' = m ∧ acc = ((ds.take i).filter p).map f) (fun i acc m' h => ?_) hn (fun i d acc m' e h => ?_) (fun acc m' h => ?_) ⟨rfl, by simp⟩
  · rw [h.2, List.length_map]
    exact Nat.le_trans (List.length_filter_le _ _) (by rw [List.length_take]; omega)
  · obtain ⟨rfl, rfl⟩ := h
    refine ⟨ph, fun Kt Kf h1 h2 => ?_⟩
    have hm := List.mem_of_getElem? e
    have e2 : ds.take (i + 1) = ds.take i ++ [d] := by
      rw [List.take_succ, e]; rfl
    show qt (δ.set j (some d)) m' _ noX
    refine ht d hm _ ?_
    cases hp : p d with
    | true => exact he d hm hp _ (h1 _ _ ⟨rfl, by rw [e2]; simp [hp]⟩)
    | false => exact h2 _ ⟨rfl, by rw [e2]; simp [hp]⟩
  · obtain ⟨rfl, rfl⟩ := h
    rw [List.take_length]
    exact ⟨ph, h⟩
theorem comp_map {ds : List D} {j : Nat} {m : Mu} (f : D → D) (hn : ds.length ≤ 16777216) (ph : Ph m) (he : ∀ d ∈ ds, ∀ Q : DK, Q (f d) m → re (δ.set j (some d)) m Q noX)
    (h : P (ds.map f) m) : rComp Ph (gN j) qYes re δ P ds [] m :=
  comp_fm (fun _ => true) f hn ph (fun _ _ _ q => q) (fun d hd _ => he d hd) (by rw [List.filter_eq_self.mpr (fun _ _ => rfl)]; exact h)
end
/-! ### what is ours -/
theorem mset_same {m : Mu} {a : Addr} {o : MO} : mset m a o a = some o := by unfold mset; rw [if_pos rfl]
theorem mset_ne {m : Mu} {a b : Addr} {o : MO} (h : b ≠ a) : mset m a o b = m b := by unfold mset; rw [if_neg h]
theorem asL_adr {m : Mu} {a : Addr} {ds : List D} (h : m a = some (.lst ds)) : asL m (.adr a) = some ds := by unfold asL; dsimp only; rw [h]
/-- things that may be handed about -/
def plain : D → Bool
  | .ty _ => false
  | .adr _ => false
  | .glb _ => false
  | .exc _ _ _ _ _ => false
  | .ins _ _ => false
  | _ => true
/-- a text's size -/
theorem len_line {n : Nat} (h : n ≤ 1000000) : n ≤ sizeLine := Nat.le_trans h (by decide)
/-! ### a well: three numbers -/
structure Wl (m : Mu) (w : Addr) (k : Nat) : Prop where
  ex : ∃ a b c : Int, m w = some (.lst [.int a, .int b, .int c]) ∧ 0 ≤ b ∧ b < 2147483629 ∧ 0 ≤ c ∧ c ≤ k
/-- nothing but the well has changed -/
def Only1 (w : Addr) (m m' : Mu) : Prop := ∀ a, a ≠ w → m' a = m a
theorem Only1.refl (w : Addr) (m : Mu) : Only1 w m m := fun _ _ => rfl
theorem Only1.trans {w : Addr} {m m1 m2 : Mu} (a : Only1 w m m1) (b : Only1 w m1 m2) : Only1 w m m2 := fun x h => (b x h).trans (a x h)
theorem Wl.mono {m : Mu} {w : Addr} {k j : Nat} (h : Wl m w k) (hj : k ≤ j) : Wl m w j := by
  obtain ⟨a, b, c, e, h1, h2, h3, h4⟩ := h.ex
  exact ⟨a, b, c, e, h1, h2, h3, by omega⟩
def spDraw : SpD := fun ds m P _ => ∃ (w : Addr) (many : Int) (k : Nat), ds = [.adr w, .int many] ∧ Wl m w k ∧ k ≤ 1000000000 ∧ 0 < many ∧ many.natAbs < 2 ^ 200 ∧
  ∀ (r : Int) m', 0 ≤ r → r < many → Only1 w m m' → Wl m' w (k + 1) → P (.int r) m'
def spWell : SpD := fun ds m P _ => ∃ c : Int, ds = [.int c] ∧ ∀ w m', m w = none → Only1 w m m' → Wl m' w 0 → P (.adr w) m'
def spCellAt : SpD := fun ds m P _ => ∃ (ns : List Int) (k : Nat), ds = [.lst (ns.map .int), .int k] ∧ ∀ c : Int, P (.int c) m
end DL
namespace DL
open PySem L2
local macro_rules | `(tactic| walk_at "dl") => `(tactic| ((conv => whnf); try dsimp only))
def rdDraw : DS :=
    sSeq (sIf (rTst (rOp oGt (rOp oIx (rV 0) (rC (.int 0))) (rC (.int 0)))) (sSeq (sSet 3 (rOp oMod (rCB cInt (rCons (rOp oIx (rV 0) (rC (.int 0))) (rNil))) (rV 1)))
    (sSeq (sSetIx (rOp oDiv (rOp oIx (rV 0) (rC (.int 0))) (rV 1)) (rV 0) (rC (.int 0)))
    (sRet (rV 3)))) (sNext))
    (sSeq (sSetIx (rOp oAdd (rOp oIx (rV 0) (rC (.int 2))) (rC (.int 1))) (rV 0) (rC (.int 2)))
    (sSeq (sSet 2 (rOp oMod (rCB cInt (rCons (rOp oPow (rOp oAdd (rOp oAdd (rOp oIx (rV 0) (rC (.int 1))) (rOp oMul (rC (.int 7919)) (rOp oIx (rV 0) (rC (.int 2))))) (rC (.int 1))) (rC (.int 5))) (rNil))) (rC (.int 2147483647))))
    (sSeq (sSet 2 (rOp oMod (rCB cInt (rCons (rOp oMul (rV 2) (rOp oAdd (rOp oAdd (rOp oDiv (rV 2) (rC (.int 1009))) (rC (.int 69621))) (rOp oIx (rV 0) (rC (.int 2))))) (rNil))) (rC (.int 2147483629))))
    (sRet (rOp oMod (rCB cInt (rCons (rOp oMod (rCB cInt (rCons (rOp oMul (rV 2) (rOp oAdd (rOp oDiv (rV 2) (rC (.int 2003))) (rC (.int 40692)))) (rNil))) (rC (.int 2147483399))) (rNil))) (rV 1))))))
theorem only_mset (w : Addr) (m : Mu) (o : MO) : Only1 w m (mset m w o) := fun _ h => mset_ne h
theorem draw_pure (x1 x2 x3 x4 : Str) : ∀ ds m Q PX, spDraw ds m Q PX → rdDraw (dEnds Q PX) (dstart [x1, x2, x3, x4] ds) m := by
  rintro ds m Q PX ⟨w, many, k, rfl, wl, hk, h0, hb, h⟩
  obtain ⟨a, b, c, e, hb1, hb2, hc1, hc2⟩ := wl.ex
  have dv : ∀ i : Int, CDivW i many := fun i => wide_div h0 hb (by decide) (by decide)
  walk_at "dl"
  rw [asL_adr e]
  walk_at "dl"
  cases ha : decide (0 < a) with
  | true =>
    walk_at "dl"
    rw [asL_adr e]
    walk_at "dl"
    refine ⟨h0, ?_⟩
    walk_at "dl"
    rw [asL_adr e]
    walk_at "dl"
    refine ⟨dv a, ?_⟩
    walk_at "dl"
    rw [e]
    walk_at "dl"
    exact h _ _ (Int.emod_nonneg _ (by omega)) (Int.emod_lt_of_pos _ h0) (only_mset _ _ _) ⟨_, b, c, mset_same, hb1, hb2, hc1, by omega⟩
  | false =>
    walk_at "dl"
    rw [asL_adr e]
    walk_at "dl"
    rw [e]
    walk_at "dl"
    rw [asL_adr mset_same]
    walk_at "dl"
    rw [asL_adr mset_same]
    walk_at "dl"
    refine ⟨.inl ⟨by decide, by decide⟩, ?_⟩
    walk_at "dl"
    have bound : ∀ z : Int, 0 ≤ z → z ≤ 10000000000000 → CPow (b + z + 1) 5 := fun z h1 h2 => ⟨by decide, by decide, by
      have : (2 : Nat) ^ 64 = 18446744073709551616 := by decide
      omega⟩
    refine ⟨bound _ (by omega) (by omega), ?_⟩
    walk_at "dl"
    refine ⟨(by show (0 : Int) < _; decide), ?_⟩
    walk_at "dl"
    generalize hF : (b + 7919 * (c + 1) + 1) ^ Int.toNat 5 % 2147483647 = f1
    have f1a : 0 ≤ f1 := by rw [← hF]; exact Int.emod_nonneg _ (by decide)
    have f1b : f1 < 2147483647 := by rw [← hF]; exact Int.emod_lt_of_pos _ (by decide)
    refine ⟨wide_div (b := 11) (by decide) (by decide) (by decide) (by decide), ?_⟩
    walk_at "dl"
    rw [asL_adr mset_same]
    walk_at "dl"
    refine ⟨.inl ⟨by omega, by omega⟩, ?_⟩
    walk_at "dl"
    refine ⟨(by show (0 : Int) < _; decide), ?_⟩
    walk_at "dl"
    generalize hF2 : f1 * (f1 / 1009 + 69621 + (c + 1)) % 2147483629 = f2
    have f2a : 0 ≤ f2 := by rw [← hF2]; exact Int.emod_nonneg _ (by decide)
    have f2b : f2 < 2147483629 := by rw [← hF2]; exact Int.emod_lt_of_pos _ (by decide)
    refine ⟨wide_div (b := 11) (by decide) (by decide) (by decide) (by decide), ?_⟩
    walk_at "dl"
    refine ⟨.inl ⟨by omega, by omega⟩, ?_⟩
    walk_at "dl"
    refine ⟨(by show (0 : Int) < _; decide), ?_⟩
    walk_at "dl"
    refine ⟨h0, ?_⟩
    exact h _ _ (Int.emod_nonneg _ (by omega)) (Int.emod_lt_of_pos _ h0) (only_mset _ _ _) ⟨a, b, c + 1, mset_same, hb1, hb2, by omega, by omega⟩
end DL
namespace DL
open PySem L2
local macro_rules | `(tactic| walk_at "dl") => `(tactic| ((conv => whnf); try dsimp only))
def rdWell : DS :=
    sRet (rLstM (rCons (rOp oIx (rLst (rCons (rC (.int 0)) (rCons (rV 0) (rNil)))) (rCB cInt (rCons (rOp oGe (rV 0) (rOp oPow (rC (.int 10)) (rC (.int 18)))) (rNil)))) (rCons (rOp oMod (rCB cInt (rCons (rV 0) (rNil))) (rC (.int 2147483629))) (rCons (rC (.int 0)) (rNil)))))
theorem well_pure (x1 : Str) : ∀ ds m Q PX, spWell ds m Q PX → rdWell (dEnds Q PX) (dstart [x1] ds) m := by
  rintro ds m Q PX ⟨c, rfl, h⟩
  walk_at "dl"
  refine ⟨len_line (by simp), ?_⟩
  walk_at "dl"
  refine ⟨⟨by decide, by decide, by decide⟩, ?_⟩
  have fin : ∀ z : Int, (rCons (rOp oMod (rCB cInt (rCons (rV 0) (rNil))) (rC (.int 2147483629))) (rCons (rC (.int 0)) (rNil))) [some (.int c)] m (fun xs m2 => ([D.int z] ++ xs).length ≤ sizeLine ∧ ∀ q, m2 q = none → Q (.adr q) (mset m2 q (.lst ([D.int z] ++ xs)))) (fun c fs m1 => PX c fs m1) := by
    intro z
    walk_at "dl"
    refine ⟨(by show (0 : Int) < _; decide), ?_⟩
    refine ⟨len_line (by show 3 ≤ 1000000; decide), fun q hq => h q _ hq (only_mset _ _ _) ⟨z, c % 2147483629, 0, mset_same, Int.emod_nonneg _ (by decide), Int.emod_lt_of_pos _ (by decide), by decide, by decide⟩⟩
  walk_at "dl"
  cases hc : decide (10 ^ Int.toNat 18 ≤ c) with
  | true => exact fin c
  | false => exact fin 0
def rdCellAt : DS :=
    sSeq (sIf (rTst (rOp oLt (rV 1) (rCB cLen (rCons (rV 0) (rNil))))) (sRet (rOp oIx (rV 0) (rV 1))) (sNext))
    (sRet (rC (.int 0)))
theorem atI_some {α : Type} {xs : List α} {i : Int} (h0 : 0 ≤ i) (h1 : i < xs.length) : ∃ x, atI xs i = some x ∧ xs[i.toNat]? = some x := by
  unfold atI ixN
  rw [if_pos h0, if_pos h1]
  have hl : i.toNat < xs.length := by omega
  exact ⟨xs[i.toNat], by simp [hl], by simp [hl]⟩
theorem cellAt_pure (x1 x2 : Str) : ∀ ds m Q PX, spCellAt ds m Q PX → rdCellAt (dEnds Q PX) (dstart [x1, x2] ds) m := by
  rintro ds m Q PX ⟨ns, k, rfl, h⟩
  walk_at "dl"
  cases hk : decide ((k : Int) < ((ns.map D.int).length : Nat)) with
  | true =>
    have hk' := of_decide_eq_true hk
    obtain ⟨x, e1, e2⟩ := atI_some (by omega) hk'
    walk_at "dl"
    rw [e1]
    rw [List.getElem?_map] at e2
    cases e3 : ns[((k : Nat) : Int).toNat]? with
    | none => rw [e3] at e2; cases e2
    | some n =>
      rw [e3] at e2
      cases e2
      exact h n
  | false => exact h 0
end DL
namespace DL
open PySem L2
/-! ### a new object that a rule of the ledger has laid -/
theorem obj_alive {P : Program} {w : World} {H : Hp} {h : Heap} {a : Addr} {o : HO} (x : ObjOk P w H h a o) : ∃ u, h.get? a = some u := by
  cases o with
  | lst xs => obtain ⟨_, _, _, _, e⟩ := x; exact ⟨_, e⟩
  | tup xs => obtain ⟨_, _, _, o, e, _⟩ := x; exact ⟨_, e⟩
  | dK kvs => obtain ⟨_, _, _, _, o, _, _, e, _⟩ := x; exact ⟨_, e⟩
  | dT kvs => obtain ⟨_, _, _, _, o, _, _, e, _⟩ := x; exact ⟨_, e⟩
  | set S n => obtain ⟨o, _, _, _, e, _⟩ := x; exact ⟨_, e⟩
  | ins C dx fs => obtain ⟨_, _, _, e, _⟩ := x; exact ⟨_, e⟩
  | own y => exact x
  | xd fs => obtain ⟨_, ⟨_, _, _, e, _⟩, _⟩ := x; exact ⟨_, e⟩
  | rng lo hi => obtain ⟨_, _, _, e⟩ := x; exact ⟨_, e⟩
  | frz ob u => obtain ⟨e, _⟩ := x; exact ⟨_, e⟩
  | tbl ps => exact ⟨_, x⟩
  | met f y => exact ⟨_, x⟩
  | ext φ => exact x.2.1
theorem inv_news {X : Cx} {pins : List (Addr × Obj)} {σ : St} {H : Hp} {s : Shared} {h' : Heap} {tk : Nat} {q : Addr} {o : Obj} {u : HO} {mm : Str → Option Value} (I : L2.Inv X pins σ H s) (F0 : PyProof.Rows.Fr X.base X.env.locals s.heap mm) (F' : PyProof.Rows.Fr X.base X.env.locals h' mm)
    (N' : PyProof.Rows.News X.base X.env.locals h' ((q, o) :: allNews X.base s.heap X.env.locals)) (l1 : ∀ z ∈ allNews X.base s.heap X.env.locals, z.1 < q)
    (new : ∀ H2, ObjOk X.prog X.w H2 h' q u) : L2.Inv X pins σ (upd H q u) { s with heap := h', toks := tk } ∧ H q = none := by
  have nq := N' _ List.mem_cons_self
  have keep : ∀ b ob, b ≠ X.env.locals → s.heap.get? b = some ob → h'.get? b = some ob := fun b ob hb e => by
    cases z : X.base.get? b with
    | some v =>
      have := I.bk b v z
      rw [e] at this; cases this
      exact F'.keep b _ z
    | none => exact (N' (b, ob) (List.mem_cons_of_mem _ (mem_allNews hb z e))).1
  have dead : s.heap.get? q = none := by
    cases z : s.heap.get? q with
    | none => rfl
    | some v => exact absurd (l1 (q, v) (mem_allNews nq.2.1 nq.2.2 z)) (Nat.lt_irrefl _)
  have hq : H q = none := by
    cases z : H q with
    | none => rfl
    | some v =>
      obtain ⟨w, hw⟩ := obj_alive (I.hok q v z)
      rw [dead] at hw; cases hw
  have ne : ∀ b ob, s.heap.get? b = some ob → b ≠ q := fun b ob e z => by rw [z, dead] at e; cases e
  refine ⟨I.step (g' := s.gens) (d' := s.drawn) (ch := []) (fun _ z => nomatch z) (fun b ob hb _ _ e _ => keep b ob hb e) (fun b ob hb _ _ e _ => ⟨ob.slots, keep b ob hb e⟩) (fun b ob _ e n => by rw [upd_ne (ne b ob e)]; exact n)
    (fun b ob _ e => ?_) (fun b xs e => by rw [upd_ne (ne_of_none e hq)]; exact e) (fun b ob xs e => by rw [upd_ne (ne_of_none e hq)]; exact e) (fun b ps e => ⟨#[], by rw [upd_ne (ne_of_none e hq), e]; simp⟩) (fun m2 hm => ?_) (fun b v e => ?_) I.bare, hq⟩
  · by_cases hb : b = X.env.locals
    · obtain ⟨ob2, _, _, e2, _⟩ := F'.ns
      exact ⟨ob2, by rw [hb]; exact e2⟩
    · exact ⟨ob, keep b ob hb e⟩
  · have e : m2 = mm := by rw [hm.eq_nsMap, F0.ns.eq_nsMap]
    rw [e]
    exact F'.ns
  · by_cases hb : b = q
    · subst hb
      rw [upd_same] at e; cases e
      exact new _
    · rw [upd_ne hb] at e
      refine (I.hok b v e).stay (fun c w hc z => keep c w ?_ z) (fun c z => by rw [upd_ne (ne_of_none z hq)]; exact z) fun c xs z => by rw [upd_ne (ne_of_none z hq)]; exact z
      rcases hc with rfl | hc
      · intro z; rw [z, I.free] at e; cases e
      · intro z; rw [z, I.free] at hc; cases hc
/-! ### x, *rest = a tuple or list -/
def gStarV (K : PySem.W.Frag) (i j : Nat) : TG := fun v σ H Q => ∃ a z zs, v = .ref a ∧ (SqL K H a (z :: zs) ∨ SqT K H a (z :: zs)) ∧ zs.length < 16000 ∧ ∀ q, H q = none → Q ((σ.set i (some z)).set j (some (.ref q))) (upd H q (.lst zs))
section
variable {X : Cx} {W : WX} {a b c : Expr} {ra rb rc : DE} {pos p : Pos}
theorem pg_star {i j : Nat} {x y : Str} {p1 p2 p3 : Pos} {k : Nat} (hc : X.calm = true) (hx : PG X (.Name x p1) (gName i)) (hy : PG X (.Name y p2) (gName j)) : PG X (.Tuple [.Name x p1, .Starred (.Name y p2) p3] k pos) (gStarV X.K i j) := by
  refine ⟨fun pins s σ H v u Q I r hw => ?_⟩
  obtain ⟨q, z, zs, rfl, hq, hl, hw⟩ := hw
  cases r
  obtain ⟨mm, F0⟩ := I.fr
  have names : PGs X [.Name x p1, .Name y p2] (gCons (gName i) (gCons (gName j) gNil)) := pgs_cons hx (pgs_cons hy pgs_nil)
  have fin : ∀ (z' : Value) (zs' : List Value) D h' tk, RelV z z' → Vals zs zs' → PyProof.Rows.Fr X.base X.env.locals h' mm → PyProof.Rows.News X.base X.env.locals h' ((D, PySem.W.listOf zs'.toArray 0) :: allNews X.base s.heap X.env.locals) → (∀ w ∈ allNews X.base s.heap X.env.locals, w.1 < D) →
      wpAny (model X.prog X.w) X.A (assignInOrder ((assignEach [.Name x p1, .Starred (.Name y p2) p3] X.env).map (·.2)) ([z'] ++ [.ref D] ++ [])) (fun _ s' => ∃ σ' H', L2.Inv X pins σ' H' s' ∧ Q σ' H') X.xe { s with heap := h', toks := tk } := fun z' zs' D h' tk rz rzs F' N' l1 => by
    have hlen := rzs.length
    obtain ⟨I', hD⟩ := inv_news (u := .lst zs) (tk := tk) I F0 F' N' l1 fun H2 => ⟨by rw [sizeLine_eq]; omega, zs', 0, rzs, (N' _ List.mem_cons_self).1⟩
    exact names.run pins _ σ _ [z, .ref D] [z', .ref D] Q I' (.cons rz (.cons rfl .nil)) ⟨z, _, rfl, _, _, rfl, rfl, hw D hD⟩
  rcases hq with hq | hq
  · obtain ⟨its, rv, pl, hz⟩ := I.list hq
    cases rv with
    | @cons _ z' _ zs' rz rzs =>
      have hlen := rzs.length
      exact PySem.W.kun_assignL (n := 2) (i := 1) (first := [z']) (mids := zs') (lasts := []) F0 news_all pl.isList (I.ok.hd hc) rfl rfl (by decide) (by simp) (by simp; omega) (by simp) (by simp) (by simp) fun D h' tk F' N' l1 => fin z' zs' D h' tk rz rzs F' N' l1
  · obtain ⟨its, rv, pl, hz⟩ := I.tuple hq
    cases rv with
    | @cons _ z' _ zs' rz rzs =>
      have hlen := rzs.length
      exact PySem.W.kun_assignT (n := 2) (i := 1) (first := [z']) (mids := zs') (lasts := []) F0 news_all pl (I.ok.hd hc) rfl rfl (by decide) (by simp) (by simp; omega) (by simp) (by simp) (by simp) fun D h' tk F' N' l1 => fin z' zs' D h' tk rz rzs F' N' l1
/-- over data -/
def sStar (i j : Nat) (ra : DE) : DS := fun DD δ m => ra δ m (fun d m1 => match asLT m1 d with
  | some (z :: zs) => zs.length < 16000 ∧ DD.nx ((δ.set i (some z)).set j (some (.lst zs))) m1
  | _ => False) fun c fs m1 => DD.xx c fs δ m1
theorem ds_star {i j : Nat} {x y : Str} {p1 p2 p3 p4 : Pos} {k : Nat} (hc : X.calm = true) (ha : PE X a (lE (kw X) W ra)) (hx : PG X (.Name x p1) (gName i)) (hy : PG X (.Name y p2) (gName j))
    (hs : swapsWithSole [.Tuple [.Name x p1, .Starred (.Name y p2) p3] k p4] a pos.line X.env = pure false := by rfl) (hw : swappedStores [.Tuple [.Name x p1, .Starred (.Name y p2) p3] k p4] a X.env = pure none := by rfl) (h1 : (assignEach [.Tuple [.Name x p1, .Starred (.Name y p2) p3] k p4] X.env).map (·.2) = [assign (.Tuple [.Name x p1, .Starred (.Name y p2) p3] k p4) X.env] := by rfl) :
    PS X (.Assign [.Tuple [.Name x p1, .Starred (.Name y p2) p3] k p4] a pos) (lS (kw X) W (sStar i j ra)) := by
  refine PS.imp (ps_asg ha (pg_star hc hx hy) hs hw h1) fun Dn σ H h => ?_
  obtain ⟨F, H0, m, δ, DD, ok, rs, h, g⟩ := h
  refine ⟨F, H0, m, δ, _, _, ok, rs, h, fun v H1 H01 m1 d s1 ok1 r1 h1 => ?_, g.xx.at_ rs⟩
  dsimp only at h1
  split at h1
  · rename_i z zs e1
    obtain ⟨q, vs, rfl, hq, rv⟩ := asLT_rp ok1 r1 e1
    cases rv with
    | @cons zv vs' _ _ rz rzs =>
      refine ⟨q, zv, vs', rfl, hq, by rw [rzs.length]; exact h1.1, fun D hD => ?_⟩
      have sn := same_new (o := HO.lst vs') (ok1.free hD).1
      exact g.nx _ _ _ _ _ (s1.trans sn) (ok1.new hD _) ((((rs.mono s1).mono sn).set (rz.mono sn) i).set (.lst (SqL.of upd_same) (rzs.mono sn)) j) h1.2
  · exact h1.elim
end
end DL
namespace DL
open PySem L2
/-! ### pairs of a dict -/
section
variable {κ : Type} [DecidableEq κ]
@[irreducible] def valD (kvs : List (κ × D)) (k : κ) : Option D := (kvs.find? fun kv => decide (kv.1 = k)).map (·.2)
theorem valD_nil {k : κ} : valD ([] : List (κ × D)) k = none := by unfold valD; rfl
theorem valD_pos {p : κ × D} {r : List (κ × D)} {k : κ} (e : p.1 = k) : valD (p :: r) k = some p.2 := by unfold valD; simp [List.find?_cons, e]
theorem valD_neg {p : κ × D} {r : List (κ × D)} {k : κ} (e : ¬ p.1 = k) : valD (p :: r) k = valD r k := by unfold valD; simp [List.find?_cons, e]
@[irreducible] def putD (kvs : List (κ × D)) (k : κ) (d : D) : List (κ × D) := if (valD kvs k).isSome then kvs.map (fun kv => if kv.1 = k then (kv.1, d) else kv) else kvs ++ [(k, d)]
theorem putD_new {kvs : List (κ × D)} {k : κ} {d : D} (h : valD kvs k = none) : putD kvs k d = kvs ++ [(k, d)] := by unfold putD; rw [h]; rfl
inductive RpK (K : PySem.W.Frag) (H : Hp) : List (κ × V) → List (κ × D) → Prop
  | nil : RpK K H [] []
  | cons {k : κ} {v : V} {d : D} {r : List (κ × V)} {t : List (κ × D)} : Rp K H v d → RpK K H r t → RpK K H ((k, v) :: r) ((k, d) :: t)
theorem rpK_of {K : PySem.W.Frag} {H : Hp} : ∀ {kv : List (κ × V)} {ds : List (κ × D)}, kv.map (·.1) = ds.map (·.1) → RpL K H (kv.map (·.2)) (ds.map (·.2)) → RpK K H kv ds
  | [], [], _, _ => .nil
  | [], _ :: _, e, _ => by simp at e
  | _ :: _, [], e, _ => by simp at e
  | (k, v) :: r, (k2, d) :: t, e, q => by
    simp only [List.map_cons, List.cons.injEq] at e
    obtain ⟨rfl, e⟩ := e
    cases q with
    | cons q1 q2 => exact .cons q1 (rpK_of e q2)
theorem RpK.keys {K : PySem.W.Frag} {H : Hp} {kv : List (κ × V)} {ds : List (κ × D)} (r : RpK K H kv ds) : kv.map (·.1) = ds.map (·.1) := by
  induction r with
  | nil => rfl
  | cons _ _ ih => simp [ih]
theorem RpK.vals {K : PySem.W.Frag} {H : Hp} {kv : List (κ × V)} {ds : List (κ × D)} (r : RpK K H kv ds) : RpL K H (kv.map (·.2)) (ds.map (·.2)) := by
  induction r with
  | nil => exact .nil
  | cons q _ ih => exact .cons q ih
theorem RpK.length {K : PySem.W.Frag} {H : Hp} {kv : List (κ × V)} {ds : List (κ × D)} (r : RpK K H kv ds) : kv.length = ds.length := by
  have := congrArg List.length r.keys; simpa using this
theorem RpK.mono {K : PySem.W.Frag} {H H' : Hp} (s : Same H H') {kv : List (κ × V)} {ds : List (κ × D)} (r : RpK K H kv ds) : RpK K H' kv ds := by
  induction r with
  | nil => exact .nil
  | cons q _ ih => exact .cons (q.mono s) ih
theorem RpK.val {K : PySem.W.Frag} {H : Hp} {kv : List (κ × V)} {ds : List (κ × D)} (r : RpK K H kv ds) (k : κ) : (valV kv k = none ∧ valD ds k = none) ∨ ∃ v d, valV kv k = some v ∧ valD ds k = some d ∧ Rp K H v d := by
  induction r with
  | nil => exact .inl ⟨valV_nil, valD_nil⟩
  | @cons k2 v d r t q _ ih =>
    by_cases e : k2 = k
    · exact .inr ⟨v, d, valV_pos e, valD_pos e, q⟩
    · rw [valV_neg e, valD_neg e]; exact ih
theorem RpK.append {K : PySem.W.Frag} {H : Hp} {kv kv' : List (κ × V)} {ds ds' : List (κ × D)} (r : RpK K H kv ds) (r' : RpK K H kv' ds') : RpK K H (kv ++ kv') (ds ++ ds') := by
  induction r with
  | nil => exact r'
  | cons q _ ih => exact .cons q ih
theorem RpK.put {K : PySem.W.Frag} {H : Hp} {kv : List (κ × V)} {ds : List (κ × D)} (r : RpK K H kv ds) (k : κ) {v : V} {d : D} (q : Rp K H v d) : RpK K H (putK kv k v) (putD ds k d) := by
  unfold putK putD
  rw [valV_any]
  have e : (valV kv k).isSome = (valD ds k).isSome := by
    rcases r.val k with ⟨a, b⟩ | ⟨_, _, a, b, _⟩ <;> rw [a, b] <;> rfl
  rw [e]
  split
  · rename_i hh
    clear e hh
    induction r with
    | nil => exact .nil
    | @cons k2 v2 d2 r t q2 _ ih =>
      simp only [List.map_cons]
      by_cases e : k2 = k
      · rw [if_pos e, if_pos e]; exact .cons q ih
      · rw [if_neg e, if_neg e]; exact .cons q2 ih
  · exact r.append (.cons q .nil)
end
def mergeD (kvs more : List (Key × D)) : List (Key × D) := more.foldl (fun acc kv => putD acc kv.1 kv.2) kvs
theorem RpK.merge {K : PySem.W.Frag} {H : Hp} {more : List (Key × V)} {mo : List (Key × D)} (q : RpK K H more mo) : ∀ {kv : List (Key × V)} {ds : List (Key × D)}, RpK K H kv ds → RpK K H (mergeK kv more) (mergeD ds mo) := by
  induction q with
  | nil => exact fun r => r
  | cons q _ ih => exact fun r => ih (r.put _ q)
theorem Rp.dctK {K : PySem.W.Frag} {H : Hp} {a : Addr} {kv : List (Key × V)} {ds : List (Key × D)} (h : H a = some (.dK kv)) (r : RpK K H kv ds) : Rp K H (.ref a) (.dct ds) := .dct h r.keys r.vals
section
variable {X : Cx} {W : WX} {a b c : Expr} {ra rb rc : DE} {pos p : Pos}
/-! ### {k: v, ..} -/
def rPairs : List (DE × DE) → DSt → Mu → (List (Key × D) → Mu → Prop) → DX → Prop
  | [], _, m, P, _ => P [] m
  | (ra, rb) :: r, δ, m, P, PX => ra δ m (fun x m1 => rb δ m1 (fun y m2 => match keyD x with
    | some k => rPairs r δ m2 (fun ps m3 => P ((k, y) :: ps) m3) PX
    | none => False) PX) PX
def lPair (K : KW) (W : WX) (p : DE × DE) : TE × TE := (lE K W p.1, lE K W p.2)
theorem pairs_up {K : KW} {F : Hp} {δ : DSt} {σ : St} {PX : DX} : ∀ (rs : List (DE × DE)) {H0 H : Hp} {m : Mu} {P : List (Key × D) → Mu → Prop} {Q : List (V × V) → Hp → Prop}, Ok K F H0 m H → RpS K H0 σ δ → rPairs rs δ m P PX →
    (∀ kvs H' H0' m' ds, Same H0 H0' → Ok K F H0' m' H' → RpK K H0' kvs ds → P ds m' → Q (kvs.map fun kv => (kV kv.1, kv.2)) H') → GX K F H0 PX (fun c xd H' => W c xd σ H') → tPairs (rs.map (lPair K W)) σ H Q
  | [], H0, H, m, P, Q, ok, rs, h, g, gx => g [] H H0 m [] (Same.refl _) ok .nil h
  | (ra, rb) :: r, H0, H, m, P, Q, ok, rs, h, g, gx => by
    refine ⟨F, H0, m, δ, _, PX, ok, rs, h, fun x H1 H01 m1 d1 s1 ok1 r1 h1 => ⟨F, H01, m1, δ, _, PX, ok1, rs.mono s1, h1, fun y H2 H02 m2 d2 s2 ok2 r2 h2 => ?_, gx.mono s1⟩, gx⟩
    dsimp only at h2
    split at h2
    · rename_i k e
      have ek := keyD_rp (r1.mono s2) e
      subst ek
      refine pairs_up r ok2 (rs.mono (s1.trans s2)) h2 (fun kvs H' H0' m' ds s3 ok3 rk h3 => ?_) (gx.mono (s1.trans s2))
      exact g ((k, y) :: kvs) H' H0' m' _ ((s1.trans s2).trans s3) ok3 (.cons (r2.mono s3) rk) h3
    · exact h2.elim
def rDctN (rs : List (DE × DE)) : DE := fun δ m P PX => rPairs rs δ m (fun ps m1 => ps.length ≤ 15 ∧ P (.dct (mergeD [] ps)) m1) PX
theorem dps_nil : PPs X pos [] [] ([].map (lPair (kw X) W)) := pps_nil
theorem dps_cons {k v : Expr} {ks : List (Option Expr)} {vs : List Expr} {rs : List (DE × DE)} (ha : PE X k (lE (kw X) W ra)) (hb : PE X v (lE (kw X) W rb)) (hr : PPs X pos ks vs (rs.map (lPair (kw X) W))) : PPs X pos (some k :: ks) (v :: vs) (((ra, rb) :: rs).map (lPair (kw X) W)) := pps_cons ha hb hr
theorem pd_dctN {keys : List (Option Expr)} {values : List Expr} {rs : List (DE × DE)} (h : PPs X pos keys values (rs.map (lPair (kw X) W))) (hall : keys.all (·.isSome) = true := by rfl) (hl : keys.length = values.length := by rfl) (h0 : keys ≠ [] := by intro z; cases z) (h15 : keys.length ≤ 15 := by decide) :
    PE X (.Dict keys values pos) (lE (kw X) W (rDctN rs)) := by
  refine PE.imp (pe_disp h hall hl h0 h15) fun σ H Q h => ?_
  obtain ⟨F, H0, m, δ, P, PX, ok, rs, h, g, gx⟩ := h
  intro q hq
  have hF : F q = none := ok.freeF hq
  have okq : Ok (kw X) (upd F q (.dK [])) H0 m (upd H q (.dK [])) := ok.addF hq
  refine pairs_up _ okq rs h (fun kvs H' H0' m' ds s1 ok1 rk h1 => ?_) fun c xd H' H0' m' fs s' ok' x z => gx c xd H' H0' m' fs s' (ok'.unframe hF).1 x z
  obtain ⟨z1, z2, z3⟩ := ok1.fr q _ upd_same
  refine ⟨z1, kvs, rfl, by rw [rk.length]; exact h1.1, ?_⟩
  obtain ⟨ok3, w1, w2, w3⟩ := (ok1.reF (o' := .dK (mergeK [] kvs))).unframe hF
  exact g _ _ _ _ _ (s1.trans (same_new w2)) (ok3.promote w1 w2 w3 hF) (.dctK upd_same ((rk.merge .nil).mono (same_new w2))) h1.2
/-! ### d[k] -/
def asDc (m : Mu) : D → Option (List (Key × D))
  | .dct kvs => some kvs
  | .adr q => match m q with | some (.dct kvs) => some kvs | _ => none
  | _ => none
theorem asDc_rp {K : KW} {F H0 H : Hp} {m : Mu} {v : V} {d : D} {ds : List (Key × D)} (ok : Ok K F H0 m H) (r : Rp K H0 v d) (h : asDc m d = some ds) : ∃ q kv, v = .ref q ∧ H q = some (.dK kv) ∧ RpK K H0 kv ds := by
  cases d with
  | dct kvs =>
    cases h
    cases r with
    | dct e1 e2 e3 => exact ⟨_, _, rfl, ok.same _ _ e1, rpK_of e2 e3⟩
  | adr q =>
    cases r
    change (match m q with | some (.dct kvs) => some kvs | _ => none) = some ds at h
    cases e : m q with
    | none => rw [e] at h; cases h
    | some o =>
      rw [e] at h
      cases o with
      | dct kvs =>
        cases h
        obtain ⟨_, kv, e1, e2, e3⟩ := ok.cell q _ e
        exact ⟨q, kv, rfl, e1, rpK_of e2 e3⟩
      | _ => cases h
  | _ => cases h
def oDGet : DO := fun x y m P => match asDc m x, keyD y with
  | some kvs, some k => match valD kvs k with | some d => P d m | none => False
  | _, _ => False
theorem pd_dget (hu : X.A.units + 1 < cLine) (ha : PE X a (lE (kw X) W ra)) (hb : PE X b (lE (kw X) W rb)) (hs : NoSl b := by intro _ _; rfl) : PE X (.Subscript a b pos) (lE (kw X) W (rOp oDGet ra rb)) := by
  refine PE.imp (pe_dget hu ha hb hs) fun σ H Q h => ?_
  obtain ⟨F, H0, m, δ, P, PX, ok, rs, h, g, gx⟩ := h
  refine ⟨F, H0, m, δ, _, PX, ok, rs, h, fun x H1 H01 m1 d1 s1 ok1 r1 h1 => ⟨F, H01, m1, δ, _, PX, ok1, rs.mono s1, h1, fun y H2 H02 m2 d2 s2 ok2 r2 h2 => ?_, gx.mono s1⟩, gx⟩
  unfold oDGet at h2
  dsimp only at h2
  split at h2
  · rename_i kvs k e1 e2
    obtain ⟨q, kv, rfl, e3, rk⟩ := asDc_rp ok2 (r1.mono s2) e1
    have ek := keyD_rp r2 e2
    subst ek
    rcases rk.val k with ⟨_, z⟩ | ⟨v, d, z1, z2, z3⟩
    · rw [z] at h2; exact h2.elim
    · rw [z2] at h2
      exact ⟨q, v, rfl, z1 ▸ DGet.k e3, g _ _ _ _ _ (s1.trans s2) ok2 z3 h2⟩
  · exact h2.elim
/-! ### while -/
def sWhile (rt : DT) (rb : DS) : DS := fun DD δ m => ∃ I : Nat → DSt → Mu → Prop, (∃ n, I n δ m) ∧ ∀ n δ m, I n δ m → rt δ m (fun b m1 => match b with
  | true => rb { DD with nx := fun δ' m' => ∃ n', n' < n ∧ I n' δ' m', ct := fun δ' m' => ∃ n', n' < n ∧ I n' δ' m', bk := DD.nx } δ m1
  | false => DD.nx δ m1) fun c fs m1 => DD.xx c fs δ m1
theorem ds_while {body : List Stmt} {rt : DT} {rb : DS} (hp : PassesOwn (model X.prog X.w) X.A X.env X.xe) (hc : PT X c (lT (kw X) W rt)) (hb : PSs X body (lS (kw X) W rb)) : PS X (.While c body [] pos) (lS (kw X) W (sWhile rt rb)) := by
  refine PS.imp (ps_while hp hc hb) fun Dn σ H h => ?_
  obtain ⟨F, H0, m, δ, DD, ok, rs, ⟨I, ⟨n, h0⟩, hI⟩, gd⟩ := h
  refine ⟨fun n σ' H' => ∃ H0' m' δ', Same H0 H0' ∧ Ok (kw X) F H0' m' H' ∧ RpS X.K H0' σ' δ' ∧ I n δ' m', ⟨n, H0, m, δ, Same.refl _, ok, rs, h0⟩, ?_⟩
  rintro k σ1 H1 ⟨H01, m1, δ1, s1, ok1, rs1, i1⟩
  have gd1 := gd.mono s1
  refine ⟨F, H01, m1, δ1, _, _, ok1, rs1, hI k δ1 m1 i1, fun b H2 H02 m2 s2 ok2 h2 => ?_, gd1.xx.at_ rs1⟩
  have gd2 := gd1.mono s2
  cases b with
  | true =>
    dsimp only
    rw [if_pos rfl]
    refine ⟨fun σ' H' => ∃ n', n' < k ∧ ∃ H0' m' δ', Same H0 H0' ∧ Ok (kw X) F H0' m' H' ∧ RpS X.K H0' σ' δ' ∧ I n' δ' m', fun σ' H' z => z, F, H02, m2, δ1, _, ok2, rs1.mono s2, h2, ?_⟩
    have again : GS (kw X) F H02 (fun δ' m' => ∃ n', n' < k ∧ I n' δ' m') fun σ' H' => ∃ n', n' < k ∧ ∃ H0' m' δ', Same H0 H0' ∧ Ok (kw X) F H0' m' H' ∧ RpS X.K H0' σ' δ' ∧ I n' δ' m' := fun σ3 H3 H03 m3 δ3 s3 ok3 rs3 ⟨n', l, z⟩ => ⟨n', l, H03, m3, δ3, (s1.trans s2).trans s3, ok3, rs3, z⟩
    exact ⟨again, gd2.rt, gd2.nx, again, gd2.xx⟩
  | false =>
    dsimp only
    rw [if_neg Bool.false_ne_true]
    exact gd2.nx _ _ _ _ _ (Same.refl _) ok2 (rs1.mono s2) h2
/-- by a word and a measure -/
theorem while_inv {rt : DT} {rb : DS} {DD : DEnds} {δ : DSt} {m : Mu} (I : Nat → DSt → Mu → Prop) (n : Nat) (h0 : I n δ m) (h : ∀ n δ m, I n δ m → rt δ m (fun b m1 => match b with
  | true => rb { DD with nx := fun δ' m' => ∃ n', n' < n ∧ I n' δ' m', ct := fun δ' m' => ∃ n', n' < n ∧ I n' δ' m', bk := DD.nx } δ m1
  | false => DD.nx δ m1) fun c fs m1 => DD.xx c fs δ m1) : sWhile rt rb DD δ m := ⟨I, ⟨n, h0⟩, h⟩
end
/-! ### a def that calls itself: at depth 0 nothing is promised -/
def spNo : SpD := fun _ _ _ _ => False
theorem def_no {P : Program} {w : World} {K : PySem.W.Frag} {mg : Str → Option Value} {base : Heap} {x qual : Str} {st : Stmt} {ps : List Str} {sp : SpD} (k : Nat) (G : FunAt K mg x qual st) (h : ∀ ds m Q PX, ¬ sp ds m Q PX) : DefOk P w K mg base k x qual st ps sp := by
  obtain ⟨f, fd, e, G⟩ := G
  exact ⟨f, fd, e, G, fun vs H Q E ⟨_, _, _, _, _, _, _, _, z, _⟩ => (h _ _ _ _ z).elim, fun A outer s H args us vs Q E _ _ _ _ ⟨_, _, _, _, _, _, _, _, z, _⟩ => (h _ _ _ _ z).elim⟩
end DL
namespace DL
open PySem L2
theorem units1 {k : Nat} {A : Around} (r : Room k A) : A.units + 1 < cLine := by have := r.un; omega
end DL
namespace DL
open PySem L2
/-! ### == of data without truths -/
mutual
def pur : D → Bool
  | .non => true
  | .int _ => true
  | .str _ => true
  | .lst ds => purL ds
  | .tup ds => purL ds
  | .bl _ => false
  | .ty _ => false
  | .adr _ => false
  | .glb _ => false
  | .exc _ _ _ _ _ => false
  | .dct _ => false
  | .ins _ _ => false
def purL : List D → Bool
  | [] => true
  | d :: ds => pur d && purL ds
end
mutual
theorem eqv_iff : ∀ (d e : D), pur d = true → pur e = true → (PyData.eqv (py d) (py e) = true ↔ d = e)
  | .non, e, h1, h2 => by cases e <;> simp [pur, py, PyData.eqv] at h2 ⊢
  | .int i, e, h1, h2 => by cases e <;> simp [pur, py, PyData.eqv] at h2 ⊢
  | .str i, e, h1, h2 => by cases e <;> simp [pur, py, PyData.eqv] at h2 ⊢
  | .lst ds, e, h1, h2 => by
    rw [pur] at h1
    cases e with
    | lst es => rw [pur] at h2; rw [py, py, PyData.eqv, eqvL_iff ds es h1 h2]; simp
    | _ => simp [pur, py, PyData.eqv] at h2 ⊢
  | .tup ds, e, h1, h2 => by
    rw [pur] at h1
    cases e with
    | tup es => rw [pur] at h2; rw [py, py, PyData.eqv, eqvL_iff ds es h1 h2]; simp
    | _ => simp [pur, py, PyData.eqv] at h2 ⊢
  | .bl _, _, h1, _ => by rw [pur] at h1; cases h1
  | .ty _, _, h1, _ => by rw [pur] at h1; cases h1
  | .adr _, _, h1, _ => by rw [pur] at h1; cases h1
  | .dct _, _, h1, _ => by rw [pur] at h1; cases h1
  | .ins _ _, _, h1, _ => by rw [pur] at h1; cases h1
  | .glb _, _, h1, _ => by rw [pur] at h1; cases h1
  | .exc _ _ _ _ _, _, h1, _ => by rw [pur] at h1; cases h1
theorem eqvL_iff : ∀ (ds es : List D), purL ds = true → purL es = true → (PyData.eqvAll (pyL ds) (pyL es) = true ↔ ds = es)
  | [], [], _, _ => by rw [pyL, PyData.eqvAll]; simp
  | [], _ :: _, _, _ => by rw [pyL, pyL, PyData.eqvAll]; simp
  | _ :: _, [], _, _ => by rw [pyL, pyL, PyData.eqvAll]; simp
  | d :: ds, e :: es, h1, h2 => by
    rw [purL, Bool.and_eq_true] at h1 h2
    rw [pyL, pyL, PyData.eqvAll, Bool.and_eq_true, eqv_iff d e h1.1 h2.1, eqvL_iff ds es h1.2 h2.2]
    simp
end
theorem deq_iff {d e : D} (h1 : pur d = true) (h2 : pur e = true) : deq d e = true ↔ d = e := eqv_iff d e h1 h2
theorem purL_all {ds : List D} (h : ∀ d ∈ ds, pur d = true) : purL ds = true := by
  induction ds with
  | nil => rw [purL]
  | cons d ds ih => rw [purL, h d List.mem_cons_self, ih fun e he => h e (List.mem_cons_of_mem _ he)]; rfl
/-! ### data that == may look at -/
def fitD : Nat → D → Prop
  | _, .non => True
  | _, .bl _ => True
  | _, .int _ => True
  | _, .str x => ∀ c ∈ x.cps.toList, c < 1114112
  | n + 1, .lst ds => ∀ d ∈ ds, fitD n d
  | n + 1, .tup ds => ∀ d ∈ ds, fitD n d
  | _, _ => False
theorem fit_lay : ∀ (n : Nat) (d : D), fitD n d → PyData.canLay0 (py d) = true ∧ PyData.depth (py d) ≤ n + 1 := by
  have str : ∀ (n : Nat) (x : Str), (∀ c ∈ x.cps.toList, c < 1114112) → PyData.canLay0 (py (.str x)) = true ∧ PyData.depth (py (.str x)) ≤ n + 1 := fun n x h => by
    rw [py, PyData.canLay0, PyData.depth, PyData.strOk]
    refine ⟨?_, Nat.zero_le _⟩
    rw [← Array.all_toList, List.all_eq_true]
    intro c hc
    exact decide_eq_true (h c hc)
  intro n
  induction n with
  | zero =>
    intro d h
    cases d with
    | str x => exact str 0 x h
    | lst ds => exact h.elim
    | tup ds => exact h.elim
    | non => rw [py, PyData.canLay0, PyData.depth]; exact ⟨rfl, Nat.zero_le _⟩
    | bl b => rw [py, PyData.canLay0, PyData.depth]; exact ⟨rfl, Nat.zero_le _⟩
    | int i => rw [py, PyData.canLay0, PyData.depth]; exact ⟨rfl, Nat.zero_le _⟩
    | _ => exact h.elim
  | succ n ih =>
    have all : ∀ ds : List D, (∀ d ∈ ds, fitD n d) → PyData.canLayAll0 (pyL ds) = true ∧ PyData.depthAll (pyL ds) ≤ n + 1 := fun ds => by
      induction ds with
      | nil => intro _; rw [pyL, PyData.canLayAll0, PyData.depthAll]; exact ⟨rfl, Nat.zero_le _⟩
      | cons d ds ih2 =>
        intro h
        obtain ⟨a1, a2⟩ := ih d (h d List.mem_cons_self)
        obtain ⟨b1, b2⟩ := ih2 fun e he => h e (List.mem_cons_of_mem _ he)
        rw [pyL, PyData.canLayAll0, PyData.depthAll, a1, b1]
        exact ⟨rfl, Nat.max_le.mpr ⟨a2, b2⟩⟩
    intro d h
    cases d with
    | str x => exact str (n + 1) x h
    | lst ds =>
      obtain ⟨a1, a2⟩ := all ds h
      rw [py, PyData.canLay0, PyData.depth]
      exact ⟨a1, by omega⟩
    | tup ds =>
      obtain ⟨a1, a2⟩ := all ds h
      rw [py, PyData.canLay0, PyData.depth]
      exact ⟨a1, by omega⟩
    | non => rw [py, PyData.canLay0, PyData.depth]; exact ⟨rfl, Nat.zero_le _⟩
    | bl b => rw [py, PyData.canLay0, PyData.depth]; exact ⟨rfl, Nat.zero_le _⟩
    | int i => rw [py, PyData.canLay0, PyData.depth]; exact ⟨rfl, Nat.zero_le _⟩
    | _ => exact h.elim
theorem shp_of {n : Nat} {d : D} (h : fitD n d) (hn : n ≤ 60 := by decide) : shp d := by
  obtain ⟨a, b⟩ := fit_lay n d h
  unfold shp SeqAt.shaped
  rw [a]
  simp
  omega
/-! ### texts -/
theorem cps_app (x y : Str) : (x ++ y).cps.toList = x.cps.toList ++ y.cps.toList := PyProof.Rows.cps_toList_append x y
/-! ### a number's text -/
abbrev dig (n : Int) : Str := (toString n : String)
/-! ### what stays: all but ws -/
def Kp (ws : List Addr) (m m' : Mu) : Prop := ∀ a o, a ∉ ws → m a = some o → m' a = some o
theorem Kp.refl (ws : List Addr) (m : Mu) : Kp ws m m := fun _ _ _ h => h
theorem Kp.trans {ws : List Addr} {m m1 m2 : Mu} (a : Kp ws m m1) (b : Kp ws m1 m2) : Kp ws m m2 := fun x o h e => b x o h (a x o h e)
theorem Kp.more {ws vs : List Addr} {m m' : Mu} (a : Kp ws m m') (h : ∀ x ∈ ws, x ∈ vs) : Kp vs m m' := fun x o hx e => a x o (fun z => hx (h x z)) e
theorem Only1.kp {w : Addr} {m m' : Mu} (h : Only1 w m m') : Kp [w] m m' := fun a o ha e => by rw [h a (by simpa using ha)]; exact e
theorem kp_new {ws : List Addr} {m : Mu} {q : Addr} {o : MO} (h : m q = none) : Kp ws m (mset m q o) := fun a u _ e => by
  rw [mset_ne (fun z => by rw [z, h] at e; cases e)]; exact e
/-- drawn from the well w in at most n turns -/
def Dr (w : Addr) (n : Nat) (R : D → Prop) (m : Mu) (P : DK) : Prop := ∃ k, Wl m w k ∧ k + n ≤ 1000000000 ∧ ∀ d m', R d → Kp [w] m m' → Wl m' w (k + n) → P d m'
theorem Wl.keep {m m' : Mu} {w : Addr} {k : Nat} {ws : List Addr} (h : Wl m w k) (kp : Kp ws m m') (hw : w ∉ ws) : Wl m' w k := by
  obtain ⟨a, b, c, e, r⟩ := h.ex
  exact ⟨a, b, c, kp w _ hw e, r⟩
def spDrawK : SpD := fun ds m P _ => ∃ (w : Addr) (many : Int), ds = [.adr w, .int many] ∧ 0 < many ∧ many.natAbs < 2 ^ 200 ∧ Dr w 1 (fun d => ∃ r : Int, 0 ≤ r ∧ r < many ∧ d = .int r) m P
theorem drawK_draw {ds : List D} {m : Mu} {P : DK} {PX : DX} (h : spDrawK ds m P PX) : spDraw ds m P PX := by
  obtain ⟨w, many, rfl, h0, h1, k, wl, hk, h⟩ := h
  exact ⟨w, many, k, rfl, wl, by omega, h0, h1, fun r m' r0 r1 o w1 => h _ m' ⟨r, r0, r1, rfl⟩ o.kp w1⟩
def spWellK : SpD := fun ds m P _ => ∃ c : Int, ds = [.int c] ∧ ∀ w m', m w = none → Kp [] m m' → Wl m' w 0 → P (.adr w) m'
theorem wellK_well {ds : List D} {m : Mu} {P : DK} {PX : DX} (h : spWellK ds m P PX) : spWell ds m P PX := by
  obtain ⟨c, rfl, h⟩ := h
  refine ⟨c, rfl, fun w m' hw o w1 => h w m' hw (fun a q _ e => ?_) w1⟩
  rw [o a (fun z => by rw [z, hw] at e; cases e)]
  exact e
end DL
namespace DL
open PySem L2
/-! ### set(xs) of a list of whole numbers -/
abbrev voidSet (w : World) : Obj := { cls := .type "set", dict := none, data := .set #[] 0 (.fresh 0 0 (!w.params.followText "set-order")) }
section
open PyProof.Rows
variable {P : Program} {w : World} {A : Around} {E : Value → Shared → Prop} {s : Shared}
theorem set_list {l : Addr} {xs : Array Value} (ns : List Int) {Q : Value → Shared → Prop} (calm : A.handled = none) (il : s.heap.IsList l xs) (hin : IntsAre xs.toList ns) (few : ns.length + 1 < scanBound)
    (fin : ∀ (g : Heap) (tk c : Nat), SetR w g s.heap.objs.size (fun j => decide (j ∈ ns)) c → c ≤ ns.length → (∀ b u, s.heap.get? b = some u → g.get? b = some u) → Q (.ref s.heap.objs.size) { s with heap := g, toks := tk }) :
    wpAny (model P w) A (call (.type "set") [.ref l]) Q E s := by
  have size : xs.size = ns.length := by rw [← Array.length_toList]; exact IntsAre.length hin
  obtain ⟨_, _, k1⟩ := F.called_set.mro
  have k2 := F.called_set.made; have k3 := F.called_set.sub; have k4 := F.called_set.notType
  have k5 := F.called_set.canCreate; have k6 := F.typeCall_set_1 (.ref l)
  refine wpAny_call (codeAny_of_tree (show wpAny _ _ (callAny (.type "set") _) _ _ _ from ?_))
  refine wpAny_pure ⟨Code.quiet_builtin _ (by decide +kernel), codeAny_builtin F.entry_type_call ?_⟩; rw [Around.under_plain (weight_type_call_type "set" [.ref l] []) rfl]
  repeat (any_goals (first | assumption | wp_step)); skip
  refine codeAny_mono (L2.code_set_led1 (.ref l) (E := E) (Q₁ := fun y z => y = .ref s.heap.objs.size ∧ z = { s with heap := s.heap.push (voidSet w) }) ⟨rfl, rfl⟩) fun r1 s1 z1 => ?_
  match r1, z1 with
  | .error e, z1 => exact z1
  | .ok (.ret y), ⟨ey, es⟩ =>
    subst ey es
    have new : (s.heap.push (voidSet w)).get? s.heap.objs.size = some (voidSet w) := Heap.get?_push_size _ rfl
    have is : Shared.TypeIs { s with heap := s.heap.push (voidSet w) } (.ref s.heap.objs.size) "set" := ⟨_, new, rfl⟩
    have k7 := F.called_set.init.lookup; have k8 := F.called_set.init.bind (.ref s.heap.objs.size)
    repeat (any_goals (first | assumption | wp_step)); skip
    refine codeAny_mono (codeAny_call_builtin (R := wants (fun y z => y = .none ∧ ∃ g tk c, z = { s with heap := g, toks := tk } ∧ SetR w g s.heap.objs.size (fun j => decide (j ∈ ns)) c ∧ c ≤ ns.length ∧ (∀ b u, s.heap.get? b = some u → g.get? b = some u)) E) F.called_set.init.plain F.entry_set_init (check_set_init_1 is ?_)) fun r2 s2 z2 => ?_
    · obtain ⟨⟨oc, od, odt, osl⟩, go, gc, gn, gd⟩ := il
      simp only at gc gd; subst gc; subst gd
      have go2 : (s.heap.push (voidSet w)).get? l = some ⟨.type "list", od, .seq xs gn, osl⟩ := Heap.get?_push_of_some _ go
      have il2 : (s.heap.push (voidSet w)).IsList l xs := ⟨_, go2, rfl, gn, rfl⟩
      have k9 := F.sub_list_set; have k10 := F.sub_list_frozenset; have k11 : (Value.type "list" == Value.type "dict") = false := by decide
      unfold Builtin.«set.__init__» noKeywords Builtin.Frozenset.updateFrom; generalize hit : pyIter = it
      wp_walk; subst hit
      refine wpAny_pyIter_list il2 (wpAny_bind (wpAny_runValue ?_))
      have lt : l < s.heap.objs.size := Heap.lt_size go
      have sz : (s.heap.push (voidSet w)).objs.size = s.heap.objs.size + 1 := Heap.size_push ..
      have off : s.heap.objs.size ∉ [(s.heap.push (voidSet w)).objs.size, l] := by
        rw [sz]; intro z; rcases List.mem_cons.mp z with z | z
        · exact absurd z (Nat.ne_of_lt (Nat.lt_succ_self _))
        · exact Nat.lt_irrefl _ (show l < l from (List.mem_singleton.mp z) ▸ lt)
      refine L2.set_update_ints ((Walks.list (by simp [calm]) _ l (by rw [sz]; exact Nat.ne_of_lt (Nat.lt_succ_of_lt lt)) xs).toS) s.heap.objs.size off ns size few (fun i v hv => ?_) (xs.size - 0) 0 _ (by omega) (Nat.zero_le _) ⟨⟨_, Heap.get?_push_size _ rfl, rfl, rfl⟩, il2.push _⟩ ⟨0, Nat.le_refl 0, L2.setR_new_at (Heap.get?_push_of_some _ new)⟩ fun s3 c3 mv le3 in3 => ?_
      · have hi : i < ns.length := by rw [← size]; exact (Array.getElem?_eq_some_iff.mp hv).1
        obtain ⟨t, e⟩ := IntsAre.int_at hin i v (by rw [Array.getElem?_toList]; exact hv)
        exact ⟨ns[i], t, List.getElem?_eq_getElem hi, by rw [e, List.getD_eq_getElem?_getD, List.getElem?_eq_getElem hi] <;> rfl⟩
      · obtain ⟨g3, gens3, dr3, tk3, os3⟩ := s3
        obtain rfl : gens3 = s.gens := mv.gens
        obtain rfl : dr3 = s.drawn := mv.drawn
        obtain rfl : os3 = s.os := mv.os
        refine wpAny_pure (show wpAny _ _ (ret Value.none) _ _ _ from wpAny_pure ⟨rfl, g3, tk3, c3, rfl, in3, by omega, fun b u e => ?_⟩)
        have lb : b < s.heap.objs.size := Heap.lt_size e
        refine mv.heap b u (fun z => ?_) (Heap.get?_push_of_some _ (Heap.get?_push_of_some _ e))
        rcases List.mem_cons.mp z with z | z
        · exact absurd z (Nat.ne_of_lt lb)
        · exact absurd ((List.mem_singleton.mp z).trans sz) (Nat.ne_of_lt (Nat.lt_succ_of_lt lb))
    · match r2, z2 with
      | .error e, z2 => exact z2
      | .ok (.ret y), ⟨ey, g, tk, c, es, in2, le2, kp2⟩ =>
        subst ey es
        repeat (any_goals (first | assumption | wp_step)); skip
        exact fin _ _ _ in2 le2 kp2
/-- at its place in the layer -/
def rSetL (K : PySem.W.Frag) (w : World) : List V → Hp → VK → Prop := fun vs H Q => ∃ (a : Addr) (ns : List Int), vs = [V.ref a] ∧ SqL K H a (ns.map V.int) ∧ ns.length < 1000 ∧
  ∀ (p : Addr) (c : Nat), c ≤ ns.length → H p = none → Q (.ref p) (upd H p (SetO w p (fun j => decide (j ∈ ns)) c))
theorem cr_setL {X : Cx} (hc : X.calm = true) : CallR X (.type "set") (rSetL X.K X.w) := by
  intro pins s σ H vs us Q I r h
  obtain ⟨a, ns, rfl, hs, hl, q⟩ := h
  obtain ⟨its, rv, pl, hz⟩ := I.list hs
  rw [Vals.ref1 r]
  refine set_list ns (I.ok.hd hc) pl.isList (by simpa using rv.ints) (by unfold scanBound; omega) fun g tk c R lc kp => ?_
  have hn : H s.heap.objs.size = none := I.hok.fresh (Nat.le_refl _)
  exact ⟨.ref _, upd H s.heap.objs.size (SetO X.w s.heap.objs.size (fun j => decide (j ∈ ns)) c), I.laid kp (Nat.le_refl _) (setO_new R), rfl, q _ _ lc hn⟩
end
end DL
/-! # sorted(a set of ints), any number of them -/
namespace DL
open PySem L2
section
open PyProof.Rows
variable {P : Program} {w : World} {A : Around} {E : Value → Shared → Prop} {s : Shared} {a : Addr}
theorem iv_raw {zs : List Value} (h : ∀ v ∈ zs, ∃ k t, v = Value.int k t) : zs.map SrtO.iv = zs.map Builtin.Re.reRawOf := List.map_congr_left fun v hv => by
  obtain ⟨k, t, rfl⟩ := h v hv
  rfl
theorem sorted_setA {S : Int → Bool} {n : Nat} {Q : Value → Shared → Prop} (R : SetR w s.heap a S n) (hh : A.handled = none) (hn' : n ≤ 4096)
    (hQ : ∀ s' p (out : List Value) (c : Nat) (ns : List Int), (∀ b o, s.heap.get? b = some o → s'.heap.get? b = some o) → s'.gens = s.gens → s'.os = s.os → s.heap.objs.size ≤ p →
      s'.heap.get? p = some (seqObj "list" out.toArray c) → IntsAre out ns → ns.Pairwise (· < ·) → (∀ k, k ∈ ns ↔ S k = true) → ns.length = n → Q (.ref p) s') :
    wpAny (model P w) A (call (.builtin "sorted") [.ref a]) Q E s := by
  obtain ⟨ob, en, ep, tb, ho, hex, hd, g, nd, hm, hb, hf, hn, hr, hl⟩ := R
  refine Calls.call_function_entry kind_sorted plain_sorted entry_sorted (args_sorted1 _) ?_; unfold Builtin.«sorted»
  refine wpAny_bind (m := checkCount "sorted" 1 1 _) (wpAny_pure (wpAny_bind (collect_set (A := A.in1) hh ⟨ob, ho, hex.1, hd⟩ hf hb hr hl fun t1 zs kp1 hz gg os1 pr => ?_)))
  have lz : zs.length = n := by rw [pr.length_eq, List.length_map, Array.length_toList]; exact hn
  have hv : ∀ v ∈ zs, ∃ k t, v = Value.int k t := fun v hv => by
    obtain ⟨e, he, q⟩ := List.mem_map.mp (pr.mem_iff.mp hv)
    obtain ⟨k, tk, h1, _⟩ := g e he
    exact ⟨k, tk, by rw [← q]; exact h1⟩
  have hI : IntsAre zs (zs.map Builtin.Re.reRawOf) := by
    rw [← iv_raw hv]
    exact SrtO.ints_iv fun v h => hv v h
  have pq : (zs.map Builtin.Re.reRawOf).Perm (en.toList.map keyOf) := by
    have q := pr.map Builtin.Re.reRawOf
    rw [List.map_map] at q
    exact q
  refine wpAny_bind (wpAny_newList ?_ (by rw [lz, sizeLine_eq]; omega))
  have oL : (t1.heap.push (seqObj "list" zs.toArray 0)).get? t1.heap.objs.size = some (seqObj "list" zs.toArray 0) := Heap.get?_push_size _ rfl
  refine wpAny_bind (wpAny_holding (wpAny_call_entry slot_list_sort ⟨_, oL, rfl⟩ entry_list_sort (SrtO.list_sort_ord SrtO.swo_int oL (by rw [lz, sizeLine_eq]; omega) (fun h2 => SrtO.ints_sortable hI h2) fun out b1 b2 => ⟨_, rfl, ?_⟩) (args_list_sort _)))
  obtain ⟨a1, a2, a3⟩ := SrtO.ints_out hI b1 b2
  obtain ⟨c, hc⟩ := sortedHeap_at (vs := zs) (out := out.toArray) oL
  have pn : (out.map SrtO.iv).Perm (en.toList.map keyOf) := a2.trans pq
  refine wpAny_pure ⟨_, rfl, hQ _ t1.heap.objs.size out c _ (fun b u e => ?_) gg os1 hz hc a1 (lt_of_le_nodup _ a3 (pn.nodup_iff.mpr nd)) (fun k => by rw [pn.mem_iff, ← hm k]) ?_⟩
  · have q := kp1 b u e
    have hlt := Heap.lt_size q
    show (sortedHeap (t1.heap.push (seqObj "list" zs.toArray 0)) t1.heap.objs.size zs out.toArray).get? b = some u
    rw [sortedHeap_old (Nat.ne_of_lt hlt) (by rw [size_push']; exact Nat.lt_succ_of_lt hlt)]
    exact Heap.get?_push_of_some _ q
  · rw [pn.length_eq, List.length_map, Array.length_toList]; exact hn
end
def rSortedSetA (w : World) : List V → Hp → VK → Prop := fun zs H Q => ∃ (a : Addr) (S : Int → Bool) (n : Nat), zs = [V.ref a] ∧ H a = some (SetO w a S n) ∧ n ≤ 4096 ∧
  ∀ (ns : List Int) (p : Addr), ns.Pairwise (· < ·) → (∀ k : Int, k ∈ ns ↔ S k = true) → ns.length = n → H p = none → Q (.ref p) (upd H p (.lst (ns.map V.int)))
theorem cr_sortedSetA {X : Cx} (hc : X.calm = true) : CallR X (.builtin "sorted") (rSortedSetA X.w) := by
  intro pins s σ H zs us Q I r h
  obtain ⟨a, S, n, rfl, ha, hn', q⟩ := h
  rw [Vals.ref1 r]
  refine sorted_setA (setO_get I ha) (I.ok.hd hc) hn' fun s' p out c ns k g o hp hg hi hs hm hl => ?_
  have ll : (ns.map V.int).length ≤ sizeLine := by rw [List.length_map, hl, sizeLine_eq]; omega
  have hn : H p = none := I.hok.fresh hp
  have I2 : Inv X pins σ (upd H p (.lst (ns.map V.int))) { s with heap := s'.heap, gens := s'.gens, drawn := s'.drawn, toks := s'.toks } :=
    I.call (ch := []) (Un.laid k hp hn) (I.hok.laid k hp ⟨ll, out, c, vals_of_ints hi, hg⟩) (by rw [g]; exact I.bare) (fun _ z => nomatch z)
  have e : s' = { s with heap := s'.heap, gens := s'.gens, drawn := s'.drawn, toks := s'.toks } := by
    cases s'
    cases s
    cases o
    rfl
  rw [e]
  exact ⟨.ref p, _, I2, rfl, q ns p hs hm hl hn⟩
end DL
namespace DL
open PySem L2
/-! ### whole numbers in a list -/
def intsD : List D → Option (List Int)
  | [] => some []
  | .int n :: ds => (intsD ds).map (n :: ·)
  | _ :: _ => none
theorem intsD_map : ∀ ns : List Int, intsD (ns.map .int) = some ns
  | [] => rfl
  | n :: ns => by show (intsD (ns.map .int)).map (n :: ·) = _; rw [intsD_map ns]; rfl
theorem intsD_eq : ∀ {ds : List D} {ns : List Int}, intsD ds = some ns → ds = ns.map .int
  | [], ns, h => by cases h; rfl
  | .int n :: ds, ns, h => by
    change (intsD ds).map (n :: ·) = some ns at h
    cases e : intsD ds with
    | none => rw [e] at h; cases h
    | some ks => rw [e] at h; cases h; rw [intsD_eq e]; rfl
  | .non :: _, _, h => by cases h
  | .bl _ :: _, _, h => by cases h
  | .str _ :: _, _, h => by cases h
  | .ty _ :: _, _, h => by cases h
  | .adr _ :: _, _, h => by cases h
  | .lst _ :: _, _, h => by cases h
  | .tup _ :: _, _, h => by cases h
  | .dct _ :: _, _, h => by cases h
  | .ins _ _ :: _, _, h => by cases h
  | .glb _ :: _, _, h => by cases h
  | .exc _ _ _ _ _ :: _, _, h => by cases h
theorem rpl_ints_back {K : PySem.W.Frag} {H : Hp} : ∀ {vs : List V} {ns : List Int}, RpL K H vs (ns.map .int) → vs = ns.map V.int
  | [], [], _ => rfl
  | [], _ :: _, h => by cases h
  | _ :: _, [], h => by cases h
  | v :: vs, n :: ns, h => by
    cases h with
    | cons q r => cases q; rw [rpl_ints_back r]; rfl
def asI (m : Mu) (x : D) : Option (List Int) := match asL m x with
  | some ds => intsD ds
  | none => none
theorem asI_rp {K : KW} {F H0 H : Hp} {m : Mu} {v : V} {d : D} {ns : List Int} (ok : Ok K F H0 m H) (r : Rp K H0 v d) (h : asI m d = some ns) : ∃ p, v = .ref p ∧ SqL K H p (ns.map V.int) := by
  unfold asI at h
  split at h
  · rename_i ds e
    obtain ⟨p, vs, rfl, q, rv⟩ := asL_rp ok r e
    rw [intsD_eq h] at rv
    rw [rpl_ints_back rv] at q
    exact ⟨p, rfl, q⟩
  · cases h
theorem asI_lst {m : Mu} (ns : List Int) : asI m (.lst (ns.map .int)) = some ns := by
  show intsD (ns.map .int) = _
  exact intsD_map ns
/-! ### rising lists -/
theorem asc_ext : ∀ {l k : List Int}, l.Pairwise (· < ·) → k.Pairwise (· < ·) → (∀ x, x ∈ l ↔ x ∈ k) → l = k
  | [], [], _, _, _ => rfl
  | [], b :: k, _, _, h => by have := (h b).mpr List.mem_cons_self; cases this
  | a :: l, [], _, _, h => by have := (h a).mp List.mem_cons_self; cases this
  | a :: l, b :: k, h1, h2, h => by
    obtain ⟨a1, a2⟩ := List.pairwise_cons.mp h1
    obtain ⟨b1, b2⟩ := List.pairwise_cons.mp h2
    have e : a = b := by
      have x := (h a).mp List.mem_cons_self
      have y := (h b).mpr List.mem_cons_self
      rcases List.mem_cons.mp x with x | x
      · exact x
      · rcases List.mem_cons.mp y with y | y
        · exact y.symm
        · have := b1 a x
          have := a1 b y
          omega
    subst e
    rw [asc_ext a2 b2 fun x => ?_]
    constructor
    · intro hx
      rcases List.mem_cons.mp ((h x).mp (List.mem_cons_of_mem _ hx)) with e | e
      · have := a1 x hx; omega
      · exact e
    · intro hx
      rcases List.mem_cons.mp ((h x).mpr (List.mem_cons_of_mem _ hx)) with e | e
      · have := b1 x hx; omega
      · exact e
def putU (n : Int) : List Int → List Int
  | [] => [n]
  | k :: ks => if n < k then n :: k :: ks else if n = k then k :: ks else k :: putU n ks
def srtU : List Int → List Int
  | [] => []
  | n :: ns => putU n (srtU ns)
theorem mem_putU (n x : Int) : ∀ l : List Int, x ∈ putU n l ↔ x = n ∨ x ∈ l
  | [] => by simp [putU]
  | k :: ks => by
    unfold putU
    split
    · simp
    · split
      · rename_i _ e; subst e; simp
      · simp only [List.mem_cons, mem_putU n x ks]
        constructor
        · rintro (h | h | h) <;> simp [h]
        · rintro (h | h | h) <;> simp [h]
theorem putU_asc (n : Int) : ∀ l : List Int, l.Pairwise (· < ·) → (putU n l).Pairwise (· < ·)
  | [], _ => by simp [putU]
  | k :: ks, h => by
    obtain ⟨h1, h2⟩ := List.pairwise_cons.mp h
    unfold putU
    split
    · rename_i hlt
      exact List.pairwise_cons.mpr ⟨fun x hx => by
        rcases List.mem_cons.mp hx with rfl | hx
        · exact hlt
        · have := h1 x hx; omega, h⟩
    · split
      · exact h
      · refine List.pairwise_cons.mpr ⟨fun x hx => ?_, putU_asc n ks h2⟩
        rcases (mem_putU n x ks).mp hx with rfl | hx
        · omega
        · exact h1 x hx
theorem srtU_asc : ∀ l : List Int, (srtU l).Pairwise (· < ·)
  | [] => List.Pairwise.nil
  | n :: ns => putU_asc n _ (srtU_asc ns)
theorem mem_srtU (x : Int) : ∀ l : List Int, x ∈ srtU l ↔ x ∈ l
  | [] => Iff.rfl
  | n :: ns => by rw [srtU, mem_putU, mem_srtU x ns, List.mem_cons]
theorem putU_len (n : Int) : ∀ l : List Int, (putU n l).length ≤ l.length + 1
  | [] => Nat.le_refl _
  | k :: ks => by
    have := putU_len n ks
    unfold putU
    split
    · simp
    · split
      · simp
      · simp only [List.length_cons]; omega
theorem srtU_len : ∀ l : List Int, (srtU l).length ≤ l.length
  | [] => Nat.le_refl _
  | n :: ns => Nat.le_trans (putU_len n _) (Nat.succ_le_succ (srtU_len ns))
section
variable {X : Cx} {W : WX} {a b c tg : Expr} {ra rb rc : DE} {pos p : Pos} {e : Expr} {es : List Expr} {qs : DA}
/-! ### sorted(set(xs)) -/
def rSrtS (qs : DA) : DE := fun δ m P PX => qs δ m (fun xs m1 => match xs with
  | [x] => match asI m1 x with
    | some ns => ns.length < 1000 ∧ P (.lst ((srtU ns).map .int)) m1
    | none => False
  | _ => False) PX
theorem srtS_core {σ : St} {H : Hp} {Q : VK} {K : KW} {w : World} (h : lE K W (rSrtS qs) σ H Q) : tCB (rSortedSetA w) (fun σ H R => (tCB (rSetL K w) (lA K W qs)) σ H fun x H1 => R [x] H1) σ H Q := by
  obtain ⟨F, H0, m, δ, P, PX, ok, rs, h, g, gx⟩ := h
  refine ⟨F, H0, m, δ, _, PX, ok, rs, h, fun xs H1 H01 m1 ds s1 ok1 r1 h1 => ?_, gx⟩
  dsimp only at h1
  split at h1
  · rename_i x
    split at h1
    · rename_i ns e1
      obtain ⟨v, rfl, q⟩ := r1.one
      obtain ⟨pa, rfl, hq⟩ := asI_rp ok1 q e1
      refine ⟨pa, ns, rfl, hq, by omega, fun p c hc hp => ⟨p, _, c, rfl, upd_same, by omega, fun ks l h2 h3 h4 hl => ?_⟩⟩
      have e : ks = srtU ns := asc_ext h2 (srtU_asc ns) fun k => by rw [h3, mem_srtU]; simp
      subst e
      have ok2 := ok1.new hp (SetO w p (fun j => decide (j ∈ ns)) c)
      exact (g.mono (s1.trans (same_new (ok1.free hp).1))).lst ok2 hl (rpl_ints _) h1.2
    · exact h1.elim
  · exact h1.elim
theorem pd_srtS {p2 q2 : Pos} (hc : X.calm = true) (hm1 : X.mg "sorted" = none) (hm2 : X.mg "set" = none) (hv1 : bootBuiltins "sorted" = some (.builtin "sorted")) (hv2 : bootBuiltins "set" = some (.type "set")) (ha : PA X (e :: es) (lA (kw X) W qs))
    (hg1 : Gl X "sorted" := by rfl) (hg2 : Gl X "set" := by rfl) (he : starEach (e :: es) X.env = (false, eval e X.env) :: starEach es X.env := by rfl) (hpl : (backTo q2 (starEach es X.env)).any (·.1) = false := by rfl)
    (he2 : starEach [.Call (.Name "set" p2) (e :: es) [] q2] X.env = (false, eval (.Call (.Name "set" p2) (e :: es) [] q2) X.env) :: starEach [] X.env := by rfl) (hpl2 : (backTo pos (starEach [] X.env)).any (·.1) = false := by rfl) :
    PE X (.Call (.Name "sorted" p) [.Call (.Name "set" p2) (e :: es) [] q2] [] pos) (lE (kw X) W (rSrtS qs)) :=
  PE.imp (pe_callB (cr_sortedSetA hc) hg1 hm1 hv1 (pa_cons (pe_callTy (cr_setL hc) hg2 hm2 hv2 ha (by decide) (by decide) he hpl) pa_nil he2) (by decide) (by decide) he2 hpl2) fun _ _ _ h => srtS_core h
/-! ### sorted(xs), min(xs), max(xs), sum(xs) of whole numbers -/
def mostI : Int → List Int → Int
  | n, [] => n
  | n, k :: ks => mostI (if n < k then k else n) ks
theorem mostI_spec : ∀ (ks : List Int) (n : Int), mostI n ks ∈ n :: ks ∧ ∀ x ∈ n :: ks, x ≤ mostI n ks
  | [], n => ⟨List.mem_cons_self, fun x hx => by rw [List.mem_singleton.mp hx]; exact Int.le_refl _⟩
  | k :: ks, n => by
    obtain ⟨h1, h2⟩ := mostI_spec ks (if n < k then k else n)
    unfold mostI
    have hb : n ≤ (if n < k then k else n) ∧ k ≤ (if n < k then k else n) := by split <;> omega
    have h3 := h2 _ List.mem_cons_self
    refine ⟨?_, fun x hx => ?_⟩
    · rcases List.mem_cons.mp h1 with h | h
      · rw [h]; split <;> simp
      · simp [h]
    · rcases List.mem_cons.mp hx with rfl | hx
      · omega
      · rcases List.mem_cons.mp hx with rfl | hx
        · omega
        · exact h2 x (List.mem_cons_of_mem _ hx)
theorem CallR.or {f : Value} {r r2 : List V → Hp → VK → Prop} (h1 : CallR X f r) (h2 : CallR X f r2) : CallR X f (fun xs H Q => r xs H Q ∨ r2 xs H Q) := by
  intro pins s σ H vs us Q I rv h
  rcases h with h | h
  · exact h1 pins s σ H vs us Q I rv h
  · exact h2 pins s σ H vs us Q I rv h
/-! ### xs.clear() -/
def rClr (ra : DE) : DE := fun δ m P PX => ra δ m (fun x m1 => match x with
  | .adr q => match m1 q with
    | some (.lst _) => P .non (mset m1 q (.lst []))
    | _ => False
  | _ => False) PX
theorem pd_clr {apos : Pos} (ho : PE X a (lE (kw X) W ra)) (hbase : attributeBase a "clear" X.env (eval a X.env) = eval a X.env := by rfl) (hline : (apos.endLine == pos.line) = true := by rfl) : PE X (.Call (.Attribute a "clear" apos) [] [] pos) (lE (kw X) W (rClr ra)) := by
  refine PE.imp (pe_bm0 PySem.F.plainAttrs_list PySem.F.slot_list_clear PySem.F.type_list_clear mt_clear ho hbase hline) fun σ H Q h => ?_
  obtain ⟨F, H0, m, δ, P, PX, ok, rs, h, g, gx⟩ := h
  refine ⟨F, H0, m, δ, _, PX, ok, rs, h, fun x H1 H01 m1 d s1 ok1 r1 h1 => ?_, gx⟩
  dsimp only at h1
  split at h1
  · rename_i q
    split at h1
    · rename_i ds e1
      cases r1
      obtain ⟨_, vs, hv1, rv⟩ := ok1.cell q _ e1
      exact ⟨.inl ⟨rfl, vs, SqL.of hv1⟩, q, vs, rfl, rfl, hv1, g _ _ _ _ _ s1 (ok1.write e1 (o := .lst []) ⟨[], upd_same, .nil⟩) .non h1⟩
    · exact h1.elim
  · exact h1.elim
/-! ### xs + ys as a list of our own -/
def oAddM : DO := fun x y m P => match asL m x, asL m y with
  | some i, some j => i.length + j.length ≤ sizeLine ∧ ∀ q, m q = none → P (.adr q) (mset m q (.lst (i ++ j)))
  | _, _ => False
theorem addM_ok {K : KW} : OpD K (rCatQ K) oAddM := by
  intro F H0 m H x y dx dy P Q ok rx ry h g
  unfold oAddM at h
  split at h
  · rename_i i j e1 e2
    obtain ⟨p1, v1, rfl, q1, r1⟩ := asL_rp ok rx e1
    obtain ⟨p2, v2, rfl, q2, r2⟩ := asL_rp ok ry e2
    exact ⟨p1, p2, v1, v2, rfl, rfl, q1, q2, by rw [r1.length, r2.length]; exact h.1, fun l hl => g.lstM ok hl (r1.append r2) h.2⟩
  · exact h.elim
theorem pd_addM (ha : PE X a (lE (kw X) W ra)) (hb : PE X b (lE (kw X) W rb)) : PE X (.BinOp a .Add b pos) (lE (kw X) W (rOp oAddM ra rb)) := pd_op op_catQ addM_ok ha hb
/-! ### a, b = e -/
def sTup (js : List Nat) (ra : DE) : DS := fun DD δ m => ra δ m (fun d m1 => gT js d δ m1 DD.nx) fun c fs m1 => DD.xx c fs δ m1
theorem ds_tup {g : TG} {js : List Nat} (ha : PE X a (lE (kw X) W ra)) (hg : PG X tg g) (go : Gok (kw X) js g (gT js)) (hs : swapsWithSole [tg] a pos.line X.env = pure false := by rfl) (hw : swappedStores [tg] a X.env = pure none := by rfl) (h1 : (assignEach [tg] X.env).map (·.2) = [assign tg X.env] := by rfl) :
    PS X (.Assign [tg] a pos) (lS (kw X) W (sTup js ra)) := by
  refine PS.imp (ps_asg ha hg hs hw h1) fun Dn σ H h => ?_
  obtain ⟨F, H0, m, δ, DD, ok, rs, h, gd⟩ := h
  exact ⟨F, H0, m, δ, _, _, ok, rs, h, fun v H1 H01 m1 d s1 ok1 r1 h1 => go F H01 m1 H1 σ δ v d _ _ ok1 (rs.mono s1) r1 h1 fun σ' δ' rs' _ h2 => gd.nx _ _ _ _ _ s1 ok1 rs' h2, gd.xx.at_ rs⟩
/-! ### [e for .. for ..] -/
theorem wipe_more {σ σ' : St} {js vs : List Nat} (h : wipe σ' js = wipe σ js) (hs : ∀ i ∈ js, i ∈ vs) : wipe σ' vs = wipe σ vs := by
  have hl : σ'.length = σ.length := by
    have := congrArg List.length h
    rwa [wipe_length, wipe_length] at this
  refine wipe_same hl fun i hi => ?_
  have h2 : (wipe σ' js)[i]? = (wipe σ js)[i]? := by rw [h]
  rw [wipe_get, wipe_get, if_neg fun z => hi (hs i z.1), if_neg fun z => hi (hs i z.1)] at h2
  exact h2
def rComp20 (Ph : Mu → Prop) (rg : DG) (qt : DT) (ri1 : DI) (js1 : List Nat) (rg1 : DG) (qt1 : DT) (re : DE) (δ : DSt) (P : List D → Mu → Prop) : List D → List D → Mu → Prop
  | [], acc, m => Ph m ∧ P acc m
  | d :: ds, acc, m => Ph m ∧ rg d δ m fun δ' m' => qt δ' m' (fun k m1 => match k with
    | true => ri1 δ' m1 (fun Ph1 ds1 m2 => rComp Ph1 rg1 qt1 re (wipeD δ' js1) (fun acc' m3 => rComp20 Ph rg qt ri1 js1 rg1 qt1 re δ P ds acc' m3) ds1 acc m2) noX
    | false => rComp20 Ph rg qt ri1 js1 rg1 qt1 re δ P ds acc m1) noX
@[irreducible] def rComp2 (Ph : Mu → Prop) (rg : DG) (qt : DT) (ri1 : DI) (js1 : List Nat) (rg1 : DG) (qt1 : DT) (re : DE) (δ : DSt) (P : List D → Mu → Prop) (ds acc : List D) (m : Mu) : Prop := rComp20 Ph rg qt ri1 js1 rg1 qt1 re δ P ds acc m
section
variable {Ph : Mu → Prop} {rg rg1 : DG} {qt qt1 : DT} {ri1 : DI} {js1 : List Nat} {re : DE} {δ : DSt} {P : List D → Mu → Prop} {acc : List D} {m : Mu} {d : D} {ds : List D}
theorem rComp2_nil : rComp2 Ph rg qt ri1 js1 rg1 qt1 re δ P [] acc m = (Ph m ∧ P acc m) := by unfold rComp2; rfl
theorem rComp2_cons : rComp2 Ph rg qt ri1 js1 rg1 qt1 re δ P (d :: ds) acc m = (Ph m ∧ rg d δ m fun δ' m' => qt δ' m' (fun k m1 => match k with
    | true => ri1 δ' m1 (fun Ph1 ds1 m2 => rComp Ph1 rg1 qt1 re (wipeD δ' js1) (fun acc' m3 => rComp2 Ph rg qt ri1 js1 rg1 qt1 re δ P ds acc' m3) ds1 acc m2) noX
    | false => rComp2 Ph rg qt ri1 js1 rg1 qt1 re δ P ds acc m1) noX) := by
  have e : rComp2 Ph rg qt ri1 js1 rg1 qt1 re δ P ds = rComp20 Ph rg qt ri1 js1 rg1 qt1 re δ P ds := by funext acc m; unfold rComp2; rfl
  rw [e]
  unfold rComp2
  rfl
end
def rLc2 (ri : DI) (js : List Nat) (rg : DG) (qt : DT) (ri1 : DI) (js1 : List Nat) (rg1 : DG) (qt1 : DT) (re : DE) : DE := fun δ m P PX => ri δ m (fun Ph ds m1 => rComp2 Ph rg qt ri1 js1 rg1 qt1 re (wipeD δ js) (fun acc m2 => P (.lst acc) m2) ds [] m1) PX
theorem lc2_lift {K : KW} {ri ri1 : DI} {g g1 : TG} {rg rg1 : DG} {qt qt1 : DT} {re : DE} {js jo js1 : List Nat} {Pf : DK → List D → Mu → Prop} (go : Gok K jo g rg) (hjo : ∀ i ∈ jo, i ∈ js) (go1 : Gok K js1 g1 rg1)
    (fin : ∀ F H0 m H q vs acc P Q, Ok K F H0 m H → H q = some (.lst vs) → H0 q = none → m q = none → F q = none → RpL K H0 vs acc → Pf P acc m → GV K F H0 P Q → Q (.ref q) H)
    {σ : St} {H : Hp} {Q : VK} (h : lE K W (fun δ m P PX => ri δ m (fun Ph ds m1 => rComp2 Ph rg qt ri1 js1 rg1 qt1 re (wipeD δ js) (Pf P) ds [] m1) PX) σ H Q) : tLc2 (lI K W ri) g (lT K noW qt) (lI K noW ri1) g1 (lT K noW qt1) (lE K noW re) js js1 σ H Q := by
  obtain ⟨F, H0, m, δ, P, PX, ok, rs, h, gv, gx⟩ := h
  refine ⟨F, H0, m, δ, _, _, ok, rs, h, fun J H1 H01 m1 Ph ds s1 ok1 it ph h1 q hq => ?_, gx⟩
  have hF : F q = none := ok1.freeF hq
  refine ⟨fun i k H' => ∃ H0' m' vs acc, Same H01 H0' ∧ Ok K (upd F q (.lst vs)) H0' m' H' ∧ RpL K H0' vs acc ∧ i + k = ds.length ∧ rComp2 Ph rg qt ri1 js1 rg1 qt1 re (wipeD δ js) (Pf P) (ds.drop i) acc m', ⟨ds.length, H01, m1, [], [], Same.refl _, ok1.addF hq, .nil, by omega, h1⟩, ?_⟩
  rintro i k H2 ⟨H02, m2, vs, acc, s2, ok2, rl, hik, h2⟩
  by_cases hlt : i < ds.length
  · have e1 : ds[i]? = some ds[i] := List.getElem?_eq_getElem hlt
    rw [List.drop_eq_getElem_cons hlt, rComp2_cons] at h2
    obtain ⟨ph2, h2⟩ := h2
    obtain ⟨go0, yl⟩ := (it _ i H2 H02 m2 s2 ok2 ph2).1 _ e1
    refine .inr ⟨go0, fun H' => ∃ H0' m' vs acc, Same H01 H0' ∧ Ok K (upd F q (.lst vs)) H0' m' H' ∧ RpL K H0' vs acc ∧ rComp2 Ph rg qt ri1 js1 rg1 qt1 re (wipeD δ js) (Pf P) (ds.drop (i + 1)) acc m', fun H' hN => ?_, fun x H' y => ?_⟩
    · obtain ⟨H0', m', vs', acc', z1, z2, z3, z4⟩ := hN
      exact ⟨k - 1, by omega, H0', m', vs', acc', z1, z2, z3, by omega, z4⟩
    · obtain ⟨H03, s3, ok3, r3⟩ := yl x H' y
      have rs3 := (rs.wipe js).mono (s1.trans (s2.trans s3))
      refine go _ H03 m2 H' _ _ x _ _ _ ok3 rs3 r3 h2 fun σ4 δ4 rs4 hw4 h4 => ⟨by rw [wipe_more hw4 hjo, wipe_twice], ?_⟩
      refine ⟨_, H03, m2, δ4, _, noX, ok3, rs4, h4, fun b H5 H05 m5 s5 ok5 h5 => ?_, fun _ _ _ _ _ _ _ _ _ z => z⟩
      cases b with
      | false =>
        rw [if_neg Bool.false_ne_true]
        exact ⟨H05, m5, vs, acc, (s2.trans s3).trans s5, ok5, (rl.mono s3).mono s5, h5⟩
      | true =>
        rw [if_pos rfl]
        refine ⟨_, H05, m5, δ4, _, noX, ok5, rs4.mono s5, h5, fun J1 H6 H06 m6 Ph1 ds1 s6 ok6 it1 ph1 h6 => ?_, fun _ _ _ _ _ _ _ _ _ z => z⟩
        have rl6 := ((rl.mono s3).mono s5).mono s6
        have s06 := ((s2.trans s3).trans s5).trans s6
        refine ⟨fun j k H' => ∃ H0' m' vs acc, Same H06 H0' ∧ Ok K (upd F q (.lst vs)) H0' m' H' ∧ RpL K H0' vs acc ∧ j + k = ds1.length ∧ rComp Ph1 rg1 qt1 re (wipeD δ4 js1) (fun acc' m3 => rComp2 Ph rg qt ri1 js1 rg1 qt1 re (wipeD δ js) (Pf P) (ds.drop (i + 1)) acc' m3) (ds1.drop j) acc m', ⟨ds1.length, H06, m6, vs, acc, Same.refl _, ok6, rl6, by omega, h6⟩, ?_⟩
        rintro j k1 H7 ⟨H07, m7, vs7, acc7, s7, ok7, rl7, hjk, h7⟩
        by_cases hlt1 : j < ds1.length
        · have e2 : ds1[j]? = some ds1[j] := List.getElem?_eq_getElem hlt1
          rw [List.drop_eq_getElem_cons hlt1, rComp_cons] at h7
          obtain ⟨ph7, h7⟩ := h7
          obtain ⟨go2, yl1⟩ := (it1 _ j H7 H07 m7 s7 ok7 ph7).1 _ e2
          refine .inr ⟨go2, fun H' => ∃ H0' m' vs acc, Same H06 H0' ∧ Ok K (upd F q (.lst vs)) H0' m' H' ∧ RpL K H0' vs acc ∧ rComp Ph1 rg1 qt1 re (wipeD δ4 js1) (fun acc' m3 => rComp2 Ph rg qt ri1 js1 rg1 qt1 re (wipeD δ js) (Pf P) (ds.drop (i + 1)) acc' m3) (ds1.drop (j + 1)) acc m', fun H' hN => ?_, fun x1 H' y1 => ?_⟩
          · obtain ⟨H0', m', vs', acc', z1, z2, z3, z4⟩ := hN
            exact ⟨k1 - 1, by omega, H0', m', vs', acc', z1, z2, z3, by omega, z4⟩
          · obtain ⟨H08, s8, ok8, r8⟩ := yl1 x1 H' y1
            have rs8 := ((((rs4.mono s5).mono s6).wipe js1).mono s7).mono s8
            refine go1 _ H08 m7 H' _ _ x1 _ _ _ ok8 rs8 r8 h7 fun σ9 δ9 rs9 hw9 h9 => ⟨by rw [hw9, wipe_twice], ?_⟩
            refine ⟨_, H08, m7, δ9, _, noX, ok8, rs9, h9, fun b H10 H010 m10 s10 ok10 h10 => ?_, fun _ _ _ _ _ _ _ _ _ z => z⟩
            cases b with
            | false =>
              rw [if_neg Bool.false_ne_true]
              exact ⟨H010, m10, vs7, acc7, (s7.trans s8).trans s10, ok10, (rl7.mono s8).mono s10, h10⟩
            | true =>
              rw [if_pos rfl]
              refine ⟨_, H010, m10, δ9, _, noX, ok10, rs9.mono s10, h10, fun y2 H11 H011 m11 d11 s11 ok11 r11 h11 => ?_, fun _ _ _ _ _ _ _ _ _ z => z⟩
              have rl11 := ((rl7.mono s8).mono s10).mono s11
              exact ⟨vs7, (ok11.fr q _ upd_same).1, by rw [rl11.length]; exact h11.1, H011, m11, vs7 ++ [y2], acc7 ++ [d11], ((s7.trans s8).trans s10).trans s11, ok11.reF, rl11.snoc r11, h11.2⟩
        · have e : j = ds1.length := by omega
          subst e
          rw [List.drop_length, rComp_nil] at h7
          exact .inl ⟨(it1 _ _ H7 H07 m7 s7 ok7 h7.1).2 rfl, H07, m7, vs7, acc7, s06.trans s7, ok7, rl7, h7.2⟩
  · have e : i = ds.length := by omega
    subst e
    rw [List.drop_length, rComp2_nil] at h2
    obtain ⟨ok3, z1, z2, z3⟩ := ok2.unframe hF
    exact .inl ⟨(it _ _ H2 H02 m2 s2 ok2 h2.1).2 rfl, fin F H02 m2 H2 q vs acc P Q ok3 z1 z2 z3 hF rl h2.2 (gv.mono (s1.trans s2))⟩
variable {ifs ifs1 : List Expr} {scope : Scope} {own : List (Str × Nat)} {ri ri1 : DI} {g g1 : TG} {rg rg1 : DG} {qt qt1 : DT} {re : DE} {tg1 : Expr}
theorem pd_lc2 {elt iter iter1 : Expr} {js jo js1 : List Nat} (hc : X.calm = true) (hN : X.N.Nodup) (hi : PI X tg iter (lI (kw X) W ri)) (ok : BlkOk X.N X.env.scope scope own) (go : Gok (kw X) jo g rg) (go1 : Gok (kw X) js1 g1 rg1) (hj : own.map (·.2) = js)
    (hg : ∀ (s : Shared) (H : Hp) (C : Addr) (cl : List (Str × Addr)) (fp : List Addr), PG (X.blk s H scope (compEnvC scope cl C X.env) fp) tg g) (ht : ∀ (s : Shared) (H : Hp) (C : Addr) (cl : List (Str × Addr)) (fp : List Addr), PTs (X.blk s H scope (compEnvC scope cl C X.env) fp) ifs (lT (kw X) noW qt))
    (hi1 : ∀ (s : Shared) (H : Hp) (C : Addr) (cl : List (Str × Addr)) (fp : List Addr), PI (X.blk s H scope (compEnvC scope cl C X.env) fp) tg1 iter1 (lI (kw X) noW ri1))
    (hg1 : ∀ (s : Shared) (H : Hp) (C : Addr) (cl : List (Str × Addr)) (fp : List Addr), PG (X.blk s H scope (compEnvC scope cl C X.env) fp) tg1 g1) (ht1 : ∀ (s : Shared) (H : Hp) (C : Addr) (cl : List (Str × Addr)) (fp : List Addr), PTs (X.blk s H scope (compEnvC scope cl C X.env) fp) ifs1 (lT (kw X) noW qt1))
    (he : ∀ (s : Shared) (H : Hp) (C : Addr) (cl : List (Str × Addr)) (fp : List Addr), PE (X.blk s H scope (compEnvC scope cl C X.env) fp) elt (lE (kw X) noW re)) (hjo : ∀ i ∈ jo, i ∈ js := by decide) (hj1 : ∀ i ∈ js1, i ∈ js := by decide) (hs : ∀ x, foldedSetIterable iter X.env x = pure x := by intro _; rfl) (hs1 : ∀ env x, foldedSetIterable iter1 env x = pure x := by intro _ _; rfl) :
    PE X (.ListComp elt [⟨tg, iter, ifs, 0⟩, ⟨tg1, iter1, ifs1, 0⟩] scope pos) (lE (kw X) W (rLc2 ri js rg qt ri1 js1 rg1 qt1 re)) := by
  subst hj
  exact PE.imp (pe_lc2 hc hN hi ok hj1 hg ht hi1 hg1 ht1 he hs hs1) fun _ _ _ h => lc2_lift go hjo go1 lc_fin h
end
end DL
namespace DL
open PySem L2
/-! ### what the written part holds, by a look that computes -/
def clsAddr (K : PySem.W.Frag) (n : Str) : Option Addr := match PySem.W.nsIn K mainGlobals n with
  | some (some (.ref C)) => some C
  | _ => none
theorem ClsAt.addr {K : PySem.W.Frag} {n : Str} {C : Addr} (h : ClsAt K n C) : clsAddr K n = some C := by unfold clsAddr; rw [h]
theorem ClsAt.uniq {K : PySem.W.Frag} {n : Str} {C C' : Addr} (h : ClsAt K n C) (h' : ClsAt K n C') : C = C' := by
  have := h.addr.symm.trans h'.addr
  cases this; rfl
def clsB (K : PySem.W.Frag) (n : Str) : Bool := match clsAddr K n with
  | some C => PySem.W.plainGet K C Str.empty && PySem.W.hasDictIn K C && PySem.W.plainOver K C && decide (PySem.W.findIn K (.ref C) "__setattr__" = some (some (.builtin "object.__setattr__")))
  | none => false
/-- an own class of plain instances -/
structure ClsF (K : PySem.W.Frag) (n : Str) : Prop where
  ok : ∀ C, ClsAt K n C → Cls K C
theorem clsB_ok {K : PySem.W.Frag} {n : Str} (h : clsB K n = true) : ClsF K n := ⟨fun C hC => by
  unfold clsB at h
  rw [hC.addr] at h
  simp only [Bool.and_eq_true, decide_eq_true_eq] at h
  exact ⟨h.1.1.1, h.1.1.2, h.1.2, h.2⟩⟩
/-- a field of it -/
structure FldF (K : PySem.W.Frag) (n f : Str) : Prop where
  ok : ∀ C, ClsAt K n C → Cls K C ∧ NoAttr K C f
def fldB (K : PySem.W.Frag) (n f : Str) : Bool := clsB K n && match clsAddr K n with
  | some C => decide (PySem.W.findIn K (.ref C) f = some none)
  | none => false
theorem fldB_ok {K : PySem.W.Frag} {n f : Str} (h : fldB K n f = true) : FldF K n f := ⟨fun C hC => by
  unfold fldB at h
  rw [Bool.and_eq_true, hC.addr] at h
  exact ⟨(clsB_ok h.1).ok C hC, show PySem.W.findIn K (.ref C) f = some none from of_decide_eq_true h.2⟩⟩
/-! ### fields -/
def putFd (f : Str) (v : D) : List (Str × D) → List (Str × D)
  | [] => [(f, v)]
  | (g, x) :: r => if g = f then (g, v) :: r else (g, x) :: putFd f v r
theorem put_rp {K : PySem.W.Frag} {H : Hp} {f : Str} {v : V} {d : D} (q : Rp K H v d) : ∀ {fv : List (Str × V)} {fs : List (Str × D)}, fv.map (·.1) = fs.map (·.1) → RpL K H (fv.map (·.2)) (fs.map (·.2)) → (putF f v fv).map (·.1) = (putFd f d fs).map (·.1) ∧ RpL K H ((putF f v fv).map (·.2)) ((putFd f d fs).map (·.2))
  | [], [], _, _ => ⟨rfl, .cons q .nil⟩
  | [], _ :: _, e, _ => by simp at e
  | _ :: _, [], e, _ => by simp at e
  | (g, x) :: fv, (g', y) :: fs, e, r => by
    simp only [List.map_cons, List.cons.injEq] at e r
    obtain ⟨e1, e2⟩ := e
    obtain rfl : g = g' := e1
    cases r with
    | cons r1 r2 =>
      unfold putF putFd
      by_cases hg : g = f
      · rw [if_pos hg, if_pos hg]
        simp only [List.map_cons]
        exact ⟨by rw [e2], .cons q r2⟩
      · rw [if_neg hg, if_neg hg]
        obtain ⟨i1, i2⟩ := put_rp q e2 r2
        simp only [List.map_cons]
        exact ⟨by rw [i1], .cons r1 i2⟩
theorem lookup_rp {K : PySem.W.Frag} {H : Hp} {f : Str} {d : D} : ∀ {fv : List (Str × V)} {fs : List (Str × D)}, fv.map (·.1) = fs.map (·.1) → RpL K H (fv.map (·.2)) (fs.map (·.2)) → fs.lookup f = some d → ∃ v, fv.lookup f = some v ∧ Rp K H v d
  | [], [], _, _, h => by cases h
  | [], _ :: _, e, _, _ => by simp at e
  | _ :: _, [], e, _, _ => by simp at e
  | (g, x) :: fv, (g', y) :: fs, e, r, h => by
    simp only [List.map_cons, List.cons.injEq] at e r
    obtain ⟨e1, e2⟩ := e
    obtain rfl : g = g' := e1
    cases r with
    | cons r1 r2 =>
      unfold List.lookup at h ⊢
      cases hb : f == g with
      | true => rw [hb] at h; cases h; exact ⟨x, rfl, r1⟩
      | false => rw [hb] at h; exact lookup_rp e2 r2 h
theorem lookup_none {f : Str} : ∀ {fv : List (Str × V)} {fs : List (Str × D)}, fv.map (·.1) = fs.map (·.1) → fs.lookup f = none → fv.lookup f = none
  | [], [], _, _ => rfl
  | [], _ :: _, e, _ => by simp at e
  | _ :: _, [], e, _ => by simp at e
  | (g, x) :: fv, (g', y) :: fs, e, h => by
    simp only [List.map_cons, List.cons.injEq] at e
    obtain ⟨e1, e2⟩ := e
    obtain rfl : g = g' := e1
    unfold List.lookup at h ⊢
    cases hb : f == g with
    | true => rw [hb] at h; cases h
    | false => rw [hb] at h; exact lookup_none e2 h
/-- an instance of the class n: one that never changes, or one of ours -/
def insOf (m : Mu) (n : Str) : D → Option (List (Str × D))
  | .ins k fs => if k = n then some fs else none
  | .adr a => match m a with
    | some (.ins k fs) => if k = n then some fs else none
    | _ => none
  | _ => none
theorem insOf_rp {K : KW} {F : Hp} {H0 H : Hp} {m : Mu} {n : Str} {v : V} {d : D} {fs : List (Str × D)} (ok : Ok K F H0 m H) (r : Rp K H0 v d) (h : insOf m n d = some fs) : ∃ a C dx fv, v = .ref a ∧ ClsAt K n C ∧ H a = some (.ins C dx fv) ∧ fv.map (·.1) = fs.map (·.1) ∧ RpL K H0 (fv.map (·.2)) (fs.map (·.2)) := by
  unfold insOf at h
  split at h
  · split at h
    · rename_i e; subst e; cases h
      cases r with
      | ins c q e2 t => exact ⟨_, _, _, _, rfl, c, ok.same _ _ q, e2, t⟩
    · cases h
  · split at h
    · rename_i k fs' e1
      split at h
      · rename_i e; subst e; cases h
        cases r
        obtain ⟨_, C, dx, fv, c, hv, e2, t⟩ := ok.cell _ _ e1
        exact ⟨_, C, dx, fv, rfl, c, hv, e2, t⟩
      · cases h
    · cases h
  · cases h
section
variable {X : Cx} {W : WX} {a b c o : Expr} {ra rb rc ro : DE} {pos p apos : Pos} {e : Expr} {es : List Expr} {qs qk : DA} {n f : Str}
def rFld (n f : Str) (ra : DE) : DE := fun δ m P PX => ra δ m (fun x m1 => match insOf m1 n x with
  | some fs => match fs.lookup f with
    | some d => P d m1
    | none => False
  | none => False) PX
theorem pd_fld (T : FldF X.K n f) (ha : PE X a (lE (kw X) W ra)) (hb : attributeBase a f X.env (eval a X.env) = eval a X.env := by rfl) : PE X (.Attribute a f pos) (lE (kw X) W (rFld n f ra)) := by
  refine PE.imp (pe_fld ha hb) fun σ H Q h => ?_
  obtain ⟨F, H0, m, δ, P, PX, ok, rs, h, g, gx⟩ := h
  refine ⟨F, H0, m, δ, _, PX, ok, rs, h, fun x H1 H01 m1 d s1 ok1 r1 h1 => ?_, gx⟩
  dsimp only at h1
  split at h1
  · rename_i fs e1
    split at h1
    · rename_i d' e2
      obtain ⟨q, C, dx, fv, rfl, c, hq, e3, t⟩ := insOf_rp ok1 r1 e1
      obtain ⟨v, e4, rv⟩ := lookup_rp e3 t e2
      exact ⟨q, C, dx, fv, v, rfl, hq, (T.ok C c).1, (T.ok C c).2, e4, g _ _ _ _ _ s1 ok1 rv h1⟩
    · exact h1.elim
  · exact h1.elim
def sSetF (n f : Str) (ro rv : DE) : DS := fun DD δ m => rv δ m (fun v m1 => ro δ m1 (fun o m2 => match o with
  | .adr q => match m2 q with
    | some (.ins k fs) => k = n ∧ fs.length < 900 ∧ DD.nx δ (mset m2 q (.ins n (putFd f v fs)))
    | _ => False
  | _ => False) fun c fs m1 => DD.xx c fs δ m1) fun c fs m1 => DD.xx c fs δ m1
theorem ds_setF {rv : DE} {p2 : Pos} (T : FldF X.K n f) (ho : PE X o (lE (kw X) W ro)) (hv : PE X a (lE (kw X) W rv)) (hs : swapsWith a (some (.Attribute o f p2)) pos.line X.env = pure false := by rfl) : PS X (.Assign [.Attribute o f p2] a pos) (lS (kw X) W (sSetF n f ro rv)) := by
  refine PS.imp (ps_fld ho hv hs) fun Dn σ H h => ?_
  obtain ⟨F, H0, m, δ, DD, ok, rs, h, g⟩ := h
  refine ⟨F, H0, m, δ, _, _, ok, rs, h, fun y H1 H01 m1 d1 s1 ok1 r1 h1 => ⟨F, H01, m1, δ, _, _, ok1, rs.mono s1, h1, fun x H2 H02 m2 d2 s2 ok2 r2 h2 => ?_, (g.mono s1).xx.at_ (rs.mono s1)⟩, g.xx.at_ rs⟩
  dsimp only at h2
  split at h2
  · rename_i q
    cases r2
    split at h2
    · rename_i k fs e1
      obtain ⟨rfl, hl, h2⟩ := h2
      obtain ⟨_, C, dx, fv, cA, hq, e2, t⟩ := ok2.cell q _ e1
      have hl2 : fv.length = fs.length := by have := congrArg List.length e2; simpa using this
      obtain ⟨z1, z2⟩ := put_rp (f := f) (r1.mono s2) e2 t
      refine ⟨q, C, dx, fv, rfl, hq, (T.ok C cA).1, (T.ok C cA).2, by omega, ?_⟩
      exact g.nx _ _ _ _ _ (s1.trans s2) (ok2.write (o := .ins k (putFd f d1 fs)) e1 ⟨C, dx, _, cA, upd_same, z1, z2⟩) (rs.mono (s1.trans s2)) h2
    · exact h2.elim
  · exact h2.elim
/-! ### targets that may change what is ours -/
end
/-! ### a def, whatever its defaults -/
/-- x : d among what is written -/
def valB (K : PySem.W.Frag) : Nat → Value → D → Bool
  | _, .none, .non => true
  | _, .bool b, .bl c => b == c
  | _, .int i _, .int j => i == j
  | _, .str x _, .str y => x == y
  | k + 1, .ref a, .tup ds => match K.lookup a with
    | some o => decide (o.cls = .type "tuple") && match o.data with
      | .seq its _ => decide (its.size ≤ 1000) && go k its.toList ds
      | _ => false
    | none => false
  | _, _, _ => false
where go (k : Nat) : List Value → List D → Bool
  | [], [] => true
  | u :: us, d :: ds => valB K k u d && go k us ds
  | _, _ => false
theorem valB_ok {K : PySem.W.Frag} : ∀ (k : Nat) {u : Value} {d : D}, valB K k u d = true → ∃ v, RelV v u ∧ ∀ H, Rp K H v d := by
  intro k
  induction k with
  | zero =>
    intro u d h
    unfold valB at h
    split at h <;> first | exact ⟨.non, rfl, fun _ => .non⟩ | (simp at h; done) | skip
    · rename_i b c; obtain rfl : b = c := by simpa using h
      exact ⟨.bl b, rfl, fun _ => .bl b⟩
    · rename_i i t j; obtain rfl : i = j := by simpa using h
      exact ⟨.int i, ⟨t, rfl⟩, fun _ => .int i⟩
    · rename_i x t y; obtain rfl : x = y := by simpa using h
      exact ⟨.str x, ⟨t, rfl⟩, fun _ => .str x⟩
    · rename_i hk; exact absurd hk (by omega)
  | succ k ih =>
    have all : ∀ (us : List Value) (ds : List D), valB.go K k us ds = true → ∃ vs, Vals vs us ∧ ∀ H, RpL K H vs ds := by
      intro us
      induction us with
      | nil =>
        intro ds h
        cases ds with
        | nil => exact ⟨[], .nil, fun _ => .nil⟩
        | cons d ds => simp [valB.go] at h
      | cons u us ihl =>
        intro ds h
        cases ds with
        | nil => simp [valB.go] at h
        | cons d ds =>
          simp only [valB.go, Bool.and_eq_true] at h
          obtain ⟨v, r, q⟩ := ih h.1
          obtain ⟨vs, rs, qs⟩ := ihl ds h.2
          exact ⟨v :: vs, .cons r rs, fun H => .cons (q H) (qs H)⟩
    intro u d h
    unfold valB at h
    split at h <;> first | exact ⟨.non, rfl, fun _ => .non⟩ | (simp at h; done) | skip
    · rename_i b c; obtain rfl : b = c := by simpa using h
      exact ⟨.bl b, rfl, fun _ => .bl b⟩
    · rename_i i t j; obtain rfl : i = j := by simpa using h
      exact ⟨.int i, ⟨t, rfl⟩, fun _ => .int i⟩
    · rename_i x t y; obtain rfl : x = y := by simpa using h
      exact ⟨.str x, ⟨t, rfl⟩, fun _ => .str x⟩
    · rename_i k' a ds hk
      obtain rfl : k = k' := by omega
      split at h
      · rename_i o ho
        rw [Bool.and_eq_true] at h
        obtain ⟨h1, h2⟩ := h
        split at h2
        · rename_i its nn hd
          rw [Bool.and_eq_true] at h2
          obtain ⟨vs, rs, qs⟩ := all its.toList ds h2.2
          have hsz := of_decide_eq_true h2.1
          exact ⟨.ref a, rfl, fun H => .tup (.inr ⟨o, its, nn, ho, of_decide_eq_true h1, hd, Nat.le_trans hsz (by decide), rs⟩) (qs H)⟩
        · cases h2
      · cases h
def valsB (K : PySem.W.Frag) (us : List Value) (ds : List D) : Bool := valB.go K 3 us ds
theorem valsB_ok {K : PySem.W.Frag} : ∀ {us : List Value} {ds : List D}, valsB K us ds = true → ∃ vs, Vals vs us ∧ ∀ H, RpL K H vs ds
  | [], [], _ => ⟨[], .nil, fun _ => .nil⟩
  | [], _ :: _, h => by simp [valsB, valB.go] at h
  | _ :: _, [], h => by simp [valsB, valB.go] at h
  | u :: us, d :: ds, h => by
    simp only [valsB, valB.go, Bool.and_eq_true] at h
    obtain ⟨v, r, q⟩ := valB_ok _ h.1
    obtain ⟨vs, rs, qs⟩ := valsB_ok (us := us) (ds := ds) h.2
    exact ⟨v :: vs, .cons r rs, fun H => .cons (q H) (qs H)⟩
/-! ### defs with defaults -/
structure FunG (K : PySem.W.Frag) (x qual : Str) (st : Stmt) (dD : List D) (kD : List (Str × D)) (f : Addr) (fd : FuncData) : Prop where
  ex : ∃ dvs kws, FunD K x qual (defArgs st) (defBody st) (defScope st) dvs kws f fd ∧ (∀ H, RpL K H dvs dD) ∧ kws.map (·.1) = kD.map (·.1) ∧ ∀ H, RpL K H (kws.map (·.2)) (kD.map (·.2))
/-- the defaults as they stand: dV None or a tuple, kV None or a dict -/
def dflB (K : PySem.W.Frag) (dV : Value) (dD : List D) : Bool := match dD with
  | [] => match dV with
    | .none => true
    | _ => false
  | _ :: _ => match dV with
    | .ref T => match K.lookup T with
      | some o => match o.data with
        | .seq its _ => valsB K its.toList dD
        | _ => false
      | none => false
    | _ => false
def kwdB (K : PySem.W.Frag) (kV : Value) (kD : List (Str × D)) : Bool := match kD with
  | [] => true
  | _ :: _ => match kV with
    | .ref D => kD.all fun q => match PySem.W.nsIn K D q.1 with
      | some (some u) => valB K 3 u q.2
      | _ => false
    | _ => false
theorem dflB_ok {K : PySem.W.Frag} {dV : Value} {dD : List D} (h : dflB K dV dD = true) : ∃ dvs, DflV K dV dvs ∧ ∀ H, RpL K H dvs dD := by
  unfold dflB at h
  split at h
  · split at h
    · exact ⟨[], .inl ⟨rfl, rfl⟩, fun _ => .nil⟩
    · cases h
  · split at h
    · rename_i T
      split at h
      · rename_i o ho
        split at h
        · rename_i its nn hd
          obtain ⟨vs, r, q⟩ := valsB_ok h
          refine ⟨vs, .inr ⟨fun z => ?_, T, o, its.toList, nn, rfl, ho, by simpa using hd, r⟩, q⟩
          subst z
          have := q fun _ => none
          cases this
        · cases h
      · cases h
    · cases h
theorem kwds {K : PySem.W.Frag} {D' : Addr} : ∀ {kD : List (Str × D)}, (kD.all fun q => match PySem.W.nsIn K D' q.1 with | some (some u) => valB K 3 u q.2 | _ => false) = true →
    ∃ kws : List (Str × V), kws.map (·.1) = kD.map (·.1) ∧ (∀ H, RpL K H (kws.map (·.2)) (kD.map (·.2))) ∧ ∀ q ∈ kws, ∃ u, PySem.W.nsIn K D' q.1 = some (some u) ∧ RelV q.2 u
  | [], _ => ⟨[], rfl, fun _ => .nil, fun _ z => by cases z⟩
  | (x, d) :: kD, h => by
    rw [List.all_cons, Bool.and_eq_true] at h
    obtain ⟨h1, h2⟩ := h
    obtain ⟨kws, e1, e2, e3⟩ := kwds (kD := kD) h2
    dsimp only at h1
    split at h1
    · rename_i u hu
      obtain ⟨v, r, q⟩ := valB_ok _ h1
      refine ⟨(x, v) :: kws, by simp [e1], fun H => .cons (q H) (e2 H), fun z hz => ?_⟩
      rcases List.mem_cons.mp hz with rfl | hz
      · exact ⟨u, hu, r⟩
      · exact e3 z hz
    · cases h1
theorem kwdB_ok {K : PySem.W.Frag} {kV : Value} {kD : List (Str × D)} (h : kwdB K kV kD = true) : ∃ kws, KwdV K kV kws ∧ kws.map (·.1) = kD.map (·.1) ∧ ∀ H, RpL K H (kws.map (·.2)) (kD.map (·.2)) := by
  unfold kwdB at h
  split at h
  · exact ⟨[], .inl rfl, rfl, fun _ => .nil⟩
  · split at h
    · rename_i D'
      obtain ⟨kws, e1, e2, e3⟩ := kwds h
      exact ⟨kws, .inr ⟨D', rfl, e3⟩, e1, e2⟩
    · cases h
theorem funG_mk {K : PySem.W.Frag} {x qual : Str} {st : Stmt} {dD : List D} {kD : List (Str × D)} {f : Addr} {oc : Value} {od an : Option Addr} {osl : Array (Option Value)} {dV kV doc pm cdv ct : Value}
    (l : K.lookup f = some ⟨oc, od, .func (PySem.W.fnOf x qual (defArgs st) (defBody st) (defScope st) dV kV doc pm an cdv ct), osl⟩) (c : PySem.W.codeIn K cdv qual = true) (k : PySem.W.keepIn K (.ref f) = true) (hd : dflB K dV dD = true) (hk : kwdB K kV kD = true) :
    FunG K x qual st dD kD f (PySem.W.fnOf x qual (defArgs st) (defBody st) (defScope st) dV kV doc pm an cdv ct) := by
  obtain ⟨dvs, d1, d2⟩ := dflB_ok hd
  obtain ⟨kws, k1, k2, k3⟩ := kwdB_ok hk
  exact ⟨dvs, kws, ⟨⟨oc, od, dV, kV, doc, pm, an, cdv, ct, osl, rfl, l, c, d1, k1⟩, k⟩, d2, k2, k3⟩
/-! ### how a call binds: ix takes from positional values, keywords, defaults, keyword-only defaults, in that order -/
def BindT0 (x qual : Str) (st : Stmt) (ps : List Str) (n : Nat) (ks : List Str) (dn : Nat) (ix : List Nat) : Prop := ∀ (T : Addr) (kV doc pm : Value) (an : Option Addr) (cdv ct : Value) (us its ws : List Value), us.length = n → its.length = dn → ws.length = ks.length →
  ∃ k, bindArgs (PySem.W.fnOf x qual (defArgs st) (defBody st) (defScope st) (.ref T) kV doc pm an cdv ct) ⟨us, ks.zip ws⟩ = seqItems? (.ref T) >>= k ∧ k (some its.toArray) = pure (ps.zip (gI ix (us ++ ws) its))
section
variable {K : PySem.W.Frag} {x qual : Str} {st : Stmt} {ps ks ms : List Str} {n : Nat} {ix : List Nat} {f : Addr} {fd : FuncData} {dD : List D} {kD : List (Str × D)}
theorem gI_rp2 {H : Hp} {vs zs ws : List V} {ds es fs : List D} (ix : List Nat) (r1 : RpL K H vs ds) (r2 : RpL K H zs es) (r3 : RpL K H ws fs) : RpL K H (gI ix (vs ++ zs) ws) (gI ix (ds ++ es) fs) := gI_rp (r1.append r2) r3 ix
theorem kbd_N0 (G : FunG K x qual st [] kD f fd) (B : BindKw x qual st ps n ks ix) : KBd K fd ps n ks (gI ix) := by
  obtain ⟨dvs, kws, F, d1, k1, k2⟩ := G.ex
  obtain ⟨oc, od, dV, kV, doc, pm, an, cdv, ct, osl, rfl, lk, hcd, hD, hK⟩ := F.ex
  have e : dvs = [] := by have := (d1 fun _ => none).length; simpa using this
  subst e
  rcases hD with ⟨_, rfl⟩ | ⟨z, _⟩
  · exact ⟨gI ix, gI ix, ⟨fun s us ws _ l1 l2 => BindsTo.of_eq (B kV doc pm an cdv ct us ws l1 l2), fun r1 r2 => gI_vals r1 r2 ix⟩, fun H vs ds zs es _ _ r1 r2 => gI_rp r1 r2 ix⟩
  · exact absurd rfl z
theorem kbd_T0 (G : FunG K x qual st dD kD f fd) (hne : dD ≠ []) (B : BindT0 x qual st ps n ks dD.length ix) : KBd K fd ps n ks fun ds es => gI ix (ds ++ es) dD := by
  obtain ⟨dvs, kws, F, d1, k1, k2⟩ := G.ex
  obtain ⟨oc, od, dV, kV, doc, pm, an, cdv, ct, osl, rfl, lk, hcd, hD, hK⟩ := F.ex
  have el : dvs.length = dD.length := (d1 fun _ => none).length
  rcases hD with ⟨rfl, _⟩ | ⟨_, T, o, its, m, rfl, lT, oT, rT⟩
  · exact absurd (List.eq_nil_of_length_eq_zero el.symm) hne
  · refine ⟨fun us ws => gI ix (us ++ ws) its, fun vs zs => gI ix (vs ++ zs) dvs, ⟨fun s us ws X l1 l2 => ?_, fun r1 r2 => gI_vals (r1.append r2) rT ix⟩, fun H vs ds zs es _ _ r1 r2 => gI_rp2 ix r1 r2 (d1 H)⟩
    obtain ⟨k, e1, e2⟩ := B T kV doc pm an cdv ct us its ws l1 (rT.length.symm.trans el) l2
    refine BindsTo.of_looks fun M => ?_
    rw [e1]
    exact looks_items X lT oT (.of_pure e2)
/-- the keyword-only ones that lack -/
theorem pick {kws : List (Str × V)} {kD : List (Str × D)} (e : kws.map (·.1) = kD.map (·.1)) (r : ∀ H, RpL K H (kws.map (·.2)) (kD.map (·.2))) : ∀ ms : List Str, (∀ y ∈ ms, (kD.lookup y).isSome = true) →
    ∃ mk : List (Str × V), mk.map (·.1) = ms ∧ (∀ q ∈ mk, q ∈ kws) ∧ ∀ H, RpL K H (mk.map (·.2)) (ms.map fun y => (kD.lookup y).getD .non)
  | [], _ => ⟨[], rfl, (fun _ z => by cases z), fun _ => .nil⟩
  | y :: ms, h => by
    obtain ⟨mk, e1, e2, e3⟩ := pick e r ms fun z hz => h z (List.mem_cons_of_mem _ hz)
    have hy := h y List.mem_cons_self
    cases hl : kD.lookup y with
    | none => rw [hl] at hy; cases hy
    | some d =>
      have mem : ∀ {kws : List (Str × V)} {v : V}, kws.lookup y = some v → (y, v) ∈ kws := by
        intro kws v
        induction kws with
        | nil => intro h; cases h
        | cons q kws ih =>
          obtain ⟨g, x⟩ := q
          intro h
          unfold List.lookup at h
          cases hb : y == g with
          | true => rw [hb] at h; cases h; have : y = g := by simpa using hb
                    rw [this]; exact List.mem_cons_self
          | false => rw [hb] at h; exact List.mem_cons_of_mem _ (ih h)
      obtain ⟨v, ev, _⟩ := lookup_rp e (r fun _ => none) hl
      refine ⟨(y, v) :: mk, by simp [e1], fun q hq => ?_, fun H => ?_⟩
      · rcases List.mem_cons.mp hq with rfl | hq
        · exact mem ev
        · exact e2 q hq
      · rw [List.map_cons, List.map_cons, hl]
        obtain ⟨v', ev', rv⟩ := lookup_rp e (r H) hl
        rw [ev] at ev'; cases ev'
        exact .cons rv (e3 H)
end
end DL
namespace DL
open PySem L2
/-! ### the arguments of a call, of whatever is called -/
structure Cal (X : Cx) (W : WX) (pos : Pos) (args : List Expr) (kws : List Keyword) (ks : List Str) (qs qk : DA) : Prop where
  run : ∀ (f : Value) (first : List Value) (pins : List (Addr × Obj)) (s : Shared) (σ : St) (H : Hp) (B : List V → List V → Hp → Prop) (Q : Value → Shared → Prop), PySem.W.keepIn X.K f = true → L2.Inv X pins σ H s →
    lA (kw X) W qs σ H (fun vs H1 => lA (kw X) W qk σ H1 (B vs)) →
    (∀ us ws vs zs s2 H2, L2.Inv X pins σ H2 s2 → Vals vs us → Vals zs ws → B vs zs H2 → wpAny (model X.prog X.w) X.A (call f (first ++ us) (ks.zip ws)) Q X.xe s2) →
    wpAny (model X.prog X.w) X.A (callWith pos f first (backTo pos (starEach args X.env)) (backToKw pos (keywordEach kws X.env))) Q X.xe s
section
variable {X : Cx} {W : WX} {a b c o : Expr} {ra rb rc ro : DE} {pos p apos : Pos} {e : Expr} {es args : List Expr} {kws : List Keyword} {qs qk : DA} {n f x : Str} {ks ps : List Str}
theorem cal_cons (ha : PA X (e :: es) (lA (kw X) W qs)) (hkw : PK X kws (lA (kw X) W qk)) (hall : (backToKw pos (keywordEach kws X.env)).all (·.1.isSome) = true := by rfl) (hks : (backToKw pos (keywordEach kws X.env)).filterMap (·.1) = ks := by rfl)
    (he : starEach (e :: es) X.env = (false, eval e X.env) :: starEach es X.env := by rfl) (hpl : ((backTo pos (starEach (e :: es) X.env)).any (·.1) || (backToKw pos (keywordEach kws X.env)).any (·.1.isNone)) = false := by rfl) : Cal X W pos (e :: es) kws ks qs qk := by
  refine ⟨fun f first pins s σ H B Q hk I h k => PySem.W.callWith_KW (h₀ := X.base) I.ok.mod.kin hk hall (thn (ha.run pos pins s σ H _ I h) fun us s1 hh => ?_) hpl he⟩
  obtain ⟨vs, H1, I1, r, q⟩ := hh
  refine thn (hkw.run pos pins s1 σ H1 _ I1 q) fun ws s2 hh2 => ?_
  obtain ⟨zs, H2, I2, rz, q2⟩ := hh2
  rw [hks]
  exact ⟨I2.kIn, k us ws vs zs s2 H2 I2 r rz q2⟩
/-- a call's values over data -/
def aCal (np nk : Nat) (qs qk : DA) (B : List D → List D → Mu → Prop) : DSt → Mu → DX → Prop := fun δ m PX => qs δ m (fun xs m1 => qk δ m1 (fun zs m2 => xs.length = np ∧ zs.length = nk ∧ B xs zs m2) PX) PX
theorem aCal_up {K : KW} {F H0 H : Hp} {m : Mu} {δ : DSt} {σ : St} {np nk : Nat} {B : List D → List D → Mu → Prop} {PX : DX} (ok : Ok K F H0 m H) (rs : RpS K H0 σ δ) (h : aCal np nk qs qk B δ m PX) (gx : GX K F H0 PX fun c xd H' => W c xd σ H')
    {C : List V → List V → Hp → Prop} (k : ∀ vs zs H' H0' m' ds es, Same H0 H0' → Ok K F H0' m' H' → RpL K H0' vs ds → RpL K H0' zs es → ds.length = np → es.length = nk → B ds es m' → C vs zs H') :
    lA K W qs σ H (fun vs H1 => lA K W qk σ H1 (C vs)) :=
  ⟨F, H0, m, δ, _, PX, ok, rs, h, fun vs H1 H01 m1 ds s1 ok1 r1 h1 => ⟨F, H01, m1, δ, _, PX, ok1, rs.mono s1, h1, fun zs H2 H02 m2 es s2 ok2 r2 h2 => k vs zs H2 H02 m2 ds es (s1.trans s2) ok2 (r1.mono s2) r2 h2.1 h2.2.1 h2.2.2, gx.mono s1⟩, gx⟩
/-! ### defs -/
/-- a method of a class -/
def MetAt (K : PySem.W.Frag) (n m qual : Str) (st : Stmt) (dD : List D) (kD : List (Str × D)) : Prop := ∃ C f fd, ClsAt K n C ∧ Cls K C ∧ Meth K C m f ∧ FunG K m qual st dD kD f fd
structure MetG (P : Program) (w : World) (K : PySem.W.Frag) (mg : Str → Option Value) (base : Heap) (k : Nat) (n m qual : Str) (st : Stmt) (ps : List Str) (dD : List D) (kD : List (Str × D)) (sp : SpD) : Prop where
  ex : ∃ C f fd, ClsAt K n C ∧ Cls K C ∧ Meth K C m f ∧ FunG K m qual st dD kD f fd ∧ FnOk P w K mg base (L2.CX P w) k f fd ps (lP ⟨K, w⟩ sp)
/-- what makes an instance -/
def MkAt (K : PySem.W.Frag) (mg : Str → Option Value) (n qual : Str) (st : Stmt) (dD : List D) (kD : List (Str × D)) : Prop := ∃ C f fd, mg n = some (.ref C) ∧ ClsAt K n C ∧ Mk K C f ∧ FunG K "__init__" qual st dD kD f fd
structure MkG (P : Program) (w : World) (K : PySem.W.Frag) (mg : Str → Option Value) (base : Heap) (k : Nat) (n qual : Str) (st : Stmt) (ps : List Str) (dD : List D) (kD : List (Str × D)) (sp : SpD) : Prop where
  ex : ∃ C f fd, mg n = some (.ref C) ∧ ClsAt K n C ∧ Mk K C f ∧ FunG K "__init__" qual st dD kD f fd ∧ FnOk P w K mg base (L2.CX P w) k f fd ps (lP ⟨K, w⟩ sp)
end
section
variable {P : Program} {w : World} {K : PySem.W.Frag} {mg : Str → Option Value} {base : Heap}
theorem fn_okG {x qual : Str} {st : Stmt} {f : Addr} {fd : FuncData} {N ps : List Str} {k : Nat} {sp : SpD} {r : DS} {dD : List D} {kD : List (Str × D)} (G : FunG K x qual st dD kD f fd) (S : FnScope N ps (defScope st)) (hlen : ∀ ds m Q PX, sp ds m Q PX → ds.length = ps.length)
    (hd : ∀ (f : Addr) (cdv : Value) (A : Around) (outer : List Env) (s : Shared) (H : Hp) (E : XK), Room k (A.deeper (PyProof.Rows.envOfC qual (defScope st) s.heap.objs.size f cdv)) →
      PSs (cxOf (L2.CX P w) P w K mg base N qual (defScope st) f cdv A outer s H E) (defBody st) (lS ⟨K, w⟩ (fun c d _ H => E c d H) r))
    (hp : ∀ ds m Q PX, sp ds m Q PX → r (dEnds Q PX) (dstart N ds) m) : FnOk P w K mg base (L2.CX P w) (k + 1) f fd ps (lP ⟨K, w⟩ sp) := by
  obtain ⟨dvs, kws, F, _⟩ := G.ex
  refine F.ok S (fun vs H Q E h => ?_) (fun cdv A outer s H vs Q E hr h => ⟨_, hd f cdv A outer s H E hr, ?_⟩)
  · obtain ⟨F', H0, m, ds, Q', PX, ok, rl, h, _⟩ := h
    exact rl.length.trans (hlen _ _ _ _ h)
  · obtain ⟨F', H0, m, ds, Q', PX, ok, rl, h, g, gx⟩ := h
    exact ⟨F', H0, m, _, _, ok, rps_start rl, hp ds m Q' PX h, ⟨fun σ' H' H0' m' δ' s ok' _ z => g _ _ _ _ _ s ok' .non z, g, fun _ _ _ _ _ _ _ _ z => z.elim, fun _ _ _ _ _ _ _ _ z => z.elim, fun c xd σ' H' H0' m' fs δ' s ok' _ x z => gx c xd H' H0' m' fs s ok' x z⟩⟩
theorem met_ok {n m qual : Str} {st : Stmt} {N ps : List Str} {k : Nat} {sp : SpD} {r : DS} {dD : List D} {kD : List (Str × D)} (G : MetAt K n m qual st dD kD) (S : FnScope N ps (defScope st)) (hlen : ∀ ds m Q PX, sp ds m Q PX → ds.length = ps.length)
    (hd : ∀ (f : Addr) (cdv : Value) (A : Around) (outer : List Env) (s : Shared) (H : Hp) (E : XK), Room k (A.deeper (PyProof.Rows.envOfC qual (defScope st) s.heap.objs.size f cdv)) →
      PSs (cxOf (L2.CX P w) P w K mg base N qual (defScope st) f cdv A outer s H E) (defBody st) (lS ⟨K, w⟩ (fun c d _ H => E c d H) r))
    (hp : ∀ ds m Q PX, sp ds m Q PX → r (dEnds Q PX) (dstart N ds) m) : MetG P w K mg base (k + 1) n m qual st ps dD kD sp := by
  obtain ⟨C, f, fd, h1, h2, h3, G⟩ := G
  exact ⟨C, f, fd, h1, h2, h3, G, fn_okG G S hlen hd hp⟩
theorem mk_ok {n qual : Str} {st : Stmt} {N ps : List Str} {k : Nat} {sp : SpD} {r : DS} {dD : List D} {kD : List (Str × D)} (G : MkAt K mg n qual st dD kD) (S : FnScope N ps (defScope st)) (hlen : ∀ ds m Q PX, sp ds m Q PX → ds.length = ps.length)
    (hd : ∀ (f : Addr) (cdv : Value) (A : Around) (outer : List Env) (s : Shared) (H : Hp) (E : XK), Room k (A.deeper (PyProof.Rows.envOfC qual (defScope st) s.heap.objs.size f cdv)) →
      PSs (cxOf (L2.CX P w) P w K mg base N qual (defScope st) f cdv A outer s H E) (defBody st) (lS ⟨K, w⟩ (fun c d _ H => E c d H) r))
    (hp : ∀ ds m Q PX, sp ds m Q PX → r (dEnds Q PX) (dstart N ds) m) : MkG P w K mg base (k + 1) n qual st ps dD kD sp := by
  obtain ⟨C, f, fd, h1, h2, h3, G⟩ := G
  exact ⟨C, f, fd, h1, h2, h3, G, fn_okG G S hlen hd hp⟩
end
section
variable {X : Cx} {W : WX} {a b c o : Expr} {ra rb rc ro : DE} {pos p apos : Pos} {e : Expr} {es args : List Expr} {kws : List Keyword} {qs qk : DA} {n m f x qual : Str} {ks ps : List Str} {st : Stmt} {k np : Nat} {dD : List D} {kD : List (Str × D)} {sp : SpD} {gD : List D → List D → List D}
theorem FunG.kp {K : PySem.W.Frag} {x qual : Str} {st : Stmt} {dD : List D} {kD : List (Str × D)} {f : Addr} {fd : FuncData} (G : FunG K x qual st dD kD f fd) : PySem.W.keepIn K (.ref f) = true := let ⟨_, _, F, _⟩ := G.ex; F.kp
/-- o.m(..), o an instance of the class n -/
def rMet (n m : Str) (sp : SpD) (np nk : Nat) (gD : List D → List D → List D) (ro : DE) (qs qk : DA) : DE := fun δ m0 P PX => ro δ m0 (fun o m1 => match insOf m1 n o with
  | some fs => match fs.lookup m with
    | some _ => False
    | none => aCal np nk qs qk (fun xs zs m2 => sp (gD (o :: xs) zs) m2 P PX) δ m1 PX
  | none => False) PX
theorem pd_met {pl : Sem Bool} (G : MetG X.prog X.w X.K X.mg X.base k n m qual st ps dD kD sp) (B : ∀ f fd, FunG X.K m qual st dD kD f fd → KBd X.K fd ps (np + 1) ks gD) (hr : Room k X.A) (tk : Takes X W) (ho : PE X o (lE (kw X) W ro)) (ca : Cal X W pos args kws ks qs qk)
    (ht : eval (.Call (.Attribute o m apos) args kws pos) X.env = (do
      let ov ← eval o X.env
      standAt apos.atName
      let (f, first) ← holding [ov] (getMethod ov m pl)
      callWith pos f first (backTo pos (starEach args X.env)) (backToKw pos (keywordEach kws X.env))) := by rfl) :
    PE X (.Call (.Attribute o m apos) args kws pos) (lE (kw X) W (rMet n m sp np ks.length gD ro qs qk)) := by
  obtain ⟨C, f, fd, hC, cC, hm, G1, G2⟩ := G.ex
  obtain ⟨gg, gV, hb, hR⟩ := (B f fd G1).ex
  refine ⟨fun pins s σ H Q I h => ?_⟩
  obtain ⟨F, H0, mm, δ, P, PX, ok, rs, h, g, gx⟩ := h
  refine PySem.W.methodCall_KW (pl := pl) (thn (ho.run pins s σ H (fun v H1 => ∃ a dx fv, v = .ref a ∧ H1 a = some (.ins C dx fv) ∧ fv.lookup m = none ∧ lA (kw X) W qs σ H1 (fun vs H2 => lA (kw X) W qk σ H2 fun zs H3 => vs.length = np ∧ zs.length = ks.length ∧ lP (kw X) sp (gV (.ref a :: vs) zs) H3 Q (WE W σ))) I ⟨F, H0, mm, δ, _, PX, ok, rs, h, fun v H1 H01 m1 d s1 ok1 r1 h1 => ?_, gx⟩) fun u s1 hh => ?_) ht
  · dsimp only at h1
    split at h1
    · rename_i fs e1
      obtain ⟨q, C', dx, fv, rfl, cA, hq, e2, t⟩ := insOf_rp ok1 r1 e1
      obtain rfl := hC.uniq cA
      split at h1
      · exact h1.elim
      · rename_i e3
        refine ⟨q, dx, fv, rfl, hq, lookup_none e2 e3, aCal_up ok1 (rs.mono s1) h1 (gx.mono s1) fun vs zs H' H0' m' ds es s2 ok2 rr1 rr2 l1 l2 h2 => ?_⟩
        have e4 := rr1.length.trans l1
        have e5 := rr2.length.trans l2
        exact ⟨e4, e5, F, H0', m', _, P, PX, ok2, hR _ _ _ _ _ (by simp [e4]) e5 (.cons (r1.mono s2) rr1) rr2, h2, g.mono (s1.trans s2), gx.mono (s1.trans s2)⟩
    · exact h1.elim
  · obtain ⟨v, H1, I1, rv, q, dx, fv, rfl, hq, hl, hA⟩ := hh
    obtain rfl : u = Value.ref q := rv
    refine getmeth_ok I1 hq cC hm hl (ca.run (.ref f) [.ref q] pins s1 σ H1 _ _ hm.kp I1 hA fun us ws vs zs s2 H2 I2 r rz z => ?_)
    exact run_kS (us := .ref q :: us) (vs := .ref q :: vs) G2 hr hb (passAt tk σ) I2 (.cons rfl r) rz (by simp [z.1]) z.2.1 z.2.2
/-- the instance x becomes data -/
theorem Ok.seal {K : KW} {F H0 H : Hp} {m : Mu} {q : Addr} {n : Str} {fs : List (Str × D)} (ok : Ok K F H0 m H) (h : m q = some (.ins n fs)) : ∃ H0', Same H0 H0' ∧ Ok K F H0' (mdel m q) H ∧ Rp K H0' (.ref q) (.ins n fs) := by
  obtain ⟨h0, C, dx, fv, cA, hq, e, t⟩ := ok.cell q _ h
  have sn := same_new (o := HO.ins C dx fv) h0
  refine ⟨upd H0 q (.ins C dx fv), sn, ⟨fun b u z => ?_, fun b u z => ?_, fun b u z => ?_, fun P y l => have t := ok.tab P y l; t.step sn ((upd_ne (ok.neM l h)).trans t.h0) t.hF rfl⟩, .ins cA upd_same e (t.mono sn)⟩
  · by_cases hb : b = q
    · subst hb; rw [upd_same] at z; cases z; exact hq
    · rw [upd_ne hb] at z; exact ok.same b u z
  · unfold mdel at z
    by_cases hb : b = q
    · rw [if_pos hb] at z; cases z
    · rw [if_neg hb] at z
      obtain ⟨c1, c2⟩ := ok.cell b u z
      exact ⟨by rw [upd_ne hb]; exact c1, c2.mono sn rfl⟩
  · obtain ⟨c1, c2, c3⟩ := ok.fr b u z
    have hb : b ≠ q := fun w => by rw [w, h] at c3; cases c3
    exact ⟨c1, by rw [upd_ne hb]; exact c2, by unfold mdel; rw [if_neg hb]; exact c3⟩
theorem Ok.less {K : KW} {F H0 H : Hp} {m : Mu} (ok : Ok K F H0 m H) (q : Addr) : Ok K F H0 (mdel m q) H := ok.weak fun b u z => by
  unfold mdel at z
  split at z
  · cases z
  · exact z
theorem Ok.born {K : KW} {F H0 H : Hp} {m : Mu} {q dx C : Addr} {n : Str} (ok : Ok K F H0 m H) (hq : H q = none) (hd : H dx = none) (hne : dx ≠ q) (cA : ClsAt K n C) : Ok K F H0 (mset m q (.ins n [])) (upd (upd H dx (.own q)) q (.ins C dx [])) := by
  have ok1 : Ok K F H0 m (upd H dx (.own q)) := ⟨fun b u z => by rw [upd_ne (ne_of_none (ok.same b u z) hd)]; exact ok.same b u z, fun b u z => by
    obtain ⟨c1, c2⟩ := ok.cell b u z
    obtain ⟨y, hy⟩ := c2.some
    exact ⟨c1, c2.mono (Same.refl _) (upd_ne (ne_of_none hy hd))⟩, fun b u z => by
    obtain ⟨c1, c2, c3⟩ := ok.fr b u z
    exact ⟨by rw [upd_ne (ne_of_none c1 hd)]; exact c1, c2, c3⟩, fun P y l => have t := ok.tab P y l; t.step (fun _ _ z => z) t.h0 t.hF (upd_ne (t.ne_none hd))⟩
  exact ok1.newM (o := .ins n []) (by rw [upd_ne (Ne.symm hne)]; exact hq) ⟨C, dx, [], cA, upd_same, rfl, .nil⟩
theorem run_mk {pins : List (Addr × Obj)} {σ : St} {H : Hp} {s : Shared} {Q : VK} {E : XK} {C fI : Addr} {fd : FuncData} {gg : List Value → List Value → List Value} {gV : List V → List V → List V} {spH : Sp} {us ws : List Value} {vs zs : List V} (M : Mk X.K C fI) (G : FnOk X.prog X.w X.K X.mg X.base (L2.CX X.prog X.w) k fI fd ps spH) (hr : Room (k + 1) X.A)
    (hb : KBn X.K fd ps (np + 1) ks gg gV) (hx : PassesAt (L2.CX X.prog X.w) X σ E) (I : L2.Inv X pins σ H s) (r : Vals vs us) (rz : Vals zs ws) (l1 : vs.length = np) (l2 : zs.length = ks.length)
    (h : ∀ q dx, H q = none → H dx = none → dx ≠ q → spH (gV (.ref q :: vs) zs) (upd (upd H dx (.own q)) q (.ins C dx [])) (fun v H2 => v = .non ∧ Q (.ref q) H2) E) : wpAny (model X.prog X.w) X.A (call (.ref C) us (ks.zip ws)) (EP X pins σ Q) X.xe s := by
  have n1 := I.hok.fresh (Nat.le_succ s.heap.objs.size)
  have n2 := I.hok.fresh (Nat.le_refl s.heap.objs.size)
  have hne : s.heap.objs.size ≠ s.heap.objs.size + 1 := by omega
  have J := L2.Inv.made (C := C) I
  have rs : Vals (V.ref (s.heap.objs.size + 1) :: vs) (Value.ref (s.heap.objs.size + 1) :: us) := .cons rfl r
  have el : (Value.ref (s.heap.objs.size + 1) :: us).length = np + 1 := by rw [← rs.length]; simp [l1]
  have run := G.run _ X.stack _ _ ⟨Value.ref (s.heap.objs.size + 1) :: us, ks.zip ws⟩ _ _ _ E (hr.make C us (ks.zip ws)) (J.env0.make C us (ks.zip ws)) (hb.to _ _ ws J.kIn el (rz.length.symm.trans l2)) (hb.rel rs rz) (h _ _ n1 n2 hne)
  refine wpAny_call (make_map (f := fI) I.kIn M.makes M.init (beq_iff_eq.mp M.fn) (codeAny_mono run fun res s' hq => ?_))
  cases res with
  | error er => exact hx pins _ _ er s' J hq
  | ok fl => cases fl with
    | ret u =>
      obtain ⟨v, H', J', rv, ev, q⟩ := J.after hq
      subst ev
      exact ⟨rv, .ref (s.heap.objs.size + 1), H', J', rfl, q⟩
    | _ => exact False.elim hq
/-- C(..), the new instance data from then on -/
def rMk (n : Str) (sp : SpD) (np nk : Nat) (gD : List D → List D → List D) (qs qk : DA) : DE := fun δ m P PX => aCal np nk qs qk (fun xs zs m2 => ∀ q, m2 q = none → sp (gD (.adr q :: xs) zs) (mset m2 q (.ins n []))
  (fun v m3 => v = .non ∧ ∃ fs, m3 q = some (.ins n fs) ∧ P (.ins n fs) (mdel m3 q)) fun c fs m3 => PX c fs (mdel m3 q)) δ m PX
theorem mk_core {Pf : Addr → DK → DK} (hPf : ∀ F H0 m H q v d P Q, Ok (kw X) F H0 m H → Rp X.K H0 v d → Pf q P d m → GV (kw X) F H0 P Q → v = .non ∧ Q (.ref q) H) (G : MkG X.prog X.w X.K X.mg X.base k n qual st ps dD kD sp) (B : ∀ f fd, FunG X.K "__init__" qual st dD kD f fd → KBd X.K fd ps (np + 1) ks gD) (hr : Room (k + 1) X.A) (tk : Takes X W) (ca : Cal X W pos args kws ks qs qk) (hg : Gl X n) (hdb : (n == ("__debug__" : Str)) = false) :
    PE X (.Call (.Name n p) args kws pos) (lE (kw X) W fun δ m P PX => aCal np ks.length qs qk (fun xs zs m2 => ∀ q, m2 q = none → sp (gD (.adr q :: xs) zs) (mset m2 q (.ins n [])) (Pf q P) fun c fs m3 => PX c fs (mdel m3 q)) δ m PX) := by
  obtain ⟨C, fI, fd, hm, cA, M, G1, G2⟩ := G.ex
  obtain ⟨gg, gV, hb, hR⟩ := (B fI fd G1).ex
  refine ⟨fun pins s σ H Q I h => ?_⟩
  obtain ⟨F, H0, m, δ, P, PX, ok, rs, h, g, gx⟩ := h
  refine wpAny_Call_Name_kw (ld_glob I hg hm ?_ hdb)
  refine ca.run (.ref C) [] pins s σ H (fun vs zs H2 => vs.length = np ∧ zs.length = ks.length ∧ ∀ q dx, H2 q = none → H2 dx = none → dx ≠ q → lP (kw X) sp (gV (.ref q :: vs) zs) (upd (upd H2 dx (.own q)) q (.ins C dx [])) (fun v H3 => v = .non ∧ Q (.ref q) H3) (WE W σ)) _ M.kp I (aCal_up ok rs h gx fun vs zs H' H0' m' ds es s1 ok1 r1 r2 l1 l2 h1 => ?_) fun us ws vs zs s2 H2 I2 r rz q => ?_
  · have e1 := r1.length.trans l1
    have e2 := r2.length.trans l2
    refine ⟨e1, e2, fun q dx hq hdx hne => ⟨F, H0', _, _, Pf q P, fun c fs m3 => PX c fs (mdel m3 q), ok1.born hq hdx hne cA, hR _ _ _ _ _ (by simp [e1]) e2 (.cons (.adr q) r1) r2, h1 q (ok1.free hq).2, fun v H3 H03 m3 d s3 ok3 r3 h3 => ?_, fun cc xd H3 H03 m3 fs s3 ok3 x z => (gx.mono s1) cc xd H3 H03 _ fs s3 (ok3.less q) x z⟩⟩
    exact hPf F H03 m3 H3 q v d P Q ok3 r3 h3 (g.mono (s1.trans s3))
  · exact run_mk M G2 hr hb (passAt tk σ) I2 r rz q.1 q.2.1 q.2.2
theorem pd_mk (G : MkG X.prog X.w X.K X.mg X.base k n qual st ps dD kD sp) (B : ∀ f fd, FunG X.K "__init__" qual st dD kD f fd → KBd X.K fd ps (np + 1) ks gD) (hr : Room (k + 1) X.A) (tk : Takes X W) (ca : Cal X W pos args kws ks qs qk) (hg : Gl X n := by rfl) (hdb : (n == ("__debug__" : Str)) = false := by decide) :
    PE X (.Call (.Name n p) args kws pos) (lE (kw X) W (rMk n sp np ks.length gD qs qk)) :=
  mk_core (Pf := fun q P v m3 => v = .non ∧ ∃ fs, m3 q = some (.ins n fs) ∧ P (.ins n fs) (mdel m3 q)) (fun F H0 m H q v d P Q ok r h g => by
    obtain ⟨rfl, fs, e, h⟩ := h
    cases r
    obtain ⟨H0', s, ok', r'⟩ := ok.seal e
    exact ⟨rfl, g _ _ _ _ _ s ok' r' h⟩) G B hr tk ca hg hdb
end
end DL
/-! ### isinstance of an exception that has fields -/
namespace DL
open PySem L2
/-! ### the kinds of refusals of the program -/
/-! ### raise -/
/-- what the text says of a refusal's class whose __init__ is TrialError's own -/
def oexB (K : PySem.W.Frag) (C : Addr) : Bool := decide (PySem.W.findIn K (.ref C) "__setattr__" = some (some (.builtin "object.__setattr__"))) && decide (PySem.W.subIn K (.ref C) (.type "BaseException") = some true) && decide (PySem.W.typeIn K (.ref C) = some (.type "type")) && PySem.W.keepIn K (.ref C) &&
  match K.lookup C with
  | some ⟨.type "type", _, .cls cd, sl⟩ => match cd.mro, sl.toList with
    | .ref C' :: bm, [_, _, _, _, some (.builtin n), _] => C' == C && n == "ValueError.__new__" && !cd.hasDel && cd.hasDict && PySem.HandSPX.refsVE bm
    | _, _ => false
  | _ => false
theorem oexB_ok {K : PySem.W.Frag} {C : Addr} (h : oexB K C = true) : OexC K C := by
  simp only [oexB, Bool.and_eq_true, decide_eq_true_eq] at h
  obtain ⟨⟨⟨⟨h1, h2⟩, h3⟩, h4⟩, h5⟩ := h
  refine ⟨?_, h1, h2, h3, h4⟩
  split at h5
  · rename_i dd cd sl ho
    split at h5
    · rename_i C' bm k0 k1 k2 k3 n k5 hm hs
      simp only [Bool.and_eq_true, beq_iff_eq, Bool.not_eq_true'] at h5
      obtain ⟨⟨⟨⟨rfl, rfl⟩, hdel⟩, hdi⟩, hr⟩ := h5
      obtain ⟨nm, bs, mro, ns, qn, hd, sn, sub, ab, col, del⟩ := cd
      dsimp only at hm hdel hdi
      subst hm hdel hdi
      obtain ⟨l⟩ := sl
      simp only at hs
      subst hs
      exact ⟨nm, qn, ns, bs, bm, sn, sub, ab, col, dd, k0, k1, k2, k3, k5, ho, hr⟩
    · cases h5
  · cases h5
def spTE (K : PySem.W.Frag) : Sp := fun vs H Q _ => ∃ (a C : Addr) (y : V), vs = [.ref a, y] ∧ OexC K C ∧ PySem.W.findIn K (.ref C) "why" = some none ∧ H a = some (exo a C none) ∧ ∀ dx, H dx = none → dx ≠ a → Q .non (upd (upd H dx (exd dx [("why", y)])) a (exo a C (some dx)))
/-- the refusal n, its class at C, made by the __init__ at fI -/
structure XMk (P : Program) (w : World) (K : PySem.W.Frag) (mg : Str → Option Value) (base : Heap) (k : Nat) (n : Str) (ps : List Str) (spX : PySem.W.Frag → Sp) (B : FuncData → Prop) : Prop where
  ex : ∃ C fI fd, mg n = some (.ref C) ∧ ClsAt K n C ∧ OexC K C ∧ PySem.W.findIn K (.ref C) "__init__" = some (some (.ref fI)) ∧ PySem.W.typeIn K (.ref fI) = some (.type "function") ∧ PySem.W.findIn K (.ref C) "why" = some none ∧ B fd ∧ FnOk P w K mg base (L2.CX P w) k fI fd ps (spX K)
theorem Ok.xd {K : KW} {F H0 H : Hp} {m : Mu} {q dx C : Addr} {fs : List (Str × V)} (ok : Ok K F H0 m H) (hq : H q = none) (hd : H dx = none) (hne : dx ≠ q) :
    upd (del (upd (upd (upd H q (exo q C none)) dx (exd dx fs)) q (exo q C (some dx))) q) dx (.xd fs) = upd H dx (.xd fs) := by
  funext b
  by_cases h1 : b = dx
  · subst h1; rw [upd_same, upd_same]
  · rw [upd_ne h1, upd_ne h1]
    by_cases h2 : b = q
    · subst h2; rw [del_same, hq]
    · rw [del_ne h2, upd_ne h2, upd_ne h1, upd_ne h2]
theorem no_cx {P : Program} {w : World} {outer : List Env} {H : Hp} {s : Shared} {e : Value} {s' : Shared} (h : L2.CX P w outer H s (fun _ _ _ => False) e s') : False := by
  obtain ⟨_, _, _, _, _, _, _, _, _, _, _, _, z⟩ := h
  exact z
section
variable {X : Cx} {W : WX} {e : Expr} {ra : DE} {pos p rp : Pos} {n : Str} {k : Nat} {ps : List Str} {qs : DA}
def sRaise (n : Str) (qs : DA) : DS := fun DD δ m => qs δ m (fun vs m1 => match vs with
  | [v] => DD.xx n [("why", v)] δ m1
  | _ => False) fun c fs m1 => DD.xx c fs δ m1
theorem ds_raise {Bd : FuncData → Prop} (hc : X.calm = true) (T : XMk X.prog X.w X.K X.mg X.base k n ps spTE Bd) (hb : ∀ fd, Bd fd → Binds X.K fd ps []) (hr : Room (k + 1) X.A) (tk : Takes X W) (ha : PA X [e] (lA (kw X) W qs)) (hg : Gl X n := by rfl) (hdb : (n == ("__debug__" : Str)) = false := by decide)
    (he : starEach [e] X.env = (false, eval e X.env) :: starEach [] X.env := by rfl) (hpl : (backTo pos (starEach [] X.env)).any (·.1) = false := by rfl) :
    PS X (.Raise (some (.Call (.Name n p) [e] [] pos)) none rp) (lS (kw X) W (sRaise n qs)) := by
  obtain ⟨C, fI, fd, hm, hA, oC, iC, tI, wC, hB, G⟩ := T.ex
  refine PS.imp (ps_raise hc tk (pmk_oex oC iC tI G hr (hb fd hB) .nil (fun pins σ H s e s' I c => (no_cx c).elim) hg hm ha hdb he hpl)) fun Dn σ H h => ?_
  obtain ⟨F, H0, m, δ, DD, ok, rs, h, g⟩ := h
  refine ⟨F, H0, m, δ, _, _, ok, rs, h, fun vs H1 H01 m1 ds s1 ok1 r1 h1 => ?_, g.xx.at_ rs⟩
  dsimp only at h1
  split at h1
  · obtain ⟨v, rfl, rv⟩ := r1.one
    refine ⟨by simp, fun q hq => ⟨q, C, v, rfl, oC, wC, upd_same, fun dx hdx hne => ⟨rfl, dx, [("why", v)], upd_same, by rw [upd_ne hne, upd_same], ?_, ?_⟩⟩⟩
    · rw [upd_ne hne] at hdx; exact hdx
    · rw [upd_ne hne] at hdx
      rw [ok1.xd hq hdx hne]
      have sn := same_new (o := HO.xd [("why", v)]) (ok1.free hdx).1
      exact g.xx _ _ _ _ _ _ (n, [("why", _)]) _ (s1.trans sn) (ok1.new hdx _) ((rs.mono s1).mono sn) ⟨C, rfl, hA, dx, _, rfl, upd_same, rfl, .cons (rv.mono sn) .nil⟩ h1
  · exact h1.elim
/-! ### try .. except -/
variable {body suite : List Stmt} {b₀ : Stmt} {np pos' : Pos} {x y : Str} {i : Nat} {rb : DS}
end
/-! ### TrialError's __init__ -/
def XAt (K : PySem.W.Frag) (mg : Str → Option Value) (n : Str) (st : Stmt) : Prop := ∃ C fI fd, mg n = some (.ref C) ∧ ClsAt K n C ∧ OexC K C ∧ PySem.W.findIn K (.ref C) "__init__" = some (some (.ref fI)) ∧ PySem.W.typeIn K (.ref fI) = some (.type "function") ∧ PySem.W.findIn K (.ref C) "why" = some none ∧ FunG K "__init__" "TrialError.__init__" st [.str "refused"] [] fI fd
theorem xAt_mk {K : PySem.W.Frag} {h : Heap} {mg : Str → Option Value} {n : Str} {st : Stmt} {C fI : Addr} {oc : Value} {od an : Option Addr} {osl : Array (Option Value)} {dV kV doc pm cdv ct : Value} (X : K.In h) (G : h.Ns mainGlobals mg)
    (a : PySem.W.nsIn K mainGlobals n = some (some (.ref C))) (b : PySem.W.findIn K (.ref C) "__init__" = some (some (.ref fI))) (l : K.lookup fI = some ⟨oc, od, .func (PySem.W.fnOf "__init__" "TrialError.__init__" (defArgs st) (defBody st) (defScope st) dV kV doc pm an cdv ct), osl⟩) (c : PySem.W.codeIn K cdv "TrialError.__init__" = true) (k : PySem.W.keepIn K (.ref fI) = true)
    (t : PySem.W.typeIn K (.ref fI) = some (.type "function")) (w : PySem.W.findIn K (.ref C) "why" = some none) (hd : dflB K dV [.str "refused"] = true) (ho : oexB K C = true) : XAt K mg n st :=
  ⟨C, fI, _, PySem.W.mg_of X G a, a, oexB_ok ho, b, t, w, funG_mk l c k hd rfl⟩
theorem te_binds {K : PySem.W.Frag} {st : Stmt} {fI : Addr} {fd : FuncData} (G : FunG K "__init__" "TrialError.__init__" st [.str "refused"] [] fI fd) (B : BindT0 "__init__" "TrialError.__init__" st ["self", "why"] 2 [] 1 [0, 1]) : Binds K fd ["self", "why"] [] := by
  obtain ⟨g, gV, kb, _⟩ := (kbd_T0 G (by simp) B).ex
  intro s us hK hl
  rw [List.append_nil] at hl ⊢
  match us, hl with
  | [u, v], _ =>
    obtain ⟨dvs, kws, F, d1, k1, k2⟩ := G.ex
    obtain ⟨oc, od, dV, kV, doc, pm, an, cdv, ct, osl, rfl, lk, hcd, hD, hK'⟩ := F.ex
    have el : dvs.length = 1 := (d1 fun _ => none).length
    rcases hD with ⟨rfl, _⟩ | ⟨_, T, o, its, m, rfl, lT, oT, rT⟩
    · cases el
    · obtain ⟨k, e1, e2⟩ := B T kV doc pm an cdv ct [u, v] its [] rfl (rT.length.symm.trans el) rfl
      have e0 : gI [0, 1] ([u, v] ++ []) its = [u, v] := by simp [gI]
      rw [e0] at e2
      refine BindsTo.of_looks fun M => ?_
      have e1' : bindArgs (PySem.W.fnOf "__init__" "TrialError.__init__" (defArgs st) (defBody st) (defScope st) (.ref T) kV doc pm an cdv ct) ⟨[u, v], []⟩ = seqItems? (.ref T) >>= k := e1
      rw [e1']
      exact looks_items hK lT oT (.of_pure e2)
def tTE (K : PySem.W.Frag) : TS := fun D σ H => ∃ (a C : Addr) (y : V), σ[0]? = some (some (.ref a)) ∧ σ[1]? = some (some y) ∧ OexC K C ∧ PySem.W.findIn K (.ref C) "why" = some none ∧ H a = some (exo a C none) ∧ ∀ dx, H dx = none → dx ≠ a → D.nx σ (upd (upd H dx (exd dx [("why", y)])) a (exo a C (some dx)))
section
variable {P : Program} {w : World} {K : PySem.W.Frag} {mg : Str → Option Value} {base : Heap}
theorem xmk_of {n : Str} {st : Stmt} (T : XAt K mg n st) (S : FnScope ["self", "why"] ["self", "why"] (defScope st)) (hd : ∀ (f : Addr) (cdv : Value) (A : Around) (outer : List Env) (s : Shared) (H : Hp) (E : XK), PSs (cxOf (L2.CX P w) P w K mg base ["self", "why"] "TrialError.__init__" (defScope st) f cdv A outer s H E) (defBody st) (tTE K)) :
    XMk P w K mg base 1 n ["self", "why"] spTE fun fd => ∃ fI, FunG K "__init__" "TrialError.__init__" st [.str "refused"] [] fI fd := by
  obtain ⟨C, fI, fd, h1, h2, h3, h4, h5, h6, G⟩ := T
  refine ⟨C, fI, fd, h1, h2, h3, h4, h5, h6, ⟨fI, G⟩, ?_⟩
  obtain ⟨dvs, kws, F, _⟩ := G.ex
  refine F.ok S (fun vs H Q E h => ?_) (fun cdv A outer s H vs Q E hr h => ⟨_, hd fI cdv A outer s H E, ?_⟩)
  · obtain ⟨a, C, y, rfl, _⟩ := h
    rfl
  · obtain ⟨a, C, y, rfl, q1, q2, q3, q4⟩ := h
    exact ⟨a, C, y, rfl, rfl, q1, q2, q3, q4⟩
end
/-- the walk through it -/
theorem te_walk {X : Cx} {p1 p2 p3 p4 p5 p6 p7 p8 p9 p10 : Pos} (hm : X.mg "ValueError" = none) (hg : Gl X "ValueError") (vV : PySem.W.findCls X.K (.type "ValueError") (.type "type") "__init__" = some (.val (.builtin "ValueError.__init__"))) (v0 : PE X (.Name "self" p3) (fun σ H Q => ∃ v, σ[0]? = some (some v) ∧ Q v H)) (v1 : PE X (.Name "why" p4) (fun σ H Q => ∃ v, σ[1]? = some (some v) ∧ Q v H))
    (v2 : PE X (.Name "self" p7) (fun σ H Q => ∃ v, σ[0]? = some (some v) ∧ Q v H)) (v3 : PE X (.Name "why" p9) (fun σ H Q => ∃ v, σ[1]? = some (some v) ∧ Q v H))
    (he : starEach [.Name "self" p3, .Name "why" p4] X.env = (false, eval (.Name "self" p3) X.env) :: starEach [.Name "why" p4] X.env) (he2 : starEach [.Name "why" p4] X.env = (false, eval (.Name "why" p4) X.env) :: starEach [] X.env) {pl : Sem Bool}
    (hc : eval (.Call (.Attribute (.Name "ValueError" p1) "__init__" p2) [.Name "self" p3, .Name "why" p4] [] p5) X.env = (do
      let ov ← eval (.Name "ValueError" p1) X.env
      standAt p2.atName
      let (f, first) ← holding [ov] (getMethod ov "__init__" pl)
      callWith p5 f first (backTo p5 (starEach [.Name "self" p3, .Name "why" p4] X.env)) (backToKw p5 (keywordEach [] X.env))))
    (hpl : (backTo p5 (starEach [.Name "why" p4] X.env)).any (·.1) = false) (hsw : swapsWith (.Call (.Attribute (.Name "ValueError" p1) "__init__" p2) [.Name "self" p3, .Name "why" p4] [] p5) none p6.line X.env = pure false) (hsw2 : swapsWith (.Name "why" p9) (some (.Attribute (.Name "self" p7) "why" p8)) p10.line X.env = pure false) :
    PSs X [.Expr (.Call (.Attribute (.Name "ValueError" p1) "__init__" p2) [.Name "self" p3, .Name "why" p4] [] p5) p6, .Assign [.Attribute (.Name "self" p7) "why" p8] (.Name "why" p9) p10] (tTE X.K) := by
  refine PSs.imp (pss_cons (ps_expr (pe_veinit hg hm vV (pa_cons v0 (pa_cons v1 pa_nil he2) he) hc he hpl) hsw) (pss_one (ps_ost v2 v3 hsw2))) fun D σ H h => ?_
  obtain ⟨a, C, y, e0, e1, o, wC, hH, k⟩ := h
  refine ⟨_, e0, _, e1, a, C, [y], rfl, by simp, o, hH, ?_⟩
  exact ⟨_, e1, _, e0, a, C, rfl, o, wC, .inl ⟨hH, fun dx hdx hne => k dx hdx hne⟩⟩
end DL
namespace DL
open PySem L2
/-! ### isinstance, own classes too -/
/-! ### a dict of the text -/
def entB (K : PySem.W.Frag) : List DictEntry → List (Str × D) → Bool
  | [], [] => true
  | e :: es, (z, d) :: r => (match e.key with
    | .str y _ => y == z
    | _ => false) && valB K 3 e.val d && entB K es r
  | _, _ => false
theorem ent_ok {K : PySem.W.Frag} (x : Str) : ∀ {es : List DictEntry} {tbl : List (Str × D)}, entB K es tbl = true → es.any (·.refKey) = false ∧ match tbl.lookup x with
    | some d => ∃ e u v, es.find? (·.key.isStr x) = some e ∧ e.val = u ∧ RelV v u ∧ ∀ H, Rp K H v d
    | none => es.find? (·.key.isStr x) = none
  | [], [], _ => ⟨rfl, rfl⟩
  | [], _ :: _, h => by simp [entB] at h
  | _ :: _, [], h => by simp [entB] at h
  | e :: es, (z, d) :: r, h => by
    simp only [entB, Bool.and_eq_true] at h
    obtain ⟨⟨h1, h2⟩, h3⟩ := h
    obtain ⟨i1, i2⟩ := ent_ok x (es := es) (tbl := r) h3
    split at h1
    · rename_i y t ek
      obtain rfl : y = z := by simpa using h1
      refine ⟨?_, ?_⟩
      · rw [List.any_cons, i1]
        simp [DictEntry.refKey, ek]
      · unfold List.lookup
        have es1 : e.key.isStr x = (x == y) := by
          rw [ek]
          show (y == x) = (x == y)
          rw [Bool.eq_iff_iff, beq_iff_eq, beq_iff_eq]
          exact ⟨fun z => z.symm, fun z => z.symm⟩
        rw [List.find?_cons, es1]
        cases hb : x == y with
        | true =>
          obtain ⟨v, rv, q⟩ := valB_ok _ h2
          exact ⟨e, _, v, rfl, rfl, rv, q⟩
        | false => exact i2
    · cases h1
structure KdF (K : PySem.W.Frag) (w : World) (mg : Str → Option Value) (x : Str) (tbl : List (Str × D)) : Prop where
  ex : ∃ a es n, mg x = some (.ref a) ∧ K.lookup a = some ⟨.type "dict", none, .dict es n, #[]⟩ ∧ PySem.W.KeysLit w.params es.toList ∧ (a == sysModules) = false ∧ entB K es.toList tbl = true
theorem kd_mk {K : PySem.W.Frag} {w : World} {h : Heap} {mg : Str → Option Value} {x : Str} {tbl : List (Str × D)} {a : Addr} {es : Array DictEntry} {n : Nat} (X : K.In h) (G : h.Ns mainGlobals mg) (e1 : PySem.W.nsIn K mainGlobals x = some (some (.ref a))) (e2 : K.lookup a = some ⟨.type "dict", none, .dict es n, #[]⟩) (e3 : PySem.W.KeysLit w.params es.toList) (e4 : (a == sysModules) = false) (e5 : entB K es.toList tbl = true) : KdF K w mg x tbl := ⟨a, es, n, PySem.W.mg_of X G e1, e2, e3, e4, e5⟩
theorem kd_get {K : PySem.W.Frag} {a : Addr} {es : Array DictEntry} {n : Nat} {tbl : List (Str × D)} (hl : K.lookup a = some ⟨.type "dict", none, .dict es n, #[]⟩) (h : entB K es.toList tbl = true) (x : Str) : match tbl.lookup x with
    | some d => ∃ u v, PySem.W.nsIn K a x = some (some u) ∧ RelV v u ∧ ∀ H, Rp K H v d
    | none => PySem.W.nsIn K a x = some none := by
  obtain ⟨i1, i2⟩ := ent_ok x h
  split at i2
  · rename_i d ed
    obtain ⟨e, u, v, f1, f2, f3, f4⟩ := i2
    refine ⟨u, v, ?_, f3, f4⟩
    unfold PySem.W.nsIn
    rw [hl]
    dsimp only
    rw [f1]
    show some (some e.val) = _
    rw [f2]
  · unfold PySem.W.nsIn
    rw [hl]
    dsimp only
    rw [i2, i1]
    rfl
section
variable {X : Cx} {W : WX} {a b c : Expr} {ra rb rc : DE} {pos p : Pos} {x : Str} {tbl : List (Str × D)}
def rIxK (tbl : List (Str × D)) (ra : DE) : DE := fun δ m P PX => ra δ m (fun k m1 => match k with
  | .str z => match tbl.lookup z with
    | some d => P d m1
    | none => False
  | _ => False) PX
theorem pd_ixK (T : KdF X.K X.w X.mg x tbl) (ha : PE X a (lE (kw X) W ra)) (hs : PlainIx a := by intro _ _; rfl) (hg : Gl X x := by rfl) (hd : (x == ("__debug__" : Str)) = false := by decide) : PE X (.Subscript (.Name x p) a pos) (lE (kw X) W (rIxK tbl ra)) := by
  obtain ⟨q, es, n, hm, hl, hk, hy, hT⟩ := T.ex
  refine PE.imp (pe_ix ix_kdict (pe_glob hg hm (v := .ref q) rfl hd) ha hs) fun σ H Q h => ?_
  obtain ⟨F, H0, m, δ, P, PX, ok, rs, h, g, gx⟩ := h
  refine ⟨F, H0, m, δ, _, PX, ok, rs, h, fun y H1 H01 m1 d s1 ok1 r1 h1 => ?_, gx⟩
  dsimp only at h1
  split at h1
  · rename_i z
    cases r1
    split at h1
    · rename_i d ed
      have := kd_get hl hT z
      rw [ed] at this
      obtain ⟨u, v, f1, f2, f3⟩ := this
      exact ⟨q, z, v, rfl, rfl, ⟨es, n, u, hl, hk, f1, f2⟩, g _ _ _ _ _ s1 ok1 (f3 _) h1⟩
    · exact h1.elim
  · exact h1.elim
def oInK (neg : Bool) (tbl : List (Str × D)) : DO := fun x y m P => match x with
  | .str z => P (.bl (if neg then !(tbl.lookup z).isSome else (tbl.lookup z).isSome)) m
  | _ => False
def rInK (neg : Bool) (tbl : List (Str × D)) (q : Addr) : R2 := fun v u H Q => ∃ z, v = .str z ∧ u = .ref q ∧ Q (.bl (if neg then !(tbl.lookup z).isSome else (tbl.lookup z).isSome)) H
theorem inK_opr (neg : Bool) {op : CmpOp} {q : Addr} {es : Array DictEntry} {n : Nat} (hl : X.K.lookup q = some ⟨.type "dict", none, .dict es n, #[]⟩) (hT : entB X.K es.toList tbl = true) (h1 : ∀ (A : Around) (E : Value → Shared → Prop) (s : Shared) (Q : Value → Shared → Prop) (z : Str) (t : Tok) (r : Option Value), X.K.In s.heap → PySem.W.nsIn X.K q z = some r → Q (.bool (if neg then !r.isSome else r.isSome)) { s with toks := s.toks + 1 } → wpAny (model X.prog X.w) A (compareOp op (.str z t) (.ref q)) Q E s) :
    OpR X (compareOp op) (rInK neg tbl q) := by
  intro pins s σ H v u v' u' Q I rx ry h
  obtain ⟨z, rfl, rfl, qq⟩ := h
  obtain ⟨t, rfl⟩ := (show ∃ t, v' = Value.str z t from rx)
  cases (show u' = Value.ref q from ry)
  have := kd_get hl hT z
  cases e : tbl.lookup z with
  | some d =>
    rw [e] at this qq
    obtain ⟨uu, v, f1, f2, f3⟩ := this
    exact h1 _ _ _ _ z t _ I.kIn f1 ⟨.bl (if neg then !(some uu).isSome else (some uu).isSome), H, I.tok _, rfl, qq⟩
  | none =>
    rw [e] at this qq
    exact h1 _ _ _ _ z t _ I.kIn this ⟨.bl (if neg then !(none : Option Value).isSome else (none : Option Value).isSome), H, I.tok _, rfl, qq⟩
theorem lE_inK {neg : Bool} {q : Addr} {σ : St} {H : Hp} {Q : VK} (h : lE (kw X) W (rOp (oInK neg tbl) ra (rC .non)) σ H Q) : tOp (rInK neg tbl q) (lE (kw X) W ra) (tC (.ref q)) σ H Q := by
  obtain ⟨F, H0, m, δ, P, PX, ok, rs, h, g, gx⟩ := h
  refine ⟨F, H0, m, δ, _, PX, ok, rs, h, fun y H1 H01 m1 d s1 ok1 r1 h1 => ?_, gx⟩
  change oInK neg tbl d .non m1 P at h1
  unfold oInK at h1
  split at h1
  · rename_i z
    cases r1
    exact ⟨z, rfl, rfl, g _ _ _ _ _ s1 ok1 (.bl _) h1⟩
  · exact h1.elim
theorem inK_not {q : Addr} {es : Array DictEntry} {n : Nat} (hl : X.K.lookup q = some ⟨.type "dict", none, .dict es n, #[]⟩) (hk : PySem.W.KeysLit X.w.params es.toList) (hy : (q == sysModules) = false) (hT : entB X.K es.toList tbl = true) : OpR X (compareOp .NotIn) (rInK true tbl q) :=
  inK_opr true hl hT fun A E s Q z t r hK e h => wpAny_notIn_of (strKind_is X.prog X.w z t) hy (PySem.W.mapOf_K (prog := X.prog) hK hl hk) (by rw [PySem.W.find_K hl e]; exact h)
theorem dt_notInK (T : KdF X.K X.w X.mg x tbl) (ha : PE X a (lE (kw X) W ra)) (hmk : behindInMarks .NotIn (.Name x p) = false := by rfl) (hg : Gl X x := by rfl) (hd : (x == ("__debug__" : Str)) = false := by decide) : PT X (.Compare a [.NotIn] [.Name x p] pos) (lT (kw X) W (rTst (rOp (oInK true tbl) ra (rC .non)))) := by
  obtain ⟨q, es, n, hm, hl, hk, hy, hT⟩ := T.ex
  exact PT.imp (pt_cmpR (inK_not hl hk hy hT) ha (pe_glob hg hm (v := .ref q) rfl hd) hmk) fun _ _ _ h => lE_inK (lT_test h)
end
end DL
namespace DL
open PySem L2
/-- a statement of a class of the text -/
def clsSt (s : Stmt) (j : Nat) : Stmt := match s with
  | .ClassDef _ _ _ body _ _ _ _ _ _ _ => body.getD j (.Pass ⟨0, 0, 0, 0⟩)
  | _ => .Pass ⟨0, 0, 0, 0⟩
section
variable {K : PySem.W.Frag} {h : Heap} {mg : Str → Option Value} {n m x qual : Str} {st : Stmt} {C f : Addr} {oc : Value} {od an : Option Addr} {osl : Array (Option Value)} {dV kV doc pm cdv ct : Value} {dD : List D} {kD : List (Str × D)}
theorem metAt_mk (a : PySem.W.nsIn K mainGlobals n = some (some (.ref C))) (b : PySem.W.findIn K (.ref C) m = some (some (.ref f))) (l : K.lookup f = some ⟨oc, od, .func (PySem.W.fnOf m qual (defArgs st) (defBody st) (defScope st) dV kV doc pm an cdv ct), osl⟩) (c : PySem.W.codeIn K cdv qual = true)
    (k : PySem.W.keepIn K (.ref f) = true) (fn : PySem.W.isFn K (.ref f) = true) (hd : dflB K dV dD = true) (hk : kwdB K kV kD = true) (hc : clsB K n = true) : MetAt K n m qual st dD kD :=
  ⟨C, f, _, a, (clsB_ok hc).ok C a, ⟨b, fn, k⟩, funG_mk l c k hd hk⟩
theorem mkAt_mk (X : K.In h) (G : h.Ns mainGlobals mg) (a : PySem.W.nsIn K mainGlobals n = some (some (.ref C))) (b : PySem.W.findIn K (.ref C) "__init__" = some (some (.ref f))) (l : K.lookup f = some ⟨oc, od, .func (PySem.W.fnOf "__init__" qual (defArgs st) (defBody st) (defScope st) dV kV doc pm an cdv ct), osl⟩) (c : PySem.W.codeIn K cdv qual = true)
    (k : PySem.W.keepIn K (.ref f) = true) (fn : PySem.W.isFn K (.ref f) = true) (mk : PySem.W.makesIn K C = true) (kc : PySem.W.keepIn K (.ref C) = true) (hd : dflB K dV dD = true) (hk : kwdB K kV kD = true) : MkAt K mg n qual st dD kD :=
  ⟨C, f, _, PySem.W.mg_of X G a, a, ⟨mk, b, fn, kc⟩, funG_mk l c k hd hk⟩
end
/-! ### zip -/
end DL
/-! # what may change becomes data -/
namespace DL
open PySem L2
theorem Ok.sealO {K : KW} {F H0 H : Hp} {m : Mu} {q : Addr} {o : MO} {u : HO} (ok : Ok K F H0 m H) (h : m q = some o) (hq : H q = some u) : Same H0 (upd H0 q u) ∧ Ok K F (upd H0 q u) (mdel m q) H := by
  have h0 := (ok.cell q _ h).1
  have sn := same_new (o := u) h0
  refine ⟨sn, ⟨fun b u z => ?_, fun b u z => ?_, fun b u z => ?_, fun P y l => have t := ok.tab P y l; t.step sn ((upd_ne (ok.neM l h)).trans t.h0) t.hF rfl⟩⟩
  · by_cases hb : b = q
    · subst hb; rw [upd_same] at z; cases z; exact hq
    · rw [upd_ne hb] at z; exact ok.same b u z
  · unfold mdel at z
    by_cases hb : b = q
    · rw [if_pos hb] at z; cases z
    · rw [if_neg hb] at z
      obtain ⟨c1, c2⟩ := ok.cell b u z
      exact ⟨by rw [upd_ne hb]; exact c1, c2.mono sn rfl⟩
  · obtain ⟨e1, e2, e3⟩ := ok.fr b u z
    have hb : b ≠ q := fun z => by rw [z, h] at e3; cases e3
    exact ⟨e1, by rw [upd_ne hb]; exact e2, by unfold mdel; rw [if_neg hb]; exact e3⟩
/-- a value, told as data -/
def rSeal (ra : DE) : DE := fun δ m P PX => ra δ m (fun x m1 => match x with
  | .adr q => match m1 q with
    | some (.lst ds) => P (.lst ds) (mdel m1 q)
    | some (.dct ds) => P (.dct ds) (mdel m1 q)
    | some (.ins n fs) => P (.ins n fs) (mdel m1 q)
    | _ => False
  | x => P x m1) PX
section
variable {X : Cx} {W : WX} {a : Expr} {ra : DE}
theorem pd_seal (ha : PE X a (lE (kw X) W ra)) : PE X a (lE (kw X) W (rSeal ra)) := by
  refine PE.imp ha fun σ H Q h => ?_
  obtain ⟨F, H0, m, δ, P, PX, ok, rs, h, g, gx⟩ := h
  refine ⟨F, H0, m, δ, _, PX, ok, rs, h, fun x H1 H01 m1 d s1 ok1 r1 h1 => ?_, gx⟩
  dsimp only at h1
  split at h1
  · cases r1
    rename_i q
    split at h1
    · rename_i ds e
      obtain ⟨vs, hq, rv⟩ := (ok1.cell q _ e).2
      obtain ⟨s2, ok2⟩ := ok1.sealO e hq
      exact g _ _ _ _ _ (s1.trans s2) ok2 (.lst (.inl (.inl upd_same)) (rv.mono s2)) h1
    · rename_i ds e
      obtain ⟨vs, hq, e2, rv⟩ := (ok1.cell q _ e).2
      obtain ⟨s2, ok2⟩ := ok1.sealO e hq
      exact g _ _ _ _ _ (s1.trans s2) ok2 (.dct upd_same e2 (rv.mono s2)) h1
    · rename_i n fs e
      obtain ⟨H0', s2, ok2, r2⟩ := ok1.seal e
      exact g _ _ _ _ _ (s1.trans s2) ok2 r2 h1
    · exact h1.elim
  · exact g _ _ _ _ _ s1 ok1 r1 h1
end
end DL
/-! # a tuple times an int -/
namespace DL
open PySem L2 PySem.Spec PyProof.Rows
end DL
/-! # a list times an int; the other way round -/
namespace DL
open PySem L2 PySem.Spec PyProof.Rows
/-! ### t[::-1] -/
section
variable {prog : Program} {w : World} {A : Around} {E : Value → Shared → Prop} {s : Shared}
theorem sliceApplied_rev {sl : Addr} {vl vu vs : Value} {n : Nat} {Q : Int × Int × Nat → Shared → Prop} (hs : s.heap.IsSliceOf sl vl vu vs) (pl : IsPart vl none) (pu : IsPart vu none) (ps : IsPart vs (some (-1)))
    (h : Q (((n : Nat) : Int) - 1, -1, n) s) : wpAny (model prog w) A (Builtin.Slice.sliceApplied (.ref sl) (pure (n : Int))) Q E s := by
  obtain ⟨os, hos, hcs, hds⟩ := id hs
  unfold Builtin.Slice.sliceApplied Builtin.Slice.sliceFields
  refine wpAny_bind (wpAny_bind (wpAny_field hos hds (x := vl) rfl (wpAny_bind (wpAny_field hos hds (x := vu) rfl (wpAny_bind (wpAny_field hos hds (x := vs) rfl (wpAny_pure ?_)))))))
  refine wpAny_bind (HT.slicePart_ ps ?_)
  show wpAny _ _ (if ((-1 : Int) == 0) = true then _ else _) _ _ s
  rw [if_neg (by decide)]
  refine wpAny_bind (HT.slicePart_ pl (wpAny_bind (HT.slicePart_ pu (wpAny_bind (wpAny_pure ?_)))))
  show wpAny _ _ (match Builtin.Slice.sliceAdjust none none (-1) (n : Int) with | (lo, hi) => pure (lo, (-1 : Int), Builtin.Slice.slicePlaces lo hi (-1))) _ _ s
  show wpAny _ _ (pure (((n : Nat) : Int) - 1, (-1 : Int), Builtin.Slice.slicePlaces (((n : Nat) : Int) - 1) (-1) (-1))) _ _ s
  have e : Builtin.Slice.slicePlaces (((n : Nat) : Int) - 1) (-1) (-1) = n := by
    unfold Builtin.Slice.slicePlaces
    rw [if_neg (by decide)]
    by_cases h0 : n = 0
    · subst h0; rfl
    · rw [if_pos (by omega)]
      have : ((n : Int) - 1 - -1 - 1) / (- -1) = (n : Int) - 1 := by
        rw [show (- -1 : Int) = 1 from rfl, Int.ediv_one]; omega
      rw [this]; omega
  rw [e]
  exact wpAny_pure h
theorem pick_rev (xs : Array Value) : ((List.range xs.size).filterMap fun (m : Nat) => xs[(((xs.size : Nat) : Int) - 1 + (m : Int) * -1).toNat]?).toArray = xs.toList.reverse.toArray := by
  congr 1
  have e : ((List.range xs.size).filterMap fun (m : Nat) => xs[(((xs.size : Nat) : Int) - 1 + (m : Int) * -1).toNat]?) = ((List.range xs.size).map fun k => xs.size - 1 - k).filterMap (xs[·]?) := by
    rw [List.filterMap_map]
    have gen : ∀ (l : List Nat), (∀ m ∈ l, m < xs.size) → (l.filterMap fun (m : Nat) => xs[(((xs.size : Nat) : Int) - 1 + (m : Int) * -1).toNat]?) = l.filterMap ((xs[·]?) ∘ fun k => xs.size - 1 - k) := by
      intro l hl
      induction l with
      | nil => rfl
      | cons m l ih =>
        have hm := hl m List.mem_cons_self
        have e2 : (((xs.size : Nat) : Int) - 1 + (m : Int) * -1).toNat = xs.size - 1 - m := by omega
        rw [List.filterMap_cons, List.filterMap_cons, ih fun k hk => hl k (List.mem_cons_of_mem _ hk), e2]
        rfl
    exact gen _ fun m hm => List.mem_range.mp hm
  rw [e, PySem.W.krv_range, List.filterMap_reverse, PySem.W.krv_all]
theorem getItem_tuple_rev {t sl : Addr} {items : Array Value} {vl vu vs : Value} {Q : Value → Shared → Prop} (ht : IsTup s.heap t items) (hs : s.heap.IsSliceOf sl vl vu vs) (pl : IsPart vl none) (pu : IsPart vu none) (ps : IsPart vs (some (-1)))
    (h : Q (.ref s.heap.objs.size) { s with heap := s.heap.push { cls := .type "tuple", data := .seq items.toList.reverse.toArray } })
    (hsz : items.size ≤ sizeLine) : wpAny (model prog w) A (getItem (.ref t) (.ref sl)) Q E s := by
  have htake : sizeOk (.seq items.toList.reverse.toArray) := by
    show items.toList.reverse.toArray.size ≤ sizeLine
    rw [List.size_toArray, List.length_reverse, Array.length_toList]
    exact hsz
  obtain ⟨os, hos, hcs, hds⟩ := id hs
  have hTs : s.TypeIs (.ref sl) "slice" := ⟨os, hos, hcs⟩
  unfold getItem
  try with_reducible refine wpAny_holding ?_
  first | refine wpAny_bind (wpAny_pure ?_) | skip
  refine wpAny_bind (wpAny_sequenceKey ht.typeIs (by decide) ?_)
  refine wpAny_bind (wpAny_callSpecial?_slot (name := Str.ofString "__getitem__") ht.typeIs PyProof.Rows.slot_tuple_getitem
    (wpAny_call_entry PyProof.Rows.slot_tuple_getitem ht.typeIs entry_tuple_getitem ?_ (args_tuple_getitem _ _)))
  show wpAny _ _ (Builtin.Tuple.tupleItemsOf (.ref t) >>= _) _ _ s
  refine wpAny_bind (tupleItemsOf_ ht ?_)
  refine wpAny_bind (wpAny_typeOf hTs ?_)
  rw [if_pos (by decide)]
  refine wpAny_bind (sliceApplied_rev hs pl pu ps ?_)
  have hno : ¬ ((((items.size : Nat) : Int) - 1 == 0 && (-1 : Int) == 1 && items.size == items.size) = true) := by
    intro q
    rw [Bool.and_eq_true, Bool.and_eq_true] at q
    exact absurd (eq_of_beq q.1.2) (by decide)
  show wpAny _ _ (if (((items.size : Nat) : Int) - 1 == 0 && (-1 : Int) == 1 && items.size == items.size) = true then _ else _) _ _ s
  rw [if_neg hno, pick_rev]
  first
    | exact wpAny_bind (m := Builtin.Tuple.tupleExact _) (wpAny_newObj_type (wpAny_pure ⟨_, rfl, wpAny_pure h⟩) htake)
    | exact wpAny_bind (m := Builtin.Tuple.tupleExact _) (wpAny_newObj_type (wpAny_bind (wpAny_pure (wpAny_pure ⟨_, rfl, wpAny_pure h⟩))) htake)
    | exact wpAny_bind (wpAny_bind (m := Builtin.Tuple.tupleExact _) (wpAny_newObj_type (wpAny_pure (wpAny_pure ⟨_, rfl, wpAny_pure h⟩)) htake))
    | exact wpAny_bind (wpAny_bind (m := Builtin.Tuple.tupleExact _) (wpAny_newObj_type (wpAny_pure ⟨_, rfl, wpAny_pure h⟩) htake))
end
section
variable {X : Cx} {W : WX} {a : Expr} {ra : DE}
def tRevA (K : PySem.W.Frag) (te : TE) : TE := fun σ H Q => te σ H fun x H1 => ∃ a xs, x = .ref a ∧ ((SqL K H1 a xs ∧ ∀ p, H1 p = none → Q (.ref p) (upd H1 p (.lst xs.reverse))) ∨ (SqT K H1 a xs ∧ ∀ p, H1 p = none → Q (.ref p) (upd H1 p (.tup xs.reverse))))
theorem pe_revA {e : Expr} {te : TE} {k : Nat} {p1 p2 p3 pos : Pos} (he : PE X e te) : PE X (.Subscript e (.Slice none none (some (.UnaryOp .USub (.Constant (.int 1) k p1) p2)) p3) pos) (tRevA X.K te) := by
  refine ⟨fun pins s σ H Q I h => ?_⟩
  refine Subscript_ (thn (he.run pins s σ H _ I h) fun v s1 ⟨x, H1, I1, r1, q1⟩ => ?_)
  obtain ⟨a, xs, ex, q⟩ := q1
  subst ex
  cases r1
  have hst : PO X (some (.UnaryOp .USub (.Constant (.int 1) k p1) p2)) (tPart (tUn (rU fun i => .int (-i)) (tC (.int 1)))) := po_some (pe_un un_neg pe_int)
  refine wpAny_Slice (thn (po_none.run pins s1 σ H1 (fun o H2 => o = none ∧ H2 = H1) I1 ⟨rfl, rfl⟩) fun vl s2 ⟨l, H2, I2, pl, el, e2⟩ => ?_)
  subst el e2
  refine thn (po_none.run pins s2 σ H2 (fun o H3 => o = none ∧ H3 = H2) I2 ⟨rfl, rfl⟩) fun vu s3 ⟨u, H3, I3, pu, eu, e3⟩ => ?_
  subst eu e3
  refine thn (hst.run pins s3 σ H3 (fun o H4 => o = some (-1) ∧ H4 = H3) I3 ⟨1, rfl, -1, rfl, rfl, rfl⟩) fun vs s4 ⟨o, H4, I4, ps, eo, e4⟩ => ?_
  subst eo e4
  have I5 : Inv X pins σ H4 { s4 with heap := s4.heap.push { cls := .type "slice", data := .fields #[vl, vu, vs] } } := I4.kept (t' := s4.toks) fun b ob q => Heap.get?_push_of_some _ q
  show wpAny (model X.prog X.w) X.A (subscriptTail e (.Slice none none (some (.UnaryOp .USub (.Constant (.int 1) k p1) p2)) p3) (.ref a) (.ref s4.heap.objs.size)) (EP X pins σ Q) X.xe { s4 with heap := s4.heap.push { cls := .type "slice", data := .fields #[vl, vu, vs] } }
  rcases q with ⟨hx, q⟩ | ⟨hx, q⟩
  · obtain ⟨its, r, ht, hz⟩ := I5.list hx
    have hlen := r.length
    refine tail_any (ops := [.ref a, .ref s4.heap.objs.size]) ht.isList.typeIs (PySem.slot_list_getitem.lookup) ?_ (by with_unfolding_all rfl)
    refine wpAny_getItem_list_slice ht.isList (Heap.IsSliceOf.new _ vl vu vs) pl pu ps (by decide) ?_ (by rw [List.size_toArray]; omega)
    rw [PySem.W.krv_pick]
    refine ⟨.ref _, _, I5.laid (t' := s4.toks) (o := .lst xs.reverse) (fun b ob q => Heap.get?_push_of_some _ q) (Nat.le_refl _) ?_, rfl, q _ (I5.hok.fresh (Nat.le_refl _))⟩
    exact ⟨by rw [List.length_reverse]; exact hz, _, 0, r.reverse, Heap.get?_push_size _ rfl⟩
  · obtain ⟨its, r, ht, hz⟩ := I5.tuple hx
    have hlen := r.length
    refine tail_any (ops := [.ref a, .ref s4.heap.objs.size]) ht.typeIs (PyProof.Rows.slot_tuple_getitem.lookup) ?_ (by with_unfolding_all rfl)
    refine getItem_tuple_rev ht (Heap.IsSliceOf.new _ vl vu vs) pl pu ps ?_ (by rw [List.size_toArray]; omega)
    refine ⟨.ref _, _, I5.laid (t' := s4.toks) (o := .tup xs.reverse) (fun b ob q => Heap.get?_push_of_some _ q) (Nat.le_refl _) ?_, rfl, q _ (I5.hok.fresh (Nat.le_refl _))⟩
    exact ⟨by rw [List.length_reverse]; exact hz, _, r.reverse, IsTup.new _ _⟩
def rRev (ra : DE) : DE := fun δ m P PX => ra δ m (fun x m1 => match x with
  | .tup ds => P (.tup ds.reverse) m1
  | x => match asL m1 x with
    | some ds => P (.lst ds.reverse) m1
    | none => False) PX
theorem RpL.rev {K : PySem.W.Frag} {H : Hp} {vs : List V} {ds : List D} (r : RpL K H vs ds) : RpL K H vs.reverse ds.reverse := by
  induction vs generalizing ds with
  | nil => cases r; exact .nil
  | cons v vs ih =>
    cases r with
    | cons q r =>
      rw [List.reverse_cons, List.reverse_cons]
      exact (ih r).append (.cons q .nil)
theorem pd_rev {k : Nat} {p1 p2 p3 pos : Pos} (ha : PE X a (lE (kw X) W ra)) : PE X (.Subscript a (.Slice none none (some (.UnaryOp .USub (.Constant (.int 1) k p1) p2)) p3) pos) (lE (kw X) W (rRev ra)) := by
  refine PE.imp (pe_revA ha) fun σ H Q h => ?_
  obtain ⟨F, H0, m, δ, P, PX, ok, rs, h, g, gx⟩ := h
  refine ⟨F, H0, m, δ, _, PX, ok, rs, h, fun x H1 H01 m1 d s1 ok1 r1 h1 => ?_, gx⟩
  dsimp only at h1
  split at h1
  · obtain ⟨p, vs, rfl, q1, rv⟩ := tup_rp ok1 r1
    exact ⟨p, vs, rfl, .inr ⟨q1, fun z hz => (g.mono s1).tup ok1 hz rv.rev h1⟩⟩
  · split at h1
    · rename_i ds e
      obtain ⟨p, vs, rfl, q1, rv⟩ := asL_rp ok1 r1 e
      exact ⟨p, vs, rfl, .inl ⟨q1, fun z hz => (g.mono s1).lst ok1 hz rv.rev h1⟩⟩
    · exact h1.elim
end
end DL
/-! # a, b = a list -/
namespace DL
open PySem L2
/-- a tuple or a list of names -/
def gTL (js : List Nat) : DG := fun d δ m P => match d with
  | .tup ds => ds.length = js.length ∧ P (asg δ js ds) m
  | .lst ds => ds.length = js.length ∧ P (asg δ js ds) m
  | _ => False
def gEi (g g' : TG) : TG := fun v σ H Q => g v σ H Q ∨ g' v σ H Q
theorem pg_ei {X : Cx} {e : Expr} {g g' : TG} (h : PG X e g) (h' : PG X e g') : PG X e (gEi g g') :=
  ⟨fun pins s σ H v u Q I r q => q.elim (h.run pins s σ H v u Q I r) (h'.run pins s σ H v u Q I r)⟩
theorem lst_rp {K : KW} {F : Hp} {H0 H : Hp} {m : Mu} {v : V} {ds : List D} (ok : Ok K F H0 m H) (r : Rp K H0 v (.lst ds)) : ∃ a vs, v = .ref a ∧ SqL K H a vs ∧ RpL K H0 vs ds := asL_rp ok r rfl
theorem gTL_ok {K : KW} {js : List Nat} : Gok K js (gEi (gTup K js.length (gNames js)) (gLst K js.length (gNames js))) (gTL js) := by
  intro F H0 m H σ δ v d P Q ok rs r h k
  unfold gTL at h
  split at h
  · obtain ⟨q, vs, rfl, hq, rv⟩ := tup_rp ok r
    have hl : vs.length = js.length := rv.length.trans h.1
    exact .inl ⟨q, vs, rfl, hq, hl, hl, k _ _ (rs.asg rv) (wipe_same (asgV_length _ _ _) fun i hi => asgV_out _ _ _ i hi) h.2⟩
  · obtain ⟨q, vs, rfl, hq, rv⟩ := lst_rp ok r
    have hl : vs.length = js.length := rv.length.trans h.1
    exact .inr ⟨q, vs, rfl, hq, hl, hl, k _ _ (rs.asg rv) (wipe_same (asgV_length _ _ _) fun i hi => asgV_out _ _ _ i hi) h.2⟩
  · exact h.elim
def sTupL (js : List Nat) (ra : DE) : DS := fun DD δ m => ra δ m (fun d m1 => gTL js d δ m1 DD.nx) fun c fs m1 => DD.xx c fs δ m1
section
variable {X : Cx} {W : WX} {a tg : Expr} {ra : DE} {pos : Pos}
theorem ds_tupL {g : TG} {js : List Nat} (ha : PE X a (lE (kw X) W ra)) (hg : PG X tg g) (go : Gok (kw X) js g (gTL js)) (hs : swapsWithSole [tg] a pos.line X.env = pure false := by rfl) (hw : swappedStores [tg] a X.env = pure none := by rfl) (h1 : (assignEach [tg] X.env).map (·.2) = [assign tg X.env] := by rfl) :
    PS X (.Assign [tg] a pos) (lS (kw X) W (sTupL js ra)) := by
  refine PS.imp (ps_asg ha hg hs hw h1) fun Dn σ H h => ?_
  obtain ⟨F, H0, m, δ, DD, ok, rs, h, gd⟩ := h
  exact ⟨F, H0, m, δ, _, _, ok, rs, h, fun v H1 H01 m1 d s1 ok1 r1 h1 => go F H01 m1 H1 σ δ v d _ _ ok1 (rs.mono s1) r1 h1 fun σ' δ' rs' _ h2 => gd.nx _ _ _ _ _ s1 ok1 rs' h2, gd.xx.at_ rs⟩
end
/-! ### abs(i) -/
end DL
/-! # max(xs, default=d) -/
namespace DL
open PySem L2
section
variable {prog : Program} {w : World} {A : Around} {R : Result → Shared → Prop} {I : Addr} {fp wr : List Addr} {n : Nat} {P : Nat → Value → Prop} {St : Nat → Heap → Prop} {kw : List (Str × Value)}
abbrev bObj (its : Array Value) (c : Nat) : Obj := { cls := .type "list", dict := none, data := .seq its c, slots := #[] }
theorem nmML : (toString "max" ++ toString ".loop" : String) = "max.loop" := by decide
theorem mxGo (W : Walks prog w A.in1 I fp wr n P St) (bt : Nat → Nat → Bool) (cm : CmpOf prog w A.in1 .Gt P bt) (B : Addr) (nB : B ∉ fp) : ∀ (k j : Nat) (s : Shared) (vb : Value) (c : Nat), n - (j + 1) = k → j + 1 ≤ n → St (j + 1) s.heap → P (argBest bt j) vb → s.heap.get? B = some (bObj #[vb, vb] c) →
    (∀ v h' tk, P (argBest bt (n - 1)) v → (∀ b o, b ∉ wr → b ≠ B → s.heap.get? b = some o → h'.get? b = some o) → R (.ok (.ret v)) { s with heap := h', toks := tk }) → codeAny (model prog w) A (.builtin "max.loop" ⟨[.ref I, .none, .ref B], kw⟩) R s := by
  have nW : B ∉ wr := fun h => nB (W.sub _ h)
  intro k
  induction k with
  | zero =>
    intro j s vb c ek hj st pb gB r
    have en : j + 1 = n := by omega
    refine codeAny_builtin (F.entry_max_loop) ?_; rw [Around.under_plainId (F.plain_max_loop) _]
    show wpAny _ A.in1 (seqItems? (.ref B) >>= _) _ _ s
    refine wpAny_bind (wpAny_seqItems gB rfl ?_); show wpAny _ A.in1 (tryCatch (pyNext (.ref I)) _ >>= _) _ _ s
    refine wpAny_bind (wpAny_tryCatch (W.done s _ _ (en ▸ st) fun h' tk kp => ?_))
    have gB' := kp B _ nW gB
    show wpAny _ A.in1 (updateSeq B (fun _ => #[]) >>= _) _ _ _
    refine wpAny_bind (wpAny_updateSeq gB' rfl (wpAny_bind (wpAny_letGo (wpAny_pure ?_))))
    exact r vb _ tk (by rw [← en]; exact pb) fun b o h1 h2 e => (Heap.get?_update_other _ _ (Ne.symm h2)).trans (kp b o h1 e)
  | succ k ih =>
    intro j s vb c ek hj st pb gB r
    have lt : j + 1 < n := by omega
    refine codeAny_builtin (F.entry_max_loop) ?_; rw [Around.under_plainId (F.plain_max_loop) _]
    show wpAny _ A.in1 (seqItems? (.ref B) >>= _) _ _ s
    refine wpAny_bind (wpAny_seqItems gB rfl ?_); show wpAny _ A.in1 (tryCatch (pyNext (.ref I)) _ >>= _) _ _ s
    refine wpAny_bind (wpAny_tryCatch (W.item (j + 1) s _ _ lt st fun v h' tk pv st' kp => ?_))
    have gB' := kp B _ nW gB
    show wpAny _ A.in1 (tryCatch (holding [v, v] (richCompare .Gt v vb >>= _)) _ >>= _) _ _ _
    refine wpAny_bind (wpAny_tryCatch (wpAny_holding (wpAny_bind (cm (j + 1) (argBest bt j) v vb _ _ _ pv pb (wpAny_bind (wpAny_holding (wpAny_truthy_bool (wpAny_bind (wpAny_letGo (wpAny_pure ?_))))))))))
    cases hb : bt (j + 1) (argBest bt j) with
    | true =>
      simp only [if_true]
      refine wpAny_bind (wpAny_updateSeq gB' rfl (wpAny_bind (wpAny_letGo ?_)))
      rw [nmML]
      refine wpAny_pure ⟨plainId_quiet F.plain_max_loop _, ih (j + 1) _ v _ (by omega) lt (W.frame _ _ _ st' fun b hf o e => ?_) (by simp only [argBest, hb, if_true]; exact pv) (Heap.get?_update_self _ gB' rfl) fun v' h2 tk2 p2 kp2 => ?_⟩
      · exact (Heap.get?_update_other _ _ (fun h : B = b => nB (by rw [h]; exact hf))).trans e
      · exact r v' h2 tk2 p2 fun b o x1 x2 e => kp2 b o x1 x2 ((Heap.get?_update_other _ _ (Ne.symm x2)).trans (kp b o x1 e))
    | false =>
      simp only [Bool.false_eq_true, if_false]
      refine wpAny_bind (wpAny_letGo ?_); rw [nmML]
      refine wpAny_pure ⟨plainId_quiet F.plain_max_loop _, ih (j + 1) _ vb c (by omega) lt st' (by simp only [argBest, hb, Bool.false_eq_true, if_false]; exact pb) gB' fun v' h2 tk2 p2 kp2 => ?_⟩
      exact r v' h2 tk2 p2 fun b o x1 x2 e => kp2 b o x1 x2 (kp b o x1 e)
/-- the first turn -/
theorem mxAt {nm : Str} {d : Value} (W : Walks prog w A.in1 I fp wr n P St) (bt : Nat → Nat → Bool) (cm : CmpOf prog w A.in1 .Gt P bt) (B : Addr) (nB : B ∉ fp) {s : Shared} {c : Nat} (st : St 0 s.heap) (gB : s.heap.get? B = some (bObj #[] c))
    (r : ∀ v h' tk, (if n = 0 then v = d else P (argBest bt (n - 1)) v) → (∀ b o, b ∉ wr → b ≠ B → s.heap.get? b = some o → h'.get? b = some o) → R (.ok (.ret v)) { s with heap := h', toks := tk }) : codeAny (model prog w) A (.builtin "max.loop" ⟨[.ref I, .none, .ref B], [(nm, d)]⟩) R s := by
  have nW : B ∉ wr := fun h => nB (W.sub _ h)
  refine codeAny_builtin (F.entry_max_loop) ?_; rw [Around.under_plainId (F.plain_max_loop) _]
  show wpAny _ A.in1 (seqItems? (.ref B) >>= _) _ _ s
  refine wpAny_bind (wpAny_seqItems gB rfl ?_); show wpAny _ A.in1 (tryCatch (pyNext (.ref I)) _ >>= _) _ _ s
  by_cases h0 : n = 0
  · refine wpAny_bind (wpAny_tryCatch (W.done s _ _ (by rw [h0]; exact st) fun h' tk kp => ?_))
    show wpAny _ A.in1 (rule _ >>= _) _ _ _
    refine wpAny_bind (wpAny_rule (wpAny_pure ?_))
    exact r d h' tk (by rw [if_pos h0]) fun b o h1 _ e => kp b o h1 e
  · refine wpAny_bind (wpAny_tryCatch (W.item 0 s _ _ (by omega) st fun v h' tk pv st' kp => ?_))
    have gB' := kp B _ nW gB
    show wpAny _ A.in1 (updateSeq B (fun _ => #[v, v]) >>= _) _ _ _
    refine wpAny_bind (wpAny_updateSeq gB' rfl ?_)
    rw [nmML]
    refine wpAny_pure ⟨plainId_quiet F.plain_max_loop _, mxGo W bt cm B nB _ 0 _ v _ rfl (by omega) (W.frame _ _ _ st' fun b hf o e => ?_) pv (Heap.get?_update_self _ gB' rfl) fun v' h2 tk2 p2 kp2 => ?_⟩
    · exact (Heap.get?_update_other _ _ (fun h : B = b => nB (by rw [h]; exact hf))).trans e
    · exact r v' h2 tk2 (by rw [if_neg h0]; exact p2) fun b o x1 x2 e => kp2 b o x1 x2 ((Heap.get?_update_other _ _ (Ne.symm x2)).trans (kp b o x1 e))
end
theorem args_maxD (a d : Value) : argsOk "max" ⟨[a], [(Str.ofString "default", d)]⟩ := by unfold argsOk; kernel_rfl
section
variable {prog : Program} {w : World} {A : Around} {E : Value → Shared → Prop} {s : Shared}
theorem maxD_walk {x d : Value} {Q : Value → Shared → Prop}
    (h : wpAny (model prog w) A.in1 (pyIter x) (fun it s2 => ∃ I fp wr n P St bt, it = .ref I ∧ Walks prog w A.in1 I fp wr n P St ∧ St 0 s2.heap ∧ (∀ b ∈ fp, b < s2.heap.objs.size) ∧ CmpOf prog w A.in1 .Gt P bt ∧
      ∀ v h' tk, (if n = 0 then v = d else P (argBest bt (n - 1)) v) → (∀ b o, b ∉ wr → s2.heap.get? b = some o → h'.get? b = some o) → Q v { s2 with heap := h', toks := tk }) E s) :
    wpAny (model prog w) A (call (.builtin "max") [x] [(Str.ofString "default", d)]) Q E s := by
  refine wpAny_call (codeAny_call_builtin F.plain_max F.entry_max ?_)
  have body : wpAny (model prog w) A.in1 (Builtin.«max» ⟨[x], [(Str.ofString "default", d)]⟩) (fun fin s' => match fin with
      | .done f => (match (Except.ok f : Result) with | .ok (.ret v) => Q v s' | .ok _ => False | .error e => E e s')
      | .again c' => c'.quiet = true ∧ codeAny (model prog w) A c' (fun r s' => match r with | .ok (.ret v) => Q v s' | .ok _ => False | .error e => E e s') s') E s := by
    show wpAny _ A.in1 (Builtin.Builtins.bindParams "max" ["key", "default"] 0 ⟨[], [(Str.ofString "default", d)]⟩ >>= _) _ _ s
    refine wpAny_bind (wpAny_of_eq (show Builtin.Builtins.bindParams "max" ["key", "default"] 0 ⟨[], [(Str.ofString "default", d)]⟩ = pure [none, some d] from rfl) ?_)
    refine wpAny_bind (wpAny_pure (wpAny_bind (wpAny_mono h (fun it s2 h2 => ?_) fun _ _ e => e)))
    obtain ⟨I, fp, wr, n, P, St, bt, rfl, W, st, hf, cm, q⟩ := h2
    refine wpAny_bind (wpAny_newObj_type ?_)
    have nf : s2.heap.objs.size ∉ fp := fun hm => Nat.lt_irrefl _ (hf _ hm)
    rw [nmML]
    refine wpAny_pure ⟨plainId_quiet F.plain_max_loop _, mxAt (d := d) W bt cm s2.heap.objs.size nf (W.frame _ _ _ st fun b _ o e => Heap.get?_push_of_some _ e) (Heap.get?_push_size _ rfl) fun v h' tk pv kp => ?_⟩
    exact q v h' tk pv fun b o hb e => kp b o hb (Nat.ne_of_lt (Heap.lt_size e)) (Heap.get?_push_of_some _ e)
  have ha := args_maxD x d
  simp only [checkBuiltinCall, F.kind_max]
  cases hs : Manifest.signature? "max" with
  | none => exact wpAny_pure body
  | some sig =>
    have ha' : Bind.checkArgs "max" sig ⟨[x], [(Str.ofString "default", d)]⟩ = pure () := by simpa only [argsOk, hs] using ha
    simp only [ha']
    exact wpAny_pure body
end
section
variable {prog : Program} {w : World} {A : Around} {E : Value → Shared → Prop} {s : Shared} {l : Addr}
theorem maxD_list {xs : Array (Int × Tok)} {d : Value} {Q : Value → Shared → Prop} (hh : A.handled = none) (hl : s.heap.IsList l (intItems xs))
    (h : ∀ v h' tk, (if xs.size = 0 then v = d else (intItems xs)[argBest (fun i j => decide (numAt xs i > numAt xs j)) (xs.size - 1)]? = some v) → (∀ b o, s.heap.get? b = some o → h'.get? b = some o) → Q v { s with heap := h', toks := tk }) :
    wpAny (model prog w) A (call (.builtin "max") [.ref l] [(Str.ofString "default", d)]) Q E s := by
  refine maxD_walk (iter_intList hl fun s2 e st hf hI => ?_)
  subst e
  have sz : (intItems xs).size = xs.size := by simp [intItems]
  refine ⟨_, _, _, _, _, _, _, rfl, Walks.list (A := A.in1) hh _ l hI (intItems xs), st, hf, CmpOf.ints_gt (numAt xs) (fun _ _ => intItems_at), fun v h' tk pv kp => ?_⟩
  rw [sz] at pv
  exact h v h' tk pv (old_kept kp)
theorem maxD_raw {its : List Value} {ns : List Int} {d : Value} {Q : Value → Shared → Prop} (hh : A.handled = none) (hl : s.heap.IsList l its.toArray) (hi : PyProof.Rows.IntsAre its ns)
    (h0 : ns = [] → ∀ h' tk, (∀ b o, s.heap.get? b = some o → h'.get? b = some o) → Q d { s with heap := h', toks := tk })
    (h1 : ∀ h' tk M t', (∀ b o, s.heap.get? b = some o → h'.get? b = some o) → M ∈ ns → (∀ a, a ∈ ns → a ≤ M) → Q (.int M t') { s with heap := h', toks := tk }) :
    wpAny (model prog w) A (call (.builtin "max") [.ref l] [(Str.ofString "default", d)]) Q E s := by
  obtain ⟨xs, e⟩ := hi.allInts.items
  have hn : numsOf (intItems xs).toList = ns := by rw [← e]; exact hi.numsOf
  rw [nums_intItems] at hn; subst hn; rw [e] at hl
  refine maxD_list hh hl fun v h' tk pv kp => ?_
  by_cases hz : xs.size = 0
  · rw [if_pos hz] at pv
    subst pv
    exact h0 (by rw [List.map_eq_nil_iff, ← List.length_eq_zero_iff, Array.length_toList]; exact hz) h' tk kp
  · rw [if_neg hz] at pv
    obtain ⟨t, rfl⟩ := intItems_at pv
    obtain ⟨p1, p2⟩ := argBest_gt (numAt xs) (xs.size - 1)
    refine h1 h' tk _ t kp ?_ fun a ha => ?_
    · rw [numAt_eq]; exact PySem.getD_mem (by rw [List.length_map, Array.length_toList]; omega)
    · obtain ⟨j, hj, rfl⟩ := mem_getD ha
      rw [List.length_map, Array.length_toList] at hj
      rw [← numAt_eq]; exact p2 j (by omega)
end
def rMaxD (K : PySem.W.Frag) : List V → List V → Hp → VK → Prop := fun vs zs H Q => ∃ (a : Addr) (ns : List Int) (d : V), vs = [V.ref a] ∧ zs = [d] ∧ SqL K H a (ns.map V.int) ∧ (ns = [] → Q d H) ∧ ∀ M, M ∈ ns → (∀ a, a ∈ ns → a ≤ M) → Q (.int M) H
theorem cr_maxD0 {X : Cx} (hc : X.calm = true) : CallRK X (.builtin "max") [Str.ofString "default"] (rMaxD X.K) := by
  intro pins s σ H vs zs us ws Q I r rz h
  obtain ⟨a, ns, d, rfl, rfl, hs, q0, q1⟩ := h
  obtain ⟨its, rv, hl, _⟩ := I.list hs
  rw [Vals.ref1 r]
  obtain ⟨w1, rfl, e1⟩ := vals1 rz
  exact maxD_raw (I.ok.hd hc) hl.isList rv.ints (fun e h' tk kp => ⟨d, H, I.kept kp, e1, q0 e⟩) fun h' tk m t' kp h1 h2 => ⟨.int _, H, I.kept kp, ⟨_, rfl⟩, q1 m h1 h2⟩
/-- max(xs, default=d) -/
def rMaxK (qs qk : DA) : DE := fun δ m P PX => qs δ m (fun xs m1 => qk δ m1 (fun zs m2 => match xs, zs with
  | [x], [d] => match asI m2 x with
    | some [] => P d m2
    | some (n :: ns) => P (.int (mostI n ns)) m2
    | none => False
  | _, _ => False) PX) PX
section
variable {X : Cx} {W : WX} {e : Expr} {es : List Expr} {qs qk : DA} {p pos : Pos} {kws : List Keyword}
theorem pd_maxD {x : Str} (hc : X.calm = true) (hm : X.mg x = none) (hv : bootBuiltins x = some (.builtin "max")) (ha : PA X (e :: es) (lA (kw X) W qs)) (hk : PK X kws (lA (kw X) W qk)) (hg : Gl X x := by rfl) (hn : x ≠ "__name__" := by decide) (hdb : (x == ("__debug__" : Str)) = false := by decide)
    (he : backTo pos (starEach (e :: es) X.env) = (false, eval e X.env) :: backTo pos (starEach es X.env) := by rfl) (hpl : (backTo pos (starEach (e :: es) X.env)).any (·.1) = false := by rfl)
    (hall : (backToKw pos (keywordEach kws X.env)).all (·.1.isSome) = true := by rfl) (hno : (backToKw pos (keywordEach kws X.env)).any (·.1.isNone) = false := by rfl) (hks : (backToKw pos (keywordEach kws X.env)).filterMap (·.1) = [Str.ofString "default"] := by rfl) :
    PE X (.Call (.Name x p) (e :: es) kws pos) (lE (kw X) W (rMaxK qs qk)) := by
  refine PE.imp (pe_callBK (cr_maxD0 hc) hg hm hv ha hk hn hdb he hpl hall hno hks) fun σ H Q h => ?_
  obtain ⟨F, H0, m, δ, P, PX, ok, rs, h, g, gx⟩ := h
  refine ⟨F, H0, m, δ, _, PX, ok, rs, h, fun vs H1 H01 m1 ds s1 ok1 r1 h1 => ⟨F, H01, m1, δ, _, PX, ok1, rs.mono s1, h1, fun zs H2 H02 m2 ks s2 ok2 r2 h2 => ?_, gx.mono s1⟩, gx⟩
  dsimp only at h2
  split at h2
  · rename_i y d
    obtain ⟨v, rfl, q⟩ := r1.one
    obtain ⟨u, rfl, qd⟩ := r2.one
    have g2 := g.mono (s1.trans s2)
    split at h2
    · rename_i e1
      obtain ⟨pa, rfl, hq⟩ := asI_rp ok2 (q.mono s2) e1
      exact ⟨pa, [], u, rfl, rfl, hq, fun _ => g2.id ok2 qd h2, fun M hM => by cases hM⟩
    · rename_i n ns e1
      obtain ⟨pa, rfl, hq⟩ := asI_rp ok2 (q.mono s2) e1
      obtain ⟨l1, l2⟩ := mostI_spec ns n
      refine ⟨pa, _, u, rfl, rfl, hq, (fun z => by cases z), fun k h1 h3 => ?_⟩
      rw [show k = mostI n ns from Int.le_antisymm (l2 _ h1) (h3 _ l1)]
      exact g2.id ok2 (.int _) h2
    · exact h2.elim
  · exact h2.elim
end
/-! ### range(i, j); list(xs), a list of ours -/
/-! ### x = [.. for .. for ..]; s.upper(); what is never reached -/
section
variable {X : Cx} {W : WX} {tg tg1 a c o : Expr} {ifs ifs1 : List Expr} {scope : Scope} {own : List (Str × Nat)} {ri ri1 : DI} {g g1 : TG} {rg rg1 : DG} {qt qt1 : DT} {re ra : DE} {pos apos : Pos}
theorem ds_setLc2 {elt iter iter1 : Expr} {js jo js1 : List Nat} {i : Nat} {y : Str} {py spos : Pos} (hc : X.calm = true) (hN : X.N.Nodup) (hsw : swapsWith (.ListComp elt [⟨tg, iter, ifs, 0⟩, ⟨tg1, iter1, ifs1, 0⟩] scope pos) (some (.Name y py)) spos.line X.env = pure true) (hi : PI X tg iter (lI (kw X) W ri)) (ok : BlkOk X.N X.env.scope scope own) (go : Gok (kw X) jo g rg) (go1 : Gok (kw X) js1 g1 rg1) (hj : own.map (·.2) = js)
    (hg : ∀ (s : Shared) (H : Hp) (C : Addr) (cl : List (Str × Addr)) (fp : List Addr), PG (X.blk s H scope (compEnvC scope cl C X.env) fp) tg g) (ht : ∀ (s : Shared) (H : Hp) (C : Addr) (cl : List (Str × Addr)) (fp : List Addr), PTs (X.blk s H scope (compEnvC scope cl C X.env) fp) ifs (lT (kw X) noW qt))
    (hi1 : ∀ (s : Shared) (H : Hp) (C : Addr) (cl : List (Str × Addr)) (fp : List Addr), PI (X.blk s H scope (compEnvC scope cl C X.env) fp) tg1 iter1 (lI (kw X) noW ri1))
    (hg1 : ∀ (s : Shared) (H : Hp) (C : Addr) (cl : List (Str × Addr)) (fp : List Addr), PG (X.blk s H scope (compEnvC scope cl C X.env) fp) tg1 g1) (ht1 : ∀ (s : Shared) (H : Hp) (C : Addr) (cl : List (Str × Addr)) (fp : List Addr), PTs (X.blk s H scope (compEnvC scope cl C X.env) fp) ifs1 (lT (kw X) noW qt1))
    (he : ∀ (s : Shared) (H : Hp) (C : Addr) (cl : List (Str × Addr)) (fp : List Addr), PE (X.blk s H scope (compEnvC scope cl C X.env) fp) elt (lE (kw X) noW re)) (hjo : ∀ i ∈ jo, i ∈ js := by decide) (hj1 : ∀ i ∈ js1, i ∈ js := by decide) (hy : X.N[i]? = some y := by rfl) (hyl : X.env.scope.names.lookup y = some .local := by rfl) (hs : ∀ x, foldedSetIterable iter X.env x = pure x := by intro _; rfl) (hs1 : ∀ env x, foldedSetIterable iter1 env x = pure x := by intro _ _; rfl) :
    PS X (.Assign [.Name y py] (.ListComp elt [⟨tg, iter, ifs, 0⟩, ⟨tg1, iter1, ifs1, 0⟩] scope pos) spos) (lS (kw X) W (sSet i (rLc2 ri js rg qt ri1 js1 rg1 qt1 re))) := by
  subst hj
  refine PS.imp (ps_setLc2 (i := i) hc hN hy hyl hsw hi ok hj1 hg ht hi1 hg1 ht1 he hs hs1) fun Dn σ H h => ?_
  obtain ⟨F, H0, m, δ, DD, ok, rs, h, gd⟩ := h
  unfold sSet rLc2 at h
  refine lc2_lift go hjo go1 lc_fin (Q := fun x H1 => gName i x σ H1 Dn.nx) ⟨F, H0, m, δ, fun d m1 => DD.nx (δ.set i (some d)) m1, fun c fs m1 => DD.xx c fs δ m1, ok, rs, h, fun v H1 H01 m1 d s1 ok1 r1 h1 => gd.nx _ _ _ _ _ s1 ok1 ((rs.mono s1).set r1 i) h1, gd.xx.at_ rs⟩
theorem ds_setLcM {elt iter : Expr} {js : List Nat} {i : Nat} {y : Str} {py spos : Pos} (hc : X.calm = true) (hN : X.N.Nodup) (hsw : swapsWith (.ListComp elt [⟨tg, iter, ifs, 0⟩] scope pos) (some (.Name y py)) spos.line X.env = pure true) (hi : PI X tg iter (lI (kw X) W ri)) (ok : BlkOk X.N X.env.scope scope own) (go : Gok (kw X) js g rg) (hj : own.map (·.2) = js)
    (hg : ∀ (s : Shared) (H : Hp) (C : Addr) (cl : List (Str × Addr)) (fp : List Addr), PG (X.blk s H scope (compEnvC scope cl C X.env) fp) tg g) (ht : ∀ (s : Shared) (H : Hp) (C : Addr) (cl : List (Str × Addr)) (fp : List Addr), PTs (X.blk s H scope (compEnvC scope cl C X.env) fp) ifs (lT (kw X) noW qt))
    (he : ∀ (s : Shared) (H : Hp) (C : Addr) (cl : List (Str × Addr)) (fp : List Addr), PE (X.blk s H scope (compEnvC scope cl C X.env) fp) elt (lE (kw X) noW re)) (hy : X.N[i]? = some y := by rfl) (hyl : X.env.scope.names.lookup y = some .local := by rfl) (hs : ∀ x, foldedSetIterable iter X.env x = pure x := by intro _; rfl) :
    PS X (.Assign [.Name y py] (.ListComp elt [⟨tg, iter, ifs, 0⟩] scope pos) spos) (lS (kw X) W (sSet i (rLcM ri js rg qt re))) := by
  subst hj
  refine PS.imp (ps_setLc (i := i) hc hN hy hyl hsw hi ok hg ht he hs) fun Dn σ H h => ?_
  obtain ⟨F, H0, m, δ, DD, ok, rs, h, gd⟩ := h
  unfold sSet rLcM at h
  refine lc_lift go lc_finM (Q := fun x H1 => gName i x σ H1 Dn.nx) ⟨F, H0, m, δ, fun d m1 => DD.nx (δ.set i (some d)) m1, fun c fs m1 => DD.xx c fs δ m1, ok, rs, h, fun v H1 H01 m1 d s1 ok1 r1 h1 => gd.nx _ _ _ _ _ s1 ok1 ((rs.mono s1).set r1 i) h1, gd.xx.at_ rs⟩
end
end DL
/-! # sorted(a tuple of texts) -/
namespace DL
open PySem L2
open PyProof.Rows (seqObj sortedAll)
section
variable {prog : Program} {w : World} {A : Around} {E : Value → Shared → Prop} {s : Shared}
abbrev hp1 (h : Heap) (vs : List Value) : Heap := (h.push (seqObj "list" #[] 0)).update h.objs.size (Obj.mapSeq (· ++ vs.toArray))
end
end DL
/-! # == and != of lists whose items may change -/
namespace DL
open PySem L2
end DL
namespace DL
open PySem L2
/-! ### a comprehension of any number of clauses: bodies -/
abbrev TB := St → Hp → (Hp → Prop) → Prop
/-- the last body: one more item -/
def tBe (D : Addr) (te : TE) : TB := fun σ H Nx => te σ H fun y H7 => ∃ acc, H7 D = some (.lst acc) ∧ acc.length < sizeLine ∧ Nx (upd H7 D (.lst (acc ++ [y])))
/-- a clause as a body -/
def tBf (wi : TI) (g : TG) (tt : TT) (vs : List Nat) (tb : TB) : TB := fun σ H Nx => wi σ H fun J H4 => ∃ V : Nat → Nat → Hp → Prop, (∃ m, V 0 m H4) ∧ ∀ j k H, V j k H →
  (J.stop j H ∧ Nx H) ∨ (J.go j H ∧ ∃ N1 : Hp → Prop, (∀ H', N1 H' → ∃ k', k' < k ∧ V (j + 1) k' H') ∧ ∀ x H', J.yld j H x H' → g x (wipe σ vs) H' fun σ3 H5 => wipe σ3 vs = wipe σ vs ∧ tt σ3 H5 fun b H6 =>
    if b = true then tb σ3 H6 N1 else N1 H6)
def tLcB (wi : TI) (g : TG) (tt : TT) (tb : Addr → TB) (vs : List Nat) : TE := fun σ H Q => wi σ H fun J H1 => ∀ D, H1 D = none → ∃ V : Nat → Nat → Hp → Prop, (∃ m, V 0 m (upd H1 D (.lst []))) ∧ ∀ i m H, V i m H →
  (J.stop i H ∧ Q (.ref D) H) ∨ (J.go i H ∧ ∃ Nx : Hp → Prop, (∀ H', Nx H' → ∃ m', m' < m ∧ V (i + 1) m' H') ∧ ∀ x H', J.yld i H x H' → g x (wipe σ vs) H' fun σ2 H2 => wipe σ2 vs = wipe σ vs ∧ tt σ2 H2 fun b H3 =>
    if b = true then tb D σ2 H3 Nx else Nx H3)
/-- one turn of a clause's loop: BK is what is done with the item, ahead of the next turn -/
def lpForm (ip : Pos) (t : Expr) (ifs : List Expr) (it : Value) (env : Env) (BK : Sem Fin → Sem Fin) (nx : Sem Fin) : Sem Fin := do
  standAt ip
  match ← pyNext it with
  | none => pure (.done .next)
  | some v =>
    letOwnedTupleGo t it v
    assign t env v
    let mut ok := true
    for q in ifs do if ok then ok ← isTrue q env (eval q env)
    if ok then BK nx else nx
def bkE (elt : Expr) (acc : Value) (env : Env) (nx : Sem Fin) : Sem Fin := do
  (do let _ ← call (.builtin "list.append") [acc, ← eval elt env])
  nx
def bkF (C : Expr) (k : Nat) (i1 : Expr) (acc : Value) (env : Env) (nx : Sem Fin) : Sem Fin := do
  let x ← eval i1 env
  standAt i1.pos
  let x ← foldedSetIterable i1 env x
  let _ ← runOwn (.compStart C k (← holding [x] (pyIter x)) acc env) env
  nx
section
variable {elt t0 i0 t1 i1 t2 i2 : Expr} {f0 f1 f2 : List Expr} {scope : Scope} {pos : Pos}
abbrev C3 (elt t0 i0 t1 i1 t2 i2 : Expr) (f0 f1 f2 : List Expr) (scope : Scope) (pos : Pos) : Expr := .ListComp elt [⟨t0, i0, f0, 0⟩, ⟨t1, i1, f1, 0⟩, ⟨t2, i2, f2, 0⟩] scope pos
theorem c3_0 (it acc : Value) (env : Env) : compTurn (C3 elt t0 i0 t1 i1 t2 i2 f0 f1 f2 scope pos) 0 it acc env = lpForm i0.pos t0 f0 it env (bkF (C3 elt t0 i0 t1 i1 t2 i2 f0 f1 f2 scope pos) 1 i1 acc env) (again (.compLoop (C3 elt t0 i0 t1 i1 t2 i2 f0 f1 f2 scope pos) 0 it acc env)) := by rfl
theorem c3_1 (it acc : Value) (env : Env) : compTurn (C3 elt t0 i0 t1 i1 t2 i2 f0 f1 f2 scope pos) 1 it acc env = lpForm i1.pos t1 f1 it env (bkF (C3 elt t0 i0 t1 i1 t2 i2 f0 f1 f2 scope pos) 2 i2 acc env) (again (.compLoop (C3 elt t0 i0 t1 i1 t2 i2 f0 f1 f2 scope pos) 1 it acc env)) := by rfl
theorem c3_2 (it acc : Value) (env : Env) : compTurn (C3 elt t0 i0 t1 i1 t2 i2 f0 f1 f2 scope pos) 2 it acc env = lpForm i2.pos t2 f2 it env (bkE elt acc env) (again (.compLoop (C3 elt t0 i0 t1 i1 t2 i2 f0 f1 f2 scope pos) 2 it acc env)) := by rfl
end
section
open PySem.Spec
variable {prog : Program} {w : World} {A : Around} {R : Result → Shared → Prop} {s : Shared}
/-- a clause's loop -/
theorem lp_loop {elt : Expr} {gs : List Comprehension} {scope : Scope} {pos : Pos} {k : Nat} {it acc : Value} {env : Env} {ip : Pos} {t : Expr} {ifs : List Expr} {BK : Sem Fin → Sem Fin} (he : compTurn (.ListComp elt gs scope pos) k it acc env = lpForm ip t ifs it env BK (again (.compLoop (.ListComp elt gs scope pos) k it acc env))) (I : Nat → Shared → Prop)
    (turn : ∀ n s, I n s → wpAny (model prog w) A (pyNext it) (fun r s1 => match r with
      | none => R (.ok .next) s1
      | some v => wpAny (model prog w) A (letOwnedTupleGo t it v) (fun _ s2 => wpAny (model prog w) A (assign t env v) (fun _ s3 =>
          wpAny (model prog w) A (forIn ifs true fun q r => if r = true then do let ok ← isTrue q env (eval q env); pure (ForInStep.yield ok) else pure (ForInStep.yield r)) (fun ok s4 =>
            if ok = true then ∀ (nx : Sem Fin) (Qf : Fin → Shared → Prop) (E : Value → Shared → Prop), (∀ s' m, m < n → I m s' → wpAny (model prog w) A nx Qf E s') → wpAny (model prog w) A (BK nx) Qf E s4
            else ∃ m, m < n ∧ I m s4) (fun _ _ => False) s3) (fun _ _ => False) s2) (fun _ _ => False) s1) (fun _ _ => False) s)
    (n : Nat) (h : I n s) : codeAny (model prog w) A (.compLoop (.ListComp elt gs scope pos) k it acc env) R s := by
  refine codeAny_loop rfl I (fun n s hI => ?_) n h
  show wpAny _ A ((compTurn (.ListComp elt gs scope pos) k it acc env).onRaise (fun x => do noteFrame x env; theTreesLotGoes x)) _ _ s
  refine wpAny_noted ?_
  rw [he]
  unfold lpForm
  refine wpAny_bind (wpAny_standAt (wpAny_bind (thnF (turn n s hI) fun r s1 h1 => ?_)))
  cases r with
  | none => exact wpAny_pure h1
  | some v =>
    refine wpAny_bind (thnF h1 fun _ s2 h2 => wpAny_bind (thnF h2 fun _ s3 h3 => wpAny_bind (thnF h3 fun ok s4 h4 => ?_)))
    cases ok with
    | false => exact wpAny_pure ⟨rfl, h4⟩
    | true => exact h4 _ _ _ fun s' m hm hI' => wpAny_pure ⟨rfl, m, hm, hI'⟩
/-- its start -/
theorem lp_start {elt : Expr} {gs : List Comprehension} {scope : Scope} {pos : Pos} {k : Nat} {it acc : Value} {env : Env} {g : Comprehension} (hg : gs[k]? = some g) (ha : g.is_async = 0) (h0 : codeAny (model prog w) A (.compLoop (.ListComp elt gs scope pos) k it acc env) R s)
    (h : wpAny (model prog w) A (pyIter it) (fun it' s' => codeAny (model prog w) A (.compLoop (.ListComp elt gs scope pos) k it' acc env) R s') (notedBy (model prog w) A env fun x s' => R (.error x) s') s) :
    codeAny (model prog w) A (.compStart (.ListComp elt gs scope pos) k it acc env) R s := by
  refine codeAny_of_tree ?_
  show wpAny _ _ ((compStart (.ListComp elt gs scope pos) k it acc env).onRaise (fun x => do noteFrame x env; standAt theWindowsPlace)) _ _ s
  refine wpAny_notedAt ?_
  unfold compStart
  have hg' : (clausesOf (.ListComp elt gs scope pos))[k]? = some g := hg
  rw [hg']
  simp only [Option.elim, ha, bne_self_eq_false, Bool.false_eq_true, if_false]
  refine wpAny_bind (wpAny_askSetting (wpAny_ite ?_))
  split
  · first
      | exact wpAny_pure (And.intro rfl h0)
      | exact wpAny_bind (wpAny_pure (wpAny_pure (And.intro rfl h0)))
  · exact wpAny_bind (wpAny_rule (wpAny_bind (wpAny_standAt (wpAny_bind (wpAny_mono h (fun it' s' h' => wpAny_pure (And.intro rfl h')) fun _ _ x => x)))))
end
/-- what is done with an item: from tb, Nx is reached; the slots vs may have changed -/
structure PB (Y : Cx) (vs : List Nat) (BK : Sem Fin → Sem Fin) (tb : TB) : Prop where
  run : ∀ (pins : List (Addr × Obj)) (s : Shared) (σ : St) (H : Hp) (Nx : Hp → Prop) (nx : Sem Fin) (Qf : Fin → Shared → Prop) (E : Value → Shared → Prop), Inv Y pins σ H s → tb σ H Nx →
    (∀ s' H', Inv Y pins (wipe σ vs) H' s' → Nx H' → wpAny (model Y.prog Y.w) Y.A nx Qf E s') → wpAny (model Y.prog Y.w) Y.A (BK nx) Qf E s
theorem pb_e {Y : Cx} {elt : Expr} {te : TE} {D : Addr} {vs : List Nat} (hx : Y.xe = fun _ _ => False) (he : PE Y elt te) : PB Y vs (bkE elt (.ref D) Y.env) (tBe D te) := by
  refine ⟨fun pins s σ H Nx nx Qf E I h k => ?_⟩
  have q := he.run pins s σ H _ I h
  rw [hx] at q
  unfold bkE
  refine wpAny_bind (wpAny_bind (thnF q fun z s1 ⟨y, H1, I1, r1, acc, hD, hz, nx1⟩ => wpAny_bind (app_ok I1 hD hz r1 fun s2 I2 => wpAny_pure ?_)))
  exact k s2 _ (I2.weak (wipe_length _ _) fun j v e => (wipe_some e).1) nx1
theorem pb_f {Y : Cx} {elt tg1 i1 : Expr} {gs : List Comprehension} {f1 : List Expr} {scope : Scope} {pos : Pos} {k : Nat} {wi : TI} {g : TG} {tt : TT} {tb : TB} {D : Addr} {vs js : List Nat} {BK : Sem Fin → Sem Fin} (hx : Y.xe = fun _ _ => False) (hc : Y.calm = true)
    (he : ∀ it, compTurn (.ListComp elt gs scope pos) k it (.ref D) Y.env = lpForm i1.pos tg1 f1 it Y.env BK (again (.compLoop (.ListComp elt gs scope pos) k it (.ref D) Y.env))) (hk : gs[k]? = some ⟨tg1, i1, f1, 0⟩)
    (hi : PI Y tg1 i1 wi) (hg : PG Y tg1 g) (ht : PTs Y f1 tt) (hb : PB Y js BK tb) (hj : ∀ i ∈ js, i ∈ vs) (hs : ∀ x, foldedSetIterable i1 Y.env x = pure x) :
    PB Y vs (bkF (.ListComp elt gs scope pos) k i1 (.ref D) Y.env) (tBf wi g tt vs tb) := by
  refine ⟨fun pins s σ H Nx nxt Qf E I h kk => ?_⟩
  have q0 := hi.run pins s σ H _ I h
  rw [hx] at q0
  unfold bkF
  refine wpAny_bind (thnF q0 fun xv t1 h1 => wpAny_bind (wpAny_standAt (wpAny_bind (wpAny_of_eq (hs xv) (wpAny_bind (wpAny_holding (thnF h1 fun itv t2 h2 => ?_)))))))
  obtain ⟨it, fp, tn, J, G2, rfl, U2, T, st2, f2, V, ⟨m0, v0⟩, turn⟩ := h2
  refine wpAny_bind (wpAny_runOwn ?_)
  rw [Around.mark_none]
  have stat : ∀ {H' : Hp}, (∀ b ∈ fp, H' b = none) → ∀ b ∈ fp, FpOk Y pins H' b := fun hn b hb => ⟨hn b hb, (f2 b hb).2⟩
  have loop : codeAny (model Y.prog Y.w) Y.A (.compLoop (.ListComp elt gs scope pos) k (.ref it) (.ref D) Y.env) (fun r s' => match r with
      | .ok _ => wpAny (model Y.prog Y.w) Y.A nxt Qf E s'
      | .error _ => False) t2 := by
    refine lp_loop (he (.ref it)) (fun n s' => ∃ j H', Inv Y pins (wipe σ vs) H' s' ∧ tn j s'.heap ∧ (∀ b ∈ fp, H' b = none) ∧ V j n H') ?_ m0 ⟨0, G2, U2.weak (wipe_length _ _) (fun j v e => (wipe_some e).1), st2, fun b hb => (f2 b hb).1, v0⟩
    rintro n t3 ⟨j, G3, U3, st3, n3, v3⟩
    rcases turn j n G3 v3 with ⟨stop, nx3⟩ | ⟨go, N1, hN1, step⟩
    · refine thnF (T.done Y rfl rfl rfl hc j _ t3 (wipe σ vs) G3 (fun _ _ => False) U3 (stat n3) st3 stop) fun r t4 ⟨hr, U4⟩ => ?_
      subst hr
      exact kk t4 G3 U4 nx3
    · refine thnF (T.item Y rfl rfl rfl hc j _ t3 (wipe σ vs) G3 (fun _ _ => False) U3 (stat n3) st3 go) fun r t4 ⟨u, hr, h4⟩ => ?_
      subst hr
      refine thnF h4 fun _ t5 ⟨x, G5, U5, r5, y5, st5, n5⟩ => ?_
      have U5' := U5.pinned (stat n5) (T.obj _ _ st5)
      have q5 := hg.run _ t5 (wipe σ vs) G5 x u _ U5' r5 (step x G5 y5)
      rw [hx] at q5
      refine thnF q5 fun _ t6 ⟨σ6, G6, U6, hw6, q6⟩ => ?_
      have q7 := ht.run _ t6 σ6 G6 _ U6 q6
      rw [hx] at q7
      refine thnF q7 fun b t7 ⟨G7, U7, q7⟩ => ?_
      have fin : ∀ {σ9 : St} {s' : Shared} {H' : Hp}, Inv Y (pins ++ pinsAt fp t5.heap) σ9 H' s' → (wipe σ vs).length = σ9.length → (∀ (i : Nat) v, (wipe σ vs)[i]? = some (some v) → σ9[i]? = some (some v)) → N1 H' →
          ∃ m, m < n ∧ ∃ j H', Inv Y pins (wipe σ vs) H' s' ∧ tn j s'.heap ∧ (∀ b ∈ fp, H' b = none) ∧ V j m H' := fun {σ9 s' H'} I' hl hkn nx' => by
        obtain ⟨m', hm, v'⟩ := hN1 H' nx'
        have pin' : ∀ b ∈ fp, ∀ ob, t5.heap.get? b = some ob → s'.heap.get? b = some ob ∧ H' b = none := fun b hb ob e =>
          let z := I'.pin (b, ob) (List.mem_append_right _ (List.mem_append_right _ (mem_pinsAt hb e)))
          ⟨z.1, z.2.1⟩
        refine ⟨m', hm, j + 1, H', I'.unpinned.weak hl hkn, T.keep _ _ _ st5 fun b hb ob e => (pin' b hb ob e).1, fun b hb => ?_, v'⟩
        obtain ⟨ob, e, _⟩ := T.obj _ _ st5 b hb
        exact (pin' b hb ob e).2
      have hl6 : (wipe σ vs).length = σ6.length := by rw [← hw6, wipe_length]
      cases b with
      | false =>
        simp only [Bool.false_eq_true, if_false] at q7 ⊢
        exact fin U7 hl6 (fun i v e => by rw [← hw6] at e; exact (wipe_some e).1) q7
      | true =>
        simp only [if_true] at q7 ⊢
        intro nx' Qf' E' hk'
        refine hb.run _ t7 σ6 G7 N1 nx' Qf' E' U7 q7 fun t8 G8 U8 n8 => ?_
        obtain ⟨m, hm, w⟩ := fin U8 (hl6.trans (wipe_length _ _).symm) (fun i v e => by
          rw [← hw6] at e
          obtain ⟨x1, x2⟩ := wipe_some e
          rw [wipe_out fun z => x2 (hj i z)]
          exact x1) n8
        exact hk' t8 m hm w
  refine codeAny_mono (lp_start hk rfl loop (T.self Y.A 0 _ _ _ st2 loop)) fun r s' hr => ?_
  cases r with
  | ok f => exact hr
  | error e => exact hr.elim
section
variable {X : Cx}
theorem lcB_core {pins : List (Addr × Obj)} {s : Shared} {σ : St} {H : Hp} {Q : VK} {elt tg iter : Expr} {ifs : List Expr} {rest : List Comprehension} {scope : Scope} {own : List (Str × Nat)} {js : List Nat} {pos pos' : Pos} {wi : TI} {g : TG} {tt : TT} {tb : Addr → TB} {BK : Value → Env → Sem Fin → Sem Fin} {use : Option (Value → Sem Unit)} {Qf : Value → Shared → Prop}
    (hc : X.calm = true) (hN : X.N.Nodup) (I : Inv X pins σ H s) (hi : PI X tg iter wi) (ok : BlkOk X.N X.env.scope scope own) (hv : ∀ i ∈ js, i ∈ own.map (·.2))
    (hgt : ∀ (s : Shared) (H : Hp) (C : Addr) (cl : List (Str × Addr)) (fp : List Addr), PG (X.blk s H scope (compEnvC scope cl C X.env) fp) tg g ∧ PTs (X.blk s H scope (compEnvC scope cl C X.env) fp) ifs tt ∧ ∀ D, PB (X.blk s H scope (compEnvC scope cl C X.env) fp) js (BK (.ref D) (compEnvC scope cl C X.env)) (tb D))
    (hs : ∀ x, foldedSetIterable iter X.env x = pure x) (he : ∀ it acc env, compTurn (.ListComp elt (⟨tg, iter, ifs, 0⟩ :: rest) scope pos) 0 it acc env = lpForm iter.pos tg ifs it env (BK acc env) (again (.compLoop (.ListComp elt (⟨tg, iter, ifs, 0⟩ :: rest) scope pos) 0 it acc env)))
    (h : tLcB wi g tt tb (own.map (·.2)) σ H Q)
    (hR : ∀ D C s' m H', Inv X pins σ H' s' → Q (.ref D) H' → s'.heap.Ns C m → FpOk X pins H' C → compPost (model X.prog X.w) X.A X.xe use Qf (.ref D) C (.ok .next) s') :
    wpAny (model X.prog X.w) X.A (comprehension (.ListComp elt (⟨tg, iter, ifs, 0⟩ :: rest) scope pos) scope X.env pos' (newList []) false (eval iter X.env) use) Qf X.xe s := by
  have fr0 : ∀ y ∈ scope.names, y.2 = .free → ∃ c, X.env.cells.lookup y.1 = some c := fun y hy e => (ok.free y hy e).elim (fun k => I.ok.has _ (.inl k)) fun k => I.ok.has _ (.inr k)
  refine wpAny_comprehension_free (use := use) rfl hs (closure_ok fr0) ok.kind (fun y hy e => by rw [ok.uniq y hy, e]) (thn (hi.run pins s σ H _ I h) fun xv t1 hx => thn hx fun itv t2 h2 => ?_)
  obtain ⟨it, fp, tn, J, G2, rfl, U2, T, st2, f2, q⟩ := h2
  refine wpAny_newObj_type (newEnv_comp ?_) (by show 0 ≤ sizeLine; decide)
  generalize eD : t2.heap.objs.size = D
  have nD : G2 D = none := U2.hok.fresh (Nat.le_of_eq eD)
  obtain ⟨V, ⟨m0, v0⟩, turn⟩ := q D nD
  generalize et3 : ({ t2 with heap := t2.heap.push { cls := .type "list", data := .seq ([] : List Value).toArray } } : Shared) = t3
  have e3 : t3.heap = t2.heap.push { cls := .type "list", data := .seq ([] : List Value).toArray } := by rw [← et3]
  have U3 : Inv X pins σ (upd G2 D (.lst [])) t3 := by
    rw [← et3]
    refine U2.laid (t' := t2.toks) (fun b ob e => Heap.get?_push_of_some _ e) (Nat.le_of_eq eD) ⟨Nat.zero_le _, [], 0, .nil, ?_⟩
    subst eD
    exact Heap.get?_push_size _ rfl
  have f3 : ∀ b ∈ fp, FpOk X pins (upd G2 D (.lst [])) b ∧ b < t3.heap.objs.size := fun b hb => by
    obtain ⟨ob, e, _⟩ := T.obj _ _ st2 b hb
    have lt := Heap.lt_size e
    refine ⟨⟨?_, (f2 b hb).2⟩, by rw [e3, Heap.size_push]; exact Nat.lt_succ_of_lt lt⟩
    rw [upd_ne (by rw [← eD]; exact Nat.ne_of_lt lt)]
    exact (f2 b hb).1
  have st3 : tn 0 t3.heap := T.keep _ _ _ st2 fun b _ ob e => by rw [e3]; exact Heap.get?_push_of_some _ e
  have U4 := block_start U3 ok hN f3
  obtain ⟨pg, pt, pb⟩ := hgt t3 (upd G2 D (.lst [])) t3.heap.objs.size (cellsFrom (t3.heap.objs.size + 1) scope.names (cloFrom X.env.cells scope.names [])) fp
  have pb := pb D
  show codeAny _ _ (.compStart (.ListComp elt (⟨tg, iter, ifs, 0⟩ :: rest) scope pos) 0 (.ref it) (.ref D) (compEnvC scope (cellsFrom (t3.heap.objs.size + 1) scope.names (cloFrom X.env.cells scope.names [])) t3.heap.objs.size X.env)) (compPost (model X.prog X.w) X.A X.xe use Qf (.ref D) t3.heap.objs.size) _
  have n3 : ∀ b ∈ fp, (upd G2 D (.lst [])) b = none := fun b hb => (f3 b hb).1.1
  generalize ece : compEnvC scope (cellsFrom (t3.heap.objs.size + 1) scope.names (cloFrom X.env.cells scope.names [])) t3.heap.objs.size X.env = ce at U4 pg pt pb ⊢
  have lC : ce.locals = t3.heap.objs.size := by subst ece; rfl
  generalize eG3 : upd G2 D (.lst []) = G3 at U3 U4 pg pt pb v0 n3 f3
  generalize et4 : ({ t3 with heap := pushCells (t3.heap.push { cls := .type "dict", data := .dict #[] }) scope.names } : Shared) = t4 at U4 ⊢
  have st4 : tn 0 t4.heap := T.keep _ _ _ st3 fun b _ ob e => by subst et4; exact pushCells_keeps _ _ _ _ (Heap.get?_push_of_some _ e)
  generalize hY : X.blk t3 G3 scope ce fp = Y at U4 pg pt pb
  have yx : Y.xe = fun _ _ => False := by subst hY; rfl
  have yc : Y.calm = true := by subst hY; exact hc
  have stat : ∀ {σ' : St} {H' : Hp} {s' : Shared}, Inv Y [] σ' H' s' → (∀ b ∈ fp, H' b = none) → ∀ b ∈ fp, FpOk Y [] H' b := by
    subst hY
    exact fun {σ' H' s'} I' hn b hb => ⟨hn b hb, (I'.ok.exf b hb).1, I'.ok.exfs b hb, .inl hb, fun x c e => (I'.ok.exf b hb).2 x c e, fun p hp => absurd (show p ∈ ([] : List (Addr × Obj)) ++ [] from hp) (by simp)⟩
  have back : ∀ {G5 : Hp} {t6 : Shared}, Inv Y [] (wipe σ (own.map (·.2))) G5 t6 → Q (.ref D) G5 → compPost (model X.prog X.w) X.A X.xe use Qf (.ref D) t3.heap.objs.size (.ok .next) t6 := by
    subst hY
    intro G5 t6 U6 qD
    have U7 : Inv X pins σ G5 t6 := U3.call' (ch := fp) U6.os U6.base U6.hok U6.bare fun b hb => ⟨(f3 b hb).1.2.2.2.1, (f3 b hb).1.2.1, (f3 b hb).1.2.2.2.2.1, (f3 b hb).1.2.2.2.2.2⟩
    have zC : G5 t3.heap.objs.size = none := by
      have z : G5 ce.locals = none := U6.free
      rwa [lC] at z
    obtain ⟨m, hn, _⟩ := U6.loc
    have hn : t6.heap.Ns ce.locals m := hn
    rw [lC] at hn
    exact hR D t3.heap.objs.size t6 m G5 U7 qD hn (U3.fpOk (Nat.le_refl _) zC)
  have yp : Y.prog = X.prog := by subst hY; rfl
  have yw : Y.w = X.w := by subst hY; rfl
  have yK : Y.K = X.K := by subst hY; rfl
  have yA : Y.A = X.A := by subst hY; rfl
  have ye : Y.env = ce := by subst hY; rfl
  have loop : codeAny (model X.prog X.w) X.A (.compLoop (.ListComp elt (⟨tg, iter, ifs, 0⟩ :: rest) scope pos) 0 (.ref it) (.ref D) ce) (compPost (model X.prog X.w) X.A X.xe use Qf (.ref D) t3.heap.objs.size) t4 := by
    refine lp_loop (he (.ref it) (.ref D) ce) (fun n s' => ∃ i H', Inv Y [] (wipe σ (own.map (·.2))) H' s' ∧ tn i s'.heap ∧ (∀ b ∈ fp, H' b = none) ∧ V i n H') ?_ m0 ⟨0, G3, U4, st4, n3, v0⟩
    rintro n t5 ⟨i, G5, U5, st5, n5, v5⟩
    rcases turn i n G5 v5 with ⟨stop, qD⟩ | ⟨go, Nx, kNx, step⟩
    · have td := T.done Y yp yw yK yc i [] t5 _ G5 (fun _ _ => False) U5 (stat U5 n5) st5 stop
      rw [yA] at td
      refine thnF td fun r t6 ⟨hr, U6⟩ => ?_
      subst hr
      exact back U6 qD
    · have ti := T.item Y yp yw yK yc i [] t5 _ G5 (fun _ _ => False) U5 (stat U5 n5) st5 go
      rw [yA] at ti
      refine thnF ti fun r t6 ⟨u, hr, h6⟩ => ?_
      subst hr
      refine thnF h6 fun _ t7 ⟨x, G7, U7, r7, y7, st7, n7⟩ => ?_
      have U7' := U7.pinned (stat U7 n7) (T.obj _ _ st7)
      have q7 := pg.run _ t7 _ G7 x u _ U7' r7 (step x G7 y7)
      rw [yx, yp, yw, yA, ye] at q7
      refine thnF q7 fun _ t8 ⟨σ8, G8, U8, w8, q8⟩ => ?_
      have q9 := pt.run _ t8 σ8 G8 _ U8 q8
      rw [yx, yp, yw, yA, ye] at q9
      refine thnF q9 fun b t9 ⟨G9, U9, q9⟩ => ?_
      have fin : ∀ {σ9 : St} {s' : Shared} {H' : Hp}, Inv Y ([] ++ pinsAt fp t7.heap) σ9 H' s' → (wipe σ (own.map (·.2))).length = σ9.length → (∀ (j : Nat) v, (wipe σ (own.map (·.2)))[j]? = some (some v) → σ9[j]? = some (some v)) → Nx H' →
          ∃ m, m < n ∧ ∃ i H', Inv Y [] (wipe σ (own.map (·.2))) H' s' ∧ tn i s'.heap ∧ (∀ b ∈ fp, H' b = none) ∧ V i m H' := fun {σ9 s' H'} I' hl hkn nxt => by
        obtain ⟨m', hm, v'⟩ := kNx H' nxt
        have pin' : ∀ b ∈ fp, ∀ ob, t7.heap.get? b = some ob → s'.heap.get? b = some ob ∧ H' b = none := fun b hb ob e => let z := I'.pin (b, ob) (List.mem_append_right _ (List.mem_append_right _ (mem_pinsAt hb e))); ⟨z.1, z.2.1⟩
        refine ⟨m', hm, i + 1, H', (I'.unpinned (pins := [])).weak hl hkn, T.keep _ _ _ st7 fun b hb ob e => (pin' b hb ob e).1, fun b hb => ?_, v'⟩
        obtain ⟨ob, e, _⟩ := T.obj _ _ st7 b hb
        exact (pin' b hb ob e).2
      have l8 : (wipe σ (own.map (·.2))).length = σ8.length := by rw [← w8, wipe_length]
      cases b with
      | false =>
        simp only [Bool.false_eq_true, if_false] at q9 ⊢
        exact fin U9 l8 (fun j v e => by rw [← w8] at e; exact (wipe_some e).1) q9
      | true =>
        simp only [if_true] at q9 ⊢
        intro nx' Qf' E' hk'
        have hbr := pb.run _ t9 σ8 G9 Nx nx' Qf' E' U9 q9
        rw [yp, yw, yA] at hbr
        refine hbr fun t10 G10 U10 n10 => ?_
        obtain ⟨m, hm, w⟩ := fin U10 (l8.trans (wipe_length _ _).symm) (fun i v e => by
          rw [← w8] at e
          obtain ⟨x1, x2⟩ := wipe_some e
          rw [wipe_out fun z => x2 (hv i z)]
          exact x1) n10
        exact hk' t10 m hm w
  exact codeAny_compStart_list loop (T.self X.A 0 _ _ _ st4 loop)
end
end DL
namespace DL
open PySem L2
/-! ### over data -/
abbrev DB := DSt → Mu → List D → (List D → Mu → Prop) → Prop
def bE (re : DE) : DB := fun δ m acc P => re δ m (fun x m2 => acc.length < sizeLine ∧ P (acc ++ [x]) m2) noX
def rCompB0 (Ph : Mu → Prop) (rg : DG) (qt : DT) (b : DB) (δ : DSt) (P : List D → Mu → Prop) : List D → List D → Mu → Prop
  | [], acc, m => Ph m ∧ P acc m
  | d :: ds, acc, m => Ph m ∧ rg d δ m fun δ' m' => qt δ' m' (fun k m1 => match k with
    | true => b δ' m1 acc (rCompB0 Ph rg qt b δ P ds)
    | false => rCompB0 Ph rg qt b δ P ds acc m1) noX
@[irreducible] def rCompB (Ph : Mu → Prop) (rg : DG) (qt : DT) (b : DB) (δ : DSt) (P : List D → Mu → Prop) (ds acc : List D) (m : Mu) : Prop := rCompB0 Ph rg qt b δ P ds acc m
section
variable {Ph : Mu → Prop} {rg : DG} {qt : DT} {b : DB} {δ : DSt} {P : List D → Mu → Prop} {acc : List D} {m : Mu} {d : D} {ds : List D}
theorem rCompB_nil : rCompB Ph rg qt b δ P [] acc m = (Ph m ∧ P acc m) := by unfold rCompB; rfl
theorem rCompB_cons : rCompB Ph rg qt b δ P (d :: ds) acc m = (Ph m ∧ rg d δ m fun δ' m' => qt δ' m' (fun k m1 => match k with
    | true => b δ' m1 acc (rCompB Ph rg qt b δ P ds)
    | false => rCompB Ph rg qt b δ P ds acc m1) noX) := by
  have e : rCompB Ph rg qt b δ P ds = rCompB0 Ph rg qt b δ P ds := by funext acc m; unfold rCompB; rfl
  rw [e]
  unfold rCompB
  rfl
end
def bF (ri : DI) (js : List Nat) (rg : DG) (qt : DT) (b : DB) : DB := fun δ m acc P => ri δ m (fun Ph ds m1 => rCompB Ph rg qt b (wipeD δ js) P ds acc m1) noX
def rLcB (ri : DI) (js : List Nat) (rg : DG) (qt : DT) (b : DB) : DE := fun δ m P PX => ri δ m (fun Ph ds m1 => rCompB Ph rg qt b (wipeD δ js) (fun acc m2 => P (.lst acc) m2) ds [] m1) PX
/-- a target that may make a list -/
def GokS (K : KW) (js : List Nat) (g : TG) (rg : DG) : Prop := ∀ F H0 m H σ δ v d P Q, Ok K F H0 m H → RpS K H0 σ δ → Rp K H0 v d → rg d δ m P → (∀ σ' H' H0' δ', Same H0 H0' → Ok K F H0' m H' → RpS K H0' σ' δ' → wipe σ' js = wipe σ js → P δ' m → Q σ' H') → g v σ H Q
theorem Gok.gs {K : KW} {js : List Nat} {g : TG} {rg : DG} (h : Gok K js g rg) : GokS K js g rg := fun F H0 m H σ δ v d P Q ok rs r q k => h F H0 m H σ δ v d P Q ok rs r q fun σ' δ' rs' hw p => k σ' H H0 δ' (Same.refl _) ok rs' hw p
def gStar (i j : Nat) : DG := fun d δ m P => match asLT m d with
  | some (z :: zs) => zs.length < 16000 ∧ P ((δ.set i (some z)).set j (some (.lst zs))) m
  | _ => False
theorem wipe_set2 {σ : St} {i j : Nat} {x y : Option V} : wipe ((σ.set i x).set j y) [i, j] = wipe σ [i, j] := by
  refine wipe_same (by simp) fun k hk => ?_
  rw [List.getElem?_set_ne (fun e => hk (by simp [e])), List.getElem?_set_ne (fun e => hk (by simp [e]))]
theorem gStar_ok {K : KW} {i j : Nat} : GokS K [i, j] (gStarV K i j) (gStar i j) := by
  intro F H0 m H σ δ v d P Q ok rs r h k
  unfold gStar at h
  split at h
  · rename_i z zs e1
    obtain ⟨q, vs, rfl, hq, rv⟩ := asLT_rp ok r e1
    cases rv with
    | @cons zv vs' _ _ rz rzs =>
      refine ⟨q, zv, vs', rfl, hq, by rw [rzs.length]; exact h.1, fun D hD => ?_⟩
      have sn := same_new (o := HO.lst vs') (ok.free hD).1
      exact k _ _ _ _ sn (ok.new hD _) (((rs.mono sn).set (rz.mono sn) i).set (.lst (SqL.of upd_same) (rzs.mono sn)) j) wipe_set2 h.2
  · exact h.elim
/-- a body is sound -/
def BOk (K : KW) (tb : Addr → TB) (b : DB) : Prop := ∀ F H0 m H q vs acc σ δ P (Nx : Hp → Prop), Ok K (upd F q (.lst vs)) H0 m H → RpL K H0 vs acc → RpS K H0 σ δ → b δ m acc P →
  (∀ H' H0' m' vs' acc', Same H0 H0' → Ok K (upd F q (.lst vs')) H0' m' H' → RpL K H0' vs' acc' → P acc' m' → Nx H') → tb q σ H Nx
theorem bok_e {K : KW} {re : DE} : BOk K (fun D => tBe D (lE K noW re)) (bE re) := by
  intro F H0 m H q vs acc σ δ P Nx ok rl rs h k
  refine ⟨_, H0, m, δ, _, noX, ok, rs, h, fun y H1 H01 m1 d1 s1 ok1 r1 h1 => ?_, fun _ _ _ _ _ _ _ _ _ z => z⟩
  have rl1 := rl.mono s1
  exact ⟨vs, (ok1.fr q _ upd_same).1, by rw [rl1.length]; exact h1.1, k _ H01 m1 (vs ++ [y]) (acc ++ [d1]) s1 ok1.reF (rl1.snoc r1) h1.2⟩
theorem bok_f {K : KW} {ri : DI} {g : TG} {rg : DG} {qt : DT} {js jo : List Nat} {tb : Addr → TB} {b : DB} (go : GokS K jo g rg) (hjo : ∀ i ∈ jo, i ∈ js) (hb : BOk K tb b) : BOk K (fun D => tBf (lI K noW ri) g (lT K noW qt) js (tb D)) (bF ri js rg qt b) := by
  intro F H0 m H q vs acc σ δ P Nx ok rl rs h k
  refine ⟨_, H0, m, δ, _, noX, ok, rs, h, fun J H1 H01 m1 Ph ds s1 ok1 it ph h1 => ?_, fun _ _ _ _ _ _ _ _ _ z => z⟩
  refine ⟨fun j n H' => ∃ H0' m' vs acc, Same H01 H0' ∧ Ok K (upd F q (.lst vs)) H0' m' H' ∧ RpL K H0' vs acc ∧ j + n = ds.length ∧ rCompB Ph rg qt b (wipeD δ js) P (ds.drop j) acc m', ⟨ds.length, H01, m1, vs, acc, Same.refl _, ok1, rl.mono s1, by omega, h1⟩, ?_⟩
  rintro j n H2 ⟨H02, m2, vs2, acc2, s2, ok2, rl2, hjn, h2⟩
  by_cases hlt : j < ds.length
  · have e2 : ds[j]? = some ds[j] := List.getElem?_eq_getElem hlt
    rw [List.drop_eq_getElem_cons hlt, rCompB_cons] at h2
    obtain ⟨ph2, h2⟩ := h2
    obtain ⟨go2, yl⟩ := (it _ j H2 H02 m2 s2 ok2 ph2).1 _ e2
    refine .inr ⟨go2, fun H' => ∃ H0' m' vs acc, Same H01 H0' ∧ Ok K (upd F q (.lst vs)) H0' m' H' ∧ RpL K H0' vs acc ∧ rCompB Ph rg qt b (wipeD δ js) P (ds.drop (j + 1)) acc m', fun H' hN => ?_, fun x H' y => ?_⟩
    · obtain ⟨H0', m', vs', acc', z1, z2, z3, z4⟩ := hN
      exact ⟨n - 1, by omega, H0', m', vs', acc', z1, z2, z3, by omega, z4⟩
    · obtain ⟨H03, s3, ok3, r3⟩ := yl x H' y
      have rs3 := ((((rs.mono s1).wipe js).mono s2)).mono s3
      refine go _ H03 m2 H' _ _ x _ _ _ ok3 rs3 r3 h2 fun σ4 H4 H04 δ4 s4 ok4 rs4 hw4 h4 => ⟨by rw [wipe_more hw4 hjo, wipe_twice], ?_⟩
      refine ⟨_, H04, m2, δ4, _, noX, ok4, rs4, h4, fun bb H5 H05 m5 s5 ok5 h5 => ?_, fun _ _ _ _ _ _ _ _ _ z => z⟩
      have rl5 := ((rl2.mono s3).mono s4).mono s5
      cases bb with
      | false =>
        show (if false = true then _ else _)
        rw [if_neg Bool.false_ne_true]
        exact ⟨H05, m5, vs2, acc2, ((s2.trans s3).trans s4).trans s5, ok5, rl5, h5⟩
      | true =>
        show (if true = true then _ else _)
        rw [if_pos rfl]
        exact hb F H05 m5 H5 q vs2 acc2 σ4 δ4 _ _ ok5 rl5 (rs4.mono s5) h5 fun H' H0' m' vs' acc' s6 ok6 rl6 h6 => ⟨H0', m', vs', acc', (((s2.trans s3).trans s4).trans s5).trans s6, ok6, rl6, h6⟩
  · have e : j = ds.length := by omega
    subst e
    rw [List.drop_length, rCompB_nil] at h2
    exact .inl ⟨(it _ _ H2 H02 m2 s2 ok2 h2.1).2 rfl, k H2 H02 m2 vs2 acc2 (s1.trans s2) ok2 rl2 h2.2⟩
section
variable {W : WX}
theorem lcB_lift {K : KW} {ri : DI} {g : TG} {rg : DG} {qt : DT} {js jo : List Nat} {tb : Addr → TB} {b : DB} {Pf : DK → List D → Mu → Prop} (go : GokS K jo g rg) (hjo : ∀ i ∈ jo, i ∈ js) (hb : BOk K tb b)
    (fin : ∀ F H0 m H q vs acc P Q, Ok K F H0 m H → H q = some (.lst vs) → H0 q = none → m q = none → F q = none → RpL K H0 vs acc → Pf P acc m → GV K F H0 P Q → Q (.ref q) H)
    {σ : St} {H : Hp} {Q : VK} (h : lE K W (fun δ m P PX => ri δ m (fun Ph ds m1 => rCompB Ph rg qt b (wipeD δ js) (Pf P) ds [] m1) PX) σ H Q) : tLcB (lI K W ri) g (lT K noW qt) tb js σ H Q := by
  obtain ⟨F, H0, m, δ, P, PX, ok, rs, h, gv, gx⟩ := h
  refine ⟨F, H0, m, δ, _, _, ok, rs, h, fun J H1 H01 m1 Ph ds s1 ok1 it ph h1 q hq => ?_, gx⟩
  have hF : F q = none := ok1.freeF hq
  refine ⟨fun i n H' => ∃ H0' m' vs acc, Same H01 H0' ∧ Ok K (upd F q (.lst vs)) H0' m' H' ∧ RpL K H0' vs acc ∧ i + n = ds.length ∧ rCompB Ph rg qt b (wipeD δ js) (Pf P) (ds.drop i) acc m', ⟨ds.length, H01, m1, [], [], Same.refl _, ok1.addF hq, .nil, by omega, h1⟩, ?_⟩
  rintro j n H2 ⟨H02, m2, vs2, acc2, s2, ok2, rl2, hjn, h2⟩
  by_cases hlt : j < ds.length
  · have e2 : ds[j]? = some ds[j] := List.getElem?_eq_getElem hlt
    rw [List.drop_eq_getElem_cons hlt, rCompB_cons] at h2
    obtain ⟨ph2, h2⟩ := h2
    obtain ⟨go2, yl⟩ := (it _ j H2 H02 m2 s2 ok2 ph2).1 _ e2
    refine .inr ⟨go2, fun H' => ∃ H0' m' vs acc, Same H01 H0' ∧ Ok K (upd F q (.lst vs)) H0' m' H' ∧ RpL K H0' vs acc ∧ rCompB Ph rg qt b (wipeD δ js) (Pf P) (ds.drop (j + 1)) acc m', fun H' hN => ?_, fun x H' y => ?_⟩
    · obtain ⟨H0', m', vs', acc', z1, z2, z3, z4⟩ := hN
      exact ⟨n - 1, by omega, H0', m', vs', acc', z1, z2, z3, by omega, z4⟩
    · obtain ⟨H03, s3, ok3, r3⟩ := yl x H' y
      have rs3 := (rs.wipe js).mono (s1.trans (s2.trans s3))
      refine go _ H03 m2 H' _ _ x _ _ _ ok3 rs3 r3 h2 fun σ4 H4 H04 δ4 s4 ok4 rs4 hw4 h4 => ⟨by rw [wipe_more hw4 hjo, wipe_twice], ?_⟩
      refine ⟨_, H04, m2, δ4, _, noX, ok4, rs4, h4, fun bb H5 H05 m5 s5 ok5 h5 => ?_, fun _ _ _ _ _ _ _ _ _ z => z⟩
      have rl5 := ((rl2.mono s3).mono s4).mono s5
      cases bb with
      | false =>
        show (if false = true then _ else _)
        rw [if_neg Bool.false_ne_true]
        exact ⟨H05, m5, vs2, acc2, ((s2.trans s3).trans s4).trans s5, ok5, rl5, h5⟩
      | true =>
        show (if true = true then _ else _)
        rw [if_pos rfl]
        exact hb F H05 m5 H5 q vs2 acc2 σ4 δ4 _ _ ok5 rl5 (rs4.mono s5) h5 fun H' H0' m' vs' acc' s6 ok6 rl6 h6 => ⟨H0', m', vs', acc', (((s2.trans s3).trans s4).trans s5).trans s6, ok6, rl6, h6⟩
  · have e : j = ds.length := by omega
    subst e
    rw [List.drop_length, rCompB_nil] at h2
    obtain ⟨ok3, z1, z2, z3⟩ := ok2.unframe hF
    exact .inl ⟨(it _ _ H2 H02 m2 s2 ok2 h2.1).2 rfl, fin F H02 m2 H2 q vs2 acc2 P Q ok3 z1 z2 z3 hF rl2 h2.2 (gv.mono (s1.trans s2))⟩
variable {X : Cx} {tg tg1 tg2 : Expr} {pos : Pos} {ifs ifs1 ifs2 : List Expr} {scope : Scope} {own : List (Str × Nat)} {ri ri1 ri2 : DI} {g g1 g2 : TG} {rg rg1 rg2 : DG} {qt qt1 qt2 : DT} {re : DE}
/-- two clauses; the targets may make lists -/
theorem pd_lc2S {elt iter iter1 : Expr} {js jo js1 : List Nat} (hc : X.calm = true) (hN : X.N.Nodup) (hi : PI X tg iter (lI (kw X) W ri)) (ok : BlkOk X.N X.env.scope scope own) (go : GokS (kw X) jo g rg) (go1 : GokS (kw X) js1 g1 rg1) (hj : own.map (·.2) = js)
    (hg : ∀ (s : Shared) (H : Hp) (C : Addr) (cl : List (Str × Addr)) (fp : List Addr), PG (X.blk s H scope (compEnvC scope cl C X.env) fp) tg g) (ht : ∀ (s : Shared) (H : Hp) (C : Addr) (cl : List (Str × Addr)) (fp : List Addr), PTs (X.blk s H scope (compEnvC scope cl C X.env) fp) ifs (lT (kw X) noW qt))
    (hi1 : ∀ (s : Shared) (H : Hp) (C : Addr) (cl : List (Str × Addr)) (fp : List Addr), PI (X.blk s H scope (compEnvC scope cl C X.env) fp) tg1 iter1 (lI (kw X) noW ri1))
    (hg1 : ∀ (s : Shared) (H : Hp) (C : Addr) (cl : List (Str × Addr)) (fp : List Addr), PG (X.blk s H scope (compEnvC scope cl C X.env) fp) tg1 g1) (ht1 : ∀ (s : Shared) (H : Hp) (C : Addr) (cl : List (Str × Addr)) (fp : List Addr), PTs (X.blk s H scope (compEnvC scope cl C X.env) fp) ifs1 (lT (kw X) noW qt1))
    (he : ∀ (s : Shared) (H : Hp) (C : Addr) (cl : List (Str × Addr)) (fp : List Addr), PE (X.blk s H scope (compEnvC scope cl C X.env) fp) elt (lE (kw X) noW re)) (hjo : ∀ i ∈ jo, i ∈ js := by decide) (hj1 : ∀ i ∈ js1, i ∈ js := by decide) (hs : ∀ x, foldedSetIterable iter X.env x = pure x := by intro _; rfl) (hs1 : ∀ env x, foldedSetIterable iter1 env x = pure x := by intro _ _; rfl) :
    PE X (.ListComp elt [⟨tg, iter, ifs, 0⟩, ⟨tg1, iter1, ifs1, 0⟩] scope pos) (lE (kw X) W (rLcB ri js rg qt (bF ri1 js1 rg1 qt1 (bE re)))) := by
  subst hj
  exact PE.imp (pe_lc2 hc hN hi ok hj1 hg ht hi1 hg1 ht1 he hs hs1) fun _ _ _ h => lcB_lift (tb := fun D => tBf (lI (kw X) noW ri1) g1 (lT (kw X) noW qt1) js1 (tBe D (lE (kw X) noW re))) go hjo (bok_f go1 (fun _ z => z) bok_e) lc_fin h
theorem gt3 {elt iter1 iter2 iter : Expr} {js1 js2 : List Nat} (hc : X.calm = true) (hj2 : ∀ i ∈ js2, i ∈ js1)
    (hg : ∀ (s : Shared) (H : Hp) (C : Addr) (cl : List (Str × Addr)) (fp : List Addr), PG (X.blk s H scope (compEnvC scope cl C X.env) fp) tg g) (ht : ∀ (s : Shared) (H : Hp) (C : Addr) (cl : List (Str × Addr)) (fp : List Addr), PTs (X.blk s H scope (compEnvC scope cl C X.env) fp) ifs (lT (kw X) noW qt))
    (hi1 : ∀ (s : Shared) (H : Hp) (C : Addr) (cl : List (Str × Addr)) (fp : List Addr), PI (X.blk s H scope (compEnvC scope cl C X.env) fp) tg1 iter1 (lI (kw X) noW ri1))
    (hg1 : ∀ (s : Shared) (H : Hp) (C : Addr) (cl : List (Str × Addr)) (fp : List Addr), PG (X.blk s H scope (compEnvC scope cl C X.env) fp) tg1 g1) (ht1 : ∀ (s : Shared) (H : Hp) (C : Addr) (cl : List (Str × Addr)) (fp : List Addr), PTs (X.blk s H scope (compEnvC scope cl C X.env) fp) ifs1 (lT (kw X) noW qt1))
    (hi2 : ∀ (s : Shared) (H : Hp) (C : Addr) (cl : List (Str × Addr)) (fp : List Addr), PI (X.blk s H scope (compEnvC scope cl C X.env) fp) tg2 iter2 (lI (kw X) noW ri2))
    (hg2 : ∀ (s : Shared) (H : Hp) (C : Addr) (cl : List (Str × Addr)) (fp : List Addr), PG (X.blk s H scope (compEnvC scope cl C X.env) fp) tg2 g2) (ht2 : ∀ (s : Shared) (H : Hp) (C : Addr) (cl : List (Str × Addr)) (fp : List Addr), PTs (X.blk s H scope (compEnvC scope cl C X.env) fp) ifs2 (lT (kw X) noW qt2))
    (he : ∀ (s : Shared) (H : Hp) (C : Addr) (cl : List (Str × Addr)) (fp : List Addr), PE (X.blk s H scope (compEnvC scope cl C X.env) fp) elt (lE (kw X) noW re)) (hs1 : ∀ env x, foldedSetIterable iter1 env x = pure x) (hs2 : ∀ env x, foldedSetIterable iter2 env x = pure x)
    (s : Shared) (H : Hp) (C : Addr) (cl : List (Str × Addr)) (fp : List Addr) :
    PG (X.blk s H scope (compEnvC scope cl C X.env) fp) tg g ∧ PTs (X.blk s H scope (compEnvC scope cl C X.env) fp) ifs (lT (kw X) noW qt) ∧ ∀ D, PB (X.blk s H scope (compEnvC scope cl C X.env) fp) js1 (bkF (C3 elt tg iter tg1 iter1 tg2 iter2 ifs ifs1 ifs2 scope pos) 1 iter1 (.ref D) (compEnvC scope cl C X.env)) (tBf (lI (kw X) noW ri1) g1 (lT (kw X) noW qt1) js1 (tBf (lI (kw X) noW ri2) g2 (lT (kw X) noW qt2) js2 (tBe D (lE (kw X) noW re)))) :=
  ⟨hg s H C cl fp, ht s H C cl fp, fun D => pb_f (js := js2) rfl hc (fun it => c3_1 it (.ref D) _) rfl (hi1 s H C cl fp) (hg1 s H C cl fp) (ht1 s H C cl fp) (pb_f (js := []) rfl hc (fun it => c3_2 it (.ref D) _) rfl (hi2 s H C cl fp) (hg2 s H C cl fp) (ht2 s H C cl fp) (pb_e rfl (he s H C cl fp)) (fun _ z => by cases z) (hs2 _)) hj2 (hs1 _)⟩
/-- three clauses -/
theorem pd_lc3 {elt iter iter1 iter2 : Expr} {js jo js1 j1 js2 : List Nat} (hc : X.calm = true) (hN : X.N.Nodup) (hi : PI X tg iter (lI (kw X) W ri)) (ok : BlkOk X.N X.env.scope scope own) (go : GokS (kw X) jo g rg) (go1 : GokS (kw X) j1 g1 rg1) (go2 : GokS (kw X) js2 g2 rg2) (hj : own.map (·.2) = js)
    (hg : ∀ (s : Shared) (H : Hp) (C : Addr) (cl : List (Str × Addr)) (fp : List Addr), PG (X.blk s H scope (compEnvC scope cl C X.env) fp) tg g) (ht : ∀ (s : Shared) (H : Hp) (C : Addr) (cl : List (Str × Addr)) (fp : List Addr), PTs (X.blk s H scope (compEnvC scope cl C X.env) fp) ifs (lT (kw X) noW qt))
    (hi1 : ∀ (s : Shared) (H : Hp) (C : Addr) (cl : List (Str × Addr)) (fp : List Addr), PI (X.blk s H scope (compEnvC scope cl C X.env) fp) tg1 iter1 (lI (kw X) noW ri1))
    (hg1 : ∀ (s : Shared) (H : Hp) (C : Addr) (cl : List (Str × Addr)) (fp : List Addr), PG (X.blk s H scope (compEnvC scope cl C X.env) fp) tg1 g1) (ht1 : ∀ (s : Shared) (H : Hp) (C : Addr) (cl : List (Str × Addr)) (fp : List Addr), PTs (X.blk s H scope (compEnvC scope cl C X.env) fp) ifs1 (lT (kw X) noW qt1))
    (hi2 : ∀ (s : Shared) (H : Hp) (C : Addr) (cl : List (Str × Addr)) (fp : List Addr), PI (X.blk s H scope (compEnvC scope cl C X.env) fp) tg2 iter2 (lI (kw X) noW ri2))
    (hg2 : ∀ (s : Shared) (H : Hp) (C : Addr) (cl : List (Str × Addr)) (fp : List Addr), PG (X.blk s H scope (compEnvC scope cl C X.env) fp) tg2 g2) (ht2 : ∀ (s : Shared) (H : Hp) (C : Addr) (cl : List (Str × Addr)) (fp : List Addr), PTs (X.blk s H scope (compEnvC scope cl C X.env) fp) ifs2 (lT (kw X) noW qt2))
    (he : ∀ (s : Shared) (H : Hp) (C : Addr) (cl : List (Str × Addr)) (fp : List Addr), PE (X.blk s H scope (compEnvC scope cl C X.env) fp) elt (lE (kw X) noW re)) (hjo : ∀ i ∈ jo, i ∈ js := by decide) (hj1 : ∀ i ∈ js1, i ∈ js := by decide) (hjj : ∀ i ∈ j1, i ∈ js1 := by decide) (hj2 : ∀ i ∈ js2, i ∈ js1 := by decide) (hs : ∀ x, foldedSetIterable iter X.env x = pure x := by intro _; rfl) (hs1 : ∀ env x, foldedSetIterable iter1 env x = pure x := by intro _ _; rfl) (hs2 : ∀ env x, foldedSetIterable iter2 env x = pure x := by intro _ _; rfl) :
    PE X (.ListComp elt [⟨tg, iter, ifs, 0⟩, ⟨tg1, iter1, ifs1, 0⟩, ⟨tg2, iter2, ifs2, 0⟩] scope pos) (lE (kw X) W (rLcB ri js rg qt (bF ri1 js1 rg1 qt1 (bF ri2 js2 rg2 qt2 (bE re))))) := by
  subst hj
  refine ⟨fun pins s σ H Q I h => ?_⟩
  rw [eval_ListComp]
  refine lcB_core hc hN I hi ok hj1 (gt3 (iter := iter) (pos := pos) hc hj2 hg ht hi1 hg1 ht1 hi2 hg2 ht2 he hs1 hs2) hs c3_0 (lcB_lift go hjo (bok_f go1 hjj (bok_f go2 (fun _ z => z) bok_e)) lc_fin h) fun D C s' m H' I' q hn f => ⟨m, hn, fun h'' sb => ?_⟩
  obtain ⟨f0, f1, f2, f3, f4, f5⟩ := f
  exact ⟨.ref D, H', I'.turned (t' := s'.toks) (fun b o hb e => (sb.2 b hb).trans e) f0 f1 f3 f4 f5, rfl, q⟩
theorem ds_setLc3 {elt iter iter1 iter2 : Expr} {js jo js1 j1 js2 : List Nat} {i : Nat} {y : Str} {py spos : Pos} (hc : X.calm = true) (hN : X.N.Nodup) (hsw : swapsWith (.ListComp elt [⟨tg, iter, ifs, 0⟩, ⟨tg1, iter1, ifs1, 0⟩, ⟨tg2, iter2, ifs2, 0⟩] scope pos) (some (.Name y py)) spos.line X.env = pure true) (hi : PI X tg iter (lI (kw X) W ri)) (ok : BlkOk X.N X.env.scope scope own) (go : GokS (kw X) jo g rg) (go1 : GokS (kw X) j1 g1 rg1) (go2 : GokS (kw X) js2 g2 rg2) (hj : own.map (·.2) = js)
    (hg : ∀ (s : Shared) (H : Hp) (C : Addr) (cl : List (Str × Addr)) (fp : List Addr), PG (X.blk s H scope (compEnvC scope cl C X.env) fp) tg g) (ht : ∀ (s : Shared) (H : Hp) (C : Addr) (cl : List (Str × Addr)) (fp : List Addr), PTs (X.blk s H scope (compEnvC scope cl C X.env) fp) ifs (lT (kw X) noW qt))
    (hi1 : ∀ (s : Shared) (H : Hp) (C : Addr) (cl : List (Str × Addr)) (fp : List Addr), PI (X.blk s H scope (compEnvC scope cl C X.env) fp) tg1 iter1 (lI (kw X) noW ri1))
    (hg1 : ∀ (s : Shared) (H : Hp) (C : Addr) (cl : List (Str × Addr)) (fp : List Addr), PG (X.blk s H scope (compEnvC scope cl C X.env) fp) tg1 g1) (ht1 : ∀ (s : Shared) (H : Hp) (C : Addr) (cl : List (Str × Addr)) (fp : List Addr), PTs (X.blk s H scope (compEnvC scope cl C X.env) fp) ifs1 (lT (kw X) noW qt1))
    (hi2 : ∀ (s : Shared) (H : Hp) (C : Addr) (cl : List (Str × Addr)) (fp : List Addr), PI (X.blk s H scope (compEnvC scope cl C X.env) fp) tg2 iter2 (lI (kw X) noW ri2))
    (hg2 : ∀ (s : Shared) (H : Hp) (C : Addr) (cl : List (Str × Addr)) (fp : List Addr), PG (X.blk s H scope (compEnvC scope cl C X.env) fp) tg2 g2) (ht2 : ∀ (s : Shared) (H : Hp) (C : Addr) (cl : List (Str × Addr)) (fp : List Addr), PTs (X.blk s H scope (compEnvC scope cl C X.env) fp) ifs2 (lT (kw X) noW qt2))
    (he : ∀ (s : Shared) (H : Hp) (C : Addr) (cl : List (Str × Addr)) (fp : List Addr), PE (X.blk s H scope (compEnvC scope cl C X.env) fp) elt (lE (kw X) noW re)) (hjo : ∀ i ∈ jo, i ∈ js := by decide) (hj1 : ∀ i ∈ js1, i ∈ js := by decide) (hjj : ∀ i ∈ j1, i ∈ js1 := by decide) (hj2 : ∀ i ∈ js2, i ∈ js1 := by decide) (hy : X.N[i]? = some y := by rfl) (hyl : X.env.scope.names.lookup y = some .local := by rfl) (hs : ∀ x, foldedSetIterable iter X.env x = pure x := by intro _; rfl) (hs1 : ∀ env x, foldedSetIterable iter1 env x = pure x := by intro _ _; rfl) (hs2 : ∀ env x, foldedSetIterable iter2 env x = pure x := by intro _ _; rfl) :
    PS X (.Assign [.Name y py] (.ListComp elt [⟨tg, iter, ifs, 0⟩, ⟨tg1, iter1, ifs1, 0⟩, ⟨tg2, iter2, ifs2, 0⟩] scope pos) spos) (lS (kw X) W (sSet i (rLcB ri js rg qt (bF ri1 js1 rg1 qt1 (bF ri2 js2 rg2 qt2 (bE re)))))) := by
  subst hj
  refine ⟨fun pins s σ H Dn I h => ?_⟩
  rw [exec_Assign_Name_used _ _ _ _ hsw]
  refine wpAny_bind (wpAny_standAt (wpAny_bind ?_))
  obtain ⟨F, H0, m, δ, DD, ok', rs, h, gd⟩ := h
  unfold sSet rLcB at h
  have h' := lcB_lift (K := kw X) (W := W) (Pf := fun P acc m2 => P (.lst acc) m2) go hjo (bok_f go1 hjj (bok_f go2 (fun _ z => z) bok_e)) lc_fin (σ := σ) (H := H) (Q := fun x H1 => gName i x σ H1 Dn.nx) ⟨F, H0, m, δ, fun d m1 => DD.nx (δ.set i (some d)) m1, fun c fs m1 => DD.xx c fs δ m1, ok', rs, h, fun v H1 H01 m1 d s1 ok1 r1 h1 => gd.nx _ _ _ _ _ s1 ok1 ((rs.mono s1).set r1 i) h1, gd.xx.at_ rs⟩
  show wpAny _ X.A (do let _ ← comprehension (C3 elt tg iter tg1 iter1 tg2 iter2 ifs ifs1 ifs2 scope pos) scope X.env (firstIterPos [⟨tg, iter, ifs, 0⟩, ⟨tg1, iter1, ifs1, 0⟩, ⟨tg2, iter2, ifs2, 0⟩] pos) (newList []) false (eval iter X.env) (some (assign (.Name y py) X.env))) _ _ s
  refine wpAny_bind (thn (lcB_core (Qf := fun _ s' => SP X pins Dn .next s') hc hN I hi ok hj1 (gt3 (iter := iter) (pos := pos) hc hj2 hg ht hi1 hg1 ht1 hi2 hg2 ht2 he hs1 hs2) hs c3_0 h' fun L C s' m H' I' q hn f => ?_) fun _ s' hq => wpAny_pure (wpAny_pure hq))
  show wpAny _ _ (assign (.Name y py) X.env (.ref L)) _ _ _
  refine wpAny_assign_Name (store_ok2 (v := V.ref L) I' hN hy (.inl hyl) rfl (fun s2 I2 ⟨a, sb, ha⟩ => ?_) (.inr hyl))
  obtain ⟨f0, f1, f2, f3, f4, f5⟩ := f
  have haC : C ≠ a := ha.elim (fun z => by rw [z]; exact f1) fun z e => f4 y a z e.symm
  exact ⟨m, hn.sameBut sb haC, fun h3 sb3 => ⟨_, H', I2.turned (t' := s2.toks) (fun b o hb e => (sb3.2 b hb).trans e) f0 f1 f3 f4 f5, q⟩⟩
end
end DL
/-! # != of two lists that hold the same objects -/
namespace DL
open PySem L2
end DL
/-! # zip of a list and a tuple -/
namespace DL
open PySem L2
end DL
/-! # enumerate of a tuple -/
namespace DL
open PySem L2
end DL
/-! # xs.index(x); {k: v for ..}; sorted(set(a list of tuples of whole numbers)) -/
namespace DL
open PySem L2
section
variable {X : Cx} {W : WX} {a b c o tg : Expr} {ra rb rc : DE} {pos apos p : Pos} {e : Expr} {es : List Expr} {qs : DA}
/-! ### xs.index(x), flat -/
/-! ### {k: v for ..}, keys whole numbers or texts -/
theorem Ok.reFD {K : KW} {F H0 H : Hp} {m : Mu} {q : Addr} {o u : HO} (ok : Ok K (upd F q o) H0 m H) : Ok K (upd F q u) H0 m (upd H q u) := by
  obtain ⟨c1, c2, c3⟩ := ok.fr q o upd_same
  refine ⟨fun b z e => ?_, fun a z e => ?_, fun a z e => ?_, fun P y l => have t := ok.tab P y l; have n := t.ne_frame upd_same; t.step (fun _ _ z => z) t.h0 ((upd_ne n).trans ((upd_ne n).symm.trans t.hF)) (upd_ne n)⟩
  · rw [upd_ne (ne_of_none e c2)]; exact ok.same b z e
  · have ha : a ≠ q := fun y => by rw [y, c3] at e; cases e
    obtain ⟨d1, d2⟩ := ok.cell a z e
    exact ⟨d1, d2.mono (Same.refl _) (upd_ne ha)⟩
  · by_cases ha : a = q
    · subst ha; rw [upd_same] at e ⊢; exact ⟨e, c2, c3⟩
    · rw [upd_ne ha] at e ⊢
      exact ok.fr a z (by rw [upd_ne ha]; exact e)
variable {ifs : List Expr} {scope : Scope} {own : List (Str × Nat)} {ri : DI} {g : TG} {rg : DG} {qt : DT} {rk rv : DE}
end
end DL
/-! # sorted(set(..)) of tuples of whole numbers -/
namespace DL
open PySem L2
/-! ### the order of tuples -/
def lexI : List Int → List Int → Bool
  | [], [] => false
  | [], _ :: _ => true
  | _ :: _, [] => false
  | a :: r, b :: t => if a = b then lexI r t else decide (a < b)
theorem lexI_cons (a b : Int) (r t : List Int) : lexI (a :: r) (b :: t) = if a = b then lexI r t else decide (a < b) := rfl
theorem lexI_tri : ∀ l k : List Int, lexI l k = false → lexI k l = false → l = k
  | [], [], _, _ => rfl
  | [], _ :: _, h, _ => by cases h
  | _ :: _, [], _, h => by cases h
  | a :: r, b :: t, h1, h2 => by
    rw [lexI_cons] at h1 h2
    by_cases e : a = b
    · subst e
      rw [if_pos rfl] at h1 h2
      rw [lexI_tri r t h1 h2]
    · rw [if_neg e, decide_eq_false_iff_not] at h1
      rw [if_neg (fun z => e z.symm), decide_eq_false_iff_not] at h2
      omega
theorem lexI_asym : ∀ l k : List Int, lexI l k = true → lexI k l = false
  | [], [], h => by cases h
  | [], _ :: _, _ => rfl
  | _ :: _, [], h => by cases h
  | a :: r, b :: t, h => by
    rw [lexI_cons] at h ⊢
    by_cases e : a = b
    · subst e
      rw [if_pos rfl] at h ⊢
      exact lexI_asym r t h
    · rw [if_neg e, decide_eq_true_eq] at h
      rw [if_neg (fun z => e z.symm), decide_eq_false_iff_not]
      omega
theorem lexI_tr : ∀ l k j : List Int, lexI l k = false → lexI k j = false → lexI l j = false
  | _, [], [], h, _ => h
  | _, [], _ :: _, _, h => by cases h
  | [], _ :: _, _, h, _ => by cases h
  | _ :: _, _ :: _, [], _, _ => rfl
  | a :: r, b :: t, c :: u, h1, h2 => by
    rw [lexI_cons] at h1 h2 ⊢
    by_cases e : a = b
    · subst e
      rw [if_pos rfl] at h1
      by_cases e2 : a = c
      · rw [if_pos e2] at h2 ⊢
        exact lexI_tr r t u h1 h2
      · rw [if_neg e2] at h2 ⊢
        exact h2
    · rw [if_neg e, decide_eq_false_iff_not] at h1
      by_cases e2 : b = c
      · subst e2
        rw [if_neg e, decide_eq_false_iff_not]
        exact h1
      · rw [if_neg e2, decide_eq_false_iff_not] at h2
        rw [if_neg (by omega), decide_eq_false_iff_not]
        omega
/-! ### the model's comparison of tuples -/
theorem perm_lift {α β : Type} (f : α → β) {l m : List β} (h : l.Perm m) : ∀ L : List α, m = L.map f → ∃ L' : List α, L'.Perm L ∧ l = L'.map f := by
  induction h with
  | nil => intro L e; cases L with | nil => exact ⟨[], .nil, rfl⟩ | cons a l => cases e
  | cons x _ ih =>
    intro L e
    cases L with
    | nil => cases e
    | cons a L =>
      rw [List.map_cons] at e
      injection e with e1 e2
      obtain ⟨L', p, e3⟩ := ih L e2
      exact ⟨a :: L', p.cons a, by rw [List.map_cons, e1, e3]⟩
  | swap x y l =>
    intro L e
    match L, e with
    | a :: b :: L, e =>
      simp only [List.map_cons] at e
      injection e with e1 e
      injection e with e2 e3
      exact ⟨b :: a :: L, List.Perm.swap _ _ _, by simp only [List.map_cons]; rw [e1, e2, e3]⟩
  | trans _ _ ih1 ih2 =>
    intro L e
    obtain ⟨L2, p2, e2⟩ := ih2 L e
    obtain ⟨L1, p1, e1⟩ := ih1 L2 e2
    exact ⟨L1, p1.trans p2, e1⟩
section
open PyProof.Rows
variable {prog : Program} {w : World} {A : Around} {E : Value → Shared → Prop} {s : Shared}
theorem lexI_kat {b : Bool} {Q : Bool → Shared → Prop} : ∀ {xs ys : List Value} {ns ms : List Int} (i : Nat), IntsAre xs ns → IntsAre ys ms → Q (lexI ns ms) s → PySem.W.KatLex prog w A b (decide (ns.length < ms.length)) Q (xs.zip ys) i s
  | _, _, [], [], i, .nil, .nil, h => PySem.W.kat_nil h
  | _, _, [], b :: l, i, .nil, .cons _ _ _, h => PySem.W.kat_nil (by rw [show decide (([] : List Int).length < (b :: l).length) = true by simp]; exact h)
  | _, _, b :: l, [], i, .cons _ _ _, .nil, h => PySem.W.kat_nil (by rw [show decide ((b :: l).length < ([] : List Int).length) = false by simp]; exact h)
  | _, _, _ :: ns, _ :: ms, i, .cons n t hx, .cons k u hy, h => by
    rw [lexI_cons] at h
    rw [show decide ((n :: ns).length < (k :: ms).length) = decide (ns.length < ms.length) by simp]
    refine PySem.W.kat_cons (SeqAt.EqAt.int_int n t k u prog w _ _ ?_)
    refine PySem.W.kat_go (fun e1 => ?_) (fun e1 => ?_)
    · have e : n = k := by simpa using e1
      rw [if_pos e] at h
      exact PySem.W.kat_yes (lexI_kat (i + 1) hx hy h)
    · have e : ¬ n = k := by simpa using e1
      rw [if_neg e] at h
      exact PySem.W.kat_no (TS.oneLt_ints _ h)
theorem swo_lexI (k : Value → List Int) : SrtO.Swo fun v u => lexI (k v) (k u) := ⟨fun x y h => lexI_asym _ _ h, fun x y z h1 h2 => lexI_tr _ _ _ h2 h1⟩
theorem tup_cmp {vs : List Value} {k : Value → List Int} (hp : ∀ v ∈ vs, TS.TupInts s.heap v (k v)) : SrtO.Cmp prog w A s (tuples' true) (fun p => p.1 ∈ vs) (SrtO.lt2 fun v u => lexI (k v) (k u)) := by
  intro p q hm hm'
  obtain ⟨a, xs, e, ⟨o, ho, hc, n, hd⟩, ix⟩ := hp _ hm
  obtain ⟨a', xs', e', ⟨o', ho', hc', n', hd'⟩, ix'⟩ := hp _ hm'
  show wpAny (model prog w) A (keyLt' (tuples' true) p.1 q.1) (fun r s' => s' = s ∧ r = lexI (k p.1) (k q.1)) (fun _ _ => False) s
  have l1 := ix.length
  have l2 := ix'.length
  generalize k p.1 = x at ix l1 ⊢
  generalize k q.1 = y at ix' l2 ⊢
  rw [e, e']
  refine PySem.W.kat_lt ho hd ho' hd' ?_
  rw [show xs.size = x.length by rw [← l1, Array.length_toList], show xs'.size = y.length by rw [← l2, Array.length_toList]]
  exact lexI_kat 0 ix ix' ⟨rfl, rfl⟩
theorem tup_firsts {h : Heap} : ∀ {vs : List Value}, (∀ v ∈ vs, ∃ ns, TS.TupInts h v ns ∧ ns ≠ []) → ∃ fs : List Value, PySem.W.KatTups h vs fs ∧ fs.length = vs.length ∧ ∀ f ∈ fs, ∃ x t, f = Value.int x t
  | [], _ => ⟨[], PySem.W.KatTups.nil, rfl, fun _ z => by cases z⟩
  | v :: vs, hp => by
    obtain ⟨fs, k1, k2, k3⟩ := tup_firsts (vs := vs) fun u hu => hp u (List.mem_cons_of_mem _ hu)
    obtain ⟨ns, ⟨a, xs, rfl, ⟨o, ho, hc, n, hd⟩, ix⟩, ne⟩ := hp v List.mem_cons_self
    obtain ⟨f, hf, x, t, ef⟩ : ∃ f, xs[0]? = some f ∧ ∃ x t, f = Value.int x t := by
      cases hx : xs.toList with
      | nil => rw [hx] at ix; cases ix; exact absurd rfl ne
      | cons y ys =>
        rw [hx] at ix
        cases ix with
        | cons x t _ => exact ⟨.int x t, by rw [← Array.getElem?_toList, hx]; rfl, x, t, rfl⟩
    exact ⟨f :: fs, PySem.W.KatTups.cons ho hc hd hf k1, by rw [List.length_cons, List.length_cons, k2], fun g hg => by
      rcases List.mem_cons.mp hg with rfl | hg
      · exact ⟨x, t, ef⟩
      · exact k3 g hg⟩
theorem tup_sortable {a : Addr} {vs : List Value} {k : Value → List Int} (h0 : 0 < vs.length) (hp : ∀ v ∈ vs, TS.TupInts s.heap v (k v) ∧ k v ≠ []) (ha : ∀ o, s.heap.get? a = some o → o.cls ≠ .type "tuple") : SrtO.SortableO prog w A s a vs fun v u => lexI (k v) (k u) := by
  intro h' keep
  have hp' : ∀ v ∈ vs, TS.TupInts h' v (k v) := fun v hm => by
    obtain ⟨b, xs, e, ⟨o, ho, hc, n, hd⟩, ix⟩ := (hp v hm).1
    exact ⟨b, xs, e, ⟨o, keep b o (fun z => by subst z; exact ha o ho hc) ho, hc, n, hd⟩, ix⟩
  obtain ⟨fs, k1, k2, k3⟩ := tup_firsts fun v hm => ⟨k v, hp' v hm, (hp v hm).2⟩
  refine ⟨tuples' true, fun Q E hq => ?_, tup_cmp hp'⟩
  refine PySem.W.kat_kind (T := .type "int") k1 (by omega) (fun f hm => ?_) (by rfl) ?_
  · obtain ⟨x, t, rfl⟩ := k3 f hm
    exact PySem.W.Looks.now
  · rw [show (Value.type "int" != Value.type "tuple") = true by first | decide +kernel | rfl]
    exact hq
end
/-! ### over data -/
def tupI (ns : List Int) : D := .tup (ns.map .int)
def intsT : List D → Option (List Int)
  | [] => some []
  | .int i :: ds => (intsT ds).map (i :: ·)
  | _ :: _ => none
def tupsD : List D → Option (List (List Int))
  | [] => some []
  | .tup ds :: r => match intsT ds, tupsD r with
    | some ns, some l => some (ns :: l)
    | _, _ => none
  | _ :: _ => none
theorem intsT_map : ∀ ns : List Int, intsT (ns.map .int) = some ns
  | [] => rfl
  | n :: ns => by rw [List.map_cons, intsT, intsT_map ns]; rfl
theorem intsT_rp {K : PySem.W.Frag} {H : Hp} : ∀ {ds : List D} {vs : List V} {ns : List Int}, RpL K H vs ds → intsT ds = some ns → vs = ns.map V.int
  | [], _, ns, .nil, h => by cases h; rfl
  | d :: ds, _, ns, .cons r t, h => by
    cases d with
    | int i =>
      cases r
      rw [intsT] at h
      cases e : intsT ds with
      | none => rw [e] at h; cases h
      | some l =>
        rw [e] at h
        cases h
        rw [intsT_rp t e]
        rfl
    | _ => cases h
theorem tupsD_rp {K : KW} {F H0 H : Hp} {m : Mu} (ok : Ok K F H0 m H) : ∀ {ds : List D} {vs : List V} {l : List (List Int)}, RpL K H0 vs ds → tupsD ds = some l → ∃ ks : List (Addr × List Int), vs = ks.map (fun p => V.ref p.1) ∧ ks.map (·.2) = l ∧ ∀ p ∈ ks, SqT K H0 p.1 (p.2.map V.int)
  | [], _, l, .nil, h => by cases h; exact ⟨[], rfl, rfl, fun _ z => by cases z⟩
  | d :: ds, _, l, .cons r t, h => by
    cases d with
    | tup es =>
      rw [tupsD] at h
      cases e1 : intsT es with
      | none => rw [e1] at h; cases h
      | some ns =>
        cases e2 : tupsD ds with
        | none => rw [e1, e2] at h; cases h
        | some l' =>
          rw [e1, e2] at h
          cases h
          obtain ⟨ks, h1, h2, h3⟩ := tupsD_rp ok t e2
          cases r with
          | tup q rr =>
            rename_i a vs'
            have := intsT_rp rr e1
            subst this
            exact ⟨(a, ns) :: ks, by rw [h1]; rfl, by rw [List.map_cons, h2], fun p hp => by
              rcases List.mem_cons.mp hp with rfl | hp
              · exact q
              · exact h3 p hp⟩
    | _ => cases h
end DL
/-! # x in a tuple of data -/
namespace DL
open PySem L2
end DL
namespace DL
open PySem L2
/-! ### own == of instances, lists of them; own len -/
/-- all that is there and not in H0 -/
def Frm (H0 H : Hp) : Hp := fun a => match H0 a with
  | none => H a
  | some _ => none
theorem Frm.ok {K : KW} (NL : NoLam K.fr) {H0 H : Hp} (s : Same H0 H) : Ok K (Frm H0 H) H0 (fun _ => none) H := by
  refine ⟨s, fun a o e => (by cases e), fun a o e => ?_, fun P q l => (NL P q l).elim⟩
  unfold Frm at e
  split at e
  · rename_i z
    exact ⟨e, z, rfl⟩
  · cases e
theorem Frm.ext {K : KW} {H0 H H0' H' : Hp} {m' : Mu} (s : Same H0 H) (s' : Same H0 H0') (ok : Ok K (Frm H0 H) H0' m' H') : Ext H H' := by
  intro a o e
  cases z : H0 a with
  | none => exact (ok.fr a o (by unfold Frm; rw [z]; exact e)).1
  | some o' =>
    have := s a o' z
    rw [e] at this
    cases this
    exact ok.same a o (s' a o z)
theorem Ok.ext {K : KW} {F H0 H H' : Hp} {m : Mu} (ok : Ok K F H0 m H) (e : Ext H H') : Ok K F H0 m H' := by
  refine ⟨fun a o h => e a o (ok.same a o h), fun a o h => ?_, fun a o h => ?_, fun a o h => ?_⟩
  · obtain ⟨c1, c2⟩ := ok.cell a o h
    obtain ⟨u, hu⟩ := c2.some
    exact ⟨c1, c2.mono (Same.refl _) ((e a u hu).trans hu.symm)⟩
  · obtain ⟨c1, c2, c3⟩ := ok.fr a o h
    exact ⟨e a o c1, c2, c3⟩
  · exact (ok.tab a o h).step (fun _ _ z => z) (ok.tab a o h).h0 (ok.tab a o h).hF (let ⟨_, h1, _⟩ := (ok.tab a o h).tab; (e a _ h1).trans h1.symm)
def EqI (n : Str) (sp : SpD) (d e : D) : Prop := ∃ fs gs, d = .ins n fs ∧ e = .ins n gs ∧ sp [d, e] (fun _ => none) (fun r _ => r = .bl true) (fun _ _ _ => False)
def EqLs (n : Str) (sp : SpD) (ds es : List D) : Prop := ds.length = es.length ∧ ∀ (i : Nat) d e, ds[i]? = some d → es[i]? = some e → EqI n sp d e
theorem EqLs.refl {n : Str} {sp : SpD} {ds : List D} (h : ∀ d, d ∈ ds → EqI n sp d d) : EqLs n sp ds ds := ⟨rfl, fun i d e h1 h2 => by
  rw [h1] at h2
  cases h2
  exact h d (List.mem_of_getElem? h1)⟩
end DL
namespace DL
open PySem L2
/-! ### text * int -/
end DL
namespace DL
open PySem L2
/-! ### keys -/
mutual
inductive KeyV (K : PySem.W.Frag) (H : Hp) : V → NestedKey → Prop
  | non : KeyV K H .non .none
  | bl (b : Bool) : KeyV K H (.bl b) (.num (if b = true then 1 else 0))
  | int (i : Int) : KeyV K H (.int i) (.num i)
  | str (x : Str) : KeyV K H (.str x) (.text x)
  | tup {a : Addr} {vs : List V} {ks : List NestedKey} : SqT K H a vs → KeyVs K H vs ks → KeyV K H (.ref a) (.tup ks)
inductive KeyVs (K : PySem.W.Frag) (H : Hp) : List V → List NestedKey → Prop
  | nil : KeyVs K H [] []
  | cons {v : V} {vs : List V} {k : NestedKey} {ks : List NestedKey} : KeyV K H v k → KeyVs K H vs ks → KeyVs K H (v :: vs) (k :: ks)
end
mutual
theorem keyV_of {K : PySem.W.Frag} {H0 H : Hp} (s : Same H0 H) : ∀ {v : V} {d : D}, Rp K H0 v d → kyB d = true → KeyV K H v (nk d)
  | _, _, .non, _ => by simp only [nk]; exact .non
  | _, _, .bl b, _ => by rw [nk]; exact .bl b
  | _, _, .int i, _ => by rw [nk]; exact .int i
  | _, _, .str x, _ => by rw [nk]; exact .str x
  | _, _, .ty n, h => by simp [kyB] at h
  | _, _, .adr a, h => by simp [kyB] at h
  | _, _, .glb _, h => by simp [kyB] at h
  | _, _, .exc _ _ _ _, h => by simp [kyB] at h
  | _, _, .dct _ _ _, h => by simp [kyB] at h
  | _, _, .ins _ _ _ _, h => by simp [kyB] at h
  | _, _, .lst _ _, h => by simp [kyB] at h
  | _, _, .tup q r, h => by rw [kyB] at h; rw [nk]; exact .tup (seqT_mono s q) (keyVs_of s r h)
theorem keyVs_of {K : PySem.W.Frag} {H0 H : Hp} (s : Same H0 H) : ∀ {vs : List V} {ds : List D}, RpL K H0 vs ds → kyBs ds = true → KeyVs K H vs (nks ds)
  | _, _, .nil, _ => by rw [nks]; exact .nil
  | _, _, .cons q r, h => by
    rw [kyBs, Bool.and_eq_true] at h
    rw [nks]
    exact .cons (keyV_of s q h.1) (keyVs_of s r h.2)
end
mutual
theorem keyV_is {X : Cx} {pins : List (Addr × Obj)} {σ : St} {H : Hp} {s : Shared} (I : L2.Inv X pins σ H s) : ∀ {v : V} {k : NestedKey} {u : Value}, KeyV X.K H v k → RelV v u → NestedIs s.heap k u
  | _, _, _, .non, r => by cases (show _ = Value.none from r); exact .none
  | _, _, _, .bl b, r => by cases (show _ = Value.bool b from r); exact .bool rfl
  | _, _, _, .int i, r => by obtain ⟨t, rfl⟩ := (show ∃ t, _ = Value.int i t from r); exact .int i t
  | _, _, _, .str x, r => by obtain ⟨t, rfl⟩ := (show ∃ t, _ = Value.str x t from r); exact .text x t
  | _, _, _, .tup q t, r => by
    cases (show _ = Value.ref _ from r)
    obtain ⟨its, rv, ⟨o, ho, hc, n, hd⟩, _⟩ := I.tuple q
    exact .tup ho hc hd (by rw [List.toList_toArray]; exact keyVs_is I t rv)
theorem keyVs_is {X : Cx} {pins : List (Addr × Obj)} {σ : St} {H : Hp} {s : Shared} (I : L2.Inv X pins σ H s) : ∀ {vs : List V} {ks : List NestedKey} {us : List Value}, KeyVs X.K H vs ks → Vals vs us → NestedAll s.heap ks us
  | _, _, _, .nil, r => by cases r; exact .nil
  | _, _, _, .cons q t, r => by
    cases r with
    | cons r1 r2 => exact .cons (keyV_is I q r1) (keyVs_is I t r2)
end
/-! ### lists with keys -/
section
variable {β : Type}
def lkL (L : List (NestedKey × Addr × β)) (k : NestedKey) : Option β := (L.find? fun e => decide (e.1 = k)).map (·.2.2)
def putL (L : List (NestedKey × Addr × β)) (k : NestedKey) (b : Addr) (v : β) : List (NestedKey × Addr × β) := if (lkL L k).isSome then L.map (fun e => if e.1 = k then (e.1, e.2.1, v) else e) else L ++ [(k, b, v)]
theorem putL_len (L : List (NestedKey × Addr × β)) (k : NestedKey) (b : Addr) (v : β) : (putL L k b v).length ≤ L.length + 1 := by
  unfold putL; split <;> simp
end
theorem lk_at (xs : List (NestedKey × Addr × Value)) (k : NestedKey) : lkL xs k = (atKey xs k).map (·.2) := by
  unfold lkL atKey
  cases xs.find? fun e => decide (e.1 = k) <;> rfl
theorem put_st (xs : List (NestedKey × Addr × Value)) (k : NestedKey) (b : Addr) (v : Value) : putL xs k b v = storedH xs k b v := by
  unfold putL storedH
  rw [lk_at, Option.isSome_map]
  split
  · congr 1
  · rfl
theorem pr_keys {L : List (NestedKey × Addr × V)} {xs : List (NestedKey × Addr × Value)} (r : Paired RE L xs) : L.map (·.1) = xs.map (·.1) := by
  induction r with
  | nil => rfl
  | cons h _ ih => rw [List.map_cons, List.map_cons, h.1, ih]
theorem pr_val {L : List (NestedKey × Addr × V)} {xs : List (NestedKey × Addr × Value)} (r : Paired RE L xs) (k : NestedKey) : (lkL L k = none ∧ lkL xs k = none) ∨ ∃ v u, lkL L k = some v ∧ lkL xs k = some u ∧ RelV v u := by
  induction r with
  | nil => exact .inl ⟨rfl, rfl⟩
  | @cons e x L xs h _ ih =>
    by_cases hk : e.1 = k
    · refine .inr ⟨e.2.2, x.2.2, ?_, ?_, h.2.2⟩
      · unfold lkL; rw [List.find?_cons_of_pos (by simp [hk])]; rfl
      · unfold lkL; rw [List.find?_cons_of_pos (by simp [← h.1, hk])]; rfl
    · have e1 : lkL (e :: L) k = lkL L k := by unfold lkL; rw [List.find?_cons_of_neg (by simp [hk])]
      have e2 : lkL (x :: xs) k = lkL xs k := by unfold lkL; rw [List.find?_cons_of_neg (by simp [← h.1, hk])]
      rw [e1, e2]
      exact ih
theorem pr_map {L : List (NestedKey × Addr × V)} {xs : List (NestedKey × Addr × Value)} (r : Paired RE L xs) {k : NestedKey} {v : V} {u : Value} (rv : RelV v u) : Paired RE (L.map (fun e => if e.1 = k then (e.1, e.2.1, v) else e)) (xs.map (fun e => if e.1 = k then (e.1, e.2.1, u) else e)) := by
  induction r with
  | nil => exact .nil
  | @cons e x L xs h _ ih =>
    rw [List.map_cons, List.map_cons]
    refine .cons ?_ ih
    by_cases hk : e.1 = k
    · rw [if_pos hk, if_pos (h.1 ▸ hk)]; exact ⟨h.1, h.2.1, rv⟩
    · rw [if_neg hk, if_neg (h.1 ▸ hk)]; exact h
theorem pr_app {L L2 : List (NestedKey × Addr × V)} {xs xs2 : List (NestedKey × Addr × Value)} (r : Paired RE L xs) (r2 : Paired RE L2 xs2) : Paired RE (L ++ L2) (xs ++ xs2) := by
  induction r with
  | nil => exact r2
  | cons h _ ih => exact .cons h ih
theorem pr_put {L : List (NestedKey × Addr × V)} {xs : List (NestedKey × Addr × Value)} (r : Paired RE L xs) (k : NestedKey) (b : Addr) {v : V} {u : Value} (rv : RelV v u) : Paired RE (putL L k b v) (putL xs k b u) := by
  unfold putL
  rcases pr_val r k with ⟨h1, h2⟩ | ⟨v', u', h1, h2, _⟩
  · rw [h1, h2]
    exact pr_app r (.cons ⟨rfl, rfl, rv⟩ .nil)
  · rw [h1, h2]
    exact pr_map r rv
/-! ### the dict on the machine -/
def KsOk (K : PySem.W.Frag) (H : Hp) (L : List (NestedKey × Addr × V)) : Prop := ∀ e ∈ L, KeyV K H (.ref e.2.1) e.1 ∧ e.1.depth ≤ 8
def RdG (w : World) (H : Hp) (a : Addr) (L : List (NestedKey × Addr × V)) : Prop := H a = some (DGO w a L) ∨ ∃ o, H a = some (.frz o (DGO w a L))
section
variable {X : Cx} {pins : List (Addr × Obj)} {σ : St} {H : Hp} {s : Shared} {a : Addr} {L : List (NestedKey × Addr × V)}
theorem dg_raw (I : L2.Inv X pins σ H s) (e : RdG X.w H a L) : DGp X.w a L s.heap := by
  rcases e with e | ⟨o, e⟩
  · exact (I.hok a _ e).1
  · exact (I.hok a _ e).2.1
theorem dg_at (I : L2.Inv X pins σ H s) (e : RdG X.w H a L) (hk : KsOk X.K H L) : ∃ xs, Paired RE L xs ∧ (a == sysModules) = false ∧ L.length ≤ sizeLine ∧ s.heap.DictOfH (nestedKind X.prog X.w) a xs := by
  obtain ⟨h1, h2, xs, r, nd, o, es, ep, g1, g2, g3, g4⟩ := dg_raw I e
  refine ⟨xs, r, h1, h2, o, es, ep, g1, g2, g3, g4, fun x hx => ?_, nd⟩
  obtain ⟨e, he, q⟩ : ∃ e ∈ L, RE e x := by
    clear hk h2 nd g4 e
    induction r with
    | nil => cases hx
    | cons h _ ih =>
      rcases List.mem_cons.mp hx with rfl | hx
      · exact ⟨_, List.mem_cons_self, h⟩
      · obtain ⟨e, he, q⟩ := ih hx
        exact ⟨e, List.mem_cons_of_mem _ he, q⟩
  obtain ⟨k1, k2⟩ := hk e he
  rw [← q.1, ← q.2.1]
  exact ⟨keyV_is I k1 rfl, k2⟩
theorem dg_new {P : Program} {w : World} {H' : Hp} {h' : Heap} {xs : List (NestedKey × Addr × Value)} (z : L.length ≤ sizeLine) (hd : (a == sysModules) = false) (r : Paired RE L xs) (dd : h'.DictOfH (nestedKind P w) a xs) : ObjOk P w H' h' a (DGO w a L) := by
  obtain ⟨o, es, ep, g1, g2, g3, g4, _, nd⟩ := dd
  exact ⟨⟨hd, z, xs, r, nd, o, es, ep, g1, g2, g3, g4⟩, ⟨o, g1⟩, fun h1 h2 ⟨a1, a2, ys, a3, a4, o', es', ep', b1, b⟩ k => ⟨a1, a2, ys, a3, a4, o', es', ep', k _ b1, b⟩⟩
end
theorem room8 {k : Nat} {A : Around} (r : Room k A) : A.in1.units + 8 < cLine := by have := r.un; show A.units + 1 + 8 < cLine; omega
section
variable {X : Cx}
/-- d[k], there -/
def rGetG (K : PySem.W.Frag) (w : World) : R2 := fun x y H Q => ∃ a b L k v, x = .ref a ∧ y = .ref b ∧ RdG w H a L ∧ KsOk K H L ∧ KeyV K H y k ∧ k.depth ≤ 8 ∧ lkL L k = some v ∧ Q v H
/-- k in d -/
def rInG (K : PySem.W.Frag) (w : World) (neg : Bool) : R2 := fun x y H Q => ∃ a b L k, x = .ref b ∧ y = .ref a ∧ RdG w H a L ∧ KsOk K H L ∧ KeyV K H x k ∧ k.depth ≤ 8 ∧ Q (.bl (if neg then !(lkL L k).isSome else (lkL L k).isSome)) H
theorem pr_some {L : List (NestedKey × Addr × V)} {xs : List (NestedKey × Addr × Value)} (r : Paired RE L xs) (k : NestedKey) : (atKey xs k).isSome = (lkL L k).isSome := by
  rw [← Option.isSome_map (f := (·.2)), ← lk_at]
  rcases pr_val r k with ⟨h1, h2⟩ | ⟨v', u', h1, h2, _⟩ <;> rw [h1, h2] <;> rfl
theorem op_inG (hu : X.A.in1.units + 8 < cLine) : OpR X (compareOp .In) (rInG X.K X.w false) := by
  intro pins s σ H x y v u Q I rx ry h
  obtain ⟨a, b, L, k, rfl, rfl, e, hk, kv, kd, q⟩ := h
  cases rx
  cases ry
  obtain ⟨xs, r, hd, z, dd⟩ := dg_at I e hk
  refine wpAny_in_heap (knd := nestedKind X.prog X.w) (k := k) hu ⟨keyV_is I kv rfl, kd⟩ hd dd ?_
  rw [pr_some r k]
  exact ⟨.bl _, H, I.tok _, rfl, q⟩
theorem op_notInG (hu : X.A.in1.units + 8 < cLine) : OpR X (compareOp .NotIn) (rInG X.K X.w true) := by
  intro pins s σ H x y v u Q I rx ry h
  obtain ⟨a, b, L, k, rfl, rfl, e, hk, kv, kd, q⟩ := h
  cases rx
  cases ry
  obtain ⟨xs, r, hd, z, dd⟩ := dg_at I e hk
  refine PyProof.Rows.wpAny_notIn_heap (knd := nestedKind X.prog X.w) (k := k) hu ⟨keyV_is I kv rfl, kd⟩ hd dd ?_
  rw [pr_some r k]
  exact ⟨.bl _, H, I.tok _, rfl, q⟩
/-- d[y] as an expression -/
def tGetG (K : PySem.W.Frag) (w : World) (td ty : TE) : TE := fun σ H Q => td σ H fun x H1 => ty σ H1 fun y H2 => rGetG K w x y H2 Q
theorem pe_getG {o i : Expr} {pos : Pos} {td ty : TE} (hu : X.A.in1.units + 8 < cLine) (ho : PE X o td) (hi : PE X i ty) (hs : NoSl i) : PE X (.Subscript o i pos) (tGetG X.K X.w td ty) := by
  refine ⟨fun pins s σ H Q I h => ?_⟩
  refine subD_of PySem.F.slot_dict_getitem.lookup hs (thn (ho.run pins s σ H _ I h) fun u s1 ⟨x, H1, I1, rx, q1⟩ => thn (hi.run pins s1 σ H1 _ I1 q1) fun iv s2 ⟨y, H2, I2, ry, a, b, L, k, v, ex, ey, e, hk, kv, kd, hl, q2⟩ => ?_)
  subst ex ey
  obtain rfl : u = Value.ref a := rx
  obtain rfl : iv = Value.ref b := ry
  obtain ⟨xs, r, hd, z, dd⟩ := dg_at I2 e hk
  obtain ⟨v', u', h1, h2, rv⟩ : ∃ v u, lkL L k = some v ∧ lkL xs k = some u ∧ RelV v u := by
    rcases pr_val r k with ⟨h1, _⟩ | h
    · rw [hl] at h1; cases h1
    · exact h
  rw [hl] at h1
  cases h1
  rw [lk_at] at h2
  obtain ⟨p, hp, rfl⟩ := Option.map_eq_some_iff.mp h2
  exact ⟨dd.typeIs, wpAny_getItem_heap (knd := nestedKind X.prog X.w) hu ⟨keyV_is I2 kv rfl, kd⟩ dd hp ⟨v, H2, I2.tok _, rv, q2⟩⟩
/-- d[k] = v -/
def rSetG (K : PySem.W.Frag) (w : World) : V → V → V → Hp → (Hp → Prop) → Prop := fun o i v H Q => ∃ a b L k, o = .ref a ∧ i = .ref b ∧ H a = some (DGO w a L) ∧ KsOk K H L ∧ KeyV K H i k ∧ k.depth ≤ 8 ∧ L.length < sizeLine ∧ Q (upd H a (DGO w a (putL L k b v)))
theorem dg_put {pins : List (Addr × Obj)} {σ : St} {H : Hp} {s : Shared} {a b : Addr} {L : List (NestedKey × Addr × V)} {xs : List (NestedKey × Addr × Value)} {k : NestedKey} {v : V} {u : Value} {h' : Heap} (t' : Nat) (I : L2.Inv X pins σ H s) (e : H a = some (DGO X.w a L)) (hd : (a == sysModules) = false) (r : Paired RE L xs) (rv : RelV v u) (z : L.length < sizeLine)
    (dd : h'.DictOfH (nestedKind X.prog X.w) a (storedH xs k b u)) (hs : Heap.SameBut a s.heap h') : L2.Inv X pins σ (upd H a (DGO X.w a (putL L k b v))) { s with heap := h', toks := t' } := by
  have he : ∃ q, h'.get? a = some q := let ⟨q, _, _, hq, _⟩ := dd; ⟨q, hq⟩
  rw [← put_st] at dd
  exact d_write I (by rw [e]; exact True.intro) hs he (dg_new (Nat.le_trans (putL_len L k b v) z) hd (pr_put r k b rv) dd)
theorem set_dg (hu : X.A.in1.units + 8 < cLine) : PSet X (rSetG X.K X.w) := by
  intro pins s σ H o i v ov iv u Q I ro ri rv h
  obtain ⟨a, b, L, k, rfl, rfl, e, hk, kv, kd, z, q⟩ := h
  cases ro
  cases ri
  obtain ⟨xs, r, hd, z2, dd⟩ := dg_at I (.inl e) hk
  have hz : xs.length ≤ sizeLine := by
    have := congrArg List.length (pr_keys r)
    rw [List.length_map, List.length_map] at this
    omega
  exact wpAny_setItem_heap (knd := nestedKind X.prog X.w) (hsz := hz) hu ⟨keyV_is I kv rfl, kd⟩ dd fun h' dd' hs => ⟨_, dg_put _ I e hd r rv z dd' hs, q⟩
theorem dg_empty {P : Program} {w : World} {H : Hp} (h : Heap) (hb : sysModules < h.objs.size) : ObjOk P w H (h.push { cls := .type "dict", data := .dict #[] }) h.objs.size (DGO w h.objs.size []) :=
  dg_new (xs := []) (Nat.zero_le _) (beq_eq_false_iff_ne.mpr (Ne.symm (Nat.ne_of_lt hb))) .nil (Heap.DictOfH.new h)
end
end DL
namespace DL
open PySem L2
/-! ### dicts of ours whose keys are tuples -/
@[irreducible] def valG (kvs : List (D × D)) (k : D) : Option D := (kvs.find? fun p => decide (nk p.1 = nk k)).map (·.2)
@[irreducible] def putG (kvs : List (D × D)) (k d : D) : List (D × D) := if (valG kvs k).isSome then kvs.map (fun p => if nk p.1 = nk k then (p.1, d) else p) else kvs ++ [(k, d)]
theorem valG_nil {k : D} : valG [] k = none := by unfold valG; rfl
theorem valG_pos {p : D × D} {r : List (D × D)} {k : D} (e : nk p.1 = nk k) : valG (p :: r) k = some p.2 := by unfold valG; rw [List.find?_cons_of_pos (by simp [e])]; rfl
theorem valG_neg {p : D × D} {r : List (D × D)} {k : D} (e : ¬ nk p.1 = nk k) : valG (p :: r) k = valG r k := by unfold valG; rw [List.find?_cons_of_neg (by simp [e])]
theorem putG_new {kvs : List (D × D)} {k d : D} (h : valG kvs k = none) : putG kvs k d = kvs ++ [(k, d)] := by unfold putG; rw [h]; rfl
theorem valG_mem {kvs : List (D × D)} {k d : D} (h : valG kvs k = some d) : ∃ p ∈ kvs, nk p.1 = nk k ∧ p.2 = d := by
  unfold valG at h
  obtain ⟨p, hp, e⟩ := Option.map_eq_some_iff.mp h
  exact ⟨p, List.mem_of_find?_eq_some hp, by simpa using List.find?_some hp, e⟩
theorem valG_none {kvs : List (D × D)} {k : D} : valG kvs k = none ↔ ∀ p ∈ kvs, nk p.1 ≠ nk k := by
  unfold valG
  rw [Option.map_eq_none_iff, List.find?_eq_none]
  constructor
  · intro h p hp e; exact h p hp (by simp [e])
  · intro h p hp e; exact h p hp (by simpa using e)
abbrev RG (K : KW) (H0 : Hp) (e : NestedKey × Addr × V) (p : D × D) : Prop := e.1 = nk p.1 ∧ ktB p.1 = true ∧ Rp K H0 (.ref e.2.1) p.1 ∧ Rp K H0 e.2.2 p.2
theorem ktB_tup {d : D} (h : ktB d = true) : kyB d = true ∧ (nk d).depth ≤ 8 ∧ ∃ ds, d = .tup ds := by
  cases d with
  | tup ds =>
    unfold ktB at h
    rw [Bool.and_eq_true, decide_eq_true_eq] at h
    exact ⟨by rw [kyB]; exact h.1, h.2, ds, rfl⟩
  | _ => cases h
theorem ktB_ref {K : PySem.W.Frag} {H : Hp} {v : V} {d : D} (h : ktB d = true) (r : Rp K H v d) : ∃ b, v = .ref b := by
  obtain ⟨_, _, ds, rfl⟩ := ktB_tup h
  cases r
  exact ⟨_, rfl⟩
section
variable {K : KW} {F H0 H : Hp} {m : Mu} {L : List (NestedKey × Addr × V)} {kvs : List (D × D)}
theorem rg_ks (s : Same H0 H) (r : Paired (RG K H0) L kvs) : KsOk K H L := by
  intro e he
  induction r with
  | nil => cases he
  | @cons e' p L kvs h _ ih =>
    rcases List.mem_cons.mp he with rfl | he
    · obtain ⟨h1, h2, h3, _⟩ := h
      obtain ⟨k1, k2, _⟩ := ktB_tup h2
      rw [h1]
      exact ⟨keyV_of s h3 k1, k2⟩
    · exact ih he
theorem rg_val (r : Paired (RG K H0) L kvs) (k : D) : (lkL L (nk k) = none ∧ valG kvs k = none) ∨ ∃ v d, lkL L (nk k) = some v ∧ valG kvs k = some d ∧ Rp K H0 v d := by
  induction r with
  | nil => exact .inl ⟨rfl, valG_nil⟩
  | @cons e p L kvs h _ ih =>
    by_cases hk : e.1 = nk k
    · refine .inr ⟨e.2.2, p.2, ?_, valG_pos (h.1 ▸ hk), h.2.2.2⟩
      unfold lkL; rw [List.find?_cons_of_pos (by simp [hk])]; rfl
    · have e1 : lkL (e :: L) (nk k) = lkL L (nk k) := by unfold lkL; rw [List.find?_cons_of_neg (by simp [hk])]
      rw [e1, valG_neg (h.1 ▸ hk)]
      exact ih
theorem rg_put (r : Paired (RG K H0) L kvs) {k d : D} {b : Addr} {v : V} (hk : ktB k = true) (rk : Rp K H0 (.ref b) k) (rv : Rp K H0 v d) : Paired (RG K H0) (putL L (nk k) b v) (putG kvs k d) := by
  have app : ∀ {L : List (NestedKey × Addr × V)} {kvs : List (D × D)}, Paired (RG K H0) L kvs → Paired (RG K H0) (L ++ [(nk k, b, v)]) (kvs ++ [(k, d)]) := by
    intro L kvs r
    induction r with
    | nil => exact .cons ⟨rfl, hk, rk, rv⟩ .nil
    | cons h _ ih => exact .cons h ih
  have mp : ∀ {L : List (NestedKey × Addr × V)} {kvs : List (D × D)}, Paired (RG K H0) L kvs → Paired (RG K H0) (L.map (fun e => if e.1 = nk k then (e.1, e.2.1, v) else e)) (kvs.map (fun p => if nk p.1 = nk k then (p.1, d) else p)) := by
    intro L kvs r
    induction r with
    | nil => exact .nil
    | @cons e p L kvs h _ ih =>
      rw [List.map_cons, List.map_cons]
      refine .cons ?_ ih
      by_cases hk : e.1 = nk k
      · rw [if_pos hk, if_pos (h.1 ▸ hk)]; exact ⟨h.1, h.2.1, h.2.2.1, rv⟩
      · rw [if_neg hk, if_neg (h.1 ▸ hk)]; exact h
  unfold putL putG
  rcases rg_val r k with ⟨h1, h2⟩ | ⟨v', u', h1, h2, _⟩
  · rw [h1, h2]; exact app r
  · rw [h1, h2]; exact mp r
theorem rgg_len (r : Paired (RG K H0) L kvs) : L.length = kvs.length := by
  induction r with
  | nil => rfl
  | cons _ _ ih => rw [List.length_cons, List.length_cons, ih]
end
/-- a dict of ours -/
def dgOf (m : Mu) : D → Option (List (D × D))
  | .adr a => match m a with
    | some (.dgt kvs) => some kvs
    | some (.dgl _ kvs) => some kvs
    | _ => none
  | _ => none
theorem dgOf_adr {m : Mu} {a : Addr} {kvs : List (D × D)} (h : m a = some (.dgt kvs)) : dgOf m (.adr a) = some kvs := by unfold dgOf; dsimp only; rw [h]
theorem dgOf_rp {K : KW} {F H0 H : Hp} {m : Mu} {v : V} {d : D} {kvs : List (D × D)} (ok : Ok K F H0 m H) (r : Rp K H0 v d) (h : dgOf m d = some kvs) : ∃ a L, d = .adr a ∧ v = .ref a ∧ RdG K.w H a L ∧ Paired (RG K H0) L kvs := by
  cases d with
  | adr a =>
    cases r
    unfold dgOf at h
    dsimp only at h
    split at h
    · rename_i ds' e
      cases h
      obtain ⟨_, L, hv, rv⟩ := ok.cell a _ e
      exact ⟨a, L, rfl, rfl, .inl hv, rv⟩
    · rename_i o ds' e
      cases h
      obtain ⟨_, L, hv, rv⟩ := ok.cell a _ e
      exact ⟨a, L, rfl, rfl, .inr ⟨o, hv⟩, rv⟩
    · cases h
  | _ => cases h
section
variable {X : Cx} {W : WX} {a b c : Expr} {ra rb rc : DE} {pos : Pos}
/-! ### k in d -/
def oInG (neg : Bool) : DO := fun x y m P => match dgOf m y with
  | some kvs => ktB x = true ∧ P (.bl (if neg then !(valG kvs x).isSome else (valG kvs x).isSome)) m
  | none => False
theorem inG_ok {K : KW} (neg : Bool) : OpD K (rInG K K.w neg) (oInG neg) := by
  intro F H0 m H x y dx dy P Q ok rx ry h g
  unfold oInG at h
  split at h
  · rename_i kvs e
    obtain ⟨a, L, rfl, rfl, hv, rv⟩ := dgOf_rp ok ry e
    obtain ⟨b, rfl⟩ := ktB_ref h.1 rx
    obtain ⟨k1, k2, _⟩ := ktB_tup h.1
    refine ⟨a, b, L, nk dx, rfl, rfl, hv, rg_ks ok.same rv, keyV_of ok.same rx k1, k2, g.id ok (.bl _) ?_⟩
    have : (lkL L (nk dx)).isSome = (valG kvs dx).isSome := by
      rcases rg_val rv dx with ⟨h1, h2⟩ | ⟨v', u', h1, h2, _⟩ <;> rw [h1, h2] <;> rfl
    rw [this]
    exact h.2
  · exact h.elim
theorem pd_inG (hu : X.A.in1.units + 8 < cLine) (ha : PE X a (lE (kw X) W ra)) (hb : PE X b (lE (kw X) W rb)) (hm : behindInMarks .In b = false := by first | exact nomark _ | rfl) : PE X (.Compare a [.In] [b] pos) (lE (kw X) W (rOp (oInG false) ra rb)) := pd_cmp (op_inG hu) (inG_ok (K := kw X) false) ha hb hm
theorem dt_notInG (hu : X.A.in1.units + 8 < cLine) (ha : PE X a (lE (kw X) W ra)) (hb : PE X b (lE (kw X) W rb)) (hm : behindInMarks .NotIn b = false := by first | exact nomark _ | rfl) : PT X (.Compare a [.NotIn] [b] pos) (lT (kw X) W (rTst (rOp (oInG true) ra rb))) := dt_cmp (op_notInG hu) (inG_ok (K := kw X) true) ha hb hm
/-! ### d[k] -/
def oGetG : DO := fun x y m P => match dgOf m x with
  | some kvs => ktB y = true ∧ match valG kvs y with
    | some d => P d m
    | none => False
  | none => False
theorem pd_getG (hu : X.A.in1.units + 8 < cLine) (ha : PE X a (lE (kw X) W ra)) (hb : PE X b (lE (kw X) W rb)) (hs : NoSl b := by intro _ _; rfl) : PE X (.Subscript a b pos) (lE (kw X) W (rOp oGetG ra rb)) := by
  refine PE.imp (pe_getG hu ha hb hs) fun σ H Q h => ?_
  obtain ⟨F, H0, m, δ, P, PX, ok, rs, h, g, gx⟩ := h
  refine ⟨F, H0, m, δ, _, PX, ok, rs, h, fun x H1 H01 m1 d1 s1 ok1 r1 h1 => ⟨F, H01, m1, δ, _, PX, ok1, rs.mono s1, h1, fun y H2 H02 m2 d2 s2 ok2 r2 h2 => ?_, gx.mono s1⟩, gx⟩
  dsimp only at h2
  unfold oGetG at h2
  split at h2
  · rename_i kvs e
    obtain ⟨p, L, rfl, rfl, hv, rv⟩ := dgOf_rp ok2 (r1.mono s2) e
    obtain ⟨hk, h2⟩ := h2
    split at h2
    · rename_i d e2
      obtain ⟨q, rfl⟩ := ktB_ref hk r2
      obtain ⟨k1, k2, _⟩ := ktB_tup hk
      rcases rg_val rv d2 with ⟨_, h3⟩ | ⟨v', u', h3, h4, r4⟩
      · rw [e2] at h3; cases h3
      · rw [e2] at h4
        cases h4
        exact ⟨p, q, L, nk d2, v', rfl, rfl, hv, rg_ks ok2.same rv, keyV_of ok2.same r2 k1, k2, h3, g _ _ _ _ _ (s1.trans s2) ok2 r4 h2⟩
    · exact h2.elim
  · exact h2.elim
/-! ### d[k] = v -/
def sSetG (rv ro ri : DE) : DS := fun DD δ m => rv δ m (fun v m1 => ro δ m1 (fun o m2 => ri δ m2 (fun i m3 => match o with
  | .adr p => match m3 p with
    | some (.dgt kvs) => ktB i = true ∧ kvs.length < sizeLine ∧ DD.nx δ (mset m3 p (.dgt (putG kvs i v)))
    | _ => False
  | _ => False) fun c fs m1 => DD.xx c fs δ m1) fun c fs m1 => DD.xx c fs δ m1) fun c fs m1 => DD.xx c fs δ m1
theorem ds_setG {o i : Expr} {ro ri rv : DE} {p2 : Pos} (hu : X.A.in1.units + 8 < cLine) (hv : PE X a (lE (kw X) W rv)) (ho : PE X o (lE (kw X) W ro)) (hi : PE X i (lE (kw X) W ri))
    (hA : ∀ v, assign (.Subscript o i p2) X.env v = (do
      let ov ← holding [v] (eval o X.env)
      let iv ← holding [v, ov] (eval i X.env)
      standAt p2
      holding [v, ov, iv] (setItem ov iv v)
      release [v, ov, iv] []) := by intro _; rfl)
    (hs : swapsWithSole [.Subscript o i p2] a pos.line X.env = pure false := by rfl) (hw : swappedStores [.Subscript o i p2] a X.env = pure none := by rfl) (h1 : (assignEach [.Subscript o i p2] X.env).map (·.2) = [assign (.Subscript o i p2) X.env] := by rfl) :
    PS X (.Assign [.Subscript o i p2] a pos) (lS (kw X) W (sSetG rv ro ri)) := by
  refine PS.imp (ps_asg hv (pg_sub ho hi (set_dg hu) hA) hs hw h1) fun Dn σ H h => ?_
  obtain ⟨F, H0, m, δ, DD, ok, rs, h, g⟩ := h
  refine ⟨F, H0, m, δ, _, _, ok, rs, h, fun v H1 H01 m1 d1 s1 ok1 r1 h1 => ⟨F, H01, m1, δ, _, _, ok1, rs.mono s1, h1, fun o H2 H02 m2 d2 s2 ok2 r2 h2 => ⟨F, H02, m2, δ, _, _, ok2, (rs.mono s1).mono s2, h2, fun iv H3 H03 m3 d3 s3 ok3 r3 h3 => ?_, ((g.mono s1).mono s2).xx.at_ ((rs.mono s1).mono s2)⟩, (g.mono s1).xx.at_ (rs.mono s1)⟩, g.xx.at_ rs⟩
  dsimp only at h3
  split at h3
  · rename_i q
    cases r2
    split at h3
    · rename_i kvs e1
      obtain ⟨hk, hz, h3⟩ := h3
      obtain ⟨_, L, hv3, rv3⟩ := ok3.cell q _ e1
      obtain ⟨b, rfl⟩ := ktB_ref hk r3
      obtain ⟨k1, k2, _⟩ := ktB_tup hk
      have s123 := (s1.trans s2).trans s3
      refine ⟨q, b, L, nk d3, rfl, rfl, hv3, rg_ks ok3.same rv3, keyV_of ok3.same r3 k1, k2, by rw [rgg_len rv3]; exact hz, ?_⟩
      exact g.nx _ _ _ _ _ s123 (ok3.write (o := .dgt (putG kvs d3 d1)) e1 ⟨_, upd_same, rg_put rv3 hk r3 ((r1.mono s2).mono s3)⟩) (rs.mono s123) h3
    · exact h3.elim
  · exact h3.elim
/-! ### d.setdefault(k, v) -/
/-! ### {} -/
end
end DL
namespace DL
open PySem L2
open PyProof.Rows
/-! ### for k, v in d.items() -/
theorem pr_get {L : List (NestedKey × Addr × V)} {xs : List (NestedKey × Addr × Value)} (r : Paired RE L xs) : ∀ {i : Nat} {e : NestedKey × Addr × V}, L[i]? = some e → ∃ x, xs[i]? = some x ∧ RE e x := by
  induction r with
  | nil => intro i e h; cases h
  | @cons e x L xs h _ ih =>
    intro i e' he
    cases i with
    | zero => cases he; exact ⟨x, rfl, h⟩
    | succ i => exact ih he
theorem pr_len {L : List (NestedKey × Addr × V)} {xs : List (NestedKey × Addr × Value)} (r : Paired RE L xs) : L.length = xs.length := by
  have := congrArg List.length (pr_keys r)
  rwa [List.length_map, List.length_map] at this
def ItiG (w : World) (d : Addr) (o : Obj) : It :=
  ⟨fun i H => ∃ L, H d = some (.frz o (DGO w d L)) ∧ i < L.length, fun i H x H' => ∃ T k v, x = .ref T ∧ H T = none ∧ H' = upd H T (.tup [.ref k, v]) ∧ ∀ L, H d = some (.frz o (DGO w d L)) → ∃ e, L[i]? = some e ∧ e.2.1 = k ∧ e.2.2 = v, fun i H => ∃ L, H d = some (.frz o (DGO w d L)) ∧ L.length ≤ i⟩
section
variable {P : Program} {w : World} {K : PySem.W.Frag} {d : Addr} {o : Obj} {es : Array DictEntry} {ep : Nat}
theorem frzG {X : Cx} {pins : List (Addr × Obj)} {σ : L2.St} {H : Hp} {s : Shared} {L : List (NestedKey × Addr × V)} (I : L2.Inv X pins σ H s) (h : H d = some (.frz o (DGO X.w d L))) :
    (d == sysModules) = false ∧ s.heap.get? d = some o ∧ o.ExactDict ∧ ∃ es ep, o.data = .dict es ep ∧ es.size = L.length ∧ es.size ≤ sizeLine ∧ ∀ (i : Nat) (e : NestedKey × Addr × V), L[i]? = some e → ∃ u, es[i]? = some ⟨e.1.hash X.w, .ref e.2.1, u⟩ ∧ RelV e.2.2 u := by
  obtain ⟨ho, ⟨h1, h2, xs, r, nd, o', es, ep, g1, g2, g3, g4⟩, _⟩ := I.hok d _ h
  rw [ho] at g1
  cases g1
  have hz : es.size = L.length := by rw [← Array.length_toList, g4, List.length_map, pr_len r]
  refine ⟨h1, ho, g2, es, ep, g3, hz, by omega, fun i e he => ?_⟩
  obtain ⟨x, hx, q1, q2, q3⟩ := pr_get r he
  refine ⟨x.2.2, ?_, q3⟩
  rw [← Array.getElem?_toList, g4, List.getElem?_map, hx]
  show some (dgEnt X.w x) = _
  unfold dgEnt
  rw [← q1, ← q2]
theorem turn_itemsG {elts : List Expr} {kk : Nat} {tpos : Pos} (it : Addr) (hod : o.data = .dict es ep) :
    Turn P w K (.Tuple elts kk tpos) (ItiG w d o) [it] it (fun i h => ∃ ok ov, IsItemIter h it d i es.size ep ok ov) where
  mem := by simp
  obj := fun i h st b hb => by
    have e : b = it := by simpa using hb
    subst e
    obtain ⟨ok, ov, e⟩ := st
    exact ⟨_, e, fun v z => nomatch z⟩
  keep := fun i h h' st k => let ⟨ok, ov, e⟩ := st; ⟨ok, ov, k it (by simp) _ e⟩
  item := by
    intro X hP hw hK hc i pins s σ H E I hf st hg
    subst hP hw hK
    obtain ⟨L, hd, hi⟩ := hg
    obtain ⟨hs, hgd, hx, es', ep', hdt, hsz, _, ent⟩ := frzG I hd
    obtain ⟨rfl, rfl⟩ := dict_ep hod hdt
    obtain ⟨u, hu, ru⟩ := ent i L[i] (List.getElem?_eq_getElem hi)
    have same : ∀ L', H d = some (.frz o (DGO X.w d L')) → ∃ e, L'[i]? = some e ∧ e.2.1 = L[i].2.1 ∧ e.2.2 = L[i].2.2 := fun L' hd' => by
      obtain ⟨_, _, _, es2, ep2, hdt2, hsz2, _, ent2⟩ := frzG I hd'
      obtain ⟨rfl, rfl⟩ := dict_ep hdt hdt2
      have hi' : i < L'.length := by omega
      obtain ⟨u', hu', ru'⟩ := ent2 i L'[i] (List.getElem?_eq_getElem hi')
      rw [hu] at hu'
      have e := Option.some.inj hu'
      injection e with _ e1 e2
      injection e1 with e1
      subst e2
      exact ⟨L'[i], List.getElem?_eq_getElem hi', e1.symm, L2.RelV.inj ru' ru⟩
    obtain ⟨ok, ov, he⟩ := st
    have hlt : it < s.heap.objs.size := Heap.lt_size he
    have hi2 : i < es'.size := by omega
    have eu : es'[i] = ⟨L[i].1.hash X.w, .ref L[i].2.1, u⟩ := by
      rw [Array.getElem?_eq_getElem hi2] at hu; exact Option.some.inj hu
    refine DT.nextI he ⟨_, hgd, hx, hdt⟩ hi2 fun h' ho hT hz hk => ?_
    rw [eu] at ho hT
    refine ⟨_, rfl, wpAny_letOwnedTupleGo_items (s := { s with heap := h' }) ho fun h'' he' sb => ?_⟩
    have hT2 : h''.get? s.heap.objs.size = some { cls := .type "tuple", data := .seq #[.ref L[i].2.1, u] } := (sb.2 _ (Nat.ne_of_gt hlt)).trans hT
    have new : ObjOk X.prog X.w (upd H s.heap.objs.size (.tup [.ref L[i].2.1, L[i].2.2])) h'' s.heap.objs.size (.tup [.ref L[i].2.1, L[i].2.2]) :=
      ⟨by show 2 ≤ sizeLine; decide, [.ref L[i].2.1, u], .cons rfl (.cons ru .nil), ⟨_, hT2, rfl, _, rfl⟩⟩
    have I1 : L2.Inv X pins σ (upd H s.heap.objs.size (.tup [.ref L[i].2.1, L[i].2.2])) { s with heap := h'' } :=
      I.turnedNew (t' := s.toks) (ch := [it]) (fun b ob hb e => (sb.2 b (by simpa using hb)).trans (hk b ob (by simpa using hb) e)) hf (Nat.le_refl _) new
    refine ⟨.ref s.heap.objs.size, _, I1, rfl, ⟨_, _, _, rfl, I.hok.fresh (Nat.le_refl _), rfl, same⟩, ⟨_, _, he'⟩, fun b hb => ?_⟩
    have e : b = it := by simpa using hb
    rw [e, upd_ne (Nat.ne_of_lt hlt)]
    exact (hf it (by simp)).1
  done := by
    intro X hP hw hK hc i pins s σ H E I hf st hg
    subst hP hw hK
    obtain ⟨L, hd, hi⟩ := hg
    obtain ⟨f0, f1, f2, f3, f4, f5⟩ := hf it (by simp)
    obtain ⟨hs, hgd, hx, es', ep', hdt, hsz, _, ent⟩ := frzG I hd
    obtain ⟨rfl, rfl⟩ := dict_ep hod hdt
    obtain ⟨ok, ov, he⟩ := st
    exact DT.endI (I.ok.hd hc) he ⟨_, hgd, hx, hdt⟩ (by omega) fun h' eb => ⟨rfl, I.turned (t' := s.toks) (fun b ob hb e => eb b ob hb e) f0 f1 f3 f4 f5⟩
  self := fun A i s Q E st h => let ⟨_, _, e⟩ := st; PySem.W.kcp_self e h
end
/-- the dict is open, or locked already; locked from here on -/
def LkG (w : World) (H : Hp) (d : Addr) (o : Obj) (H' : Hp) : Prop := (∃ L, H d = some (DGO w d L) ∧ H' = upd H d (.frz o (DGO w d L))) ∨ (∃ L, H d = some (.frz o (DGO w d L))) ∧ H' = H
def iItemsG (w : World) (td : TE) : TI := fun σ H R => td σ H fun x H1 => ∃ d L, x = .ref d ∧ RdG w H1 d L ∧ ∀ o H2, LkG w H1 d o H2 → R (ItiG w d o) H2
section
variable {X : Cx} {tg e : Expr} {td : TE} {apos cpos : Pos}
theorem lockG {pins : List (Addr × Obj)} {σ : L2.St} {H : Hp} {s : Shared} {d : Addr} {L : List (NestedKey × Addr × V)} (I : L2.Inv X pins σ H s) (h : RdG X.w H d L) : ∃ o H2, LkG X.w H d o H2 ∧ L2.Inv X pins σ H2 s ∧ H2 d = some (.frz o (DGO X.w d L)) := by
  rcases h with h | ⟨o, h⟩
  · obtain ⟨o, I2⟩ := I.lock h True.intro
    exact ⟨o, _, .inl ⟨L, h, rfl⟩, I2, upd_same⟩
  · exact ⟨o, H, .inr ⟨⟨L, h⟩, rfl⟩, I, h⟩
theorem pi_itemsG {elts : List Expr} {kk : Nat} {tpos : Pos} (he : PE X e td) (hbase : attributeBase e "items" X.env (eval e X.env) = eval e X.env := by rfl) (hline : (apos.endLine == cpos.line) = true := by rfl) :
    PI X (.Tuple elts kk tpos) (.Call (.Attribute e "items" apos) [] [] cpos) (iItemsG X.w td) := by
  refine ⟨fun pins s σ H R I h => ?_⟩
  refine wpAny_Call_method (T := "dict") (id := "dict.items") hbase rfl hline F.plainAttrs_dict F.slot_dict_items F.type_dict_items (thn (he.run pins s σ H _ I h) fun u s1 ⟨x, H1, I1, rx, d, L, ex, hd, q⟩ => ?_)
  subst ex
  obtain rfl : u = Value.ref d := rx
  obtain ⟨o, H2, lk, I2, h2⟩ := lockG I1 hd
  obtain ⟨hs, hgd, hx, es, ep, hdt, hsz, _, ent⟩ := frzG I2 h2
  have raw : DT.Raw s1.heap d es ep := ⟨o, hgd, hx, hdt⟩
  refine ⟨raw.typeIs, fun b q => (by cases q; exact ⟨o, hgd, hx.2.1⟩), ?_⟩
  have I3 : L2.Inv X pins σ H2 { s1 with heap := s1.heap.push { cls := .type "dict_items", data := .fields #[.ref d] } } := I2.kept (t' := s1.toks) fun b ob q => Heap.get?_push_of_some _ q
  have fin : wpAny (model X.prog X.w) X.A (pyIter (.ref s1.heap.objs.size)) (PIE X pins σ (.Tuple elts kk tpos) R) X.xe { s1 with heap := s1.heap.push { cls := .type "dict_items", data := .fields #[.ref d] } } := by
    exact DT.iterI (d := d) ⟨_, Heap.get?_push_size _ rfl, rfl, rfl⟩ (raw.push _) (pi_one (tk := s1.toks) I3 _ (turn_itemsG _ hdt) ⟨.none, .none, Heap.get?_push_size _ rfl⟩ (q o H2 lk))
  show wpAny _ _ (callWith cpos (.builtin "dict.items") [.ref d] [] []) _ X.xe s1
  exact method_meetsIn F.slot_dict_items F.entry_dict_items rfl (PySem.evalArgs_none ⟨rfl, raw.typeIs, F.args_dict_items_1 _, _, DT.meetsItems (es := es) (ep := ep) hs, raw, fin⟩)
end
section
variable {K : KW} {F H0 H : Hp}
theorem rgg_get {L : List (NestedKey × Addr × V)} {kvs : List (D × D)} (r : Paired (RG K H0) L kvs) : ∀ {i : Nat} {p : D × D}, kvs[i]? = some p → ∃ e, L[i]? = some e ∧ RG K H0 e p := by
  induction r with
  | nil => intro i e h; cases h
  | @cons e x L xs h _ ih =>
    intro i e' he
    cases i with
    | zero => cases he; exact ⟨e, rfl, h⟩
    | succ i => exact ih he
theorem ItD.itemsG {p : Addr} {o : Obj} {kvs : List (D × D)} (F : Hp) : ItD K F (ItiG K.w p o) H0 (fun m => m p = some (.dgl o kvs)) (kvs.map fun q => .tup [q.1, q.2]) := by
  intro i H H1 m s1 ok1 ph
  obtain ⟨_, L, hd, r⟩ := ok1.cell p _ ph
  refine ⟨fun d e => ?_, fun e => ⟨L, hd, by rw [rgg_len r, e, List.length_map]; exact Nat.le_refl _⟩⟩
  rw [List.getElem?_map] at e
  cases hk : kvs[i]? with
  | none => rw [hk] at e; cases e
  | some q =>
    rw [hk] at e
    cases e
    obtain ⟨en, he, r1, r2, r3, r4⟩ := rgg_get r hk
    refine ⟨⟨L, hd, (List.getElem?_eq_some_iff.mp he).1⟩, fun x H' y => ?_⟩
    obtain ⟨T, k, v, rfl, hT, rfl, y⟩ := y
    obtain ⟨e', he', rfl, rfl⟩ := y L hd
    rw [he] at he'
    cases he'
    have sn := same_new (o := HO.tup [V.ref en.2.1, en.2.2]) (ok1.free hT).1
    exact ⟨_, sn, ok1.new hT _, .tup (SqT.of upd_same) (.cons (r3.mono sn) (.cons (r4.mono sn) .nil))⟩
end
/-- what is locked stays known -/
theorem lkOk {K : KW} {F H0 H H2 : Hp} {m : Mu} {p : Addr} {o : Obj} {kvs : List (D × D)} (ok : Ok K F H0 m H) (e : m p = some (.dgt kvs)) (lk : LkG K.w H p o H2) : Ok K F H0 (mset m p (.dgl o kvs)) H2 := by
  obtain ⟨_, L, hd, r⟩ := ok.cell p _ e
  rcases lk with ⟨L', h1, rfl⟩ | ⟨⟨L', h1⟩, _⟩
  · rw [hd] at h1
    have h1 := Option.some.inj h1
    rw [← h1]
    exact ok.write (o := .dgl o kvs) e ⟨L, upd_same, r⟩
  · rw [hd] at h1
    cases h1
def lkD (r : Addr → Obj → List (D × D) → Mu → Prop) (x : D) (m : Mu) : Prop := match x with
  | .adr p => match m p with
    | some (.dgt kvs) => ∀ o, r p o kvs (mset m p (.dgl o kvs))
    | some (.dgl o kvs) => r p o kvs m
    | _ => False
  | _ => False
def iItG (ra : DE) : DI := fun δ m P PX => ra δ m (fun x m1 => lkD (fun p o kvs m2 => P (fun m => m p = some (.dgl o kvs)) (kvs.map fun q => .tup [q.1, q.2]) m2) x m1) PX
theorem lkD_use {K : KW} {F H0 H : Hp} {m : Mu} {v : V} {d : D} {r : Addr → Obj → List (D × D) → Mu → Prop} (ok : Ok K F H0 m H) (rv : Rp K H0 v d) (h : lkD r d m) : ∃ p L, v = .ref p ∧ RdG K.w H p L ∧ ∀ o H2, LkG K.w H p o H2 → ∃ kvs m2, Ok K F H0 m2 H2 ∧ m2 p = some (.dgl o kvs) ∧ r p o kvs m2 := by
  unfold lkD at h
  split at h
  · rename_i p
    cases rv
    split at h
    · rename_i kvs e
      obtain ⟨_, L, hd, rr⟩ := ok.cell p _ e
      exact ⟨p, L, rfl, .inl hd, fun o H2 lk => ⟨kvs, _, lkOk ok e lk, mset_same, h o⟩⟩
    · rename_i o' kvs e
      obtain ⟨_, L, hd, rr⟩ := ok.cell p _ e
      refine ⟨p, L, rfl, .inr ⟨o', hd⟩, fun o H2 lk => ?_⟩
      rcases lk with ⟨L', h1, rfl⟩ | ⟨⟨L', h1⟩, rfl⟩
      · rw [hd] at h1; cases h1
      · rw [hd] at h1
        have h1 := Option.some.inj h1
        injection h1 with h1 _
        subst h1
        exact ⟨kvs, m, ok, e, h⟩
    · exact h.elim
  · exact h.elim
section
variable {X : Cx} {W : WX} {a tg : Expr} {ra : DE} {apos pos : Pos}
theorem di_itG {elts : List Expr} {kk : Nat} {tpos : Pos} (ha : PE X a (lE (kw X) W ra)) (hbase : attributeBase a "items" X.env (eval a X.env) = eval a X.env := by rfl) (hline : (apos.endLine == pos.line) = true := by rfl) : PI X (.Tuple elts kk tpos) (.Call (.Attribute a "items" apos) [] [] pos) (lI (kw X) W (iItG ra)) := by
  refine PI.imp (pi_itemsG ha hbase hline) fun σ H R h => ?_
  obtain ⟨F, H0, m, δ, P, PX, ok, rs, h, g, gx⟩ := h
  refine ⟨F, H0, m, δ, _, PX, ok, rs, h, fun x H1 H01 m1 d s1 ok1 r1 h1 => ?_, gx⟩
  obtain ⟨p, L, rfl, hr, hu⟩ := lkD_use ok1 r1 h1
  refine ⟨p, L, rfl, hr, fun o H2 lk => ?_⟩
  obtain ⟨kvs, m2, ok2, e2, h2⟩ := hu o H2 lk
  exact g _ _ _ _ _ _ s1 ok2 (fun F' => ItD.itemsG F') e2 h2
end
end DL
namespace DL
open PySem L2
open PyProof.Rows
/-! ### list(d.values()), list(d.keys()) -/
/-! ### x += e -/
section
variable {X : Cx} {W : WX} {a : Expr} {ra : DE} {pos : Pos}
def sAug (i : Nat) (ra : DE) : DS := fun DD δ m => match δ[i]? with
  | some (some (.int x)) => ra δ m (fun d m1 => match d with
    | .int y => DD.nx (δ.set i (some (.int (x + y)))) m1
    | _ => False) fun c fs m1 => DD.xx c fs δ m1
  | _ => False
theorem ds_aug {i : Nat} {y : Str} {pos' : Pos} (hN : X.N.Nodup) (ha : PE X a (lE (kw X) W ra)) (hi : X.N[i]? = some y := by rfl) (hx : Loc X.env.scope y := by first | exact Or.inl rfl | exact Or.inr rfl) (hf : X.fn y = true ∨ X.env.scope.names.lookup y = some .local := by first | exact .inl rfl | exact .inr rfl) :
    PS X (.AugAssign (.Name y pos') .Add a pos) (lS (kw X) W (sAug i ra)) := by
  refine PS.imp (ps_aug hN hi hx ha (ti := rI0 fun i j => .int (i + j)) (fun pins s σ H x y u v Q I rx ry h => iop_add pins s σ H x y u v Q I rx ry h) hf) fun Dn σ H h => ?_
  obtain ⟨F, H0, m, δ, DD, ok, rs, h, g⟩ := h
  unfold sAug at h
  split at h
  · rename_i x e
    obtain ⟨v, hv, rv⟩ := rs.at_ i _ e
    cases rv
    refine ⟨_, hv, F, H0, m, δ, _, _, ok, rs, h, fun z H1 H01 m1 d s1 ok1 r1 h1 => ?_, g.xx.at_ rs⟩
    dsimp only at h1
    split at h1
    · cases r1
      exact ⟨_, _, rfl, rfl, g.nx _ _ _ _ _ s1 ok1 ((rs.mono s1).set (.int _) i) h1⟩
    · exact h1.elim
  · exact h.elim
end
end DL
namespace DL
open PySem L2
open PyProof.Rows
theorem Ok.claim {K : KW} {F H0 H : Hp} {m : Mu} {q : Addr} {o : MO} (ok : Ok K F H0 m H) (h0 : H0 q = none) (hF : F q = none) (r : MRep K H0 H q o) : Ok K F H0 (mset m q o) H := by
  refine ⟨ok.same, fun a u e => ?_, fun a u e => ?_, ok.tab⟩
  · by_cases ha : a = q
    · subst ha; rw [mset_same] at e; cases e; exact ⟨h0, r⟩
    · rw [mset_ne ha] at e; exact ok.cell a u e
  · obtain ⟨c1, c2, c3⟩ := ok.fr a u e
    have ha : a ≠ q := fun z => by rw [z, hF] at e; cases e
    exact ⟨c1, c2, by rw [mset_ne ha]; exact c3⟩
/-! ### {k: v} with a tuple as the key -/
def tDispG1 (K : PySem.W.Frag) (w : World) (tk tv : TE) : TE := fun σ H Q => ∀ p, H p = none → tk σ (upd H p (DGO w p [])) fun x H1 => tv σ H1 fun y H2 => ∃ b k, x = .ref b ∧ H2 p = some (DGO w p []) ∧ KeyV K H2 x k ∧ k.depth ≤ 8 ∧ Q (.ref p) (upd H2 p (DGO w p [(k, b, y)]))
section
variable {X : Cx} {a b : Expr} {ta tb : TE} {pos : Pos}
theorem pe_dispG1 (hu : X.A.in1.units + 8 < cLine) (ha : PE X a ta) (hb : PE X b tb) : PE X (.Dict [some a] [b] pos) (tDispG1 X.K X.w ta tb) := by
  refine ⟨fun pins s σ H Q I q => ?_⟩
  have hn := I.hok.fresh (Nat.le_refl s.heap.objs.size)
  have I1 := I.laid (a := s.heap.objs.size) (o := DGO X.w s.heap.objs.size []) (h' := s.heap.push { cls := .type "dict", data := .dict #[] }) (t' := s.toks) (fun _ _ q => Heap.get?_push_of_some _ q) (Nat.le_refl _) (dg_empty s.heap I.big)
  have hP : PPs X pos [some a] [b] [(ta, tb)] := pps_cons ha hb pps_nil
  have hr := hP.run pins _ σ _ (fun ps H2 => match ps with | [(x, y)] => ∃ b k, x = .ref b ∧ H2 s.heap.objs.size = some (DGO X.w s.heap.objs.size []) ∧ KeyV X.K H2 x k ∧ k.depth ≤ 8 ∧ Q (.ref s.heap.objs.size) (upd H2 s.heap.objs.size (DGO X.w s.heap.objs.size [(k, b, y)])) | _ => False) I1 (q _ hn)
  · rw [arm_eval_Dict, show (evalEachOpt [some a] X.env).zip ((evalEach [b] X.env).map fun v => do let x ← v; standAt pos; pure x) = (pairTrees [some a] [b] X.env pos).map fun p => (some p.1, p.2) from rfl, dictDisplay_pairs (pairTrees [some a] [b] X.env pos) (by intro z; cases z) (show 1 < 17 by decide)]
    refine wpAny_bind (wpAny_standAt (wpAny_bind (wpAny_subDictH (knd := nestedKind X.prog X.w) (Q := fun d s' => wpAny (model X.prog X.w) X.A (pure (Value.ref d)) (EP X pins σ Q) X.xe s') (by have e : X.A.in1.units = X.A.units + 1 := rfl; show X.A.units + 8 < cLine; omega) (by show 1 ≤ 15; decide) (thn hr fun ws s2 ⟨ps, H2, I2, rel, hq⟩ => ?_))))
    split at hq
    case h_2 => exact hq.elim
    rename_i x y
    obtain ⟨b, k, rfl, e, kv, kd, q2⟩ := hq
    cases rel with
    | @cons _ w1 _ _ rr rt =>
    cases rt
    obtain ⟨u, v⟩ := w1
    obtain ⟨r1, r2⟩ := rr
    have r1 : RelV (.ref b) u := r1
    cases r1
    obtain ⟨xs, rx, hd, z, dd⟩ := dg_at I2 (.inl e) (fun e he => by cases he)
    cases rx
    refine ⟨[(k, b, v)], ⟨rfl, rfl, ⟨keyV_is I2 kv rfl, kd⟩, trivial⟩, dd, fun h' tk dd' hs => wpAny_pure ⟨.ref _, _, ?_, rfl, q2⟩⟩
    have dd2 : h'.DictOfH (nestedKind X.prog X.w) s.heap.objs.size (storedH [] k b v) := dd'
    exact dg_put (L := []) tk I2 e hd .nil r2 (by show 0 < sizeLine; decide) dd2 hs
variable {W : WX} {ra rb : DE}
def rDgt1 (ra rb : DE) : DE := fun δ m P PX => ra δ m (fun x m1 => rb δ m1 (fun y m2 => ktB x = true ∧ ∀ q, m2 q = none → P (.adr q) (mset m2 q (.dgt [(x, y)]))) PX) PX
theorem pd_dgt1 (hu : X.A.in1.units + 8 < cLine) (ha : PE X a (lE (kw X) W ra)) (hb : PE X b (lE (kw X) W rb)) : PE X (.Dict [some a] [b] pos) (lE (kw X) W (rDgt1 ra rb)) := by
  refine PE.imp (pe_dispG1 hu ha hb) fun σ H Q h => ?_
  obtain ⟨F, H0, m, δ, P, PX, ok, rs, h, g, gx⟩ := h
  intro q hq
  have hF : F q = none := ok.freeF hq
  have okq : Ok (kw X) (upd F q (DGO X.w q [])) H0 m (upd H q (DGO X.w q [])) := ok.addF hq
  have gx' : ∀ H1, Same H0 H1 → GX (kw X) (upd F q (DGO X.w q [])) H1 PX fun c xd H' => W c xd σ H' := fun H1 s c xd H' H0' m' fs s' ok' x z => gx c xd H' H0' m' fs (s.trans s') (ok'.unframe hF).1 x z
  refine ⟨_, H0, m, δ, _, PX, okq, rs, h, fun x H1 H01 m1 d1 s1 ok1 r1 h1 => ⟨_, H01, m1, δ, _, PX, ok1, rs.mono s1, h1, fun y H2 H02 m2 d2 s2 ok2 r2 h2 => ?_, gx' _ s1⟩, gx' _ (Same.refl _)⟩
  dsimp only at h2
  obtain ⟨hk, h2⟩ := h2
  obtain ⟨b, rfl⟩ := ktB_ref hk r1
  obtain ⟨k1, k2, _⟩ := ktB_tup hk
  obtain ⟨z1, z2, z3⟩ := ok2.fr q _ upd_same
  refine ⟨b, nk d1, rfl, z1, keyV_of ok2.same (r1.mono s2) k1, k2, ?_⟩
  obtain ⟨ok3, w1, w2, w3⟩ := (ok2.reF (o' := DGO X.w q [(nk d1, b, y)])).unframe hF
  exact g _ _ _ _ _ (s1.trans s2) (ok3.claim (o := .dgt [(d1, d2)]) w2 hF ⟨_, w1, .cons ⟨rfl, hk, r1.mono s2, r2⟩ .nil⟩) (.adr q) (h2 q w3)
end
end DL
namespace DL
open PySem L2
open PyProof.Rows
/-! ### x.pop(0) of a list that may change -/
end DL
/-! # a tuple times nought or one -/
namespace DL
open PySem L2 PySem.Spec PyProof.Rows
end DL
/-! # sets of texts: made of a list, sorted -/
namespace DL
open PySem L2
open PyProof.Rows
def txK (e : Int × Value) : Str := match e.2 with
  | .str k _ => k
  | _ => Str.empty
def TxE (w : World) (e : Int × Value) : Prop := ∃ k u, e = (hashStr w k, Value.str k u)
/-- the texts that a set's payload holds, each once -/
structure TxSet (w : World) (en : Array (Int × Value)) (tb : SetTable) (S : Str → Bool) : Prop where
  el : ∀ e ∈ en.toList, TxE w e
  once : (en.toList.map txK).Nodup
  mem : ∀ k, S k = true ↔ k ∈ en.toList.map txK
  few : en.size < scanBound
  fit : tb.fits en.size = true
  ris : Ris tb.place.toList
  led : w.params.followText "set-order" = true ∨ tb.led = true
def SetX (w : World) (h : Heap) (a : Addr) (S : Str → Bool) (n : Nat) : Prop :=
  ∃ o en ep tb, h.get? a = some o ∧ o.ExactSet ∧ o.data = .set en ep tb ∧ TxSet w en tb S ∧ en.size = n
section
variable {P : Program} {w : World} {A : Around} {E : Value → Shared → Prop} {s : Shared} {a : Addr} {S : Str → Bool} {n : Nat}
theorem SetX.at {h h' : Heap} (R : SetX w h a S n) (k : ∀ o, h.get? a = some o → h'.get? a = some o) : SetX w h' a S n := by
  obtain ⟨o, en, ep, tb, ho, r⟩ := R
  exact ⟨o, en, ep, tb, k o ho, r⟩
theorem TxSet.perm {en en' : Array (Int × Value)} {tb tb' : SetTable} (F : TxSet w en tb S) (p : en'.toList.Perm en.toList) (hf : tb'.fits en'.size = true) (hr : Ris tb'.place.toList) (hl : tb'.led = tb.led) : TxSet w en' tb' S where
  el := fun e he => F.el e (p.mem_iff.mp he)
  once := (p.map txK).nodup_iff.mpr F.once
  mem := fun k => (F.mem k).trans (p.map txK).mem_iff.symm
  few := by
    have : en'.size = en.size := by rw [← Array.length_toList, p.length_eq, Array.length_toList]
    rw [this]; exact F.few
  fit := hf
  ris := hr
  led := F.led.imp id fun z => hl.trans z
end
end DL
/-! # set(a list of texts) -/
namespace DL
open PySem L2
open PyProof.Rows
end DL
/-! # sorted(set(xs)) of texts -/
namespace DL
open PySem L2
/-! ### in the layer -/
end DL
namespace DL
open PySem L2
open PyProof.Rows
/-! ### a def whose code object is known -/
/-! ### a lambda, called -/
/-! ### records of ours that are not tracked -/
structure Own1 (X : Cx) (pins : List (Addr × Obj)) (H : Hp) (b : Addr) : Prop where
  h : H b = none
  nl : b ≠ X.env.locals
  nf : b ∉ X.fs
  sz : b ∈ X.ex ∨ X.s_0.heap.objs.size ≤ b
  nc : ∀ x c, X.env.cells.lookup x = some c → c ≠ b
  np : ∀ p ∈ X.pn ++ pins, p.1 ≠ b
section
variable {X : Cx} {pins : List (Addr × Obj)} {σ : L2.St} {H H' : Hp} {s : Shared}
theorem Own1.to {b : Addr} (O : Own1 X pins H b) (h : H' b = none) : Own1 X pins H' b := ⟨h, O.nl, O.nf, O.sz, O.nc, O.np⟩
theorem Own1.pin {b : Addr} {o : Obj} (O : Own1 X pins H b) (e : s.heap.get? b = some o) (hc : ∀ v, o.data ≠ .cell v) (I : L2.Inv X pins σ H s) : L2.Inv X ((b, o) :: pins) σ H s :=
  I.pins_of fun p hp => by
    rcases List.mem_cons.mp hp with rfl | hp
    · exact ⟨e, O.h, O.nl, O.nf, hc⟩
    · exact I.pin p (List.mem_append_right _ hp)
theorem Own1.more {b a : Addr} {o : Obj} (O : Own1 X pins H b) (hne : a ≠ b) : Own1 X ((a, o) :: pins) H b := ⟨O.h, O.nl, O.nf, O.sz, O.nc, fun p hp => by
  rcases List.mem_append.mp hp with z | z
  · exact O.np p (List.mem_append_left _ z)
  · rcases List.mem_cons.mp z with rfl | z
    · exact hne
    · exact O.np p (List.mem_append_right _ z)⟩
end
/-! ### the lambda is made -/
end DL
namespace DL
open PySem L2
open PyProof.Rows
/-! ### min(d.keys(), key=lambda a: ..) -/
section
variable {X : Cx} {pins : List (Addr × Obj)} {σ : L2.St} {F H0 H : Hp} {m : Mu} {s : Shared} {δ : DSt} {f c' : Addr} {q : Str} {params : Arguments} {body : Expr} {scope : Scope} {pm ctv : Value} {N fr : List Str} {a : Str} {k : Nat} {js : List Nat} {rb : DE}
/-- what the list of the best so far holds -/
def BstA (K : PySem.W.Frag) (H0 : Hp) : Option (D × Int) → Array Value → Prop
  | none, arr => arr = #[]
  | some b, arr => ∃ v u t, arr = #[u, .int b.2 t] ∧ RelV v u ∧ Rp K H0 v b.1
theorem BstA.mono {K : PySem.W.Frag} {H0 H0' : Hp} {b : Option (D × Int)} {arr : Array Value} (s : Same H0 H0') (h : BstA K H0 b arr) : BstA K H0' b arr := by
  cases b with
  | none => exact h
  | some b => obtain ⟨v, u, t, e, r, p⟩ := h; exact ⟨v, u, t, e, r, p.mono s⟩
end
/-! ### the rule -/
/-- the table of the def whose code object is cd; its name -/
structure LamF (K : PySem.W.Frag) (mg : Str → Option Value) (base : Heap) (cd : Value) (q : Str) : Prop where
  ex : ∃ c P, cd = .ref c ∧ LamX.TabB base mg c P ∧ LamT K P q ∧ ∀ P' q', LamT K P' q' → P' = P ∧ q' = q
end DL
namespace DL
open PySem L2
open PyProof.Rows
/-! ### the end of a law whose text makes one lambda -/
structure LamK (K : PySem.W.Frag) (c P : Addr) (q : Str) : Prop where
  hd : PySem.W.codeHdIn K c P = true
  cd : PySem.W.codeIn K (.ref c) q = true
  nm : q ∈ lamNs
  only : ∀ c' n, n ∈ lamNs → PySem.W.codeIn K (.ref c') n = true → c' = c
theorem mem_of_look {c : Addr} {o : Obj} : ∀ {K : List (Addr × Obj)}, K.lookup c = some o → (c, o) ∈ K
  | [], h => by cases h
  | (a, z) :: K, h => by
    rw [List.lookup_cons] at h
    split at h
    · rename_i e
      rw [beq_iff_eq.mp e, Option.some.inj h]
      exact List.mem_cons_self
    · exact List.mem_cons_of_mem _ (mem_of_look h)
theorem codeIn_mem {K : PySem.W.Frag} {c : Addr} {n : Str} (h : PySem.W.codeIn K (.ref c) n = true) : ∃ o, (c, o) ∈ K := by
  unfold PySem.W.codeIn at h
  cases e : K.lookup c with
  | none => simp [e] at h
  | some o => exact ⟨o, mem_of_look e⟩
theorem codeIn_uniq {K : PySem.W.Frag} {c : Value} {n n' : Str} (h : PySem.W.codeIn K c n = true) (h' : PySem.W.codeIn K c n' = true) : n = n' := by
  unfold PySem.W.codeIn at h h'
  split at h
  · split at h
    · rename_i vs _ hk
      simp only [hk] at h'
      split at h
      · rename_i a m t r e
        simp only [e] at h'
        rw [← beq_iff_eq.mp h, ← beq_iff_eq.mp h']
      · cases h
    · cases h
  · cases h
theorem codeHd_uniq {K : PySem.W.Frag} {c P P' : Addr} (h : PySem.W.codeHdIn K c P = true) (h' : PySem.W.codeHdIn K c P' = true) : P = P' := by
  unfold PySem.W.codeHdIn at h h'
  split at h
  · rename_i vs _ hk
    simp only [hk] at h'
    simp only [Bool.and_eq_true] at h h'
    obtain ⟨⟨⟨⟨⟨h1, _⟩, _⟩, _⟩, _⟩, _⟩ := h
    obtain ⟨⟨⟨⟨⟨h2, _⟩, _⟩, _⟩, _⟩, _⟩ := h'
    split at h1
    · rename_i P'' e
      simp only [e] at h2
      rw [← beq_iff_eq.mp h1, ← beq_iff_eq.mp h2]
    · cases h1
  · cases h
theorem LamK.T {K : PySem.W.Frag} {c P : Addr} {q : Str} (L : LamK K c P q) : LamT K P q := ⟨c, L.hd, L.cd, L.nm⟩
theorem LamK.uniq {K : PySem.W.Frag} {c P : Addr} {q : Str} (L : LamK K c P q) : ∀ P' q', LamT K P' q' → P' = P ∧ q' = q := fun P' q' ⟨c', h1, h2, h3⟩ => by
  have e := L.only c' q' h3 h2
  subst e
  exact ⟨codeHd_uniq h1 L.hd, codeIn_uniq h2 L.cd⟩
def LamAll (K : PySem.W.Frag) (mg : Str → Option Value) (base : Heap) (q : Str) : Prop := ∀ cd, PySem.W.codeIn K cd q = true → LamF K mg base cd q
theorem LamK.all {K : PySem.W.Frag} {mg : Str → Option Value} {base : Heap} {c P : Addr} {q : Str} (L : LamK K c P q) (TB : LamX.TabB base mg c P) : LamAll K mg base q := fun cd h => by
  obtain ⟨c', rfl⟩ : ∃ c', cd = .ref c' := by
    unfold PySem.W.codeIn at h
    split at h
    · exact ⟨_, rfl⟩
    · cases h
  have e := L.only c' q L.nm h
  subst e
  exact ⟨c', P, rfl, TB, L.T, L.uniq⟩
def NoLamB (K : PySem.W.Frag) : Bool := K.all fun p => !(lamNs.any fun n => PySem.W.codeIn K (.ref p.1) n)
theorem noLam_by {K : PySem.W.Frag} (h : NoLamB K = true) : NoLam K := fun P q ⟨c, _, hc, hn⟩ => by
  obtain ⟨o, ho⟩ := codeIn_mem hc
  have := List.all_eq_true.mp h _ ho
  rw [Bool.not_eq_true', List.any_eq_false] at this
  exact absurd hc (by simpa using this q hn)
end DL
namespace DL
open PySem L2
open PyProof.Rows
/-! ### d == {} -/
/-! ### the least by a key -/
end DL
namespace DL
open PySem L2
/-! ### xs.index(x), deep -/
end DL
namespace DL
open PySem L2
open PyProof.Rows
/-! ### sorted(a list of tuples of whole numbers) -/
def rSrtL (K : PySem.W.Frag) : List V → Hp → VK → Prop := fun vs H Q => ∃ (a : Addr) (L : List (Addr × List Int)), vs = [V.ref a] ∧ SqL K H a (L.map fun q => V.ref q.1) ∧ (∀ p ∈ L, SqT K H p.1 (p.2.map V.int) ∧ p.2 ≠ []) ∧
  ∀ (L' : List (Addr × List Int)) (p : Addr), L'.Perm L → (L'.Pairwise fun q r => lexI r.2 q.2 = false) → H p = none → Q (.ref p) (upd H p (.lst (L'.map fun q => V.ref q.1)))
theorem vals_refs_eq : ∀ {L : List (Addr × List Int)} {us : List Value}, Vals (L.map fun q => V.ref q.1) us → us = L.map fun q => Value.ref q.1
  | [], _, .nil => rfl
  | p :: L, _, .cons r t => by rw [List.map_cons, ← vals_refs_eq t]; rw [show _ = Value.ref p.1 from r]
theorem cr_srtL {X : Cx} : CallR X (.builtin "sorted") (rSrtL X.K) := by
  intro pins s σ H vs us Q I r h
  obtain ⟨a, L, rfl, ha, hk, q⟩ := h
  obtain ⟨its, rv, hl, hz⟩ := I.list ha
  rw [Vals.ref1 r]
  have eits := vals_refs_eq rv
  rw [List.length_map] at hz
  have tk : ∀ q ∈ L, TS.TupInts s.heap (.ref q.1) q.2 := fun q hq => tupInts_of (P := X.prog) (w := X.w) (I.isT (hk q hq).1)
  have keepT : ∀ {h₁ : Heap}, (∀ b o, s.heap.get? b = some o → h₁.get? b = some o) → ∀ q ∈ L, TS.TupInts h₁ (.ref q.1) q.2 := fun kk q hq => tupInts_of (P := X.prog) (w := X.w) (isT_keep (I.isT (hk q hq).1) kk)
  refine SrtO.sorted_ord (swo_lexI (TS.intsOf s.heap)) hl.isList (by rw [eits, List.length_map]; exact hz) (fun h2 h₁ b hb kk => ?_) fun out hs hb => ?_
  · have key : ∀ v ∈ its, TS.intsOf s.heap v = TS.intsOf h₁ v := fun v hv => by
      rw [eits] at hv
      obtain ⟨q, hq, rfl⟩ := List.mem_map.mp hv
      rw [(tk q hq).ints, (keepT (fun b o e => (kk b o e).2) q hq).ints]
    refine tup_sortable (s := { s with heap := h₁ }) (by omega) (fun v hv => ?_) fun o e => ?_
    · rw [eits] at hv
      obtain ⟨q, hq, rfl⟩ := List.mem_map.mp hv
      rw [(tk q hq).ints]
      exact ⟨keepT (fun b o e => (kk b o e).2) q hq, (hk q hq).2⟩
    · have e' : some o = some (seqObj "list" its.toArray 0) := e.symm.trans hb
      cases e'
      exact fun c => absurd (Value.type.inj c) (by decide)
  · obtain ⟨L', pL, e'⟩ := perm_lift (fun q : Addr × List Int => Value.ref q.1) (hb.perm.trans (by rw [eits])) L rfl
    obtain ⟨c, hc⟩ := sortedAll_at s.heap its out.toArray
    have pw : L'.Pairwise fun q r => lexI r.2 q.2 = false := by
      have b1' : (L'.map fun q => Value.ref q.1).Pairwise fun x y => lexI (TS.intsOf s.heap y) (TS.intsOf s.heap x) = false := by rw [← e']; exact hs
      refine List.Pairwise.imp_of_mem (fun {q r} hq hr hle => ?_) (List.pairwise_map.mp b1')
      rw [(tk q (pL.mem_iff.mp hq)).ints, (tk r (pL.mem_iff.mp hr)).ints] at hle
      exact hle
    have hn : H (s.heap.objs.size + 1) = none := I.hok.fresh (Nat.le_succ _)
    exact ⟨.ref _, upd H (s.heap.objs.size + 1) (.lst (L'.map fun q => V.ref q.1)), I.laid (t' := s.toks) (fun b u e => sortedAll_old e) (Nat.le_succ _) ⟨by rw [List.length_map, pL.length_eq]; exact hz, out, c, by rw [e']; exact vals_of_refs L', hc⟩, rfl, q L' _ pL pw hn⟩
def cSrtL : DC := fun xs m P => match xs with
  | [x] => match asL m x with
    | some ds => match tupsD ds with
      | some l => (∀ q ∈ l, q ≠ []) ∧ ∀ l' : List (List Int), l'.Perm l → (l'.Pairwise fun q r => lexI r q = false) → P (.lst (l'.map tupI)) m
      | none => False
    | none => False
  | _ => False
theorem srtL_ok {K : KW} : CalD K (rSrtL K) cSrtL := by
  intro F H0 m H vs ds P Q ok r h g
  unfold cSrtL at h
  split at h
  · rename_i x
    split at h
    · rename_i ds e1
      split at h
      · rename_i l e2
        obtain ⟨hne, h⟩ := h
        obtain ⟨v, rfl, q⟩ := r.one
        obtain ⟨pa, vs, rfl, hq, rv⟩ := asL_rp ok q e1
        obtain ⟨ks, rfl, k2, k3⟩ := tupsD_rp ok rv e2
        have mem : ∀ p ∈ ks, p.2 ∈ l := fun p hp => by rw [← k2]; exact List.mem_map.mpr ⟨p, hp, rfl⟩
        refine ⟨pa, ks, rfl, hq, fun p hp => ⟨seqT_mono ok.same (k3 p hp), hne _ (mem p hp)⟩, fun L' b pm pw hb => ?_⟩
        have rr : ∀ L1 : List (Addr × List Int), (∀ p ∈ L1, p ∈ ks) → RpL K H0 (L1.map fun q => V.ref q.1) ((L1.map (·.2)).map tupI) := by
          intro L1
          induction L1 with
          | nil => intro _; exact .nil
          | cons p L1 ih =>
            intro hp
            exact .cons (.tup (k3 p (hp p List.mem_cons_self)) (rpl_ints _)) (ih fun q hq => hp q (List.mem_cons_of_mem _ hq))
        exact g.lst ok hb (rr L' fun p hp => pm.mem_iff.mp hp) (h _ (by rw [← k2]; exact pm.map _) (List.pairwise_map.mpr pw))
      · exact h.elim
    · exact h.elim
  · exact h.elim
section
variable {X : Cx} {W : WX} {e : Expr} {es : List Expr} {qs : DA} {p pos : Pos}
theorem pd_srtL {x : Str} (hm : X.mg x = none) (hv : bootBuiltins x = some (.builtin "sorted")) (ha : PA X (e :: es) (lA (kw X) W qs)) (hg : Gl X x := by rfl) (hn : x ≠ "__name__" := by decide) (hdb : (x == ("__debug__" : Str)) = false := by decide)
    (he : starEach (e :: es) X.env = (false, eval e X.env) :: starEach es X.env := by rfl) (hpl : (backTo pos (starEach es X.env)).any (·.1) = false := by rfl) : PE X (.Call (.Name x p) (e :: es) [] pos) (lE (kw X) W (rCB cSrtL qs)) := pd_callB cr_srtL srtL_ok hm hv ha hg hn hdb he hpl
end
/-- sorted already: as it was -/
theorem perm_sorted : ∀ {l k : List (List Int)}, l.Perm k → (l.Pairwise fun q r => lexI r q = false) → (k.Pairwise fun q r => lexI r q = false) → l = k
  | [], k, h, _, _ => by rw [h.nil_eq]
  | x :: l, [], h, _, _ => by cases h.symm.nil_eq
  | x :: l, y :: k, h, h1, h2 => by
    obtain ⟨a1, a2⟩ := List.pairwise_cons.mp h1
    obtain ⟨b1, b2⟩ := List.pairwise_cons.mp h2
    have exy : x = y := by
      have hx : x ∈ y :: k := h.mem_iff.mp List.mem_cons_self
      have hy : y ∈ x :: l := h.mem_iff.mpr List.mem_cons_self
      rcases List.mem_cons.mp hx with e | hx
      · exact e
      · rcases List.mem_cons.mp hy with e | hy
        · exact e.symm
        · exact lexI_tri _ _ (b1 x hx) (a1 y hy)
    subst exy
    rw [perm_sorted h.cons_inv a2 b2]
end DL
namespace DL
open PySem L2
/-! ### a list of ours becomes data while its name stays -/
theorem RpS.swap {K : PySem.W.Frag} {H0 : Hp} {σ : St} {δ : DSt} {d : D} {i : Nat} (r : RpS K H0 σ δ) (h : ∀ v, σ[i]? = some (some v) → Rp K H0 v d) (hi : ∃ v, σ[i]? = some (some v)) : RpS K H0 σ (δ.set i (some d)) := by
  obtain ⟨v, hv⟩ := hi
  have := r.set (h v hv) i
  have e : σ.set i (some v) = σ := by
    apply List.ext_getElem?
    intro j
    rw [List.getElem?_set]
    by_cases z : i = j
    · subst z
      rw [if_pos rfl, if_pos (List.getElem?_eq_some_iff.mp hv).1, hv]
    · rw [if_neg z]
  rwa [e] at this
end DL
namespace DL
open PySem L2
/-! ### a, b = x, y -/
end DL
namespace DL
open PySem L2
open PyProof.Rows
/-! ### list(d.keys()), sorted(d.keys()) -/
theorem key_vals {w : World} {L : List (NestedKey × Addr × V)} {xs : List (NestedKey × Addr × Value)} {es : Array DictEntry} {vs : List Value} (r : Paired RE L xs) (g4 : es.toList = xs.map (dgEnt w))
    (hl : vs.length = es.size) (hv : ∀ j v, vs[j]? = some v → ∃ hi : j < es.size, v = es[j].key) : Vals (L.map fun e => V.ref e.2.1) vs := by
  have e : vs = es.toList.map (·.key) := by
    apply List.ext_getElem?
    intro j
    rw [List.getElem?_map]
    cases hj : vs[j]? with
    | none =>
      have h1 := List.getElem?_eq_none_iff.mp hj
      rw [List.getElem?_eq_none (by rw [Array.length_toList]; omega)]
      rfl
    | some v =>
      obtain ⟨hi, rfl⟩ := hv j v hj
      rw [Array.getElem?_toList, Array.getElem?_eq_getElem hi]
      rfl
  rw [e, g4, List.map_map]
  clear g4 hl hv e
  induction r with
  | nil => exact .nil
  | @cons e0 x0 _ _ h _ ih => exact .cons (show RelV (V.ref e0.2.1) (Value.ref x0.2.1) from (by rw [h.2.1]; rfl)) ih
theorem rg_keys {K : KW} {H0 : Hp} {L : List (NestedKey × Addr × V)} {kvs : List (D × D)} (r : Paired (RG K H0) L kvs) : RpL K H0 (L.map fun e => V.ref e.2.1) (kvs.map (·.1)) := by
  induction r with
  | nil => exact .nil
  | cons h _ ih => exact .cons h.2.2.1 ih
end DL
namespace DL
open PySem L2
open PyProof.Rows
/-! ### sorted(d.keys()), the keys tuples of whole numbers -/
section
variable {prog : Program} {w : World} {A : Around} {E : Value → Shared → Prop} {s : Shared} {T : String} {r d : Addr} {n : Nat} {P : Nat → Value → Prop} {OK : Heap → Prop}
theorem sorted_view (K : PySem.W.KdlSrc prog w T r d n P OK) (hh : A.handled = none) (hok : OK s.heap) (hn : n ≤ sizeLine) {ltv : Value → Value → Bool} (O : SrtO.Swo ltv) {Q : Value → Shared → Prop} {z : Addr} {oz : Obj} (hz : s.heap.get? z = some oz) (hlast : s.heap.objs.size = z + 1)
    (hS : ∀ (vs : List Value) (h₁ : Heap) (tk : Nat) (a : Addr), vs.length = n → (∀ j v, vs[j]? = some v → P j v) → 2 ≤ vs.length → h₁.get? a = some (seqObj "list" vs.toArray 0) → (∀ b o, s.heap.get? b = some o → h₁.get? b = some o) → SrtO.SortableO prog w A.in1.in1 { s with heap := h₁, toks := tk } a vs ltv)
    (h : ∀ (vs out : List Value) (h' : Heap) (tk : Nat) (D : Addr) (c : Nat), vs.length = n → (∀ j v, vs[j]? = some v → P j v) → SrtO.Srtd ltv out → SrtO.Stb ltv out vs → (∀ b o, s.heap.get? b = some o → h'.get? b = some o) → h'.get? D = some (seqObj "list" out.toArray c) → s.heap.objs.size ≤ D → Q (.ref D) { s with heap := h', toks := tk }) :
    wpAny (model prog w) A (call (.builtin "sorted") [.ref r]) Q E s := by
  refine Calls.call_function_entry kind_sorted plain_sorted entry_sorted (args_sorted1 _) ?_
  unfold Builtin.«sorted»
  refine wpAny_bind (m := checkCount "sorted" 1 1 _) (wpAny_pure ?_)
  refine wpAny_bind (PySem.W.kdu_collect (A := A.in1) K hh hok hn fun h' tk acc hk hacc => ?_)
  have hl : acc.toList.length = n := by rw [Array.length_toList]; exact hacc.1
  have hv : ∀ j v, acc.toList[j]? = some v → P j v := fun j v e => hacc.2 j v (by rw [← Array.getElem?_toList]; exact e)
  refine wpAny_bind (wpAny_newList ?_ (by rw [hl]; exact hn))
  have hoL : (h'.push (seqObj "list" acc.toList.toArray 0)).get? h'.objs.size = some (seqObj "list" acc.toList.toArray 0) := Heap.get?_push_size _ rfl
  have keep : ∀ b o, s.heap.get? b = some o → (h'.push (seqObj "list" acc.toList.toArray 0)).get? b = some o := fun b o q => Heap.get?_push_of_some _ (hk b o q)
  have hzl : z < h'.objs.size := Heap.lt_size (hk z oz hz)
  show wpAny _ _ _ _ _ { s with heap := h'.push (seqObj "list" acc.toList.toArray 0), toks := tk }
  refine wpAny_bind (wpAny_holding (wpAny_call_entry slot_list_sort ⟨_, hoL, rfl⟩ entry_list_sort (SrtO.list_sort_ord O hoL (by rw [hl]; exact hn) (fun h2 => hS _ _ tk _ hl hv h2 hoL keep) fun out hs hb => ⟨_, rfl, ?_⟩) (args_list_sort _)))
  obtain ⟨c, hc⟩ := sortedHeap_at (vs := acc.toList) (out := out.toArray) hoL
  refine wpAny_pure ⟨_, rfl, h _ out _ tk _ c hl hv hs hb (fun b o q => ?_) hc (by rw [hlast]; exact hzl)⟩
  rw [sortedHeap_old (Nat.ne_of_lt (Heap.lt_size (hk b o q))) (Heap.lt_size (keep b o q))]
  exact keep b o q
end
def tSrtKG (K : KW) (td : TE) : TE := fun σ H Q => td σ H fun x H1 => ∃ (d : Addr) (L : List (NestedKey × Addr × V)) (ks : List (Addr × List Int)), x = .ref d ∧ RdG K.w H1 d L ∧ L.map (fun e => V.ref e.2.1) = ks.map (fun q => V.ref q.1) ∧ (∀ p ∈ ks, SqT K H1 p.1 (p.2.map V.int) ∧ (2 ≤ ks.length → p.2 ≠ [])) ∧
  ∀ (L' : List (Addr × List Int)) (p : Addr), L'.Perm ks → (L'.Pairwise fun q r => lexI r.2 q.2 = false) → H1 p = none → Q (.ref p) (upd H1 p (.lst (L'.map fun q => V.ref q.1)))
section
variable {X : Cx} {e : Expr} {te : TE} {apos cpos p pos : Pos}
theorem pe_srtKeys (hc : X.calm = true) (he : PE X e te) (hg : Gl X "sorted") (hm : X.mg "sorted" = none) (hv : bootBuiltins "sorted" = some (.builtin "sorted")) (hbase : attributeBase e "keys" X.env (eval e X.env) = eval e X.env := by rfl) (hline : (apos.endLine == cpos.line) = true := by rfl)
    (hs : starEach [.Call (.Attribute e "keys" apos) [] [] cpos] X.env = (false, eval (.Call (.Attribute e "keys" apos) [] [] cpos) X.env) :: starEach [] X.env := by rfl) :
    PE X (.Call (.Name "sorted" p) [.Call (.Attribute e "keys" apos) [] [] cpos] [] pos) (tSrtKG (kw X) te) := by
  refine ⟨fun pins s σ H Q I hq => ?_⟩
  refine wpAny_Call_Name_kw (L2.ld_blt I hg hm hv ?_)
  refine PyProof.Rows.callWith_builtin1 ?_ hs rfl
  rw [hs]
  show wpAny _ _ (spliced ((false, eval (.Call (.Attribute e "keys" apos) [] [] cpos) X.env) :: backTo pos (starEach [] X.env))) _ _ s
  refine Calls.spliced_cons ?_
  refine wpAny_Call_method (T := "dict") (id := "dict.keys") hbase rfl hline F.plainAttrs_dict F.slot_dict_keys F.type_dict_keys (thn (he.run pins s σ H _ I hq) fun u s1 ⟨x, H1, I1, rx, d, L, ks, ex, hd, ek, hks, q⟩ => ?_)
  subst ex
  obtain rfl : u = Value.ref d := rx
  obtain ⟨g1, g2, xs, r, nd, o, es, ep, ho, hx, hdt, g4⟩ := dg_raw I1 hd
  have raw : s1.heap.DictRaw d es ep := ⟨o, ho, hx, hdt⟩
  have hz : es.size = L.length := by rw [← Array.length_toList, g4, List.length_map, pr_len r]
  have I2 : L2.Inv X pins σ H1 { s1 with heap := s1.heap.push { cls := .type "dict_keys", data := .fields #[.ref d] } } := I1.kept (t' := s1.toks) fun b ob q => Heap.get?_push_of_some _ q
  refine ⟨raw.typeIs, fun b q => (by cases q; exact ⟨o, ho, hx.2.1⟩), ?_⟩
  show wpAny _ _ (callWith cpos (.builtin "dict.keys") [.ref d] [] []) _ X.xe s1
  refine method_meetsIn F.slot_dict_keys F.entry_dict_keys rfl (PySem.evalArgs_none ⟨rfl, raw.typeIs, F.args_dict_keys_1 _, _, meets_dict_keys_raw d g1, ⟨es, ep, raw⟩, ?_⟩)
  refine Calls.spliced_nil ?_
  have lk : ks.length = L.length := by
    have := congrArg List.length ek
    rw [List.length_map, List.length_map] at this
    exact this.symm
  have vals : ∀ vs : List Value, vs.length = es.size → (∀ j v, vs[j]? = some v → ∃ hi : j < es.size, v = es[j].key) → vs = ks.map fun q => Value.ref q.1 := fun vs h1 h2 => vals_refs_eq (by rw [← ek]; exact key_vals r g4 h1 h2)
  have tk : ∀ q ∈ ks, TS.TupInts (s1.heap.push { cls := .type "dict_keys", data := .fields #[.ref d] }) (.ref q.1) q.2 := fun q hq => tupInts_of (P := X.prog) (w := X.w) (I2.isT (hks q hq).1)
  have keepT : ∀ {h₁ : Heap}, (∀ b o, (s1.heap.push { cls := .type "dict_keys", data := .fields #[.ref d] }).get? b = some o → h₁.get? b = some o) → ∀ q ∈ ks, TS.TupInts h₁ (.ref q.1) q.2 := fun kk q hq => tupInts_of (P := X.prog) (w := X.w) (isT_keep (I2.isT (hks q hq).1) kk)
  refine sorted_view (PySem.KdlSrc.rawKeys (r := s1.heap.objs.size) (d := d) (es := es) (ep := ep)) (I1.ok.hd hc) ⟨⟨_, Heap.get?_push_size _ rfl, rfl, rfl⟩, raw.push _⟩ (by omega) (swo_lexI (TS.intsOf (s1.heap.push { cls := .type "dict_keys", data := .fields #[.ref d] }))) (z := s1.heap.objs.size) (Heap.get?_push_size _ rfl) (size_push' _ _) (fun vs h₁ t a hl hvv h2 hb kk => ?_) fun vs out h' t D c hl hvv hs1 hb kk hD hle => ?_
  · have evs := vals vs hl hvv
    have key : ∀ v ∈ vs, TS.intsOf (s1.heap.push { cls := .type "dict_keys", data := .fields #[.ref d] }) v = TS.intsOf h₁ v := fun v hv => by
      rw [evs] at hv
      obtain ⟨q, hq, rfl⟩ := List.mem_map.mp hv
      rw [(tk q hq).ints, (keepT kk q hq).ints]
    refine tup_sortable (s := { s1 with heap := h₁, toks := t }) (by omega) (fun v hv => ?_) fun o' e => ?_
    · rw [evs] at hv
      obtain ⟨q, hq, rfl⟩ := List.mem_map.mp hv
      rw [(tk q hq).ints]
      exact ⟨keepT kk q hq, (hks q hq).2 (by rw [evs, List.length_map] at h2; exact h2)⟩
    · have e' : some o' = some (seqObj "list" vs.toArray 0) := e.symm.trans hb
      cases e'
      exact fun c => absurd (Value.type.inj c) (by decide)
  · obtain ⟨L', pL, e'⟩ := perm_lift (fun q : Addr × List Int => Value.ref q.1) (hb.perm.trans (by rw [vals vs hl hvv])) ks rfl
    have pw : L'.Pairwise fun q r => lexI r.2 q.2 = false := by
      have b1' : (L'.map fun q => Value.ref q.1).Pairwise fun x y => lexI (TS.intsOf (s1.heap.push { cls := .type "dict_keys", data := .fields #[.ref d] }) y) (TS.intsOf (s1.heap.push { cls := .type "dict_keys", data := .fields #[.ref d] }) x) = false := by rw [← e']; exact hs1
      refine List.Pairwise.imp_of_mem (fun {q r} hq hr hle => ?_) (List.pairwise_map.mp b1')
      rw [(tk q (pL.mem_iff.mp hq)).ints, (tk r (pL.mem_iff.mp hr)).ints] at hle
      exact hle
    have hn : H1 D = none := I2.hok.fresh hle
    exact ⟨.ref _, upd H1 D (.lst (L'.map fun q => V.ref q.1)), I2.laid (t' := t) kk hle ⟨by rw [List.length_map, pL.length_eq]; omega, out, c, by rw [e']; exact vals_of_refs L', hD⟩, rfl, q L' _ pL pw hn⟩
end
end DL
namespace DL
open PySem L2
open PyProof.Rows
/-! ### {k: v for ..} over nothing: a dict whose keys are tuples -/
end DL
namespace DL
open PySem L2
open PyProof.Rows
/-! ### d.setdefault(k, v), the keys texts or whole numbers -/
end DL
namespace DL
open PySem L2
open PySem.Spec
open PyProof.Rows
/-! ### {k: v for ..}, the keys tuples -/
/-- the turn's store -/
def putAt (K : PySem.W.Frag) (w : World) (D : Addr) (y z : V) (H : Hp) (N : Hp → Prop) : Prop := ∃ b L k, y = .ref b ∧ H D = some (DGO w D L) ∧ KsOk K H L ∧ KeyV K H y k ∧ k.depth ≤ 8 ∧ L.length < sizeLine ∧ N (upd H D (DGO w D (putL L k b z)))
theorem putAt_run {X : Cx} {pins : List (Addr × Obj)} {σ : L2.St} {H : Hp} {s : Shared} {E : Value → Shared → Prop} {D : Addr} {y z : V} {u r : Value} {N : Hp → Prop} {Q : Unit → Shared → Prop} (hu : X.A.units + 8 < cLine) (I : L2.Inv X pins σ H s) (ry : RelV y u) (rz : RelV z r)
    (h : putAt X.K X.w D y z H N) (hQ : ∀ s' H', L2.Inv X pins σ H' s' → N H' → Q () s') : wpAny (model X.prog X.w) X.A (dictSet D u r) Q E s := by
  obtain ⟨b, L, k, rfl, e, hk, kv, kd, z1, q⟩ := h
  cases ry
  obtain ⟨xs, rl, hd, z2, dd⟩ := dg_at I (.inl e) hk
  have hz : xs.length ≤ sizeLine := by
    have := congrArg List.length (pr_keys rl)
    rw [List.length_map, List.length_map] at this
    omega
  exact wpAny_dictSet_heap (knd := nestedKind X.prog X.w) (hsz := hz) hu ⟨keyV_is I kv rfl, kd⟩ dd fun h' dd' hs => hQ _ _ (dg_put _ I e hd rl rz z1 dd' hs) q
def turnG (K : PySem.W.Frag) (w : World) (g : TG) (tt : TT) (tk tv : TE) (vs : List Nat) (σ : L2.St) (D : Addr) (N : Hp → Prop) (x : V) (H : Hp) : Prop :=
  g x (wipe σ vs) H fun σ2 H2 => wipe σ2 vs = wipe σ vs ∧ tt σ2 H2 fun b H3 => if b = true then tk σ2 H3 fun y H4 => tv σ2 H4 fun z H5 => putAt K w D y z H5 N else N H3
def tDcG (K : PySem.W.Frag) (w : World) (wi : TI) (g : TG) (tt : TT) (tk tv : TE) (vs : List Nat) : TE := fun σ H Q => wi σ H fun J H1 => ∀ D, H1 D = none → ∃ V : Nat → Nat → Hp → Prop, (∃ m, V 0 m (upd H1 D (DGO w D []))) ∧ ∀ i m H, V i m H →
  (J.stop i H ∧ Q (.ref D) H) ∨ (J.go i H ∧ ∃ N : Hp → Prop, (∀ H', N H' → ∃ m', m' < m ∧ V (i + 1) m' H') ∧ ∀ x H', J.yld i H x H' → turnG K w g tt tk tv vs σ D N x H')
/-- the block's loop, in the block's own context -/
theorem loopG {Y : Cx} {tg iter kx vx : Expr} {ifs : List Expr} {scope : Scope} {pos : Pos} {fp : List Addr} {it D : Addr} {tn : Nat → Heap → Prop} {J : It} {g : TG} {tt : TT} {tk tv : TE} {vs : List Nat} {σ : L2.St} {V : Nat → Nat → Hp → Prop} {Qd : Hp → Prop} {R : Result → Shared → Prop}
    (T : Turn Y.prog Y.w Y.K tg J fp it tn) (hu : Y.A.units + 8 < cLine) (hc : Y.calm = true) (hx : Y.xe = fun _ _ => False) (pg : PG Y tg g) (pt : PTs Y ifs tt) (pk : PE Y kx tk) (pe : PE Y vx tv)
    (stat : ∀ {σ' : L2.St} {H' : Hp} {s' : Shared}, L2.Inv Y [] σ' H' s' → (∀ b ∈ fp, H' b = none) → ∀ b ∈ fp, FpOk Y [] H' b)
    (turn : ∀ i m H, V i m H → (J.stop i H ∧ Qd H) ∨ (J.go i H ∧ ∃ N : Hp → Prop, (∀ H', N H' → ∃ m', m' < m ∧ V (i + 1) m' H') ∧ ∀ x H', J.yld i H x H' → turnG Y.K Y.w g tt tk tv vs σ D N x H'))
    (fin : ∀ s' H', L2.Inv Y [] (wipe σ vs) H' s' → Qd H' → R (.ok .next) s') {m0 : Nat} {H0 : Hp} {s0 : Shared} (I0 : L2.Inv Y [] (wipe σ vs) H0 s0) (t0 : tn 0 s0.heap) (n0 : ∀ b ∈ fp, H0 b = none) (v0 : V 0 m0 H0) :
    codeAny (model Y.prog Y.w) Y.A (.compLoop (.DictComp kx vx [⟨tg, iter, ifs, 0⟩] scope pos) 0 (.ref it) (.ref D) Y.env) R s0 := by
  have F : ∀ {α : Type} {t : Sem α} {Q Q' : α → Shared → Prop} {E : Value → Shared → Prop} {s : Shared}, wpAny (model Y.prog Y.w) Y.A t Q Y.xe s → (∀ a s, Q a s → Q' a s) → wpAny (model Y.prog Y.w) Y.A t Q' E s := fun h hq => by
    rw [hx] at h
    exact thnF h hq
  refine compLoop_anyD (fun n s' => ∃ i H', L2.Inv Y [] (wipe σ vs) H' s' ∧ tn i s'.heap ∧ (∀ b ∈ fp, H' b = none) ∧ V i n H') ?_ m0 ⟨0, H0, I0, t0, n0, v0⟩
  rintro n s1 ⟨i, H1, I1, t1, n1, v1⟩
  have f1 := stat I1 n1
  rcases turn i n H1 v1 with ⟨z, q⟩ | ⟨z, N, hN, step⟩
  · refine thnF (T.done Y rfl rfl rfl hc i [] s1 _ H1 (fun _ _ => False) I1 f1 t1 z) fun r s2 hr => ?_
    obtain ⟨rfl, I2⟩ := hr
    exact fin s2 H1 I2 q
  · refine thnF (T.item Y rfl rfl rfl hc i [] s1 _ H1 (fun _ _ => False) I1 f1 t1 z) fun r s2 hr => ?_
    obtain ⟨u, rfl, h2⟩ := hr
    refine thnF h2 fun _ s3 h3 => ?_
    obtain ⟨x, H3, I3, rx, y3, t3, n3⟩ := h3
    have at3 := T.obj _ _ t3
    have st := step x H3 y3
    unfold turnG at st
    refine F (pg.run _ s3 _ H3 x u _ (I3.pinned (stat I3 n3) at3) rx st) fun _ s4 h4 => ?_
    obtain ⟨σ4, H4, I4, hw, h4⟩ := h4
    -- what a turn leaves
    have ends : ∀ (s' : Shared) (H' : Hp), L2.Inv Y ([] ++ pinsAt fp s3.heap) σ4 H' s' → N H' → ∃ m', m' < n ∧ ∃ i H', L2.Inv Y [] (wipe σ vs) H' s' ∧ tn i s'.heap ∧ (∀ b ∈ fp, H' b = none) ∧ V i m' H' := fun s' H' I' hn => by
      obtain ⟨m', lt, v'⟩ := hN H' hn
      have same : ∀ b ∈ fp, ∀ o, s3.heap.get? b = some o → s'.heap.get? b = some o ∧ H' b = none := fun b hb o e => by
        have w := I'.pin (b, o) (List.mem_append_right _ (List.mem_append_right _ (mem_pinsAt hb e)))
        exact ⟨w.1, w.2.1⟩
      have len : (wipe σ vs).length = σ4.length := by rw [← hw, wipe_length]
      refine ⟨m', lt, i + 1, H', (I'.unpinned (pins := [])).weak len (fun j v e => ?_), T.keep _ _ _ t3 fun b hb o e => (same b hb o e).1, fun b hb => ?_, v'⟩
      · rw [← hw] at e; exact (wipe_some e).1
      · obtain ⟨o, e, _⟩ := at3 b hb
        exact (same b hb o e).2
    refine F (pt.run _ s4 σ4 H4 _ I4 h4) fun b s5 h5 => ?_
    obtain ⟨H5, I5, h5⟩ := h5
    cases b with
    | false => exact ends s5 H5 I5 h5
    | true =>
      rw [if_pos rfl] at h5 ⊢
      refine F (pk.run _ s5 σ4 H5 _ I5 h5) fun ku s6 h6 => ?_
      obtain ⟨yk, H6, I6, r6, h6⟩ := h6
      refine F (pe.run _ s6 σ4 H6 _ I6 h6) fun vu s7 h7 => ?_
      obtain ⟨yv, H7, I7, r7, h7⟩ := h7
      exact putAt_run hu I7 r6 r7 h7 ends
section
variable {X : Cx} {kx vx tg iter : Expr} {ifs : List Expr} {scope : Scope} {own : List (Str × Nat)} {pos pos' : Pos} {wi : TI} {g : TG} {tt : TT} {tk tv : TE}
/-- the whole comprehension, its dict born ahead of the block -/
theorem dcG_run {pins : List (Addr × Obj)} {s : Shared} {σ : L2.St} {H : Hp} {Q : VK} {use : Option (Value → Sem Unit)} {Qf : Value → Shared → Prop} (hu : X.A.units + 8 < cLine) (hc : X.calm = true) (hN : X.N.Nodup) (I : L2.Inv X pins σ H s) (hi : PI X tg iter wi) (ok : BlkOk X.N X.env.scope scope own)
    (hg : ∀ (s : Shared) (H : Hp) (C : Addr) (cl : List (Str × Addr)) (fp : List Addr), PG (X.blk s H scope (compEnvC scope cl C X.env) fp) tg g) (ht : ∀ (s : Shared) (H : Hp) (C : Addr) (cl : List (Str × Addr)) (fp : List Addr), PTs (X.blk s H scope (compEnvC scope cl C X.env) fp) ifs tt)
    (hk : ∀ (s : Shared) (H : Hp) (C : Addr) (cl : List (Str × Addr)) (fp : List Addr), PE (X.blk s H scope (compEnvC scope cl C X.env) fp) kx tk) (he : ∀ (s : Shared) (H : Hp) (C : Addr) (cl : List (Str × Addr)) (fp : List Addr), PE (X.blk s H scope (compEnvC scope cl C X.env) fp) vx tv)
    (hs : ∀ x, foldedSetIterable iter X.env x = pure x) (h : tDcG X.K X.w wi g tt tk tv (own.map (·.2)) σ H Q)
    (out : ∀ D C s' m H', L2.Inv X pins σ H' s' → Q (.ref D) H' → s'.heap.Ns C m → FpOk X pins H' C → compPost (model X.prog X.w) X.A X.xe use Qf (.ref D) C (.ok .next) s') :
    wpAny (model X.prog X.w) X.A (comprehension (.DictComp kx vx [⟨tg, iter, ifs, 0⟩] scope pos) scope X.env pos' newDict false (eval iter X.env) use) Qf X.xe s := by
  have free : ∀ y ∈ scope.names, y.2 = .free → ∃ c, X.env.cells.lookup y.1 = some c := fun y hy e => (ok.free y hy e).elim (fun k => I.ok.has _ (.inl k)) fun k => I.ok.has _ (.inr k)
  refine wpAny_comprehension_free (use := use) rfl hs (closure_ok free) ok.kind (fun y hy e => by rw [ok.uniq y hy, e]) (thn (hi.run pins s σ H _ I h) fun xv s1 h1 => thn h1 fun itv s2 h2 => ?_)
  obtain ⟨it, fp, tn, J, H2, rfl, I2, T, t2, f2, q⟩ := h2
  refine wpAny_newObj_type (newEnv_comp ?_)
  have hD := I2.hok.fresh (Nat.le_refl s2.heap.objs.size)
  obtain ⟨V, ⟨m0, v0⟩, turn⟩ := q s2.heap.objs.size hD
  -- the dict
  have I3 := I2.laid (a := s2.heap.objs.size) (o := DGO X.w s2.heap.objs.size []) (h' := s2.heap.push { cls := .type "dict", data := .dict #[] }) (t' := s2.toks) (fun _ _ q => Heap.get?_push_of_some _ q) (Nat.le_refl _) (dg_empty s2.heap I2.big)
  have below : ∀ b ∈ fp, b < s2.heap.objs.size := fun b hb => by
    obtain ⟨o, e, _⟩ := T.obj _ _ t2 b hb
    exact Heap.lt_size e
  have f3 : ∀ b ∈ fp, FpOk X pins (upd H2 s2.heap.objs.size (DGO X.w s2.heap.objs.size [])) b ∧ b < (s2.heap.push { cls := .type "dict", data := .dict #[] }).objs.size := fun b hb => by
    have lt := below b hb
    refine ⟨⟨by rw [upd_ne (Nat.ne_of_lt lt)]; exact (f2 b hb).1, (f2 b hb).2⟩, by rw [Heap.size_push]; exact Nat.lt_succ_of_lt lt⟩
  have t3 : tn 0 (s2.heap.push { cls := .type "dict", data := .dict #[] }) := T.keep _ _ _ t2 fun b _ o e => Heap.get?_push_of_some _ e
  -- the block
  have I4 := block_start (s := { s2 with heap := s2.heap.push { cls := .type "dict", data := .dict #[] } }) I3 ok hN f3
  have t4 : tn 0 (pushCells ((s2.heap.push { cls := .type "dict", data := .dict #[] }).push { cls := .type "dict", data := .dict #[] }) scope.names) := T.keep _ _ _ t3 fun b _ o e => pushCells_keeps _ _ _ _ (Heap.get?_push_of_some _ e)
  generalize hs3 : ({ s2 with heap := s2.heap.push { cls := .type "dict", data := .dict #[] } } : Shared) = s3 at *
  have e3 : s2.heap.push { cls := .type "dict", data := .dict #[] } = s3.heap := by rw [← hs3]
  rw [e3] at t4 f3
  generalize hD2 : s2.heap.objs.size = D at *
  generalize hH3 : upd H2 D (DGO X.w D []) = H3 at *
  have nfp : ∀ b ∈ fp, H3 b = none := fun b hb => (f3 b hb).1.1
  generalize hcl : cellsFrom (s3.heap.objs.size + 1) scope.names (cloFrom X.env.cells scope.names []) = cl at I4
  have loop : codeAny (model X.prog X.w) X.A (.compLoop (.DictComp kx vx [⟨tg, iter, ifs, 0⟩] scope pos) 0 (.ref it) (.ref D) (compEnvC scope cl s3.heap.objs.size X.env)) (compPost (model X.prog X.w) X.A X.xe use Qf (.ref D) s3.heap.objs.size) { s3 with heap := pushCells (s3.heap.push { cls := .type "dict", data := .dict #[] }) scope.names } := by
    refine loopG (Y := X.blk s3 H3 scope (compEnvC scope cl s3.heap.objs.size X.env) fp) (m0 := m0) T hu hc rfl (hg ..) (ht ..) (hk ..) (he ..) (fun I' hn b hb => ?_) turn (fun s5 H5 I5 q5 => ?_) I4 t4 nfp v0
    · exact ⟨hn b hb, (I'.ok.exf b hb).1, I'.ok.exfs b hb, .inl hb, fun x c e => (I'.ok.exf b hb).2 x c e, fun p hp => absurd (show p ∈ ([] : List (Addr × Obj)) ++ [] from hp) (by simp)⟩
    · obtain ⟨m, ns, _⟩ := I5.loc
      have ns : s5.heap.Ns s3.heap.objs.size m := ns
      have none5 : H5 s3.heap.objs.size = none := I5.free
      exact out D _ s5 m H5 (I3.call' (ch := fp) I5.os I5.base I5.hok I5.bare fun b hb => let w := (f3 b hb).1; ⟨w.2.2.2.1, w.2.1, w.2.2.2.2.1, w.2.2.2.2.2⟩) q5 ns (I3.fpOk (Nat.le_refl _) none5)
  subst hcl
  exact codeAny_compStart_dict loop (T.self X.A 0 _ _ _ t4 loop)
/-- as a value -/
theorem pe_dcG (hu : X.A.units + 8 < cLine) (hc : X.calm = true) (hN : X.N.Nodup) (hi : PI X tg iter wi) (ok : BlkOk X.N X.env.scope scope own)
    (hg : ∀ (s : Shared) (H : Hp) (C : Addr) (cl : List (Str × Addr)) (fp : List Addr), PG (X.blk s H scope (compEnvC scope cl C X.env) fp) tg g) (ht : ∀ (s : Shared) (H : Hp) (C : Addr) (cl : List (Str × Addr)) (fp : List Addr), PTs (X.blk s H scope (compEnvC scope cl C X.env) fp) ifs tt)
    (hk : ∀ (s : Shared) (H : Hp) (C : Addr) (cl : List (Str × Addr)) (fp : List Addr), PE (X.blk s H scope (compEnvC scope cl C X.env) fp) kx tk) (he : ∀ (s : Shared) (H : Hp) (C : Addr) (cl : List (Str × Addr)) (fp : List Addr), PE (X.blk s H scope (compEnvC scope cl C X.env) fp) vx tv)
    (hs : ∀ x, foldedSetIterable iter X.env x = pure x := by intro _; rfl) : PE X (.DictComp kx vx [⟨tg, iter, ifs, 0⟩] scope pos) (tDcG X.K X.w wi g tt tk tv (own.map (·.2))) := by
  refine ⟨fun pins s σ H Q I h => ?_⟩
  rw [arm_eval_DictComp]
  refine dcG_run hu hc hN I hi ok hg ht hk he hs h fun D C s' m H' I' q hn f => ⟨m, hn, fun h' sb => ?_⟩
  obtain ⟨_, c1, _, c3, c4, c5⟩ := id f
  exact ⟨.ref D, H', I'.turned (t' := s'.toks) (fun b o hb e => (sb.2 b hb).trans e) f.1 c1 c3 c4 c5, rfl, q⟩
end
end DL
namespace DL
open PySem L2
open PyProof.Rows
/-! ### {k: v for ..}, the keys tuples: the reading -/
def rComG0 (Ph : Mu → Prop) (rg : DG) (qt : DT) (rk rv : DE) (δ : DSt) (P : List (D × D) → Mu → Prop) : List D → List (D × D) → Mu → Prop
  | [], acc, m => Ph m ∧ P acc m
  | d :: ds, acc, m => Ph m ∧ rg d δ m fun δ' m' => qt δ' m' (fun k m1 => match k with
    | true => rk δ' m1 (fun y m2 => rv δ' m2 (fun z m3 => ktB y = true ∧ acc.length < sizeLine ∧ rComG0 Ph rg qt rk rv δ P ds (putG acc y z) m3) noX) noX
    | false => rComG0 Ph rg qt rk rv δ P ds acc m1) noX
@[irreducible] def rComG (Ph : Mu → Prop) (rg : DG) (qt : DT) (rk rv : DE) (δ : DSt) (P : List (D × D) → Mu → Prop) (ds : List D) (acc : List (D × D)) (m : Mu) : Prop := rComG0 Ph rg qt rk rv δ P ds acc m
section
variable {Ph : Mu → Prop} {rg : DG} {qt : DT} {rk rv : DE} {δ : DSt} {P : List (D × D) → Mu → Prop} {d : D} {ds : List D} {acc : List (D × D)} {m : Mu}
theorem rComG_nil : rComG Ph rg qt rk rv δ P [] acc m = (Ph m ∧ P acc m) := by unfold rComG; rfl
theorem rComG_cons : rComG Ph rg qt rk rv δ P (d :: ds) acc m = (Ph m ∧ rg d δ m fun δ' m' => qt δ' m' (fun k m1 => match k with
    | true => rk δ' m1 (fun y m2 => rv δ' m2 (fun z m3 => ktB y = true ∧ acc.length < sizeLine ∧ rComG Ph rg qt rk rv δ P ds (putG acc y z) m3) noX) noX
    | false => rComG Ph rg qt rk rv δ P ds acc m1) noX) := by
  have e : rComG Ph rg qt rk rv δ P ds = rComG0 Ph rg qt rk rv δ P ds := by funext acc m; unfold rComG; rfl
  rw [e]
  unfold rComG
  rfl
end
def rDcG (ri : DI) (js : List Nat) (rg : DG) (qt : DT) (rk rv : DE) : DE := fun δ m P PX => ri δ m (fun Ph ds m1 => rComG Ph rg qt rk rv (wipeD δ js) (fun acc m2 => ∀ q, m2 q = none → P (.adr q) (mset m2 q (.dgt acc))) ds [] m1) PX
theorem rgs_mono {K : KW} {H H' : Hp} {L : List (NestedKey × Addr × V)} {kvs : List (D × D)} (s : Same H H') (r : Paired (RG K H) L kvs) : Paired (RG K H') L kvs := by
  induction r with
  | nil => exact .nil
  | cons h _ ih => exact .cons ⟨h.1, h.2.1, h.2.2.1.mono s, h.2.2.2.mono s⟩ ih
theorem dcG_lift {K : KW} {W : WX} {ri : DI} {g : TG} {rg : DG} {qt : DT} {rk rv : DE} {js : List Nat} (go : Gok K js g rg) {σ : L2.St} {H : Hp} {Q : VK}
    (h : lE K W (rDcG ri js rg qt rk rv) σ H Q) : tDcG K.fr K.w (lI K W ri) g (lT K noW qt) (lE K noW rk) (lE K noW rv) js σ H Q := by
  obtain ⟨F, H0, m, δ, P, PX, ok, rs, h, gv, gx⟩ := h
  refine ⟨F, H0, m, δ, _, _, ok, rs, h, fun J H1 H01 m1 Ph ds s1 ok1 it ph h1 q hq => ?_, gx⟩
  have hF : F q = none := ok1.freeF hq
  obtain ⟨Pf, hPf⟩ : ∃ Pf : List (D × D) → Mu → Prop, Pf = fun acc m2 => ∀ q, m2 q = none → P (.adr q) (mset m2 q (.dgt acc)) := ⟨_, rfl⟩
  rw [← hPf] at h1
  refine ⟨fun i k H' => ∃ H0' m' L acc, Same H01 H0' ∧ Ok K (upd F q (DGO K.w q L)) H0' m' H' ∧ Paired (RG K H0') L acc ∧ i + k = ds.length ∧ rComG Ph rg qt rk rv (wipeD δ js) Pf (ds.drop i) acc m', ⟨ds.length, H01, m1, [], [], Same.refl _, ok1.addF hq, .nil, by omega, h1⟩, ?_⟩
  rintro i k H2 ⟨H02, m2, L, acc, s2, ok2, rl, hik, h2⟩
  by_cases lt : i < ds.length
  · rw [List.drop_eq_getElem_cons lt, rComG_cons] at h2
    obtain ⟨ph2, h2⟩ := h2
    obtain ⟨go1, yl⟩ := (it _ i H2 H02 m2 s2 ok2 ph2).1 _ (List.getElem?_eq_getElem lt)
    refine .inr ⟨go1, fun H' => ∃ H0' m' L acc, Same H01 H0' ∧ Ok K (upd F q (DGO K.w q L)) H0' m' H' ∧ Paired (RG K H0') L acc ∧ rComG Ph rg qt rk rv (wipeD δ js) Pf (ds.drop (i + 1)) acc m', fun H' ⟨H0', m', L', acc', z1, z2, z3, z4⟩ => ⟨k - 1, by omega, H0', m', L', acc', z1, z2, z3, by omega, z4⟩, fun x H' y => ?_⟩
    obtain ⟨H03, s3, ok3, r3⟩ := yl x H' y
    refine go _ H03 m2 H' _ _ x _ _ _ ok3 ((rs.wipe js).mono (s1.trans (s2.trans s3))) r3 h2 fun σ4 δ4 rs4 hw4 h4 => ⟨by rw [hw4, wipe_twice], ?_⟩
    refine ⟨_, H03, m2, δ4, _, noX, ok3, rs4, h4, fun b H5 H05 m5 s5 ok5 h5 => ?_, fun _ _ _ _ _ _ _ _ _ z => z⟩
    cases b with
    | false =>
      rw [if_neg Bool.false_ne_true]
      exact ⟨H05, m5, L, acc, (s2.trans s3).trans s5, ok5, rgs_mono s5 (rgs_mono s3 rl), h5⟩
    | true =>
      rw [if_pos rfl]
      refine ⟨_, H05, m5, δ4, _, noX, ok5, rs4.mono s5, h5, fun y H6 H06 m6 d6 s6 ok6 r6 h6 => ?_, fun _ _ _ _ _ _ _ _ _ z => z⟩
      refine ⟨_, H06, m6, δ4, _, noX, ok6, (rs4.mono s5).mono s6, h6, fun z H7 H07 m7 d7 s7 ok7 r7 h7 => ?_, fun _ _ _ _ _ _ _ _ _ z => z⟩
      obtain ⟨kt, sz, h7⟩ := h7
      have rl7 := rgs_mono s7 (rgs_mono s6 (rgs_mono s5 (rgs_mono s3 rl)))
      obtain ⟨b, rfl⟩ := ktB_ref kt r6
      obtain ⟨k1, k2, _⟩ := ktB_tup kt
      exact ⟨b, L, nk d6, rfl, (ok7.fr q _ upd_same).1, rg_ks ok7.same rl7, keyV_of ok7.same (r6.mono s7) k1, k2, by rw [rgg_len rl7]; exact sz, H07, m7, putL L (nk d6) b z, putG acc d6 d7, (((s2.trans s3).trans s5).trans s6).trans s7, ok7.reFD, rg_put rl7 kt (r6.mono s7) r7, h7⟩
  · obtain rfl : i = ds.length := by omega
    rw [List.drop_length, rComG_nil] at h2
    obtain ⟨ok3, w1, w2, w3⟩ := ok2.unframe hF
    refine .inl ⟨(it _ _ H2 H02 m2 s2 ok2 h2.1).2 rfl, ?_⟩
    have h3 := h2.2
    rw [hPf] at h3
    exact gv _ _ _ _ _ (s1.trans s2) (ok3.claim (o := .dgt acc) w2 hF ⟨L, w1, rl⟩) (.adr q) (h3 q w3)
section
variable {X : Cx} {W : WX} {tg : Expr} {pos : Pos} {ifs : List Expr} {scope : Scope} {own : List (Str × Nat)} {ri : DI} {g : TG} {rg : DG} {qt : DT} {rk rv : DE}
theorem pd_dcG {kx vx iter : Expr} {js : List Nat} (hu : X.A.in1.units + 8 < cLine) (hc : X.calm = true) (hN : X.N.Nodup) (hi : PI X tg iter (lI (kw X) W ri)) (ok : BlkOk X.N X.env.scope scope own) (go : Gok (kw X) js g rg) (hj : own.map (·.2) = js)
    (hg : ∀ (s : Shared) (H : Hp) (C : Addr) (cl : List (Str × Addr)) (fp : List Addr), PG (X.blk s H scope (compEnvC scope cl C X.env) fp) tg g) (ht : ∀ (s : Shared) (H : Hp) (C : Addr) (cl : List (Str × Addr)) (fp : List Addr), PTs (X.blk s H scope (compEnvC scope cl C X.env) fp) ifs (lT (kw X) noW qt))
    (hk : ∀ (s : Shared) (H : Hp) (C : Addr) (cl : List (Str × Addr)) (fp : List Addr), PE (X.blk s H scope (compEnvC scope cl C X.env) fp) kx (lE (kw X) noW rk)) (he : ∀ (s : Shared) (H : Hp) (C : Addr) (cl : List (Str × Addr)) (fp : List Addr), PE (X.blk s H scope (compEnvC scope cl C X.env) fp) vx (lE (kw X) noW rv))
    (hs : ∀ x, foldedSetIterable iter X.env x = pure x := by intro _; rfl) :
    PE X (.DictComp kx vx [⟨tg, iter, ifs, 0⟩] scope pos) (lE (kw X) W (rDcG ri js rg qt rk rv)) := by
  subst hj
  have hu' : X.A.units + 8 < cLine := by have e : X.A.in1.units = X.A.units + 1 := rfl; omega
  exact PE.imp (pe_dcG hu' hc hN hi ok hg ht hk he hs) fun _ _ _ h => dcG_lift go h
end
end DL
namespace DL
open PySem L2
/-! ### sorted(d.keys()), a list of our own -/
section
variable {X : Cx} {W : WX} {a : Expr} {ra : DE} {apos cpos p pos : Pos}
def rSrtKGM (ra : DE) : DE := fun δ m P PX => ra δ m (fun x m1 => match dgOf m1 x with
  | some kvs => match tupsD (kvs.map (·.1)) with
    | some l => (2 ≤ l.length → ∀ q ∈ l, q ≠ []) ∧ ∀ l' : List (List Int), l'.Perm l → (l'.Pairwise fun q r => lexI r q = false) → ∀ o, m1 o = none → P (.adr o) (mset m1 o (.lst (l'.map tupI)))
    | none => False
  | none => False) PX
theorem pd_srtKGM (hc : X.calm = true) (hm : X.mg "sorted" = none) (hv : bootBuiltins "sorted" = some (.builtin "sorted")) (ha : PE X a (lE (kw X) W ra)) (hg : Gl X "sorted" := by rfl) (hbase : attributeBase a "keys" X.env (eval a X.env) = eval a X.env := by rfl) (hline : (apos.endLine == cpos.line) = true := by rfl)
    (hs : starEach [.Call (.Attribute a "keys" apos) [] [] cpos] X.env = (false, eval (.Call (.Attribute a "keys" apos) [] [] cpos) X.env) :: starEach [] X.env := by rfl) :
    PE X (.Call (.Name "sorted" p) [.Call (.Attribute a "keys" apos) [] [] cpos] [] pos) (lE (kw X) W (rSrtKGM ra)) := by
  refine PE.imp (pe_srtKeys hc ha hg hm hv hbase hline hs) fun σ H Q h => ?_
  obtain ⟨F, H0, m, δ, P, PX, ok, rs, h, g, gx⟩ := h
  refine ⟨F, H0, m, δ, _, PX, ok, rs, h, fun x H1 H01 m1 d s1 ok1 r1 h1 => ?_, gx⟩
  dsimp only at h1
  split at h1
  · rename_i kvs e
    split at h1
    · rename_i l e2
      obtain ⟨hne, h1⟩ := h1
      obtain ⟨q, L, rfl, rfl, hv, rv⟩ := dgOf_rp ok1 r1 e
      obtain ⟨ks, e3, k2, k3⟩ := tupsD_rp ok1 (rg_keys rv) e2
      have mem : ∀ p ∈ ks, p.2 ∈ l := fun p hp => by rw [← k2]; exact List.mem_map.mpr ⟨p, hp, rfl⟩
      refine ⟨q, L, ks, rfl, hv, e3, fun p hp => ⟨seqT_mono ok1.same (k3 p hp), fun h2 => hne (by rw [← k2, List.length_map]; exact h2) _ (mem p hp)⟩, fun L' b pm pw hb => ?_⟩
      have rr : ∀ L1 : List (Addr × List Int), (∀ p ∈ L1, p ∈ ks) → RpL (kw X) H01 (L1.map fun q => V.ref q.1) ((L1.map (·.2)).map tupI) := by
        intro L1
        induction L1 with
        | nil => intro _; exact .nil
        | cons p L1 ih =>
          intro hp
          exact .cons (.tup (k3 p (hp p List.mem_cons_self)) (rpl_ints _)) (ih fun q hq => hp q (List.mem_cons_of_mem _ hq))
      exact (g.mono s1).lstM ok1 hb (rr L' fun p hp => pm.mem_iff.mp hp) (h1 _ (by rw [← k2]; exact pm.map _) (List.pairwise_map.mpr pw))
    · exact h1.elim
  · exact h1.elim
end
end DL
namespace DL
open PySem L2
/-! ### != of tuples whose items are lists that may change -/
end DL
namespace DL
open PySem L2
open PyProof.Rows
/-! ### d[k] = v, the keys texts or whole numbers -/
end DL
namespace DL
open PySem L2 PySem.Spec PyProof.Rows
/-! ### the law's own frame, where nothing is under way: repr of data -/
/-- a def's promise to a caller with nothing under way -/
structure RunG (P : Program) (w : World) (K : PySem.W.Frag) (mg : Str → Option Value) (base : Heap) (k : Nat) (f : Addr) (fd : FuncData) (ps : List Str) (sp : Sp) : Prop where
  go : ∀ (A : Around) (out : List Env) (z : Shared) (G : Hp) (ar : Args) (us : List Value) (vs : List V) (Q : VK) (E : XK), A.guards = some [] → Room k A → Env0 P w K mg base A out z G → BindsTo z fd ar (ps.zip us) → Vals vs us → sp vs G Q E → codeAny (model P w) A (.call (.ref f) ar) (CR (L2.CX P w) out P w G z Q E) z
section
variable {P : Program} {w : World} {K : PySem.W.Frag} {mg : Str → Option Value} {base : Heap}
theorem runG_of {x qual : Str} {st : Stmt} {f : Addr} {fd : FuncData} {N ps : List Str} {k : Nat} {sp : Sp} (F : Fun K x qual st f fd) (S : FnScope N ps (defScope st)) (ln : ∀ vs G Q E, sp vs G Q E → vs.length = ps.length)
    (hb : ∀ (cdv : Value) (A : Around) (out : List Env) (z : Shared) (G : Hp) (vs : List V) (Q : VK) (E : XK), A.guards = some [] → Room k (A.deeper (envOfC qual (defScope st) z.heap.objs.size f cdv)) → sp vs G Q E →
      ∃ t, PSs (cxOf (L2.CX P w) P w K mg base N qual (defScope st) f cdv A out z G E) (defBody st) t ∧ t { nx := fun _ G' => Q .non G', rt := Q } (start N vs) G) : RunG P w K mg base (k + 1) f fd ps sp := by
  obtain ⟨oc, od, kV, doc, pm, an, cdv, ct, osl, rfl, lk, hcd⟩ := F.ex
  constructor
  intro A out z G ar us vs Q E hg hr e0 bd rv hsp
  have hlen := ln _ _ _ _ hsp
  have inK : K.In z.heap := e0.mod.kin.keeps fun p u e => (e0.bs p u e).1
  have nolim : z.heap.NoLimit := e0.mod.nolimit.keeps fun p u e => (e0.bs p u e).1
  have kinds : ∀ y ∈ ps.zip us, (defScope st).names.lookup y.1 = some .local ∨ ((defScope st).names.lookup y.1 = some .cell ∧ ((cellsFrom (z.heap.objs.size + 1) (defScope st).names []).lookup y.1).isSome = true) := by
    rintro ⟨n, v⟩ hy
    exact (S.par n (List.of_mem_zip hy).1).elim .inl fun q => .inr ⟨q, PySem.W.cellsFrom_some _ _ _ (.inl q)⟩
  apply codeAny_call_function hr.depth (inK _ _ lk) rfl S.co S.gen rfl (PySem.W.codeRec_of inK hcd) (bd _ _ _ _ ?_)
  apply wpAny_newFunctionEnv_cells S.kind kinds
  intro env he z1 ic
  subst he
  refine And.intro (nolim.keeps ic.toInCall.keep) (codeAny_func ?_)
  obtain ⟨t, ht, hq⟩ := hb cdv A out z G vs Q E hg (hr.deeper _) hsp
  have I0 : Inv (cxOf (L2.CX P w) P w K mg base N qual (defScope st) f cdv A out z G E) [] (start N vs) G z1 := inv_start S hr.hd e0 hlen rv ic
  have stop : ∀ {σ' : L2.St} {G' : Hp} {v : V} {u : Value} {z' : Shared}, Inv (cxOf (L2.CX P w) P w K mg base N qual (defScope st) f cdv A out z G E) [] σ' G' z' → RelV v u → Q v G' → CE out P w G z Q u z' := by
    intro σ' G' v u z' J rv' q
    exact ⟨v, G', J.os, J.bare, J.base, J.hok, rv', q⟩
  refine wpAny_mono (ht.run [] z1 (start N vs) G _ I0 hq) (fun fl z' hs => ?_) fun e z' hs => hs
  match fl, hs with
  | .ret u, ⟨v, σ', G', J, rv', q⟩ => exact stop J rv' q
  | .next, ⟨σ', G', J, q⟩ => exact stop (v := V.non) (u := Value.none) J rfl q
  | .brk, ⟨_, _, _, q⟩ => exact q.elim
  | .cont, ⟨_, _, _, q⟩ => exact q.elim
/-- the law's def, seen from the top -/
structure LawG (P : Program) (w : World) (K : PySem.W.Frag) (mg : Str → Option Value) (base : Heap) (k : Nat) (st : Stmt) (x : Str) : Prop where
  ex : ∃ f fd, mg "law" = some (.ref f) ∧ Fun K "law" "law" st f fd ∧ RunG P w K mg base k f fd [x] (lP ⟨K, w⟩ spLaw)
theorem lawG_ok {st : Stmt} {N : List Str} {x : Str} {k : Nat} {r : DS} (G : FunAt K mg "law" "law" st) (S : FnScope N [x] (defScope st)) (hlen : ∀ ds m Q PX, spLaw ds m Q PX → ds.length = [x].length)
    (hd : ∀ (f : Addr) (cdv : Value) (A : Around) (out : List Env) (z : Shared) (H : Hp) (E : XK), A.guards = some [] → Room k (A.deeper (envOfC "law" (defScope st) z.heap.objs.size f cdv)) →
      PSs (cxOf (L2.CX P w) P w K mg base N "law" (defScope st) f cdv A out z H E) (defBody st) (lS ⟨K, w⟩ (fun c d _ H => E c d H) r))
    (hp : ∀ ds m Q PX, spLaw ds m Q PX → r (dEnds Q PX) (dstart N ds) m) : LawG P w K mg base (k + 1) st x := by
  obtain ⟨f, fd, e, G⟩ := G
  refine ⟨f, fd, e, G, runG_of G S (fun vs H Q E h => ?_) fun cdv A out z H vs Q E hg hr h => ⟨_, hd f cdv A out z H E hg hr, ?_⟩⟩
  · obtain ⟨F, H0, m, ds, Q', PX, ok, rl, h, _⟩ := h
    exact rl.length.trans (hlen _ _ _ _ h)
  · obtain ⟨F, H0, m, ds, Q', PX, ok, rl, h, g, gx⟩ := h
    exact ⟨F, H0, m, _, _, ok, rps_start rl, hp ds m Q' PX h, ⟨fun σ' H' H0' m' δ' s ok' _ z => g _ _ _ _ _ s ok' .non z, g, fun _ _ _ _ _ _ _ _ z => z.elim, fun _ _ _ _ _ _ _ _ z => z.elim, fun c xd σ' H' H0' m' fs δ' s ok' _ x z => gx c xd H' H0' m' fs s ok' x z⟩⟩
end
theorem law_mkG {P : Program} {w : World} {K : PySem.W.Frag} {mg : Str → Option Value} {k : Nat} {x : Str} {st : Stmt} {fa : Addr} (B : BindAll "law" "law" st [x]) (FA : FunAt K mg "law" "law" st) (hfa : mg "law" = some (.ref fa))
    (G : ∀ base : Heap, K.In base → base.Ns mainGlobals mg → LawG P w K mg base k st x) :
    ∃ fd : FuncData, (∀ (z : Shared) (u : Value), BindsTo z fd ⟨[u], []⟩ [(x, u)]) ∧ ∀ base : Heap, K.In base → base.Ns mainGlobals mg → RunG P w K mg base k fa fd [x] (lP ⟨K, w⟩ spLaw) := by
  obtain ⟨f0, fd0, e0, F0⟩ := FA
  rw [hfa] at e0
  cases e0
  obtain ⟨oc, od, kV, doc, pm, an, cdv, ct, osl, rfl, lk, hcd⟩ := id F0.ex
  refine ⟨_, fun s u => BindsTo.of_eq (B kV doc pm an cdv ct [u] rfl), fun base hK hN => ?_⟩
  obtain ⟨f, fd, e, G1, G2⟩ := (G base hK hN).ex
  rw [hfa] at e
  cases e
  obtain ⟨oc', od', kV', doc', pm', an', cdv', ct', osl', e', lk', hcd'⟩ := id G1.ex
  rw [lk] at lk'
  cases lk'
  exact G2
/-- the law called from the top -/
theorem law_callG {P : Program} {w : World} {K : PySem.W.Frag} {mg mb : Str → Option Value} {k : Nat} {fa a : Addr} {fd : FuncData} {x : Str} {sp : Sp} {z : Shared} {vs : List Value} {ns : List Int}
    (KX : K.In z.heap) (hns : z.heap.Ns mainGlobals mg) (hb : z.heap.Ns builtinsNs mb) (hbb : ∀ x : Str, x ≠ "__name__" → mb x = bootBuiltins x) (hlim : z.heap.NoLimit) (hgen : z.gens = #[])
    (ha : z.heap.get? a = some { cls := .type "list", data := .seq vs.toArray }) (hi : IntsAre vs ns) (hl : ns.length ≤ sizeLine) (hr : Room k callerA)
    (F : ∀ base : Heap, K.In base → base.Ns mainGlobals mg → RunG P w K mg base k fa fd [x] sp) (bd : ∀ (z : Shared) (u : Value), BindsTo z fd ⟨[u], []⟩ [(x, u)])
    (hsp : ∀ G : Hp, Only G → SqL K G a (ns.map V.int) → sp [.ref a] G (fun v _ => v = .bl true) fun _ _ _ => False)
    (hCX : ∀ G e s', L2.CX P w [] G z (fun _ _ _ => False) e s' → False) :
    codeAny (model P w) callerA (.call (.ref fa) ⟨[.ref a], []⟩) (fun r s' => r = .ok (.ret (.bool true)) ∧ OldK z.heap s'.heap ∧ s'.os = z.os ∧ AllBare s'.gens) z := by
  have rv := vals_ints hi
  have main : ∀ G : Hp, Only G → SqL K G a (ns.map V.int) → HOk P w G z.heap → (∀ b, G b ≠ none → b = a) → (G a ≠ none → K.lookup a = none) →
      codeAny (model P w) callerA (.call (.ref fa) ⟨[.ref a], []⟩) (fun r s' => r = .ok (.ret (.bool true)) ∧ OldK z.heap s'.heap ∧ s'.os = z.os ∧ AllBare s'.gens) z := by
    intro G only sq hok alone apart
    -- what is tracked is the script, no dict and nothing of the module's
    have noDict : ∀ {b : Addr} {o : Obj} {es : Array DictEntry} {ep : Nat}, z.heap.get? b = some o → o.data = .dict es ep → G b = none := by
      intro b o es ep e d
      by_cases q : G b = none
      · exact q
      · obtain rfl := alone b q
        rw [ha] at e
        cases e
        exact absurd (show Data.seq vs.toArray _ = Data.dict es ep from d) (by intro y; cases y)
    have ns' : ∀ {b : Addr} {m : Str → Option Value}, z.heap.Ns b m → (hidT z.heap G).Ns b m := by
      rintro b m ⟨o, es, ep, e, d, r⟩
      exact ⟨o, es, ep, hidT_get e (noDict e d), d, r⟩
    have inK : K.In (hidT z.heap G) := by
      intro b o e
      refine hidT_get (KX b o e) ?_
      by_cases q : G b = none
      · exact q
      · obtain rfl := alone b q
        rw [apart q] at e
        cases e
    obtain ⟨mc, c1, c2⟩ := hlim
    have env : Env0 P w K mg (hidT z.heap G) callerA [] z G := ⟨rfl, ⟨inK, ns' hns, ⟨mb, ns' hb, hbb⟩, ⟨mc, ns' c1, c2⟩⟩, fun _ _ e => of_hidT e, Nat.le_of_eq (hidT_size _ _), trivial, (fun b y => by cases y), hok, .of_eq hgen⟩
    refine codeAny_mono ((F _ inK (ns' hns)).go callerA [] z G ⟨[.ref a], []⟩ [.ref a] [.ref a] _ _ rfl hr env (bd z (.ref a)) (.cons rfl .nil) (hsp G only sq)) fun r s' h => ?_
    match r, h with
    | .error e, h => exact (hCX G e s' h).elim
    | .ok .next, h => exact False.elim h
    | .ok .brk, h => exact False.elim h
    | .ok .cont, h => exact False.elim h
    | .ok (.ret u), h =>
      obtain ⟨v, G', os, bare, un, hok', rr, q⟩ := h
      obtain rfl : v = V.bl true := q
      obtain rfl : u = Value.bool true := rr
      refine ⟨rfl, OldK.of_keep fun b o e => ?_, os, bare⟩
      cases y : G b with
      | none => exact un.keep b o e y (fun t => absurd (show b ∈ ([] : List Addr) from t) (by simp)) (by simp)
      | some u =>
        rcases only b with t | ⟨ob, xs, t⟩
        · rw [y] at t; cases t
        · have t2 := un.frzs b ob _ t
          obtain ⟨e1, _⟩ := hok b _ t
          obtain ⟨e2, _⟩ := hok' b _ t2
          rw [e] at e1
          cases e1
          exact e2
  have lenV := hi.length
  cases hk : K.lookup a with
  | some o =>
    have e := KX a o hk
    rw [ha] at e
    cases e
    exact main (fun _ => none) (fun _ => .inl rfl) (.inr ⟨_, vs.toArray, _, hk, rfl, rfl, rfl, by rw [List.size_toArray, lenV]; exact hl, by simpa using rv⟩) (fun b u y => by cases (show (none : Option HO) = some u from y)) (fun b y => absurd rfl y) fun y => absurd rfl y
  | none =>
    have at_ : ∀ b, (if b = a then some (HO.frz { cls := .type "list", data := .seq vs.toArray } (.lst (ns.map V.int))) else none) ≠ none → b = a := fun b y => by
      by_cases t : b = a
      · exact t
      · exact absurd (if_neg t) y
    refine main (fun b => if b = a then some (.frz { cls := .type "list", data := .seq vs.toArray } (.lst (ns.map V.int))) else none) (fun b => ?_) (.inl (.inr ⟨{ cls := .type "list", data := .seq vs.toArray }, if_pos rfl⟩)) (fun b u y => ?_) at_ fun _ => hk
    · by_cases t : b = a
      · exact .inr ⟨_, _, if_pos t⟩
      · exact .inl (if_neg t)
    · obtain rfl := at_ b (fun t => by rw [show (if b = a then some (HO.frz { cls := .type "list", data := .seq vs.toArray } (.lst (ns.map V.int))) else none) = some u from y] at t; cases t)
      cases (if_pos rfl).symm.trans y
      exact ⟨ha, by rw [List.length_map]; exact hl, vs, _, rv, ha⟩
theorem walk_ofG {l : PySem.W.OpenLaw} {n k : Nat} {q : Program} {loose : List Str} {XP : (Str → Option Value) → Heap → Prop} {YP : World → Heap → Prop} {d : DefRec} {K : Params → PySem.W.Frag} {sp : World → Sp} {x : Str}
    (hn : l.most = some n) (hn2 : n ≤ sizeLine) (hdf : d.params.defaults = []) (hr : Room k callerA) (hY : ∀ (w : World) (h : Heap), YP w h → (K w.params).In h)
    (F : ∀ (w : World) (mg : Str → Option Value) (fa : Addr) (h : Heap), (K w.params).In h → h.Ns mainGlobals mg → mg d.name = some (.ref fa) → ∃ fd : FuncData, (∀ (z : Shared) (u : Value), BindsTo z fd ⟨[u], []⟩ [(x, u)]) ∧ ∀ base : Heap, (K w.params).In base → base.Ns mainGlobals mg → RunG l.prog w (K w.params) mg base k fa fd [x] (sp w))
    (hsp : ∀ (w : World) (G : Hp) (a : Addr) (ns : List Int), ns.length ≤ n → Only G → SqL (K w.params) G a (ns.map V.int) → sp w [.ref a] G (fun v _ => v = .bl true) fun _ _ _ => False)
    (hCX : ∀ (w : World) (G : Hp) (z : Shared) (e : Value) (s' : Shared), L2.CX l.prog w [] G z (fun _ _ _ => False) e s' → False) :
    PySem.W.WalkO q loose XP YP l.row.toRowW d [] (fun f vs => PySem.call f vs) := by
  refine Att.attach_call hn hdf fun w s₀ s₁ mg mb fa o pm cd doc a vs ns G Y ho hd hcd hmg hobj hints hlen hg => ?_
  obtain ⟨fd, bd, hF⟩ := F w mg fa _ (hY w _ Y) G.T.g hmg
  exact law_callG (hY w _ Y) G.T.g G.T.b G.T.builtins G.T.nolimit hg hobj hints (Nat.le_trans hlen hn2) hr hF bd (fun H hO hS => hsp w H a ns hlen hO hS) fun H e s' => hCX w H s₁ e s'
end DL
namespace DL
open PySem L2
local macro_rules | `(tactic| walk_at "dl") => `(tactic| ((conv => whnf); try dsimp only))
/-! ### looks -/
inductive Lk where
  | any | is (n : Int) | frm (n : Int) | upto (n : Int) | inn (a b : Int) | one (ns : List Int) | but (l : Lk)
def Lk.d : Lk → D
  | .any => .tup [.str "any"]
  | .is n => .tup [.str "is", .int n]
  | .frm n => .tup [.str "from", .int n]
  | .upto n => .tup [.str "to", .int n]
  | .inn a b => .tup [.str "in", .int a, .int b]
  | .one ns => .tup [.str "one", .tup (ns.map .int)]
  | .but l => .tup [.str "but", l.d]
def Lk.dep : Lk → Nat
  | .but l => l.dep + 1
  | _ => 1
def Lk.nums : Lk → List Int
  | .any => []
  | .is n => [n]
  | .frm n => [n]
  | .upto n => [n]
  | .inn a b => [a, b]
  | .one ns => ns
  | .but l => l.nums
def Lk.few : Lk → Prop
  | .one ns => ns.length ≤ 4
  | .but l => l.few
  | _ => True
/-- numbers of a fit size -/
def Nm (n : Int) : Prop := n.natAbs < 2 ^ 1900
structure Lk.Ok (l : Lk) : Prop where
  nm : ∀ n ∈ l.nums, Nm n
  few : l.few
  dp : l.dep ≤ 2
theorem Lk.Ok.but {l : Lk} (ok : (Lk.but l).Ok) : l.Ok := ⟨ok.nm, ok.few, Nat.le_trans (Nat.le_succ _) ok.dp⟩
def Lk.text : Lk → Str
  | .any => "*"
  | .is n => dig n
  | .frm n => dig n ++ (".." : Str)
  | .upto n => (".." : Str) ++ dig n
  | .inn a b => dig a ++ (".." : Str) ++ dig b
  | .one ns => ("{" : Str) ++ Txt.join "," (ns.map dig) ++ ("}" : Str)
  | .but l => ("!" : Str) ++ l.text
theorem Nm.len {n : Int} (h : Nm n) : (dig n).length ≤ 1901 := PySem.int_text_length_le (k := 1900) (by decide) (PySem.Flt.log2_lt_of (by decide) h) |> fun h => by
  have e : (dig n).length = (toString n).length := by
    show (Str.ofString (toString n)).cps.size = _
    rw [← Array.length_toList, PyProof.Rows.signs_ofString, List.length_map]
    rfl
  rw [e]; exact h
/-! ### two looks written alike are alike -/
/-! ### looks as data -/
theorem pur_ints (ns : List Int) : purL (ns.map .int) = true := purL_all fun d hd => by obtain ⟨n, _, rfl⟩ := List.mem_map.mp hd; rw [pur]
theorem fit_txt (s : String) (n : Nat) : fitD n (.str (Str.ofString s)) := by
  have h : ∀ c ∈ (Str.ofString s).cps.toList, c < 1114112 := fun c hc => by
    rw [PyProof.Rows.signs_ofString] at hc
    obtain ⟨ch, _, rfl⟩ := List.mem_map.mp hc
    have := ch.valid
    simp only [UInt32.isValidChar, Nat.isValidChar] at this
    show ch.val.toNat < 1114112
    omega
  cases n <;> exact h
theorem fit_int {n : Nat} {i : Int} : fitD n (.int i) := by cases n <;> trivial
theorem map_ints_inj : ∀ {ns ks : List Int}, ns.map D.int = ks.map D.int → ns = ks
  | [], [], _ => rfl
  | [], _ :: _, h => by simp at h
  | _ :: _, [], h => by simp at h
  | n :: ns, k :: ks, h => by
    simp only [List.map_cons, List.cons.injEq, D.int.injEq] at h
    rw [h.1, map_ints_inj h.2]
end DL
namespace DL
open PySem L2
local macro_rules | `(tactic| walk_at "dl") => `(tactic| ((conv => whnf); try dsimp only))
abbrev sp__law_cell_at : SpD := spCellAt
abbrev rd__law_cell_at : DS := rdCellAt
theorem ln__law_cell_at : ∀ ds m Q PX, sp__law_cell_at ds m Q PX → ds.length = 2 := by rintro ds m Q PX ⟨d, k, rfl, _⟩; rfl
theorem pu__law_cell_at : ∀ ds m Q PX, sp__law_cell_at ds m Q PX → rd__law_cell_at (dEnds Q PX) (dstart ["_law_script", "_law_k"] ds) m := cellAt_pure _ _
abbrev sp__law_well : SpD := spWellK
abbrev rd__law_well : DS := rdWell
theorem ln__law_well : ∀ ds m Q PX, sp__law_well ds m Q PX → ds.length = 1 := by rintro ds m Q PX ⟨d, rfl, _⟩; rfl
theorem pu__law_well : ∀ ds m Q PX, sp__law_well ds m Q PX → rd__law_well (dEnds Q PX) (dstart ["_law_cell"] ds) m := fun ds m Q PX h => well_pure _ ds m Q PX (wellK_well h)
abbrev sp__law_draw : SpD := spDrawK
abbrev rd__law_draw : DS := rdDraw
theorem ln__law_draw : ∀ ds m Q PX, sp__law_draw ds m Q PX → ds.length = 2 := by rintro ds m Q PX ⟨d, k, rfl, _⟩; rfl
theorem pu__law_draw : ∀ ds m Q PX, sp__law_draw ds m Q PX → rd__law_draw (dEnds Q PX) (dstart ["_law_well_here", "_law_many", "_law_number", "_law_digit"] ds) m := fun ds m Q PX h => draw_pure _ _ _ _ ds m Q PX (drawK_draw h)
/-- one draw of a number below many, at its place in a reading -/
theorem Dr.num {w : Addr} {n : Nat} {m : Mu} {P P2 : DK} {many : Int} {R : D → Prop} (h : Dr w n R m P) (hn : 1 ≤ n) (h0 : 0 < many) (h1 : many.natAbs < 2 ^ 200)
    (h2 : ∀ (r : Int) m', 0 ≤ r → r < many → Kp [w] m m' → Dr w (n - 1) R m' P → P2 (.int r) m') : spDrawK [.adr w, .int many] m P2 fun _ _ _ => False := by
  obtain ⟨k, wl, hk, h⟩ := h
  refine ⟨w, many, rfl, h0, h1, k, wl, by omega, fun d m' hr kp wl' => ?_⟩
  obtain ⟨r, r0, r1, rfl⟩ := hr
  exact h2 r m' r0 r1 kp ⟨k + 1, wl', by omega, fun d2 m2 hd kp2 w2 => h d2 m2 hd (kp.trans kp2) (by rw [show k + 1 + (n - 1) = k + n by omega] at w2; exact w2)⟩
theorem Dr.sub {w : Addr} {n j : Nat} {m : Mu} {P P2 : DK} {R R2 : D → Prop} (h : Dr w n R m P) (hn : j ≤ n) (h2 : ∀ d m', R2 d → Kp [w] m m' → Dr w (n - j) R m' P → P2 d m') : Dr w j R2 m P2 := by
  obtain ⟨k, wl, hk, h⟩ := h
  refine ⟨k, wl, by omega, fun d m' hr kp wl' => h2 d m' hr kp ⟨k + j, wl', by omega, fun d2 m2 hd kp2 w2 => h d2 m2 hd (kp.trans kp2) (by rw [show k + j + (n - j) = k + n by omega] at w2; exact w2)⟩⟩
theorem Dr.done {w : Addr} {n : Nat} {m : Mu} {P : DK} {R : D → Prop} {d : D} (h : Dr w n R m P) (hd : R d) : P d m := by
  obtain ⟨k, wl, hk, h⟩ := h
  exact h d m hd (Kp.refl _ _) (wl.mono (by omega))
theorem Dr.imp {w : Addr} {n : Nat} {m : Mu} {P P2 : DK} {R R2 : D → Prop} (h : Dr w n R m P) (h1 : ∀ d, R2 d → R d) (h2 : ∀ d m', Kp [w] m m' → R2 d → P d m' → P2 d m') : Dr w n R2 m P2 := by
  obtain ⟨k, wl, hk, h⟩ := h
  exact ⟨k, wl, hk, fun d m' hd kp w' => h2 d m' kp hd (h d m' (h1 d hd) kp w')⟩
/-- something else of ours is new -/
theorem Dr.new {w : Addr} {n : Nat} {m m1 : Mu} {P : DK} {R : D → Prop} (h : Dr w n R m P) (kp : Kp [] m m1) : Dr w n R m1 P := by
  obtain ⟨k, wl, hk, h⟩ := h
  exact ⟨k, wl.keep kp (by simp), hk, fun d m' hd kp2 w' => h d m' hd ((kp.more (by simp)).trans kp2) w'⟩
/-- items that can be told by their place -/
def sqD : D → Option (List D)
  | .lst xs => some xs
  | .tup xs => some xs
  | _ => none
/-- .. of ours, too -/
def Sq (m : Mu) (w : Addr) (X : D) (xs : List D) : Prop := sqD X = some xs ∨ ∃ q, X = .adr q ∧ q ≠ w ∧ m q = some (.lst xs)
def sp__law_one : SpD := fun ds m P _ => ∃ (w : Addr) (X : D) (xs : List D), ds = [.adr w, X] ∧ Sq m w X xs ∧ 0 < xs.length ∧ xs.length ≤ 1000000 ∧ Dr w 1 (fun d => d ∈ xs) m P
def rd__law_one : DS :=
    sRet (rOp oIx (rV 1) (rCall sp__law_draw [] (rCons (rV 0) (rCons (rCB cLen (rCons (rV 1) (rNil))) (rNil)))))
theorem ln__law_one : ∀ ds m Q PX, sp__law_one ds m Q PX → ds.length = 2 := by rintro ds m Q PX ⟨d, k, _, rfl, _⟩; rfl
theorem pu__law_one : ∀ ds m Q PX, sp__law_one ds m Q PX → rd__law_one (dEnds Q PX) (dstart ["_law_well_here", "_law_some"] ds) m := by
  rintro ds m Q PX ⟨w, X, xs, rfl, hX, h0, h1, h⟩
  have pw : (2 : Nat) ^ 200 > 1000000 := by decide
  have fin : spDrawK [.adr w, .int (xs.length : Nat)] m (fun y m2 => oIx X y m2 Q) PX := by
    obtain ⟨k, wl, hk, h⟩ := h
    refine ⟨w, _, rfl, by omega, by omega, k, wl, hk, fun d m' hd kp w' => ?_⟩
    obtain ⟨r, r0, r1, rfl⟩ := hd
    obtain ⟨x, e1, e2⟩ := atI_some r0 r1
    have hq := h x m' (List.mem_of_getElem? e2) kp w'
    rcases hX with hX | ⟨q, rfl, hw, hX⟩
    · cases X with
      | lst ys => cases hX; show (match atI xs r with | some d => Q d m' | none => False); rw [e1]; exact hq
      | tup ys => cases hX; show (match atI xs r with | some d => Q d m' | none => False); rw [e1]; exact hq
      | _ => cases hX
    · show (match asL m' (.adr q) with | some ds => _ | none => False)
      rw [asL_adr (kp q _ (by simpa using hw) hX)]
      show (match atI xs r with | some d => Q d m' | none => False)
      rw [e1]; exact hq
  rcases hX with hX | ⟨q, rfl, hw, hX⟩
  · cases X with
    | lst ys => cases hX; exact fin
    | tup ys => cases hX; exact fin
    | _ => cases hX
  · walk_at "dl"
    rw [asL_adr hX]
    exact fin
/-- whole numbers below 2 ^ b -/
def Bd (b : Nat) (n : Int) : Prop := n.natAbs < 2 ^ b
theorem Bd.nm {b : Nat} {n : Int} (h : Bd b n) (hb : b ≤ 1900 := by decide) : Nm n := Nat.lt_of_lt_of_le h (Nat.pow_le_pow_right (by decide) hb)
theorem Bd.mono {b c : Nat} {n : Int} (h : Bd b n) (hb : b ≤ c := by omega) : Bd c n := Nat.lt_of_lt_of_le h (Nat.pow_le_pow_right (by decide) hb)
theorem Bd.add {b : Nat} {n k : Int} (h : Bd b n) (hk : Bd b k) : Bd (b + 1) (n + k) := by
  unfold Bd at *
  rw [Nat.pow_succ]
  omega
def isInts (b : Nat) (k : Nat) (d : D) : Prop := ∃ ns : List Int, d = .lst (ns.map .int) ∧ ns.length = k ∧ ∀ n ∈ ns, Bd b n
def sp__law_mids : SpD := fun ds m P _ => ∃ w : Addr, ds = [.adr w] ∧ Dr w 10 (isInts 140 3) m P
def rd__law_mids : DS :=
    sSeq (sSet 1 (rOp oIx (rLst (rCons (rOp oSub (rCall sp__law_draw [] (rCons (rV 0) (rCons (rC (.int 9)) (rNil)))) (rC (.int 4))) (rCons (rOp oSub (rCall sp__law_draw [] (rCons (rV 0) (rCons (rOp oMul (rC (.int 2)) (rOp oPow (rC (.int 10)) (rC (.int 40)))) (rNil)))) (rOp oPow (rC (.int 10)) (rC (.int 40)))) (rNil)))) (rCall sp__law_draw [] (rCons (rV 0) (rCons (rC (.int 2)) (rNil))))))
    (sRet (rLc (iRange (rCons (rC (.int 3)) (rNil))) [2] (gN 2) (qYes) (rOp oAdd (rV 1) (rCall sp__law_draw [] (rCons (rV 0) (rCons (rC (.int 6)) (rNil)))))))
theorem ln__law_mids : ∀ ds m Q PX, sp__law_mids ds m Q PX → ds.length = 1 := by rintro ds m Q PX ⟨d, rfl, _⟩; rfl
theorem pu__law_mids : ∀ ds m Q PX, sp__law_mids ds m Q PX → rd__law_mids (dEnds Q PX) (dstart ["_law_well_here", "_law_base", "_law_k"] ds) m := by
  rintro ds m Q PX ⟨w, rfl, k, wl, hk, h⟩
  have big : (10 : Int) ^ Int.toNat 40 = 10000000000000000000000000000000000000000 := by decide
  have pw : (2 : Nat) ^ 139 > 100000000000000000000000000000000000000000 := by decide
  walk_at "dl"
  refine ⟨w, 9, rfl, by decide, by decide, k, wl, by omega, fun d m1 hd kp1 w1 => ?_⟩
  obtain ⟨r, r0, r1, rfl⟩ := hd
  walk_at "dl"
  refine ⟨⟨by decide, by decide, by decide⟩, ?_⟩
  walk_at "dl"
  refine ⟨.inl ⟨by decide, by decide⟩, ?_⟩
  walk_at "dl"
  refine ⟨w, 2 * 10 ^ Int.toNat 40, rfl, by decide, by decide, _, w1, by omega, fun d m2 hd kp2 w2 => ?_⟩
  obtain ⟨s, s0, s1, rfl⟩ := hd
  rw [big] at s1
  walk_at "dl"
  refine ⟨⟨by decide, by decide, by decide⟩, ?_⟩
  walk_at "dl"
  refine ⟨len_line (by show 2 ≤ _; decide), ?_⟩
  walk_at "dl"
  refine ⟨w, 2, rfl, by decide, by decide, _, w2, by omega, fun d m3 hd kp3 w3 => ?_⟩
  obtain ⟨u, u0, u1, rfl⟩ := hd
  have fin : ∀ z : Int, Bd 139 z → sRet (rLc (iRange (rCons (rC (.int 3)) (rNil))) [2] (gN 2) (qYes) (rOp oAdd (rV 1) (rCall sp__law_draw [] (rCons (rV 0) (rCons (rC (.int 6)) (rNil)))))) (dEnds Q PX) [some (.adr w), some (.int z), none] m3 := by
    intro z hz
    walk_at "dl"
    refine ⟨⟨by decide, by decide⟩, ?_⟩
    refine comp_inv (fun i acc m' => Kp [w] m3 m' ∧ Wl m' w (k + 1 + 1 + 1 + i) ∧ ∃ ns : List Int, acc = ns.map .int ∧ ns.length = i ∧ ∀ n ∈ ns, Bd 140 n) (fun i acc m' hh => ?_) (by show 3 ≤ _; decide) (fun i d acc m' e hh => ?_) (fun acc m' hh => ?_) ⟨Kp.refl _ _, w3, [], rfl, rfl, fun _ z => by cases z⟩
    · obtain ⟨_, _, ns, rfl, hl, _⟩ := hh
      rw [List.length_map, hl]; exact Nat.le_refl _
    · obtain ⟨kp4, w4, ns, rfl, hl, hb⟩ := hh
      have hi : i < 3 := (List.getElem?_eq_some_iff.mp e).1
      refine ⟨trivial, fun Kt Kf k1 _ => ?_⟩
      walk_at "dl"
      refine ⟨w, 6, rfl, by decide, by decide, _, w4, by omega, fun d m5 hd kp5 w5 => ?_⟩
      obtain ⟨v, v0, v1, rfl⟩ := hd
      refine k1 _ _ ⟨kp4.trans kp5, w5, ns ++ [z + v], by simp, by simp [hl], fun n hn => ?_⟩
      rcases List.mem_append.mp hn with hn | hn
      · exact hb n hn
      · rw [List.mem_singleton.mp hn]
        exact Bd.add hz (by unfold Bd; omega)
    · obtain ⟨kp4, w4, ns, rfl, hl, hb⟩ := hh
      have hl3 : ns.length = 3 := hl
      have w5 : Wl m' w (k + 1 + 1 + 1 + 3) := w4
      exact ⟨trivial, h _ _ ⟨ns, rfl, hl3, hb⟩ (((kp1.trans kp2).trans kp3).trans kp4) (w5.mono (by omega))⟩
  have hu : u = 0 ∨ u = 1 := by omega
  rcases hu with rfl | rfl
  · exact fin _ (by unfold Bd; omega)
  · refine fin _ ?_
    rw [big]
    unfold Bd; omega
def sp__law_near : SpD := fun ds m P _ => ∃ (w : Addr) (ns : List Int) (b : Nat), ds = [.adr w, .lst (ns.map .int)] ∧ 3 ≤ b ∧ 0 < ns.length ∧ ns.length ≤ 1000000 ∧ (∀ n ∈ ns, Bd b n) ∧ Dr w 2 (fun d => ∃ n : Int, Bd (b + 1) n ∧ d = .int n) m P
def rd__law_near : DS :=
    sRet (rOp oSub (rOp oAdd (rCall sp__law_one [] (rCons (rV 0) (rCons (rV 1) (rNil)))) (rCall sp__law_draw [] (rCons (rV 0) (rCons (rC (.int 3)) (rNil))))) (rC (.int 1)))
theorem ln__law_near : ∀ ds m Q PX, sp__law_near ds m Q PX → ds.length = 2 := by rintro ds m Q PX ⟨d, _, _, rfl, _⟩; rfl
theorem pu__law_near : ∀ ds m Q PX, sp__law_near ds m Q PX → rd__law_near (dEnds Q PX) (dstart ["_law_well_here", "_law_mids_here"] ds) m := by
  rintro ds m Q PX ⟨w, ns, b, rfl, hb3, h0, h1, hb, k, wl, hk, h⟩
  have p3 : (2 : Nat) ^ 3 ≤ 2 ^ b := Nat.pow_le_pow_right (by decide) hb3
  walk_at "dl"
  refine ⟨w, _, _, rfl, .inl rfl, by rw [List.length_map]; exact h0, by rw [List.length_map]; exact h1, k, wl, by omega, fun d m1 hd kp1 w1 => ?_⟩
  obtain ⟨n, hn, rfl⟩ := List.mem_map.mp hd
  walk_at "dl"
  refine ⟨w, 3, rfl, by decide, by decide, _, w1, by omega, fun d m2 hd kp2 w2 => ?_⟩
  obtain ⟨r, r0, r1, rfl⟩ := hd
  exact h _ _ ⟨n + r - 1, by have := hb n hn; unfold Bd at *; rw [Nat.pow_succ]; omega, rfl⟩ (kp1.trans kp2) w2
/-! ### each once -/
def unl (xs : List D) : List D := xs.foldl (fun acc x => if (acc.any fun z => deq z x) = true then acc else acc ++ [x]) []
theorem unl_snoc (xs : List D) (x : D) : unl (xs ++ [x]) = if ((unl xs).any fun z => deq z x) = true then unl xs else unl xs ++ [x] := by
  unfold unl; rw [List.foldl_append]; rfl
theorem snoc_ind {α : Type} {p : List α → Prop} (h0 : p []) (h1 : ∀ xs x, p xs → p (xs ++ [x])) (xs : List α) : p xs := by
  have : ∀ n (xs : List α), xs.length = n → p xs := by
    intro n
    induction n with
    | zero => intro xs e; rw [List.eq_nil_of_length_eq_zero e]; exact h0
    | succ n ih =>
      intro xs e
      have hne : xs ≠ [] := fun z => by rw [z] at e; cases e
      rw [← List.dropLast_concat_getLast hne]
      exact h1 _ _ (ih _ (by rw [List.length_dropLast, e]; rfl))
  exact this _ xs rfl
theorem any_deq {xs : List D} {x : D} (hx : pur x = true) (h : ∀ d ∈ xs, pur d = true) : (xs.any fun z => deq z x) = true ↔ x ∈ xs := by
  rw [List.any_eq_true]
  constructor
  · rintro ⟨z, hz, e⟩
    rw [← (deq_iff (h z hz) hx).mp e]; exact hz
  · intro hm
    exact ⟨x, hm, (deq_iff hx hx).mpr rfl⟩
theorem unl_facts : ∀ xs : List D, (∀ d ∈ xs, pur d = true) → (∀ d, d ∈ unl xs ↔ d ∈ xs) ∧ (unl xs).Nodup ∧ (unl xs).length ≤ xs.length := by
  intro xs
  induction xs using snoc_ind with
  | h0 => exact fun _ => ⟨fun d => Iff.rfl, List.nodup_nil, Nat.le_refl _⟩
  | h1 xs x ih =>
    intro h
    obtain ⟨a, b, c⟩ := ih fun d hd => h d (List.mem_append_left _ hd)
    have hx : pur x = true := h x (by simp)
    have hp : ∀ d ∈ unl xs, pur d = true := fun d hd => h d (List.mem_append_left _ ((a d).mp hd))
    rw [unl_snoc]
    by_cases e : ((unl xs).any fun z => deq z x) = true
    · rw [if_pos e]
      have hm := (any_deq hx hp).mp e
      refine ⟨fun d => ⟨fun z => List.mem_append_left _ ((a d).mp z), fun z => ?_⟩, b, by rw [List.length_append]; omega⟩
      rcases List.mem_append.mp z with z | z
      · exact (a d).mpr z
      · rw [List.mem_singleton.mp z]; exact hm
    · rw [if_neg e]
      have hm : x ∉ unl xs := fun z => e ((any_deq hx hp).mpr z)
      refine ⟨fun d => ?_, ?_, by rw [List.length_append, List.length_append]; exact Nat.add_le_add_right c 1⟩
      · rw [List.mem_append, List.mem_append, a d]
      · rw [List.nodup_append]
        refine ⟨b, by simp, fun p hp q hq => ?_⟩
        rw [List.mem_singleton.mp hq]
        exact fun z => hm (z ▸ hp)
def sp__law_unlike : SpD := fun ds m P _ => ∃ xs : List D, ds = [.lst xs] ∧ xs.length ≤ 1000000 ∧ (∀ d ∈ xs, pur d = true ∧ fitD 20 d) ∧ P (.lst (unl xs)) m
def rd__law_unlike : DS :=
    sRet (rLc (iEnumD (rCons (rV 0) (rNil))) [1, 2] (gT [1, 2]) (rTst (rOp (oInN true) (rV 2) (rSl (rV 0) rNoP (rPart (rV 1))))) (rV 2))
theorem ln__law_unlike : ∀ ds m Q PX, sp__law_unlike ds m Q PX → ds.length = 1 := by rintro ds m Q PX ⟨d, rfl, _⟩; rfl
theorem dat_pur {m : Mu} {d : D} (h : pur d = true) : dat m d = d := by
  cases d <;> first | rfl | (simp [pur] at h)
theorem cut_take (xs : List D) (i : Nat) : cutD xs none (some (i : Int)) = xs.take i := by
  unfold cutD
  rw [HT.sIx_nat, HT.sIx_none]
  simp only [List.drop_zero, Nat.sub_zero]
  by_cases h : i ≤ xs.length
  · rw [Nat.min_eq_left h]
  · rw [Nat.min_eq_right (by omega), List.take_of_length_le (Nat.le_refl _), List.take_of_length_le (by omega)]
theorem pu__law_unlike : ∀ ds m Q PX, sp__law_unlike ds m Q PX → rd__law_unlike (dEnds Q PX) (dstart ["_law_some", "_law_k", "_law_one_here"] ds) m := by
  rintro ds m Q PX ⟨xs, rfl, hl, hp, h⟩
  walk_at "dl"
  refine comp_inv (fun i acc m' => m' = m ∧ acc = unl (xs.take i)) (fun i acc m' hh => ?_) (by rw [enumD_length]; omega) (fun i d acc m' e hh => ?_) (fun acc m' hh => ?_) ⟨rfl, rfl⟩
  · rw [hh.2]
    refine Nat.le_trans (unl_facts _ fun d hd => (hp d (List.mem_of_mem_take hd)).1).2.2 ?_
    rw [List.length_take]; omega
  · obtain ⟨rfl, rfl⟩ := hh
    refine ⟨trivial, fun Kt Kf k1 k2 => ?_⟩
    rw [enumD_get] at e
    cases hx : xs[i]? with
    | none => rw [hx] at e; cases e
    | some x =>
      rw [hx] at e
      cases e
      have hm := List.mem_of_getElem? hx
      refine ⟨rfl, ?_⟩
      have e0 : ((0 + i : Nat) : Int) = (i : Int) := by simp
      have e2 : xs.take (i + 1) = xs.take i ++ [x] := by rw [List.take_succ, hx]; rfl
      have sub : ∀ d ∈ xs.take i, pur d = true := fun d hd => (hp d (List.mem_of_mem_take hd)).1
      obtain ⟨u1, u2, u3⟩ := unl_facts _ sub
      have hany : ((unl (xs.take i)).any fun z => deq z x) = ((xs.take i).any fun z => deq z x) := by
        rw [Bool.eq_iff_iff, any_deq (hp x hm).1 sub, any_deq (hp x hm).1 (fun d hd => sub d ((u1 d).mp hd)), u1 x]
      walk_at "dl"
      rw [e0, cut_take]
      refine ⟨.inr ⟨?_, ?_⟩, ?_⟩
      · rw [dat_pur (hp x hm).1]; exact shp_of (hp x hm).2
      · exact shp_of (n := 21) fun d hd => (hp d (List.mem_of_mem_take hd)).2
      · rw [dat_pur (hp x hm).1, ← hany]
        cases ha : (unl (xs.take i)).any fun z => deq z x with
        | true => exact k2 _ ⟨rfl, by rw [e2, unl_snoc, if_pos ha]⟩
        | false => exact k1 _ _ ⟨rfl, by rw [e2, unl_snoc, if_neg (by rw [ha]; exact Bool.false_ne_true)]⟩
  · obtain ⟨rfl, rfl⟩ := hh
    refine ⟨trivial, ?_⟩
    rw [enumD_length, List.take_length]
    exact h
/-- of whole numbers -/
theorem unl_ints (ns : List Int) : ∃ ks : List Int, unl (ns.map .int) = ks.map .int ∧ ks.length ≤ ns.length ∧ ks.Nodup ∧ ∀ k, k ∈ ks ↔ k ∈ ns := by
  have hp : ∀ d ∈ ns.map D.int, pur d = true := fun d hd => by obtain ⟨n, _, rfl⟩ := List.mem_map.mp hd; rw [pur]
  obtain ⟨a, b, c⟩ := unl_facts _ hp
  have ex : ∀ l : List D, (∀ d ∈ l, ∃ n : Int, d = .int n) → ∃ ks : List Int, l = ks.map .int := by
    intro l
    induction l with
    | nil => exact fun _ => ⟨[], rfl⟩
    | cons d l ih =>
      intro h
      obtain ⟨n, rfl⟩ := h d List.mem_cons_self
      obtain ⟨ks, rfl⟩ := ih fun e he => h e (List.mem_cons_of_mem _ he)
      exact ⟨n :: ks, rfl⟩
  obtain ⟨ks, e⟩ := ex (unl (ns.map .int)) fun d hd => by
    obtain ⟨n, _, rfl⟩ := List.mem_map.mp ((a d).mp hd); exact ⟨n, rfl⟩
  refine ⟨ks, e, ?_, ?_, fun k => ?_⟩
  · rw [e, List.length_map, List.length_map] at c; exact c
  · rw [e] at b
    exact (List.pairwise_map.mp b).imp fun h z => h (by rw [z])
  · have := a (.int k)
    rw [e] at this
    simpa using this
end DL
namespace DL
open PySem L2
local macro_rules | `(tactic| walk_at "dl") => `(tactic| ((conv => whnf); try dsimp only))
def Lk.uniq : Lk → Prop
  | .one ns => ns.Nodup
  | .but l => l.uniq
  | _ => True
structure Lk.Good (b : Nat) (l : Lk) : Prop where
  nm : ∀ n ∈ l.nums, Bd b n
  few : l.few
  dp : l.dep ≤ 2
  un : l.uniq
theorem Lk.Good.ok {b : Nat} {l : Lk} (h : l.Good b) (hb : b ≤ 1900 := by decide) : l.Ok := ⟨fun n hn => (h.nm n hn).nm hb, h.few, h.dp⟩
theorem Wl.some {m : Mu} {w : Addr} {k : Nat} (h : Wl m w k) : m w ≠ none := by
  obtain ⟨a, b, c, e, _⟩ := h.ex
  rw [e]; exact fun z => by cases z
def sp__law_look : SpD := fun ds m P _ => ∃ (w : Addr) (ns : List Int), ds = [.adr w, .lst (ns.map .int)] ∧ 0 < ns.length ∧ ns.length ≤ 1000000 ∧ (∀ n ∈ ns, Bd 140 n) ∧ Dr w 20 (fun d => ∃ l : Lk, l.Good 142 ∧ d = l.d) m P
def rd__law_look : DS :=
    sSeq (sSet 2 (rCall sp__law_draw [] (rCons (rV 0) (rCons (rC (.int 8)) (rNil)))))
    (sSeq (sSet 3 (rCall sp__law_near [] (rCons (rV 0) (rCons (rV 1) (rNil)))))
    (sSeq (sSet 4 (rLstM (rCons (rTup (rCons (rC (.str "any")) (rNil))) (rCons (rTup (rCons (rC (.str "is")) (rCons (rV 3) (rNil)))) (rCons (rTup (rCons (rC (.str "from")) (rCons (rV 3) (rNil)))) (rCons (rTup (rCons (rC (.str "to")) (rCons (rV 3) (rNil)))) (rCons (rTup (rCons (rC (.str "in")) (rCons (rV 3) (rCons (rOp oSub (rOp oAdd (rV 3) (rCall sp__law_draw [] (rCons (rV 0) (rCons (rC (.int 5)) (rNil))))) (rC (.int 1))) (rNil))))) (rNil))))))))
    (sSeq (sExpr (rApp (rV 4) (rTup (rCons (rC (.str "one")) (rCons (rCB cTup (rCons (rCall sp__law_unlike [] (rCons (rLc (iRange (rCons (rCall sp__law_draw [] (rCons (rV 0) (rCons (rC (.int 5)) (rNil)))) (rNil))) [5] (gN 5) (qYes) (rCall sp__law_near [] (rCons (rV 0) (rCons (rV 1) (rNil))))) (rNil))) (rNil))) (rNil))))))
    (sSeq (sIf (rTst (rOp oLt (rV 2) (rC (.int 6)))) (sRet (rOp oIx (rV 4) (rV 2))) (sNext))
    (sRet (rTup (rCons (rC (.str "but")) (rCons (rOp oIx (rV 4) (rCall sp__law_draw [] (rCons (rV 0) (rCons (rC (.int 6)) (rNil))))) (rNil)))))))))
theorem ln__law_look : ∀ ds m Q PX, sp__law_look ds m Q PX → ds.length = 2 := by rintro ds m Q PX ⟨d, _, rfl, _⟩; rfl
theorem pu__law_look : ∀ ds m Q PX, sp__law_look ds m Q PX → rd__law_look (dEnds Q PX) (dstart ["_law_well_here", "_law_mids_here", "_law_way", "_law_low", "_law_some", "_law_k"] ds) m := by
  rintro ds m Q PX ⟨w, ns, rfl, h0, h1, hb, k, wl, hk, h⟩
  walk_at "dl"
  refine ⟨w, 8, rfl, by decide, by decide, k, wl, by omega, fun d m1 hd kp1 w1 => ?_⟩
  obtain ⟨way, y0, y1, rfl⟩ := hd
  walk_at "dl"
  refine ⟨w, ns, 140, rfl, by decide, h0, h1, hb, _, w1, by omega, fun d m2 hd kp2 w2 => ?_⟩
  obtain ⟨low, hlow, rfl⟩ := hd
  walk_at "dl"
  repeat (refine ⟨len_line (by simp), ?_⟩; walk_at "dl")
  refine ⟨w, 5, rfl, by decide, by decide, _, w2, by omega, fun d m3 hd kp3 w3 => ?_⟩
  obtain ⟨up, u0, u1, rfl⟩ := hd
  walk_at "dl"
  refine ⟨len_line (by simp), ?_⟩
  walk_at "dl"
  refine ⟨len_line (by show 5 ≤ _; decide), fun q hq => ?_⟩
  walk_at "dl"
  have hqw : q ≠ w := fun z => w3.some (z ▸ hq)
  have kn : Kp [] m3 (mset m3 q (.lst [Lk.any.d, (Lk.is low).d, (Lk.frm low).d, (Lk.upto low).d, (Lk.inn low (low + up - 1)).d])) := kp_new hq
  have w4 := w3.keep kn (by simp)
  refine ⟨⟨_, mset_same⟩, ?_⟩
  walk_at "dl"
  refine ⟨w, 5, rfl, by decide, by decide, _, w4, by omega, fun d m5 hd kp5 w5 => ?_⟩
  obtain ⟨cnt, c0, c1, rfl⟩ := hd
  have e5 : m5 q = some (.lst [Lk.any.d, (Lk.is low).d, (Lk.frm low).d, (Lk.upto low).d, (Lk.inn low (low + up - 1)).d]) := kp5 q _ (by simpa using hqw) mset_same
  walk_at "dl"
  refine ⟨⟨by omega, by omega⟩, ?_⟩
  have hrl : (rangeD 0 cnt.toNat).length = cnt.toNat := by simp [rangeD]
  refine comp_inv (fun i acc m' => Kp [w] m5 m' ∧ Wl m' w (k + 1 + 2 + 1 + 1 + 2 * i) ∧ ∃ ks : List Int, acc = ks.map .int ∧ ks.length = i ∧ ∀ n ∈ ks, Bd 141 n) (fun i acc m' hh => ?_) (by rw [hrl]; omega) (fun i d acc m' e hh => ?_) (fun acc m' hh => ?_) ⟨Kp.refl _ _, w5, [], rfl, rfl, fun _ z => by cases z⟩
  · obtain ⟨_, _, ks, rfl, hl, _⟩ := hh
    rw [List.length_map, hl]; exact Nat.le_refl _
  · obtain ⟨kp6, w6, ks, rfl, hl, hks⟩ := hh
    have hi : i < cnt.toNat := by
      have := (List.getElem?_eq_some_iff.mp e).1
      rw [hrl] at this; exact this
    refine ⟨trivial, fun Kt Kf k1 _ => ?_⟩
    walk_at "dl"
    refine ⟨w, ns, 140, rfl, by decide, h0, h1, hb, _, w6, by omega, fun d m7 hd kp7 w7 => ?_⟩
    obtain ⟨n, hn, rfl⟩ := hd
    refine k1 _ _ ⟨kp6.trans kp7, ?_, ks ++ [n], by simp, by simp [hl], fun j hj => ?_⟩
    · have e : k + 1 + 2 + 1 + 1 + 2 * i + 2 = k + 1 + 2 + 1 + 1 + 2 * (i + 1) := by omega
      rw [e] at w7; exact w7
    · rcases List.mem_append.mp hj with hj | hj
      · exact hks j hj
      · rw [List.mem_singleton.mp hj]; exact hn
  · obtain ⟨kp6, w6, ks, rfl, hl, hks⟩ := hh
    rw [hrl] at hl w6
    refine ⟨trivial, ?_⟩
    walk_at "dl"
    refine ⟨ks.map .int, rfl, by rw [List.length_map]; omega, fun d hd => ?_, ?_⟩
    · obtain ⟨n, _, rfl⟩ := List.mem_map.mp hd
      exact ⟨by rw [pur], fit_int⟩
    obtain ⟨us, e1, e2, e3, e4⟩ := unl_ints ks
    rw [e1]
    walk_at "dl"
    have e6 := kp6 q _ (by simpa using hqw) e5
    refine ⟨len_line (by simp), ?_⟩
    walk_at "dl"
    rw [e6]
    walk_at "dl"
    refine ⟨by show 5 < sizeLine; decide, ?_⟩
    walk_at "dl"
    have kpw : Kp [w] m m' := ((kp1.trans kp2).trans (kp3.trans (kn.more (by simp)))).trans (kp5.trans kp6)
    have low2 : Bd 142 low := hlow.mono
    have good : ∀ l ∈ [Lk.any, .is low, .frm low, .upto low, .inn low (low + up - 1), .one us], l.Good 142 ∧ l.dep ≤ 1 := by
      intro l hl
      simp only [List.mem_cons, List.not_mem_nil, or_false] at hl
      rcases hl with rfl | rfl | rfl | rfl | rfl | rfl
      · exact ⟨⟨by simp [Lk.nums], trivial, by simp [Lk.dep], trivial⟩, by simp [Lk.dep]⟩
      · exact ⟨⟨by simpa [Lk.nums] using low2, trivial, by simp [Lk.dep], trivial⟩, by simp [Lk.dep]⟩
      · exact ⟨⟨by simpa [Lk.nums] using low2, trivial, by simp [Lk.dep], trivial⟩, by simp [Lk.dep]⟩
      · exact ⟨⟨by simpa [Lk.nums] using low2, trivial, by simp [Lk.dep], trivial⟩, by simp [Lk.dep]⟩
      · refine ⟨⟨?_, trivial, by simp [Lk.dep], trivial⟩, by simp [Lk.dep]⟩
        intro n hn
        simp only [Lk.nums, List.mem_cons, List.not_mem_nil, or_false] at hn
        rcases hn with rfl | rfl
        · exact low2
        · have p : (2 : Nat) ^ 141 > 100 := by decide
          unfold Bd at *
          have : (2 : Nat) ^ 142 = 2 * 2 ^ 141 := by decide
          omega
      · refine ⟨⟨fun n hn => (hks n ((e4 n).mp hn)).mono, ?_, by simp [Lk.dep], e3⟩, by simp [Lk.dep]⟩
        show us.length ≤ 4
        omega
    generalize hm8 : mset m' q _ = m8
    have e8 : m8 q = some (.lst ([Lk.any, .is low, .frm low, .upto low, .inn low (low + up - 1), .one us].map Lk.d)) := by rw [← hm8]; exact mset_same
    have kp8 : Kp [w] m m8 := by
      intro a o ha e
      rw [← hm8, mset_ne ?_]
      · exact kpw a o ha e
      · intro z
        have := ((kp1.trans kp2).trans kp3) a o ha e
        rw [z, hq] at this; cases this
    have w8 : Wl m8 w (k + 1 + 2 + 1 + 1 + 2 * cnt.toNat) := by
      obtain ⟨a, b, c, e, r⟩ := w6.ex
      exact ⟨a, b, c, by rw [← hm8, mset_ne (fun z => hqw z.symm)]; exact e, r⟩
    have pick : ∀ i : Int, 0 ≤ i → i < 6 → ∃ l ∈ [Lk.any, .is low, .frm low, .upto low, .inn low (low + up - 1), .one us], atI ([Lk.any, .is low, .frm low, .upto low, .inn low (low + up - 1), .one us].map Lk.d) i = some l.d := by
      intro i i0 i1
      obtain ⟨x, a1, a2⟩ := atI_some (xs := [Lk.any, .is low, .frm low, .upto low, .inn low (low + up - 1), .one us].map Lk.d) i0 i1
      obtain ⟨l, hl, rfl⟩ := List.mem_map.mp (List.mem_of_getElem? a2)
      exact ⟨l, hl, a1⟩
    cases hw : decide (way < 6) with
    | true =>
      obtain ⟨l, hl, el⟩ := pick way y0 (of_decide_eq_true hw)
      walk_at "dl"
      rw [asL_adr e8]
      walk_at "dl"
      rw [el]
      exact h _ _ ⟨l, (good l hl).1, rfl⟩ kp8 (w8.mono (by omega))
    | false =>
      walk_at "dl"
      refine ⟨w, 6, rfl, by decide, by decide, _, w8, by omega, fun d m9 hd kp9 w9 => ?_⟩
      obtain ⟨i, i0, i1, rfl⟩ := hd
      obtain ⟨l, hl, el⟩ := pick i i0 i1
      have e9 := kp9 q _ (by simpa using hqw) e8
      walk_at "dl"
      rw [asL_adr e9]
      walk_at "dl"
      rw [el]
      obtain ⟨g1, g2⟩ := good l hl
      refine ⟨len_line (by simp), ?_⟩
      exact h _ _ ⟨.but l, ⟨g1.nm, g1.few, by show l.dep + 1 ≤ 2; omega, g1.un⟩, rfl⟩ (kp8.trans kp9) (w9.mono (by omega))
/-! ### a number by its figures -/
/-! ### a look as it is written, word by word -/
end DL
namespace DL
open PySem L2
local macro_rules | `(tactic| walk_at "dl") => `(tactic| ((conv => whnf); try dsimp only))
local macro_rules | `(tactic| walk_at "sd") => `(tactic| first | trivial | exact Nat.zero_le _ | assumption | decide | omega | exact len_line (by first | decide | omega | (simp; done) | (simp; omega)) | (simp; done) | (simp; omega) | exact ⟨by decide, by decide, by decide⟩ | exact .inl ⟨by decide, by decide⟩ | exact .inl ⟨by omega, by omega⟩ | exact wide_div (b := 64) (by decide) (by decide) (by decide) (by decide))
local macro_rules | `(tactic| walk_at "go") => `(tactic| ((conv => whnf); (try dsimp only); repeat ((with_reducible refine And.intro ?_ ?_); (focus (walk_at "sd")); (conv => whnf); (try dsimp only))))
local macro_rules | `(tactic| walk_at "th") => `(tactic| repeat' (first | assumption | exact thD_txt _ _ | exact thD_int | exact thD_non | exact thD_bl | (refine thD_mono _ _ _ ?_ (by assumption); decide) | refine List.forall_mem_cons.mpr (And.intro ?_ ?_) | exact List.forall_mem_nil _ | refine thD_tup (by simp) ?_ | refine thD_lst (by simp) ?_))
local macro_rules | `(tactic| walk_at "ln") => `(tactic| (intro ds m Q PX h; repeat (obtain ⟨_, h⟩ := h); subst_vars; rfl))
section
/-! ### comprehensions that begin with something; two fors -/
section
variable {Ph : Mu → Prop} {re : DE} {δ : DSt} {P : List D → Mu → Prop} {j j1 : Nat} {m : Mu}
theorem comp_acc (f : D → D) (ph : Ph m) : ∀ {ds acc : List D}, acc.length + ds.length ≤ 16777216 → (∀ d ∈ ds, ∀ Q : DK, Q (f d) m → re (δ.set j (some d)) m Q noX) → P (acc ++ ds.map f) m → rComp Ph (gN j) qYes re δ P ds acc m
  | [], acc, _, _, h => by rw [rComp_nil]; exact ⟨ph, by simpa using h⟩
  | d :: ds, acc, hl, he, h => by
    rw [rComp_cons]
    refine ⟨ph, ?_⟩
    show re (δ.set j (some d)) m _ noX
    refine he d List.mem_cons_self _ ⟨?_, comp_acc f ph (by simp at hl ⊢; omega) (fun e z => he e (List.mem_cons_of_mem _ z)) (by simpa using h)⟩
    rw [sizeLine_eq]; simp at hl; omega
theorem comp2_fm {ri1 : DI} {js1 : List Nat} (g : D → List D) (f : D → D → D) (ph : Ph m) : ∀ {ds acc : List D}, acc.length + (ds.flatMap g).length ≤ 16777216 → (∀ d ∈ ds, ∀ P' : (Mu → Prop) → List D → Mu → Prop, P' (fun _ => True) (g d) m → ri1 (δ.set j (some d)) m P' noX) →
    (∀ d ∈ ds, ∀ e ∈ g d, ∀ Q : DK, Q (f d e) m → re ((wipeD (δ.set j (some d)) js1).set j1 (some e)) m Q noX) → P (acc ++ ds.flatMap fun d => (g d).map (f d)) m → rComp2 Ph (gN j) qYes ri1 js1 (gN j1) qYes re δ P ds acc m
  | [], acc, _, _, _, h => by rw [rComp2_nil]; exact ⟨ph, by simpa using h⟩
  | d :: ds, acc, hl, hi, he, h => by
    rw [rComp2_cons]
    refine ⟨ph, ?_⟩
    show ri1 (δ.set j (some d)) m _ noX
    refine hi d List.mem_cons_self _ ?_
    simp only [List.flatMap_cons, List.length_append] at hl
    refine comp_acc (f d) trivial (by omega) (he d List.mem_cons_self) ?_
    exact comp2_fm g f ph (by rw [List.length_append, List.length_map]; omega) (fun e z => hi e (List.mem_cons_of_mem _ z)) (fun e z => he e (List.mem_cons_of_mem _ z)) (by simpa using h)
end
/-! ### looks: which numbers fit, where they turn -/
def Lk.fits : Lk → Int → Bool
  | .any, _ => true
  | .is k, n => decide (n = k)
  | .frm k, n => decide (k ≤ n)
  | .upto k, n => decide (n ≤ k)
  | .inn a b, n => decide (a ≤ n) && decide (n ≤ b)
  | .one ns, n => ns.any fun k => decide (k = n)
  | .but l, n => !l.fits n
def sp_fits : Nat → SpD
  | 0 => spNo
  | k + 1 => fun ds m P _ => ∃ (l : Lk) (n : Int), ds = [l.d, .int n] ∧ l.dep ≤ k + 1 ∧ P (.bl (l.fits n)) m
def rd_fits (self : SpD) : DS :=
    sSeq (sStar 4 5 (rV 0))
    (sSeq (sIf (rTst (rOp oEq (rV 4) (rC (.str "but")))) (sRet (rNotV (rCall self [] (rCons (rOp oIx (rV 5) (rC (.int 0))) (rCons (rV 1) (rNil)))))) (sNext))
    (sSeq (sIf (rTst (rOp oEq (rV 4) (rC (.str "is")))) (sRet (rOp oEq (rV 1) (rOp oIx (rV 5) (rC (.int 0))))) (sNext))
    (sSeq (sIf (rTst (rOp oEq (rV 4) (rC (.str "one")))) (sRet (rOp (oInN false) (rV 1) (rOp oIx (rV 5) (rC (.int 0))))) (sNext))
    (sSeq (sSet 2 (rIfE (rTst (rOp (oInN false) (rV 4) (rTup (rCons (rC (.str "from")) (rCons (rC (.str "in")) (rNil)))))) (rOp oIx (rV 5) (rC (.int 0))) (rV 1)))
    (sSeq (sSet 3 (rIfE (rTst (rOp (oInN false) (rV 4) (rTup (rCons (rC (.str "to")) (rCons (rC (.str "in")) (rNil)))))) (rOp oIx (rV 5) (rNeg (rC (.int 1)))) (rV 1)))
    (sRet (rChain oLe oLe (rV 2) (rV 1) (rV 3))))))))
theorem ln_fits : ∀ kk ds m Q PX, sp_fits kk ds m Q PX → ds.length = 2
  | 0, _, _, _, _, h => h.elim
  | kk + 1, ds, m, Q, PX, h => by (repeat (obtain ⟨_, h⟩ := h)); subst_vars; rfl
theorem any_ints (ns : List Int) (n : Int) : (ns.map D.int).any (fun z => deq z (.int n)) = ns.any fun k => decide (k = n) := by
  rw [List.any_map]
  congr 1
theorem flat_ints (ns : List Int) : (ns.map D.int).all flatD = true := by simp [flatD]
theorem dep_pos (l : Lk) : 1 ≤ l.dep := by cases l <;> simp [Lk.dep]
theorem pu_fits : ∀ kk ds m Q PX, sp_fits (kk + 1) ds m Q PX → rd_fits (sp_fits kk) (dEnds Q PX) (dstart ["look", "number", "low", "high", "word", "rest"] ds) m := by
  rintro kk ds m Q PX ⟨l, n, rfl, hd, h⟩
  have nn : decide (n ≤ n) = true := decide_eq_true (Int.le_refl n)
  cases l with
  | any => walk_at "go"; rw [nn]; walk_at "go"; rw [nn]; exact h
  | is k => walk_at "go"; exact h
  | frm k =>
    walk_at "go"
    change Q (.bl (decide (k ≤ n))) m at h
    cases hb : decide (k ≤ n) with
    | true => rw [hb] at h; walk_at "go"; rw [nn]; exact h
    | false => rw [hb] at h; exact h
  | upto k => walk_at "go"; rw [nn]; walk_at "go"; exact h
  | inn a b =>
    walk_at "go"
    change Q (.bl (decide (a ≤ n) && decide (n ≤ b))) m at h
    cases hb : decide (a ≤ n) with
    | true => rw [hb] at h; walk_at "go"; exact h
    | false => rw [hb] at h; exact h
  | one ns =>
    walk_at "go"
    refine ⟨⟨rfl, flat_ints ns⟩, ?_⟩
    rw [any_ints]
    exact h
  | but l =>
    have hdp : l.dep ≤ kk := by have : l.dep + 1 ≤ kk + 1 := hd; omega
    have := dep_pos l
    cases kk with
    | zero => omega
    | succ k => walk_at "go"; exact ⟨l, n, rfl, hdp, h⟩
def Lk.edges (l : Lk) : List Int := l.nums.flatMap fun n => [n, n + 1]
def sp_edges : Nat → SpD
  | 0 => spNo
  | k + 1 => fun ds m P _ => ∃ l : Lk, ds = [l.d] ∧ l.dep ≤ k + 1 ∧ l.few ∧ P (.lst (l.edges.map .int)) m
def rd_edges (self : SpD) : DS :=
    sSeq (sStar 1 2 (rV 0))
    (sSeq (sIf (rTst (rOp oEq (rV 1) (rC (.str "but")))) (sRet (rCall self [] (rCons (rOp oIx (rV 2) (rC (.int 0))) (rNil)))) (sNext))
    (sSeq (sIf (rTst (rOp oEq (rV 1) (rC (.str "one")))) (sRet (rLc2 (iAny (rOp oIx (rV 2) (rC (.int 0)))) [3, 4] (gN 3) (qYes) (iAny (rTup (rCons (rC (.int 0)) (rCons (rC (.int 1)) (rNil))))) [4] (gN 4) (qYes) (rOp oAdd (rV 3) (rV 4)))) (sNext))
    (sRet (rLc2 (iAny (rV 2)) [3, 4] (gN 3) (qYes) (iAny (rTup (rCons (rC (.int 0)) (rCons (rC (.int 1)) (rNil))))) [4] (gN 4) (qYes) (rOp oAdd (rV 3) (rV 4))))))
theorem ln_edges : ∀ kk ds m Q PX, sp_edges kk ds m Q PX → ds.length = 1
  | 0, _, _, _, _, h => h.elim
  | kk + 1, ds, m, Q, PX, h => by (repeat (obtain ⟨_, h⟩ := h)); subst_vars; rfl
theorem edges_flat (ns : List Int) : (ns.map D.int).flatMap (fun d => ([.int 0, .int 1] : List D).map fun e => match d, e with | .int a, .int b => D.int (a + b) | x, _ => x) = (ns.flatMap fun n => [n, n + 1]).map .int := by
  induction ns with
  | nil => rfl
  | cons n ns ih =>
    rw [List.map_cons, List.flatMap_cons, ih, List.flatMap_cons, List.map_append]
    simp
theorem edges_comp {m : Mu} {ns : List Int} {a b c : Option D} (hl : ns.length ≤ 4) {P : List D → Mu → Prop} (h : P ((ns.flatMap fun n => [n, n + 1]).map .int) m) :
    rComp2 (fun _ => True) (gN 3) qYes (iAny (rTup (rCons (rC (.int 0)) (rCons (rC (.int 1)) (rNil))))) [4] (gN 4) qYes (rOp oAdd (rV 3) (rV 4)) (wipeD [a, b, c, none, none] [3, 4]) P (ns.map .int) [] m := by
  refine comp2_fm (fun _ => [.int 0, .int 1]) (fun d e => match d, e with | .int a, .int b => D.int (a + b) | x, _ => x) trivial ?_ (fun d hd P' h' => ?_) (fun d hd e he Q q => ?_) ?_
  · have : ∀ l : List D, (l.flatMap fun _ => [D.int 0, .int 1]).length = 2 * l.length := by
      intro l
      induction l with
      | nil => rfl
      | cons d l ih => rw [List.flatMap_cons, List.length_append, ih]; simp; omega
    rw [this, List.length_map]; simp; omega
  · exact ⟨by show 2 ≤ _; decide, h'⟩
  · obtain ⟨n, _, rfl⟩ := List.mem_map.mp hd
    simp only [List.mem_cons, List.not_mem_nil, or_false] at he
    rcases he with rfl | rfl <;> exact q
  · rw [List.nil_append, edges_flat]; exact h
theorem pu_edges : ∀ kk ds m Q PX, sp_edges (kk + 1) ds m Q PX → rd_edges (sp_edges kk) (dEnds Q PX) (dstart ["look", "word", "rest", "number", "more"] ds) m := by
  rintro kk ds m Q PX ⟨l, rfl, hd, hf, h⟩
  cases l with
  | any => walk_at "go"; exact edges_comp (ns := []) (by decide) h
  | is k => walk_at "go"; exact edges_comp (ns := [k]) (by simp) h
  | frm k => walk_at "go"; exact edges_comp (ns := [k]) (by simp) h
  | upto k => walk_at "go"; exact edges_comp (ns := [k]) (by simp) h
  | inn a b => walk_at "go"; exact edges_comp (ns := [a, b]) (by simp) h
  | one ns => walk_at "go"; exact edges_comp (ns := ns) hf h
  | but l =>
    have hdp : l.dep ≤ kk := by have : l.dep + 1 ≤ kk + 1 := hd; omega
    have := dep_pos l
    cases kk with
    | zero => omega
    | succ k => walk_at "go"; exact ⟨l, rfl, hdp, hf, h⟩
/-! ### turns, samples -/
def Lk.turns (l : Lk) : List Int := (srtU l.edges).filter fun n => l.fits n != l.fits (n - 1)
def sp_turns : SpD := fun ds m P _ => ∃ l : Lk, ds = [l.d] ∧ l.dep ≤ 2 ∧ l.few ∧ P (.lst (l.turns.map .int)) m
def rd_turns : DS :=
    sRet (rLc (iAny (rSrtS (rCons (rCall (sp_edges 2) [] (rCons (rV 0) (rNil))) (rNil)))) [1] (gN 1) (rTst (rOp oNe (rCall (sp_fits 2) [] (rCons (rV 0) (rCons (rV 1) (rNil)))) (rCall (sp_fits 2) [] (rCons (rV 0) (rCons (rOp oSub (rV 1) (rC (.int 1))) (rNil)))))) (rV 1))
theorem ln_turns : ∀ ds m Q PX, sp_turns ds m Q PX → ds.length = 1 := fun ds m Q PX h => by (repeat (obtain ⟨_, h⟩ := h)); subst_vars; rfl
theorem edges_len (l : Lk) (h : l.few) : l.edges.length ≤ 8 := by
  have : ∀ ns : List Int, (ns.flatMap fun n => [n, n + 1]).length = 2 * ns.length := by
    intro ns
    induction ns with
    | nil => rfl
    | cons d l ih => rw [List.flatMap_cons, List.length_append, ih]; simp; omega
  unfold Lk.edges
  rw [this]
  have : ∀ l : Lk, l.few → l.nums.length ≤ 4 := by
    intro l
    induction l with
    | one ns => exact fun h => h
    | but l ih => exact ih
    | _ => intro _; simp [Lk.nums]
  have := this l h
  omega
theorem pu_turns : ∀ ds m Q PX, sp_turns ds m Q PX → rd_turns (dEnds Q PX) (dstart ["look", "number"] ds) m := by
  rintro ds m Q PX ⟨l, rfl, hd, hf, h⟩
  have hl := edges_len l hf
  walk_at "go"
  refine ⟨l, rfl, hd, hf, ?_⟩
  walk_at "dl"
  rw [asI_lst]
  walk_at "go"
  refine comp_fm (fun d => match d with | .int n => l.fits n != l.fits (n - 1) | _ => false) (fun d => d) ?_ trivial (fun d hd' Q q => ?_) (fun d _ _ Q q => q) ?_
  · rw [List.length_map]; have := srtU_len l.edges; omega
  · obtain ⟨n, _, rfl⟩ := List.mem_map.mp hd'
    walk_at "go"
    refine ⟨l, n, rfl, hd, ?_⟩
    walk_at "go"
    refine ⟨l, n - 1, rfl, hd, ?_⟩
    walk_at "go"
    change Q (l.fits n != l.fits (n - 1)) m at q
    revert q
    cases l.fits n <;> cases l.fits (n - 1) <;> exact fun q => q
  · rw [List.map_id', List.filter_map]
    exact h
/-! ### == of lists of whole numbers, of pure data -/
theorem fit_lst_ints (ns : List Int) (n : Nat) : fitD (n + 1) (.lst (ns.map .int)) := fun d hd => by obtain ⟨k, _, rfl⟩ := List.mem_map.mp hd; cases n <;> trivial
theorem pur_lst_ints (ns : List Int) : pur (.lst (ns.map .int)) = true := by rw [pur]; exact pur_ints ns
theorem lst_ints_inj {ns ks : List Int} (h : D.lst (ns.map .int) = .lst (ks.map .int)) : ns = ks := map_ints_inj (D.lst.inj h)
theorem shpI {m : Mu} {ns : List Int} : shp (dat m (.lst (ns.map .int))) := by rw [dat_pur (pur_lst_ints ns)]; exact shp_of (fit_lst_ints ns 1)
theorem shpN {m : Mu} : shp (dat m (.lst [])) := shpI (ns := [])
theorem deqI {m : Mu} {ns ks : List Int} : deq (dat m (.lst (ns.map .int))) (dat m (.lst (ks.map .int))) = decide (ns = ks) := by
  rw [dat_pur (pur_lst_ints ns), dat_pur (pur_lst_ints ks), Bool.eq_iff_iff, deq_iff (pur_lst_ints ns) (pur_lst_ints ks), decide_eq_true_eq]
  exact ⟨lst_ints_inj, fun e => by rw [e]⟩
theorem deqIN {m : Mu} {ns : List Int} : deq (dat m (.lst (ns.map .int))) (dat m (.lst [])) = decide (ns = []) := deqI (ks := [])
theorem atI0 {α : Type} (x : α) (xs : List α) : atI (x :: xs) 0 = some x := by
  unfold atI ixN
  rw [if_pos (by decide), if_pos (by simp)]
  rfl
def withFirst (ns : List Int) : List Int := match srtU ns with
  | [] => [0]
  | a :: r => (a - 1) :: a :: r
def sp_with_first : SpD := fun ds m P _ => ∃ ns : List Int, ds = [.lst (ns.map .int)] ∧ ns.length < 1000 ∧ P (.lst ((withFirst ns).map .int)) m
def rd_with_first : DS :=
    sSeq (sSet 1 (rSrtS (rCons (rV 0) (rNil))))
    (sSeq (sIf (rTst (rOp oEq (rV 1) (rLst (rNil)))) (sRet (rLst (rCons (rC (.int 0)) (rNil)))) (sNext))
    (sRet (rOp oAdd (rLst (rCons (rOp oSub (rOp oIx (rV 1) (rC (.int 0))) (rC (.int 1))) (rNil))) (rV 1))))
theorem ln_with_first : ∀ ds m Q PX, sp_with_first ds m Q PX → ds.length = 1 := fun ds m Q PX h => by (repeat (obtain ⟨_, h⟩ := h)); subst_vars; rfl
theorem pu_with_first : ∀ ds m Q PX, sp_with_first ds m Q PX → rd_with_first (dEnds Q PX) (dstart ["some", "found"] ds) m := by
  rintro ds m Q PX ⟨ns, rfl, hl, h⟩
  have hs := srtU_len ns
  walk_at "dl"
  rw [asI_lst]
  walk_at "go"
  refine ⟨shpI, shpN, ?_⟩
  rw [deqIN]
  unfold withFirst at h
  cases e : srtU ns with
  | nil => rw [e] at h; walk_at "go"; exact h
  | cons a r =>
    rw [e] at h hs
    simp only [List.length_cons] at hs
    walk_at "go"
    rw [List.map_cons, atI0]
    walk_at "go"
    exact h
theorem turns_len (l : Lk) (h : l.few) : l.turns.length ≤ 8 := Nat.le_trans (List.length_filter_le _ _) (Nat.le_trans (srtU_len _) (edges_len l h))
theorem flat_len {α β : Type} (f : α → List β) (k : Nat) : ∀ l : List α, (∀ x ∈ l, (f x).length ≤ k) → (l.flatMap f).length ≤ l.length * k
  | [], _ => by simp
  | x :: l, h => by
    have h1 := h x List.mem_cons_self
    have h2 := flat_len f k l fun y hy => h y (List.mem_cons_of_mem _ hy)
    rw [List.flatMap_cons, List.length_append, List.length_cons, Nat.add_mul]
    omega
abbrev sp__law_fits : Nat → SpD := sp_fits
def rd__law_fits (self : SpD) : DS :=
    sSeq (sSet 2 (rOp oIx (rV 0) (rC (.int 0))))
    (sSeq (sIf (rTst (rOp oEq (rV 2) (rC (.str "but")))) (sRet (rNotV (rCall self [] (rCons (rOp oIx (rV 0) (rC (.int 1))) (rCons (rV 1) (rNil)))))) (sNext))
    (sSeq (sIf (rTst (rOp oEq (rV 2) (rC (.str "any")))) (sRet (rC (.bl true))) (sNext))
    (sSeq (sIf (rTst (rOp oEq (rV 2) (rC (.str "one")))) (sRet (rOp (oInN false) (rV 1) (rOp oIx (rV 0) (rC (.int 1))))) (sNext))
    (sSeq (sIf (rTst (rOp oEq (rV 2) (rC (.str "is")))) (sRet (rOp oEq (rV 1) (rOp oIx (rV 0) (rC (.int 1))))) (sNext))
    (sSeq (sIf (rTst (rOp oEq (rV 2) (rC (.str "from")))) (sRet (rOp oGe (rV 1) (rOp oIx (rV 0) (rC (.int 1))))) (sNext))
    (sSeq (sIf (rTst (rOp oEq (rV 2) (rC (.str "to")))) (sRet (rOp oLe (rV 1) (rOp oIx (rV 0) (rC (.int 1))))) (sNext))
    (sRet (rAndV (rOp oLe (rOp oIx (rV 0) (rC (.int 1))) (rV 1)) (rOp oLe (rV 1) (rOp oIx (rV 0) (rC (.int 2))))))))))))
theorem ln__law_fits : ∀ kk ds m Q PX, sp__law_fits kk ds m Q PX → ds.length = 2 := ln_fits
theorem pu__law_fits : ∀ kk ds m Q PX, sp__law_fits (kk + 1) ds m Q PX → rd__law_fits (sp__law_fits kk) (dEnds Q PX) (dstart ["_law_sight", "_law_number", "_law_word"] ds) m := by
  rintro kk ds m Q PX ⟨l, n, rfl, hd, h⟩
  cases l with
  | any => walk_at "go"; exact h
  | is k => walk_at "go"; exact h
  | frm k => walk_at "go"; exact h
  | upto k => walk_at "go"; exact h
  | inn a b =>
    walk_at "go"
    change Q (.bl (decide (a ≤ n) && decide (n ≤ b))) m at h
    cases hb : decide (a ≤ n) with
    | true => rw [hb] at h; walk_at "go"; exact h
    | false => rw [hb] at h; exact h
  | one ns =>
    walk_at "go"
    refine ⟨⟨rfl, flat_ints ns⟩, ?_⟩
    rw [any_ints]
    exact h
  | but l =>
    have hdp : l.dep ≤ kk := by have : l.dep + 1 ≤ kk + 1 := hd; omega
    have := dep_pos l
    cases kk with
    | zero => omega
    | succ k => walk_at "go"; exact ⟨l, n, rfl, hdp, h⟩
/-! ### the sample that a number is like -/
def likeOf (ns : List Int) (n : Int) : Int := (ns.filter fun k => decide (k ≤ n)).getLastD (ns.head?.getD 0)
/-- a list of whole numbers, of ours or not -/
def IsI (m : Mu) (d : D) (ns : List Int) : Prop := d = .lst (ns.map .int) ∨ ∃ q, d = .adr q ∧ m q = some (.lst (ns.map .int))
def sp__law_like : SpD := fun ds m P _ => ∃ (d : D) (ns : List Int) (n : Int), ds = [d, .int n] ∧ IsI m d ns ∧ 0 < ns.length ∧ ns.length ≤ 100000 ∧ P (.int (likeOf ns n)) m
def rd__law_like : DS :=
    sRet (rOp oIx (rOp oAdd (rLst (rCons (rOp oIx (rV 0) (rC (.int 0))) (rNil))) (rLc (iAny (rV 0)) [2] (gN 2) (rTst (rOp oLe (rV 2) (rV 1))) (rV 2))) (rNeg (rC (.int 1))))
theorem ln__law_like : ∀ ds m Q PX, sp__law_like ds m Q PX → ds.length = 2 := fun ds m Q PX h => by (repeat (obtain ⟨_, h⟩ := h)); subst_vars; rfl
theorem atI_last {α : Type} (x : α) (xs : List α) : atI (x :: xs) (-1) = some ((x :: xs).getLast (by simp)) := by
  unfold atI ixN
  rw [if_neg (by omega), if_pos (by simp; omega), List.getLast_eq_getElem]
  have : ((-1 : Int) + ((x :: xs).length : Int)).toNat = xs.length := by simp; omega
  rw [this]
  simp
theorem lastI (a : Int) (L : List Int) : atI (D.int a :: L.map D.int) (-1) = some (.int (L.getLastD a)) := by
  rw [atI_last]
  congr 1
  have := List.getLast_map (f := D.int) (l := a :: L) (by simp)
  refine this.trans ?_
  congr 1
  cases L with
  | nil => rfl
  | cons b L => rw [List.getLast_cons (by simp)]; rfl
theorem like_core {m : Mu} {Q : DK} {a n : Int} {r : List Int} {Ph : Mu → Prop} {d0 : D} (ph : Ph m) (hl : (a :: r).length ≤ 100000) (h : Q (.int (likeOf (a :: r) n)) m) : rComp Ph (gN 2) (rTst (rOp oLe (rV 2) (rV 1))) (rV 2) (wipeD [some d0, some (.int n), none] [2]) (fun acc m2 => oAdd (.lst [.int a]) (.lst acc) m2 fun x m3 => oIx x (.int (-1)) m3 Q) (.int a :: r.map .int) [] m := by
  refine comp_fm (ds := (a :: r).map .int) (fun d => match d with | .int k => decide (k ≤ n) | _ => false) (fun d => d) (by rw [List.length_map]; omega) ph (fun d hd Q q => ?_) (fun d _ _ Q q => q) ?_
  · obtain ⟨k, _, rfl⟩ := List.mem_map.mp hd
    exact q
  · have hf := List.length_filter_le (fun k => decide (k ≤ n)) (a :: r)
    rw [List.map_id', List.filter_map]
    have e : ((fun d : D => match d with | .int k => decide (k ≤ n) | _ => false) ∘ D.int) = fun k => decide (k ≤ n) := rfl
    rw [e]
    refine ⟨len_line (by simp only [List.length_map, List.length_cons, List.length_nil] at *; omega), ?_⟩
    have := lastI a ((a :: r).filter fun k => decide (k ≤ n))
    change (match atI (D.int a :: ((a :: r).filter fun k => decide (k ≤ n)).map D.int) (-1) with | some d => Q d m | none => False)
    rw [this]
    exact h
theorem pu__law_like : ∀ ds m Q PX, sp__law_like ds m Q PX → rd__law_like (dEnds Q PX) (dstart ["_law_found", "_law_number", "_law_one_here"] ds) m := by
  rintro ds m Q PX ⟨d, ns, n, rfl, hd, h0, hl, h⟩
  cases ns with
  | nil => simp at h0
  | cons a r =>
    rcases hd with rfl | ⟨q, rfl, hq⟩
    · walk_at "go"
      rw [List.map_cons, atI0]
      walk_at "go"
      exact like_core trivial hl h
    · walk_at "dl"
      rw [asL_adr hq]
      walk_at "dl"
      rw [List.map_cons, atI0]
      walk_at "go"
      rw [hq]
      walk_at "go"
      exact like_core hq hl h
/-! ### the mathematics of turning -/
theorem turn_edge : ∀ (l : Lk) (n : Int), l.fits n ≠ l.fits (n - 1) → n ∈ l.edges := by
  have mem : ∀ (ns : List Int) (n : Int), (n ∈ ns ∨ n - 1 ∈ ns) → n ∈ ns.flatMap fun k => [k, k + 1] := fun ns n h => by
    rw [List.mem_flatMap]
    rcases h with h | h
    · exact ⟨n, h, by simp⟩
    · exact ⟨n - 1, h, by simp⟩
  intro l
  induction l with
  | any => intro n h; exact absurd rfl h
  | is k => intro n h; refine mem _ n ?_; simp only [Lk.fits, ne_eq, decide_eq_decide] at h; simp only [Lk.nums, List.mem_singleton]; omega
  | frm k => intro n h; refine mem _ n ?_; simp only [Lk.fits, ne_eq, decide_eq_decide] at h; simp only [Lk.nums, List.mem_singleton]; omega
  | upto k => intro n h; refine mem _ n ?_; simp only [Lk.fits, ne_eq, decide_eq_decide] at h; simp only [Lk.nums, List.mem_singleton]; omega
  | inn a b =>
    intro n h; refine mem _ n ?_
    simp only [Lk.fits, ne_eq, ← Bool.decide_and, decide_eq_decide] at h
    simp only [Lk.nums, List.mem_cons, List.not_mem_nil, or_false]; omega
  | one ns =>
    intro n h
    refine mem _ n ?_
    show n ∈ ns ∨ n - 1 ∈ ns
    by_cases h1 : n ∈ ns
    · exact .inl h1
    · by_cases h2 : n - 1 ∈ ns
      · exact .inr h2
      · refine absurd ?_ h
        have e : ∀ k : Int, k ∉ ns → (Lk.one ns).fits k = false := fun k hk => by
          show (ns.any fun j => decide (j = k)) = false
          rw [List.any_eq_false]
          exact fun j hj z => hk (of_decide_eq_true z ▸ hj)
        rw [e _ h1, e _ h2]
  | but l ih => intro n h; exact ih n fun z => h (by show (!l.fits n) = !l.fits (n - 1); rw [z])
theorem mem_turns (l : Lk) (n : Int) : n ∈ l.turns ↔ l.fits n ≠ l.fits (n - 1) := by
  unfold Lk.turns
  rw [List.mem_filter, mem_srtU]
  constructor
  · rintro ⟨_, h⟩ e; rw [e] at h; simp at h
  · intro h; exact ⟨turn_edge l n h, by simpa using h⟩
/-- where nothing turns between -/
theorem fits_const (l : Lk) (a : Int) : ∀ (k : Nat), (∀ j : Int, a < j → j ≤ a + k → j ∉ l.turns) → l.fits (a + k) = l.fits a
  | 0, _ => by simp
  | k + 1, h => by
    have ih := fits_const l a k fun j h1 h2 => h j h1 (by omega)
    have h1 := h (a + (k + 1 : Nat)) (by omega) (Int.le_refl _)
    rw [mem_turns, Decidable.not_not] at h1
    rw [h1, ← ih]
    congr 1
    omega
theorem fits_same (l : Lk) {a b : Int} (hab : a ≤ b) (h : ∀ j : Int, a < j → j ≤ b → j ∉ l.turns) : l.fits b = l.fits a := by
  have := fits_const l a (b - a).toNat (fun j h1 h2 => h j h1 (by omega))
  have e : a + ((b - a).toNat : Int) = b := by omega
  rw [e] at this
  exact this
theorem asc_last {l : List Int} (h : l.Pairwise (· < ·)) (hne : l ≠ []) : ∀ x ∈ l, x ≤ l.getLast hne := by
  intro x hx
  have e := List.dropLast_concat_getLast hne
  rw [← e, List.pairwise_append] at h
  rw [← e] at hx
  rcases List.mem_append.mp hx with z | z
  · exact Int.le_of_lt (h.2.2 x z _ (by simp))
  · rw [List.mem_singleton.mp z]; exact Int.le_refl _
end
end DL
namespace DL
open PySem L2
local macro_rules | `(tactic| walk_at "dl") => `(tactic| ((conv => whnf); try dsimp only))
local macro_rules | `(tactic| walk_at "sd") => `(tactic| first | trivial | exact Nat.zero_le _ | assumption | decide | omega | exact len_line (by first | decide | omega | (simp; done) | (simp; omega)) | (simp; done) | (simp; omega) | exact ⟨by decide, by decide, by decide⟩ | exact .inl ⟨by decide, by decide⟩ | exact .inl ⟨by omega, by omega⟩ | exact wide_div (b := 64) (by decide) (by decide) (by decide) (by decide))
local macro_rules | `(tactic| walk_at "go") => `(tactic| ((conv => whnf); (try dsimp only); repeat ((with_reducible refine And.intro ?_ ?_); (focus (walk_at "sd")); (conv => whnf); (try dsimp only))))
local macro_rules | `(tactic| walk_at "th") => `(tactic| repeat' (first | assumption | exact thD_txt _ _ | exact thD_int | exact thD_non | exact thD_bl | exact thD_mono _ _ _ (by decide) (by assumption) | refine List.forall_mem_cons.mpr (And.intro ?_ ?_) | exact List.forall_mem_nil _ | refine thD_tup (by simp) ?_ | refine thD_lst (by simp) ?_))
local macro_rules | `(tactic| walk_at "ln") => `(tactic| (intro ds m Q PX h; repeat (obtain ⟨_, h⟩ := h); subst_vars; rfl))
/-! ### things of any kind -/
def thD : Nat → D → Prop
  | _, .non => True
  | _, .bl _ => True
  | _, .int _ => True
  | _, .str x => x.length ≤ 100000 ∧ ∀ c ∈ x.cps.toList, c < 1114112
  | n + 1, .lst ds => ds.length ≤ 10000 ∧ ∀ d ∈ ds, thD n d
  | n + 1, .tup ds => ds.length ≤ 10000 ∧ ∀ d ∈ ds, thD n d
  | _, _ => False
theorem thD_fit : ∀ (n : Nat) (d : D), thD n d → fitD n d := by
  intro n
  induction n with
  | zero => intro d h; cases d <;> first | trivial | exact h.2 | exact h
  | succ n ih =>
    intro d h
    cases d with
    | lst ds => exact fun d hd => ih d (h.2 d hd)
    | tup ds => exact fun d hd => ih d (h.2 d hd)
    | str x => exact h.2
    | _ => first | trivial | exact h
theorem thD_mono : ∀ (n k : Nat) (d : D), n ≤ k → thD n d → thD k d := by
  intro n
  induction n with
  | zero => intro k d _ h; cases d <;> first | (cases k <;> exact h) | cases h
  | succ n ih =>
    intro k d hk h
    cases k with
    | zero => omega
    | succ k =>
      cases d with
      | lst ds => exact ⟨h.1, fun d hd => ih k d (by omega) (h.2 d hd)⟩
      | tup ds => exact ⟨h.1, fun d hd => ih k d (by omega) (h.2 d hd)⟩
      | _ => first | trivial | exact h
def Thg (d : D) : Prop := thD 20 d ∨ ∃ kvs, d = .dct kvs
def isWhole : D → Bool
  | .int _ => true
  | _ => false
theorem Thg.cases_ {d : D} (h : Thg d) {p : D → Prop} (h1 : p .non) (h2 : ∀ b, p (.bl b)) (h3 : ∀ i, p (.int i)) (h4 : ∀ x, x.length ≤ 100000 → (∀ c ∈ x.cps.toList, c < 1114112) → p (.str x)) (h5 : ∀ ds, ds.length ≤ 10000 → (∀ d ∈ ds, thD 19 d) → p (.lst ds)) (h6 : ∀ ds, ds.length ≤ 10000 → (∀ d ∈ ds, thD 19 d) → p (.tup ds)) (h7 : ∀ kvs, p (.dct kvs)) : p d := by
  rcases h with h | ⟨kvs, rfl⟩
  · cases d with
    | non => exact h1
    | bl b => exact h2 b
    | int i => exact h3 i
    | str x => exact h4 x h.1 h.2
    | lst ds => exact h5 ds h.1 h.2
    | tup ds => exact h6 ds h.1 h.2
    | _ => cases h
  · exact h7 kvs
theorem thg_of {n : Nat} {d : D} (h : thD n d) (hn : n ≤ 20 := by decide) : Thg d := .inl (thD_mono n 20 d hn h)
def sp_is_whole : SpD := fun ds m P _ => ∃ d, ds = [d] ∧ Thg d ∧ P (.bl (isWhole d)) m
def rd_is_whole : DS :=
    sRet (rAndV (rCB cIsi (rCons (rV 0) (rCons (rC (.ty "int")) (rNil)))) (rNotV (rCB cIsi (rCons (rV 0) (rCons (rC (.ty "bool")) (rNil))))))
theorem ln_is_whole : ∀ ds m Q PX, sp_is_whole ds m Q PX → ds.length = 1 := fun ds m Q PX h => by (repeat (obtain ⟨_, h⟩ := h)); subst_vars; rfl
theorem pu_is_whole : ∀ ds m Q PX, sp_is_whole ds m Q PX → rd_is_whole (dEnds Q PX) (dstart ["thing"] ds) m := by
  rintro ds m Q PX ⟨d, rfl, hd, h⟩
  revert h
  refine hd.cases_ (p := fun d => Q (.bl (isWhole d)) m → rd_is_whole (dEnds Q PX) (dstart ["thing"] [d]) m) ?_ ?_ ?_ ?_ ?_ ?_ ?_ <;> (intros; walk_at "go"; assumption)
/-! ### no two alike -/
noncomputable def ndB (xs : List D) : Bool := @decide xs.Nodup (Classical.propDecidable _)
theorem ndB_iff {xs : List D} : ndB xs = true ↔ xs.Nodup := @decide_eq_true_iff _ (Classical.propDecidable _)
def sp_are_unlike : SpD := fun ds m P _ => ∃ xs : List D, ds = [.lst xs] ∧ xs.length ≤ 100000 ∧ (∀ d ∈ xs, pur d = true ∧ fitD 20 d) ∧ P (.bl (ndB xs)) m
def rd_are_unlike : DS :=
    sRet (rCB cAll (rCons (rLc (iEnumD (rCons (rV 0) (rNil))) [1, 2] (gT [1, 2]) (qYes) (rOp (oInN true) (rV 2) (rSl (rV 0) rNoP (rPart (rV 1))))) (rNil)))
theorem ln_are_unlike : ∀ ds m Q PX, sp_are_unlike ds m Q PX → ds.length = 1 := fun ds m Q PX h => by (repeat (obtain ⟨_, h⟩ := h)); subst_vars; rfl
theorem nodup_get {α : Type} : ∀ xs : List α, xs.Nodup ↔ ∀ (i : Nat) (x : α), xs[i]? = some x → x ∉ xs.take i := by
  intro xs
  unfold List.Nodup
  rw [List.pairwise_iff_getElem]
  constructor
  · intro h i x e hm
    obtain ⟨j, hj⟩ := List.mem_iff_getElem?.mp hm
    rw [List.getElem?_take] at hj
    split at hj
    · rename_i hlt
      obtain ⟨hi, e1⟩ := List.getElem?_eq_some_iff.mp e
      obtain ⟨hj', e2⟩ := List.getElem?_eq_some_iff.mp hj
      exact h j i hj' hi hlt (by rw [e1, e2])
    · cases hj
  · intro h j i hj hi hji e
    have e1 : xs[i]? = some xs[i] := List.getElem?_eq_getElem hi
    refine h i _ e1 (List.mem_iff_getElem?.mpr ⟨j, ?_⟩)
    rw [List.getElem?_take, if_pos hji, List.getElem?_eq_getElem hj, e]
theorem pu_are_unlike : ∀ ds m Q PX, sp_are_unlike ds m Q PX → rd_are_unlike (dEnds Q PX) (dstart ["some", "at", "one"] ds) m := by
  rintro ds m Q PX ⟨xs, rfl, hl, hp, h⟩
  walk_at "go"
  have sub : ∀ i, ∀ d ∈ xs.take i, pur d = true := fun i d hd => (hp d (List.mem_of_mem_take hd)).1
  refine comp_inv (fun i acc m' => m' = m ∧ acc = ((List.range i).map fun j => D.bl (match xs[j]? with | some x => !((xs.take j).any fun z => deq z x) | none => true))) (fun i acc m' hh => ?_) (by rw [enumD_length]; omega) (fun i d acc m' e hh => ?_) (fun acc m' hh => ?_) ⟨rfl, rfl⟩
  · rw [hh.2]; simp
  · obtain ⟨rfl, rfl⟩ := hh
    refine ⟨trivial, fun Kt Kf k1 k2 => ?_⟩
    rw [enumD_get] at e
    cases hx : xs[i]? with
    | none => rw [hx] at e; cases e
    | some x =>
      rw [hx] at e
      cases e
      have hm := List.mem_of_getElem? hx
      refine ⟨rfl, ?_⟩
      have e0 : ((0 + i : Nat) : Int) = (i : Int) := by simp
      walk_at "dl"
      rw [e0, cut_take]
      refine ⟨.inr ⟨?_, ?_⟩, ?_⟩
      · rw [dat_pur (hp x hm).1]; exact shp_of (hp x hm).2
      · exact shp_of (n := 21) fun d hd => (hp d (List.mem_of_mem_take hd)).2
      · rw [dat_pur (hp x hm).1]
        exact k1 _ _ ⟨rfl, by rw [List.range_succ, List.map_append, List.map_singleton, hx]; rfl⟩
  · obtain ⟨rfl, rfl⟩ := hh
    refine ⟨trivial, ?_⟩
    rw [enumD_length]
    walk_at "dl"
    have e3 : ((List.range xs.length).map fun j => D.bl (match xs[j]? with | some x => !((xs.take j).any fun z => deq z x) | none => true)) = ((List.range xs.length).map fun j => (match xs[j]? with | some x => !((xs.take j).any fun z => deq z x) | none => true)).map .bl := by rw [List.map_map]; rfl
    rw [e3, boolsD_map]
    have e4 : (((List.range xs.length).map fun j => (match xs[j]? with | some x => !((xs.take j).any fun z => deq z x) | none => true)).all id) = ndB xs := by
      rw [Bool.eq_iff_iff, List.all_eq_true, ndB_iff, nodup_get]
      constructor
      · intro z i x e hm
        have hl : i < xs.length := (List.getElem?_eq_some_iff.mp e).1
        have := z _ (List.mem_map.mpr ⟨i, List.mem_range.mpr hl, rfl⟩)
        rw [e] at this
        simp only [id, Bool.not_eq_true'] at this
        rw [← Bool.not_eq_true, any_deq (hp x (List.mem_of_getElem? e)).1 (sub i)] at this
        exact this hm
      · intro z b hb
        obtain ⟨j, hj, rfl⟩ := List.mem_map.mp hb
        have hl := List.mem_range.mp hj
        have e : xs[j]? = some xs[j] := List.getElem?_eq_getElem hl
        rw [e]
        simp only [id, Bool.not_eq_true']
        rw [← Bool.not_eq_true, any_deq (hp _ (List.getElem_mem hl)).1 (sub j)]
        exact z j _ e
    show Q (.bl _) m'
    rw [e4]
    exact h
/-! ### looks, read by their form -/
noncomputable def oneB (xs : List D) : Bool := decide (xs.length ≤ 4) && (xs.all isWhole && ndB xs)
noncomputable def oneD : D → Bool
  | .tup xs => oneB xs
  | _ => false
noncomputable def lkB (w : Str) (rest : List D) : Bool :=
  if w = "any" then rest.isEmpty else if w = "one" then (match rest with | [x] => oneD x | _ => false)
  else if w = "is" ∨ w = "from" ∨ w = "to" then decide (rest.length = 1) && rest.all isWhole else if w = "in" then decide (rest.length = 2) && rest.all isWhole else false
noncomputable def plB : D → Bool
  | .tup (.str w :: rest) => lkB w rest
  | _ => false
noncomputable def lookB : D → Bool
  | .tup [.str w, x] => if w = "but" then plB x else lkB w [x]
  | d => plB d
theorem wholes {xs : List D} (h : xs.all isWhole = true) : ∃ ns : List Int, xs = ns.map .int := by
  induction xs with
  | nil => exact ⟨[], rfl⟩
  | cons d xs ih =>
    rw [List.all_cons, Bool.and_eq_true] at h
    obtain ⟨ns, rfl⟩ := ih h.2
    cases d with
    | int i => exact ⟨i :: ns, rfl⟩
    | _ => cases h.1
theorem all_whole (ns : List Int) : (ns.map D.int).all isWhole = true := by simp [isWhole]
theorem nd_ints (ns : List Int) : ndB (ns.map .int) = decide ns.Nodup := by
  rw [Bool.eq_iff_iff, ndB_iff, decide_eq_true_eq]
  exact ⟨fun h => (List.pairwise_map.mp h).imp fun z e => z (by rw [e]), fun h => List.Pairwise.map _ (fun a b z e => z (D.int.inj e)) h⟩
/-- [is_whole(x) for x in xs] -/
theorem comp_whole {Ph : Mu → Prop} {δ : DSt} {j : Nat} {m : Mu} {P : List D → Mu → Prop} {xs : List D} (ph : Ph m) (hl : xs.length ≤ 100000) (hx : ∀ d ∈ xs, Thg d) (hj : j < δ.length) (h : P ((xs.map isWhole).map .bl) m) : rComp Ph (gN j) qYes (rCall sp_is_whole [] (rCons (rV j) (rNil))) δ P xs [] m := by
  refine comp_map (fun d => .bl (isWhole d)) (by omega) ph (fun d hd Q q => ?_) ?_
  · show (match (δ.set j (some d))[j]? with | some (some d) => _ | _ => False)
    rw [List.getElem?_set_self hj]
    exact ⟨d, rfl, hx d hd, q⟩
  · rw [List.map_map] at h; exact h
theorem all_id {α : Type} (f : α → Bool) (xs : List α) : (xs.map f).all id = xs.all f := by rw [List.all_map]; rfl
def sp_is_one : SpD := fun ds m P _ => ∃ d, ds = [d] ∧ Thg d ∧ P (.bl (oneD d)) m
def rd_is_one : DS :=
    sSeq (sIf (rOr (rNot (rTru (rCB cIsi (rCons (rV 0) (rCons (rC (.ty "tuple")) (rNil)))))) (rTst (rOp oGt (rCB cLen (rCons (rV 0) (rNil))) (rC (.int 4))))) (sRet (rC (.bl false))) (sNext))
    (sRet (rAndV (rCB cAll (rCons (rLc (iAny (rV 0)) [1] (gN 1) (qYes) (rCall sp_is_whole [] (rCons (rV 1) (rNil)))) (rNil))) (rCall sp_are_unlike [] (rCons (rCB cLst (rCons (rV 0) (rNil))) (rNil)))))
theorem ln_is_one : ∀ ds m Q PX, sp_is_one ds m Q PX → ds.length = 1 := fun ds m Q PX h => by (repeat (obtain ⟨_, h⟩ := h)); subst_vars; rfl
theorem pu_is_one : ∀ ds m Q PX, sp_is_one ds m Q PX → rd_is_one (dEnds Q PX) (dstart ["numbers", "number"] ds) m := by
  rintro ds m Q PX ⟨d, rfl, hd, h⟩
  revert h
  refine hd.cases_ (p := fun d => Q (.bl (oneD d)) m → rd_is_one (dEnds Q PX) (dstart ["numbers", "number"] [d]) m) ?_ ?_ ?_ ?_ ?_ ?_ ?_
  all_goals (try (intros; walk_at "go"; assumption))
  intro xs hl hx h
  walk_at "go"
  change Q (.bl (oneB xs)) m at h
  unfold oneB at h
  cases h4 : decide ((4 : Int) < (xs.length : Nat)) with
  | true =>
    have := of_decide_eq_true h4
    rw [decide_eq_false (by omega : ¬ xs.length ≤ 4)] at h
    exact h
  | false =>
    have := of_decide_eq_false h4
    rw [decide_eq_true (by omega : xs.length ≤ 4), Bool.true_and] at h
    walk_at "go"
    refine comp_whole trivial (by omega) (fun d hd => thg_of (hx d hd)) (by exact (by decide : 1 < 2)) ?_
    walk_at "dl"
    rw [boolsD_map]
    dsimp only
    rw [all_id]
    cases hw : xs.all isWhole with
    | false => rw [hw] at h; exact h
    | true =>
      rw [hw, Bool.true_and] at h
      obtain ⟨ns, rfl⟩ := wholes hw
      walk_at "go"
      refine ⟨_, rfl, by omega, fun d hd => ?_, h⟩
      obtain ⟨n, _, rfl⟩ := List.mem_map.mp hd
      exact ⟨rfl, trivial⟩
/-! ### is_plain, is_look -/
theorem shpT {n : Nat} {d : D} {m : Mu} (h : thD n d) (hn : n ≤ 60 := by decide) : shp (dat m d) := by
  cases d <;> first | exact shp_of (thD_fit _ _ h) hn | (cases n <;> cases h)
theorem deq_tup_nil {xs : List D} : deq (.tup xs) (.tup []) = xs.isEmpty := by
  unfold deq
  rw [py, py, PyData.eqv]
  cases xs with
  | nil => rw [pyL, PyData.eqvAll]; rfl
  | cons d l => rw [pyL, pyL, PyData.eqvAll]; rfl
theorem deq_lst_nil {xs : List D} : deq (.lst xs) (.lst []) = xs.isEmpty := by
  unfold deq
  rw [py, py, PyData.eqv]
  cases xs with
  | nil => rw [pyL, PyData.eqvAll]; rfl
  | cons d l => rw [pyL, pyL, PyData.eqvAll]; rfl
def sp_is_plain : SpD := fun ds m P _ => ∃ d, ds = [d] ∧ Thg d ∧ P (.bl (plB d)) m
def rd_is_plain : DS :=
    sSeq (sIf (rOr (rNot (rTru (rCB cIsi (rCons (rV 0) (rCons (rC (.ty "tuple")) (rNil)))))) (rOr (rTst (rOp oEq (rV 0) (rTup (rNil)))) (rNot (rTru (rCB cIsi (rCons (rOp oIx (rV 0) (rC (.int 0))) (rCons (rC (.ty "str")) (rNil)))))))) (sRet (rC (.bl false))) (sNext))
    (sSeq (sStar 1 2 (rV 0))
    (sSeq (sIf (rOr (rTst (rOp (oInK true [("any", .int 1), ("is", .int 2), ("from", .int 2), ("to", .int 2), ("in", .int 3), ("one", .int 2)]) (rV 1) (rC .non))) (rTst (rOp oNe (rCB cLen (rCons (rV 0) (rNil))) (rIxK [("any", .int 1), ("is", .int 2), ("from", .int 2), ("to", .int 2), ("in", .int 3), ("one", .int 2)] (rV 1))))) (sRet (rC (.bl false))) (sNext))
    (sSeq (sIf (rTst (rOp oEq (rV 1) (rC (.str "one")))) (sRet (rCall sp_is_one [] (rCons (rOp oIx (rV 0) (rC (.int 1))) (rNil)))) (sNext))
    (sRet (rCB cAll (rCons (rLc (iAny (rV 2)) [3] (gN 3) (qYes) (rCall sp_is_whole [] (rCons (rV 3) (rNil)))) (rNil)))))))
theorem ln_is_plain : ∀ ds m Q PX, sp_is_plain ds m Q PX → ds.length = 1 := fun ds m Q PX h => by (repeat (obtain ⟨_, h⟩ := h)); subst_vars; rfl
theorem lkB_num (rest : List D) : ∀ q ∈ ([("any", 0), ("is", 1), ("from", 1), ("to", 1), ("in", 2)] : List (Str × Nat)), lkB q.1 rest = (decide (rest.length = q.2) && rest.all isWhole) := by
  intro q hq
  simp only [List.mem_cons, List.not_mem_nil, or_false] at hq
  rcases hq with rfl | rfl | rfl | rfl | rfl
  · show lkB "any" rest = _
    unfold lkB
    rw [if_pos rfl]
    cases rest <;> simp
  · show lkB "is" rest = _
    unfold lkB
    rw [if_neg (by decide), if_neg (by decide), if_pos (by decide)]
  · show lkB "from" rest = _
    unfold lkB
    rw [if_neg (by decide), if_neg (by decide), if_pos (by decide)]
  · show lkB "to" rest = _
    unfold lkB
    rw [if_neg (by decide), if_neg (by decide), if_pos (by decide)]
  · show lkB "in" rest = _
    unfold lkB
    rw [if_neg (by decide), if_neg (by decide), if_neg (by decide), if_pos (by decide)]
theorem lkB_one (rest : List D) : lkB "one" rest = (match rest with | [x] => oneD x | _ => false) := by
  unfold lkB
  rw [if_neg (by decide), if_pos rfl]
theorem lkB_no {w : Str} {rest : List D} (h1 : w ≠ "one") (h2 : ∀ q ∈ ([("any", 0), ("is", 1), ("from", 1), ("to", 1), ("in", 2)] : List (Str × Nat)), w ≠ q.1) : lkB w rest = false := by
  have a1 := h2 ("any", 0) (by decide)
  have a2 := h2 ("is", 1) (by decide)
  have a3 := h2 ("from", 1) (by decide)
  have a4 := h2 ("to", 1) (by decide)
  have a5 := h2 ("in", 2) (by decide)
  unfold lkB
  rw [if_neg a1, if_neg h1, if_neg (fun z => z.elim a2 fun z => z.elim a3 a4), if_neg a5]
theorem pu_is_plain : ∀ ds m Q PX, sp_is_plain ds m Q PX → rd_is_plain (dEnds Q PX) (dstart ["look", "word", "rest", "number"] ds) m := by
  rintro ds m Q PX ⟨d, rfl, hd, h⟩
  revert h
  refine hd.cases_ (p := fun d => Q (.bl (plB d)) m → rd_is_plain (dEnds Q PX) (dstart ["look", "word", "rest", "number"] [d]) m) ?_ ?_ ?_ ?_ ?_ ?_ ?_
  all_goals (try (intros; walk_at "go"; assumption))
  intro xs hl hx h
  walk_at "go"
  refine ⟨shpT (n := 20) ⟨hl, hx⟩, shpT (n := 20) ⟨by simp, fun _ z => by cases z⟩, ?_⟩
  show (match (if false = true then _ else deq (.tup xs) (.tup [])) with | true => _ | false => _)
  rw [deq_tup_nil]
  cases xs with
  | nil => walk_at "go"; exact h
  | cons x rest =>
    have hx0 := hx x List.mem_cons_self
    have hxr : ∀ d ∈ rest, thD 19 d := fun d z => hx d (List.mem_cons_of_mem _ z)
    walk_at "go"
    rw [atI0]
    walk_at "go"
    cases x with
    | str w =>
      have hl' : rest.length < 10000 := by simp at hl; omega
      change Q (.bl (lkB w rest)) m at h
      by_cases w1 : w = "one"
      · subst w1
        rw [lkB_one] at h
        walk_at "go"
        rw [if_pos rfl]
        match rest, h with
        | [], h => exact h
        | [x], h =>
          walk_at "go"
          exact ⟨x, rfl, thg_of (hxr x List.mem_cons_self), h⟩
        | x :: y :: r, h =>
          have e : (!decide ((((D.str "one") :: x :: y :: r).length : Int) = 2)) = true := by simp; omega
          rw [e]
          exact h
      · by_cases hw : ∃ q ∈ ([("any", 0), ("is", 1), ("from", 1), ("to", 1), ("in", 2)] : List (Str × Nat)), w = q.1
        · obtain ⟨q, hq, rfl⟩ := hw
          rw [lkB_num rest q hq] at h
          simp only [List.mem_cons, List.not_mem_nil, or_false] at hq
          rcases hq with rfl | rfl | rfl | rfl | rfl <;> (
            walk_at "go"
            rw [if_pos rfl]
            split
            · rename_i e
              simp only [Bool.not_eq_true', decide_eq_false_iff_not, List.length_cons] at e
              rw [decide_eq_false (by omega), Bool.false_and] at h
              exact h
            · rename_i e
              simp only [Bool.not_eq_false', decide_eq_true_eq, List.length_cons] at e
              rw [decide_eq_true (by omega), Bool.true_and] at h
              walk_at "go"
              refine comp_whole trivial (by omega) (fun d hd => thg_of (hxr d hd)) (by exact (by decide : 3 < 4)) ?_
              walk_at "dl"
              rw [boolsD_map]
              dsimp only
              rw [all_id]
              exact h)
        · have hw2 : ∀ q ∈ ([("any", 0), ("is", 1), ("from", 1), ("to", 1), ("in", 2)] : List (Str × Nat)), w ≠ q.1 := fun q hq z => hw ⟨q, hq, z⟩
          rw [lkB_no w1 hw2] at h
          have a1 : (w == ("any" : Str)) = false := by have := hw2 ("any", 0) (by decide); simpa using this
          have a2 : (w == ("is" : Str)) = false := by have := hw2 ("is", 1) (by decide); simpa using this
          have a3 : (w == ("from" : Str)) = false := by have := hw2 ("from", 1) (by decide); simpa using this
          have a4 : (w == ("to" : Str)) = false := by have := hw2 ("to", 1) (by decide); simpa using this
          have a5 : (w == ("in" : Str)) = false := by have := hw2 ("in", 2) (by decide); simpa using this
          have a6 : (w == ("one" : Str)) = false := by simpa using w1
          walk_at "go"
          simp only [List.lookup, a1, a2, a3, a4, a5, a6]
          exact h
    | non => walk_at "go"; exact h
    | bl b => walk_at "go"; exact h
    | int i => walk_at "go"; exact h
    | lst ds => walk_at "go"; exact h
    | tup ds => walk_at "go"; exact h
    | _ => cases hx0
def sp_is_look : SpD := fun ds m P _ => ∃ d, ds = [d] ∧ Thg d ∧ P (.bl (lookB d)) m
def rd_is_look : DS :=
    sSeq (sIf (rAnd (rTru (rCB cIsi (rCons (rV 0) (rCons (rC (.ty "tuple")) (rNil))))) (rAnd (rTst (rOp oEq (rCB cLen (rCons (rV 0) (rNil))) (rC (.int 2)))) (rAnd (rTru (rCB cIsi (rCons (rOp oIx (rV 0) (rC (.int 0))) (rCons (rC (.ty "str")) (rNil))))) (rTst (rOp oEq (rOp oIx (rV 0) (rC (.int 0))) (rC (.str "but"))))))) (sRet (rCall sp_is_plain [] (rCons (rOp oIx (rV 0) (rC (.int 1))) (rNil)))) (sNext))
    (sRet (rCall sp_is_plain [] (rCons (rV 0) (rNil))))
theorem ln_is_look : ∀ ds m Q PX, sp_is_look ds m Q PX → ds.length = 1 := fun ds m Q PX h => by (repeat (obtain ⟨_, h⟩ := h)); subst_vars; rfl
theorem look_two (x y : D) : lookB (.tup [x, y]) = (match x with | .str w => if w = "but" then plB y else lkB w [y] | _ => false) := by
  cases x <;> rfl
theorem look_not : ∀ {xs : List D}, xs.length ≠ 2 → lookB (.tup xs) = plB (.tup xs)
  | [], _ => rfl
  | [x], _ => by cases x <;> rfl
  | [x, y], h => absurd rfl h
  | x :: y :: z :: r, _ => by cases x <;> rfl
theorem pu_is_look : ∀ ds m Q PX, sp_is_look ds m Q PX → rd_is_look (dEnds Q PX) (dstart ["look"] ds) m := by
  rintro ds m Q PX ⟨d, rfl, hd, h⟩
  have hd0 := hd
  revert h
  refine hd.cases_ (p := fun d => Thg d → Q (.bl (lookB d)) m → rd_is_look (dEnds Q PX) (dstart ["look"] [d]) m) ?_ ?_ ?_ ?_ ?_ ?_ ?_ hd0
  all_goals (try (intros; walk_at "go"; exact ⟨_, rfl, by assumption, by assumption⟩))
  intro xs hl hx hd0 h
  walk_at "go"
  cases h2 : decide (((xs.length : Nat) : Int) = 2) with
  | false =>
    have h2' := of_decide_eq_false h2
    rw [look_not (by omega)] at h
    exact ⟨_, rfl, hd0, h⟩
  | true =>
    have h2' := of_decide_eq_true h2
    match xs, h2', hx, hd0, h with
    | [x, y], _, hx, hd0, h =>
      have hx0 := hx x List.mem_cons_self
      have hy0 := hx y (by simp)
      rw [look_two] at h
      walk_at "go"
      cases x with
      | str w =>
        walk_at "go"
        by_cases hb : w = "but"
        · subst hb
          walk_at "go"
          exact ⟨y, rfl, thg_of hy0, h⟩
        · dsimp only at h
          rw [if_neg hb] at h
          rw [decide_eq_false hb]
          exact ⟨_, rfl, hd0, h⟩
      | non => exact ⟨_, rfl, hd0, h⟩
      | bl b => exact ⟨_, rfl, hd0, h⟩
      | int i => exact ⟨_, rfl, hd0, h⟩
      | lst ds => exact ⟨_, rfl, hd0, h⟩
      | tup ds => exact ⟨_, rfl, hd0, h⟩
      | _ => cases hx0
/-! ### the same read by the law -/
/-- looks are looks -/
theorem Lk.plB {l : Lk} (h : l.dep = 1) (h2 : l.few) (h3 : l.uniq) : DL.plB l.d = true := by
  cases l with
  | any => exact (lkB_num _ ("any", 0) (by decide)).trans rfl
  | is n => exact (lkB_num _ ("is", 1) (by decide)).trans rfl
  | frm n => exact (lkB_num _ ("from", 1) (by decide)).trans rfl
  | upto n => exact (lkB_num _ ("to", 1) (by decide)).trans rfl
  | inn a b => exact (lkB_num _ ("in", 2) (by decide)).trans rfl
  | one ns =>
    refine (lkB_one _).trans ?_
    show oneB (ns.map .int) = true
    unfold oneB
    have hn : ns.Nodup := h3
    rw [all_whole, nd_ints, List.length_map, decide_eq_true (show ns.length ≤ 4 from h2), decide_eq_true hn]
    rfl
  | but l => have := dep_pos l; simp [Lk.dep] at h; omega
theorem Lk.Good.look {b : Nat} {l : Lk} (h : l.Good b) : lookB l.d = true := by
  have hd := h.dp
  cases l with
  | but l =>
    have := dep_pos l
    have hd1 : l.dep = 1 := by simp only [Lk.dep] at hd; omega
    show (if ("but" : Str) = "but" then DL.plB l.d else lkB "but" [l.d]) = true
    rw [if_pos rfl]
    exact Lk.plB hd1 h.few h.un
  | any => exact Lk.plB (l := .any) rfl h.few h.un
  | is n => exact Lk.plB (l := .is n) rfl h.few h.un
  | frm n => exact Lk.plB (l := .frm n) rfl h.few h.un
  | upto n => exact Lk.plB (l := .upto n) rfl h.few h.un
  | inn x y => exact Lk.plB (l := .inn x y) rfl h.few h.un
  | one ns => exact Lk.plB (l := .one ns) rfl h.few h.un
theorem thD_txt (s : String) (n : Nat) (h : (Str.ofString s).length ≤ 100000 := by decide) : thD n (.str (Str.ofString s)) := by
  have := fit_txt s 0
  cases n <;> exact ⟨h, this⟩
theorem thD_int {n : Nat} {i : Int} : thD n (.int i) := by cases n <;> trivial
theorem thD_tup {n : Nat} {ds : List D} (hl : ds.length ≤ 10000) (h : ∀ d ∈ ds, thD n d) : thD (n + 1) (.tup ds) := ⟨hl, h⟩
theorem thD_lst {n : Nat} {ds : List D} (hl : ds.length ≤ 10000) (h : ∀ d ∈ ds, thD n d) : thD (n + 1) (.lst ds) := ⟨hl, h⟩
theorem thD_non {n : Nat} : thD n .non := by cases n <;> trivial
theorem thD_bl {n : Nat} {b : Bool} : thD n (.bl b) := by cases n <;> trivial
theorem Lk.th : ∀ (l : Lk), l.few → thD (l.dep + 1) l.d
  | .any, _ => ⟨by simp, fun d hd => by rw [List.mem_singleton.mp hd]; exact thD_txt _ _⟩
  | .is k, _ => ⟨by simp, fun d hd => by simp only [List.mem_cons, List.not_mem_nil, or_false] at hd; rcases hd with rfl | rfl <;> first | exact thD_txt _ _ | exact thD_int⟩
  | .frm k, _ => ⟨by simp, fun d hd => by simp only [List.mem_cons, List.not_mem_nil, or_false] at hd; rcases hd with rfl | rfl <;> first | exact thD_txt _ _ | exact thD_int⟩
  | .upto k, _ => ⟨by simp, fun d hd => by simp only [List.mem_cons, List.not_mem_nil, or_false] at hd; rcases hd with rfl | rfl <;> first | exact thD_txt _ _ | exact thD_int⟩
  | .inn a b, _ => ⟨by simp, fun d hd => by simp only [List.mem_cons, List.not_mem_nil, or_false] at hd; rcases hd with rfl | rfl | rfl <;> first | exact thD_txt _ _ | exact thD_int⟩
  | .one ns, hf => ⟨by simp, fun d hd => by
    simp only [List.mem_cons, List.not_mem_nil, or_false] at hd
    rcases hd with rfl | rfl
    · exact thD_txt _ _
    · exact ⟨by rw [List.length_map]; exact Nat.le_trans hf (by decide), fun d hd => by obtain ⟨k, _, rfl⟩ := List.mem_map.mp hd; exact thD_int⟩⟩
  | .but l, hf => ⟨by simp, fun d hd => by
    simp only [List.mem_cons, List.not_mem_nil, or_false] at hd
    rcases hd with rfl | rfl
    · exact thD_txt _ _
    · exact Lk.th l hf⟩
end DL
namespace DL
open PySem L2
local macro_rules | `(tactic| walk_at "dl") => `(tactic| ((conv => whnf); try dsimp only))
local macro_rules | `(tactic| walk_at "sd") => `(tactic| first | trivial | exact Nat.zero_le _ | assumption | decide | omega | exact len_line (by first | decide | omega | (simp; done) | (simp; omega)) | (simp; done) | (simp; omega) | exact ⟨by decide, by decide, by decide⟩ | exact .inl ⟨by decide, by decide⟩ | exact .inl ⟨by omega, by omega⟩ | exact wide_div (b := 64) (by decide) (by decide) (by decide) (by decide))
local macro_rules | `(tactic| walk_at "go") => `(tactic| ((conv => whnf); (try dsimp only); repeat ((with_reducible refine And.intro ?_ ?_); (focus (walk_at "sd")); (conv => whnf); (try dsimp only))))
local macro_rules | `(tactic| walk_at "th") => `(tactic| repeat' (first | assumption | exact thD_txt _ _ | exact thD_int | exact thD_non | exact thD_bl | (refine thD_mono _ _ _ ?_ (by assumption); decide) | refine List.forall_mem_cons.mpr (And.intro ?_ ?_) | exact List.forall_mem_nil _ | refine thD_tup (by simp) ?_ | refine thD_lst (by simp) ?_))
local macro_rules | `(tactic| walk_at "ln") => `(tactic| (intro ds m Q PX h; repeat (obtain ⟨_, h⟩ := h); subst_vars; rfl))
section
/-! ### what is told of a look that is checked -/
theorem cut_mem {xs : List D} {lo hi : Option Int} {d : D} (h : d ∈ cutD xs lo hi) : d ∈ xs := List.mem_of_mem_drop (List.mem_of_mem_take h)
theorem cut_len (xs : List D) (lo hi : Option Int) : (cutD xs lo hi).length ≤ xs.length := by
  unfold cutD; rw [List.length_take, List.length_drop]; omega
theorem thD_nil {n : Nat} : thD (n + 1) (.tup []) := ⟨by simp, fun _ z => by cases z⟩
end
section
theorem cells {c0 : Int} {ns : List Int} {lo hi : Option Int} : ∀ d ∈ [D.int c0] ++ cutD (ns.map .int) lo hi, ∃ c, d = .int c := by
  intro d hd
  rcases List.mem_append.mp hd with hd | hd
  · exact ⟨c0, List.mem_singleton.mp hd⟩
  · unfold cutD at hd
    obtain ⟨c, _, rfl⟩ := List.mem_map.mp (List.mem_of_mem_drop (List.mem_of_mem_take hd))
    exact ⟨c, rfl⟩
theorem cut_le (ns : List Int) (lo hi : Option Int) : (cutD (ns.map .int) lo hi).length ≤ ns.length := by
  unfold cutD
  rw [List.length_take, List.length_drop, List.length_map]
  omega
end
section
/-! ### names -/
def low (c : Nat) : Bool := decide (97 ≤ c) && decide (c ≤ 122)
def nmB (x : Str) : Bool := decide (1 ≤ x.length) && (decide (x.length ≤ 8) && x.cps.toList.all low)
def nmD : D → Bool
  | .str x => nmB x
  | _ => false
theorem in_low (c : Nat) : inStr ⟨#[c]⟩ "abcdefghijklmnopqrstuvwxyz" = low c := by
  show decide (c ∈ (Str.ofString "abcdefghijklmnopqrstuvwxyz").cps.toList) = _
  have e : (Str.ofString "abcdefghijklmnopqrstuvwxyz").cps.toList = (List.range 26).map (· + 97) := by decide +kernel
  rw [e, Bool.eq_iff_iff, decide_eq_true_eq]
  unfold low
  rw [Bool.and_eq_true, decide_eq_true_eq, decide_eq_true_eq, List.mem_map]
  constructor
  · rintro ⟨k, hk, rfl⟩
    have := List.mem_range.mp hk
    omega
  · rintro ⟨h1, h2⟩
    exact ⟨c - 97, List.mem_range.mpr (by omega), by omega⟩
theorem signs_len (x : Str) : (signs x).length = x.length := by unfold signs; rw [List.length_map, Array.length_toList]; rfl
def lowD : D → Bool
  | .str x => inStr x "abcdefghijklmnopqrstuvwxyz"
  | _ => false
theorem signs_low (x : Str) : (signs x).all lowD = x.cps.toList.all low := by
  unfold signs
  rw [List.all_map]
  congr 1
  funext c
  exact in_low c
def sp_is_name : SpD := fun ds m P _ => ∃ d, ds = [d] ∧ Thg d ∧ P (.bl (nmD d)) m
def rd_is_name : DS :=
    sSeq (sIf (rOr (rNot (rTru (rCB cIsi (rCons (rV 0) (rCons (rC (.ty "str")) (rNil)))))) (rNot (rTst (rChain oLe oLe (rC (.int 1)) (rCB cLen (rCons (rV 0) (rNil))) (rC (.int 8)))))) (sRet (rC (.bl false))) (sNext))
    (sRet (rCB cAll (rCons (rLc (iAny (rV 0)) [1] (gN 1) (qYes) (rOp (oInN false) (rV 1) (rC (.str "abcdefghijklmnopqrstuvwxyz")))) (rNil))))
theorem ln_is_name : ∀ ds m Q PX, sp_is_name ds m Q PX → ds.length = 1 := fun ds m Q PX h => by (repeat (obtain ⟨_, h⟩ := h)); subst_vars; rfl
theorem pu_is_name : ∀ ds m Q PX, sp_is_name ds m Q PX → rd_is_name (dEnds Q PX) (dstart ["thing", "sign"] ds) m := by
  rintro ds m Q PX ⟨d, rfl, hd, h⟩
  revert h
  refine hd.cases_ (p := fun d => Q (.bl (nmD d)) m → rd_is_name (dEnds Q PX) (dstart ["thing", "sign"] [d]) m) ?_ ?_ ?_ ?_ ?_ ?_ ?_
  all_goals (try (intros; walk_at "go"; assumption))
  intro x hl hx h
  change Q (.bl (nmB x)) m at h
  unfold nmB at h
  walk_at "go"
  cases h1 : decide ((1 : Int) ≤ (x.length : Nat)) with
  | false =>
    have := of_decide_eq_false h1
    rw [decide_eq_false (by omega : ¬ 1 ≤ x.length)] at h
    exact h
  | true =>
    have := of_decide_eq_true h1
    rw [decide_eq_true (by omega : 1 ≤ x.length), Bool.true_and] at h
    walk_at "go"
    cases h2 : decide (((x.length : Nat) : Int) ≤ 8) with
    | false =>
      have := of_decide_eq_false h2
      rw [decide_eq_false (by omega : ¬ x.length ≤ 8)] at h
      exact h
    | true =>
      have := of_decide_eq_true h2
      rw [decide_eq_true (by omega : x.length ≤ 8), Bool.true_and] at h
      walk_at "go"
      refine comp_map (fun d => .bl (lowD d)) (by rw [signs_len]; omega) trivial (fun d hd Q q => ?_) ?_
      · obtain ⟨c, _, rfl⟩ := List.mem_map.mp hd
        walk_at "go"
        exact q
      · walk_at "dl"
        rw [show (signs x).map (fun d => D.bl (lowD d)) = ((signs x).map lowD).map D.bl from by rw [List.map_map]; rfl, boolsD_map]
        dsimp only
        rw [all_id, signs_low]
        exact h
/-! ### asks -/
end
section
theorem mset_mset {m : Mu} {a : Addr} {o p : MO} : mset (mset m a o) a p = mset m a p := by
  funext b; unfold mset; split <;> rfl
theorem mdel_mset {m : Mu} {a : Addr} {o : MO} (h : m a = none) : mdel (mset m a o) a = m := by
  funext b; unfold mdel mset
  by_cases z : b = a
  · rw [if_pos z, z, h]
  · rw [if_neg z, if_neg z]
section
variable {Ph : Mu → Prop} {rg : DG} {re : DE} {δ : DSt} {P : List D → Mu → Prop}
theorem comp_on {α : Type} {m : Mu} (ps : List α) (g f : α → D) (hn : ps.length ≤ 16777216) (ph : Ph m) (he : ∀ x ∈ ps, ∀ Q : DK, Q (f x) m → rg (g x) δ m fun δ' m' => re δ' m' Q noX) (h : P (ps.map f) m) : rComp Ph rg qYes re δ P (ps.map g) [] m := by
  refine comp_inv (fun i acc m' => m' = m ∧ acc = (ps.take i).map f) (fun i acc m' h => ?_) (by rw [List.length_map]; exact hn) (fun i d acc m' e h => ?_) (fun acc m' h => ?_) ⟨rfl, by simp⟩
  · rw [h.2, List.length_map, List.length_take]; omega
  · obtain ⟨rfl, rfl⟩ := h
    rw [List.getElem?_map] at e
    cases ei : ps[i]? with
    | none => rw [ei] at e; cases e
    | some x =>
      rw [ei] at e
      cases e
      refine ⟨ph, fun Kt Kf h1 h2 => ?_⟩
      refine he x (List.mem_of_getElem? ei) _ (h1 _ _ ⟨rfl, ?_⟩)
      rw [List.take_add_one, ei, List.map_append]
      rfl
  · obtain ⟨rfl, rfl⟩ := h
    refine ⟨ph, ?_⟩
    rw [List.length_map, List.take_length]
    exact h
end
/-! ### what is asked, what is wished -/
def oS : Option Str → D
  | none => .non
  | some x => .str x
def oN : Option Int → D
  | none => .non
  | some x => .int x
def oL : Option (List Lk) → D
  | none => .non
  | some ls => .tup (ls.map Lk.d)
def askD (a b : Str) (ts : List Int) : D := .tup [.str a, .str b, .tup (ts.map .int)]
/-! ### a wish -/
def wFs (p d l n le mo : D) : List (Str × D) := [("part", p), ("deed", d), ("looks", l), ("name", n), ("least", le), ("most", mo)]
end
section
structure Ws where
  part : Str
  deed : Option Str
  looks : Option (List Lk)
  name : Str
  least : Int
  most : Option Int
def Ws.d (w : Ws) : D := .ins "Wish" (wFs (.str w.part) (oS w.deed) (oL w.looks) (.str w.name) (.int w.least) (oN w.most))
end
section
theorem at_abc {c : Int} (h0 : 0 ≤ c) (h1 : c < 26) : atI (Str.ofString "abcdefghijklmnopqrstuvwxyz").cps.toList c = some (97 + c.toNat) := by
  have e : (Str.ofString "abcdefghijklmnopqrstuvwxyz").cps.toList = (List.range 26).map (97 + ·) := by decide +kernel
  obtain ⟨x, e1, e2⟩ := atI_some (xs := (Str.ofString "abcdefghijklmnopqrstuvwxyz").cps.toList) h0 (by rw [e, List.length_map, List.length_range]; exact h1)
  rw [e1, ← e2, e, List.getElem?_map, List.getElem?_range (by omega)]
  rfl
theorem low_at {c : Nat} (h : c < 26) : low (97 + c) = true := by
  unfold low; rw [Bool.and_eq_true, decide_eq_true_eq, decide_eq_true_eq]; omega
theorem len_app1 (x : Str) (c : Nat) : (x ++ (⟨#[c]⟩ : Str)).length = x.length + 1 := by rw [PySem.Str.length_append]; rfl
theorem low_app1 {x : Str} {c : Nat} (h : x.cps.toList.all low = true) (hc : low c = true) : (x ++ (⟨#[c]⟩ : Str)).cps.toList.all low = true := by
  rw [cps_app, List.all_append, h, Bool.true_and]
  show [c].all low = true
  simp [hc]
def isNms (n : Nat) (d : D) : Prop := ∃ xs : List Str, d = .lst (xs.map .str) ∧ xs.length = n ∧ (∀ x ∈ xs, nmB x = true) ∧ xs.Nodup
def sp__law_names : SpD := fun ds m P _ => ∃ (w : Addr) (n : Nat), ds = [.adr w, .int n] ∧ n ≤ 26 ∧ Dr w (1 + 8 * n) (isNms n) m P
def rd__law_names : DS :=
    sSeq (sSet 2 (rC (.str "abcdefghijklmnopqrstuvwxyz")))
    (sSeq (sSet 3 (rCall sp__law_draw [] (rCons (rV 0) (rCons (rC (.int 26)) (rNil)))))
    (sSeq (sSet 4 (rLstM (rNil)))
    (sSeq (sFor (iRange (rCons (rV 1) (rNil))) (gN 5) (sSeq (sSet 6 (rC (.str "")))
    (sSeq (sFor (iRange (rCons (rCall sp__law_draw [] (rCons (rV 0) (rCons (rC (.int 8)) (rNil)))) (rNil))) (gN 7) (sSet 6 (rOp oAdd (rV 6) (rOp oIx (rV 2) (rCall sp__law_draw [] (rCons (rV 0) (rCons (rC (.int 26)) (rNil))))))))
    (sExpr (rApp (rV 4) (rOp oAdd (rV 6) (rOp oIx (rV 2) (rOp oMod (rCB cInt (rCons (rOp oAdd (rV 3) (rOp oMul (rC (.int 3)) (rV 5))) (rNil))) (rC (.int 26))))))))))
    (sRet (rSeal (rV 4))))))
theorem ln__law_names : ∀ ds m Q PX, sp__law_names ds m Q PX → ds.length = 2 := fun ds m Q PX h => by (repeat (obtain ⟨_, h⟩ := h)); subst_vars; rfl
theorem rg_get {n : Nat} {lo : Int} {i : Nat} {d : D} (h : (rangeD lo n)[i]? = some d) : i < n ∧ d = .int (lo + i) := by
  unfold rangeD at h
  rw [List.getElem?_map] at h
  by_cases hi : i < n
  · rw [List.getElem?_range hi] at h; cases h; exact ⟨hi, rfl⟩
  · rw [List.getElem?_eq_none (by rw [List.length_range]; omega)] at h; cases h
theorem rg_len (lo : Int) (n : Nat) : (rangeD lo n).length = n := by unfold rangeD; rw [List.length_map, List.length_range]
def lastIs (f i : Nat) (x : Str) : Prop := x.cps.toList.getLast? = some (97 + (f + 3 * i) % 26)
theorem last_nodup {f : Nat} {xs : List Str} (hl : xs.length ≤ 26) (h : ∀ i x, xs[i]? = some x → lastIs f i x) : xs.Nodup := by
  rw [nodup_get]
  intro i x ei hm
  obtain ⟨j, hj⟩ := List.getElem?_of_mem hm
  have hji := (List.getElem?_eq_some_iff.mp hj).1
  have hii := (List.getElem?_eq_some_iff.mp ei).1
  rw [List.length_take] at hji
  rw [List.getElem?_take_of_lt (by omega)] at hj
  have e1 := h i x ei
  have e2 := h j x hj
  unfold lastIs at e1 e2
  rw [e1] at e2
  have := Option.some.inj e2
  omega
theorem pu__law_names : ∀ ds m Q PX, sp__law_names ds m Q PX → rd__law_names (dEnds Q PX) (dstart ["_law_well_here", "_law_many", "_law_letters", "_law_first", "_law_found", "_law_k", "_law_who", "_law_j"] ds) m := by
  rintro ds m Q PX ⟨w, n, rfl, hn, k, wl, hk, h⟩
  obtain ⟨N, hN⟩ : ∃ N : Int, N = (n : Nat) := ⟨_, rfl⟩
  rw [← hN]
  walk_at "go"
  refine ⟨w, 26, rfl, by decide, by decide, k, wl, by omega, fun d m1 hd kp1 w1 => ?_⟩
  obtain ⟨f, f0, f1, rfl⟩ := hd
  walk_at "go"
  intro q hq
  have hqw : q ≠ w := fun z => w1.some (by rw [← z]; exact hq)
  walk_at "go"
  refine loop_inv (fun i δ m' => ∃ (xs : List Str) (a5 a6 a7 : Option D), δ = [some (.adr w), some (.int N), some (.str (Str.ofString "abcdefghijklmnopqrstuvwxyz")), some (.int f), some (.adr q), a5, a6, a7] ∧ m' q = some (.lst (xs.map .str)) ∧ xs.length = i ∧ (∀ x ∈ xs, nmB x = true) ∧ (∀ j x, xs[j]? = some x → lastIs f.toNat j x) ∧ Wl m' w (k + 1 + 8 * i) ∧ Kp [w] m m') (fun i d δ m' e hh => ?_) (fun δ m' hh => ?_) ⟨[], _, _, _, rfl, mset_same, rfl, fun _ z => (List.not_mem_nil z).elim, fun j x z => (by simp at z), ?_, ?_⟩
  · obtain ⟨xs, a5, a6, a7, rfl, hmq, hl, hnm, hla, wi, kpi⟩ := hh
    obtain ⟨hi, rfl⟩ := rg_get e
    have hi' : i < n := by omega
    refine ⟨trivial, fun Nx k1 => ?_⟩
    walk_at "go"
    refine ⟨w, 8, rfl, by decide, by decide, _, wi, by omega, fun d m2 hd kp2 w2 => ?_⟩
    obtain ⟨r, r0, r1, rfl⟩ := hd
    walk_at "go"
    refine loop_inv (fun j δ m'' => ∃ (who : Str) (a7 : Option D), δ = [some (.adr w), some (.int N), some (.str (Str.ofString "abcdefghijklmnopqrstuvwxyz")), some (.int f), some (.adr q), some (.int (0 + i)), some (.str who), a7] ∧ who.cps.toList.all low = true ∧ who.length = j ∧ Wl m'' w (k + 1 + 8 * i + 1 + j) ∧ Kp [w] m2 m'') (fun j d δ m'' e hh => ?_) (fun δ m'' hh => ?_) ⟨_, _, rfl, rfl, rfl, w2, Kp.refl _ _⟩
    · obtain ⟨who, a7, rfl, hlo, hle, wj, kpj⟩ := hh
      obtain ⟨hj, rfl⟩ := rg_get e
      have hj' : j < 7 := by omega
      refine ⟨trivial, fun Nx k1 => ?_⟩
      walk_at "go"
      refine ⟨w, 26, rfl, by decide, by decide, _, wj, by omega, fun d m3 hd kp3 w3 => ?_⟩
      obtain ⟨c, c0, c1, rfl⟩ := hd
      have hs : ({ cps := #[97 + c.toNat] } : Str).length = 1 := rfl
      walk_at "go"
      rw [at_abc c0 c1]
      walk_at "go"
      refine k1 _ _ ⟨_, _, rfl, low_app1 hlo (low_at (by omega)), by rw [len_app1, hle], w3, kpj.trans kp3⟩
    · obtain ⟨who, a7, rfl, hlo, hle, wj, kpj⟩ := hh
      rw [rg_len] at hle wj
      have hm2 : m'' q = some (.lst (xs.map .str)) := kpj q _ (by simp [hqw]) (kp2 q _ (by simp [hqw]) hmq)
      refine ⟨trivial, ?_⟩
      walk_at "go"
      refine ⟨⟨_, hm2⟩, ?_⟩
      walk_at "go"
      have hmd : 0 ≤ (f + 3 * (0 + (i : Int))) % 26 ∧ (f + 3 * (0 + (i : Int))) % 26 < 26 := by omega
      have hs : ({ cps := #[97 + ((f + 3 * (0 + (i : Int))) % 26).toNat] } : Str).length = 1 := rfl
      have hl7 : who.length ≤ 7 := by omega
      rw [at_abc hmd.1 hmd.2]
      walk_at "go"
      rw [hm2]
      dsimp only
      refine ⟨len_line (by rw [List.length_map]; omega), ?_⟩
      have hlow := low_app1 hlo (low_at (c := ((f + 3 * (0 + (i : Int))) % 26).toNat) (by omega))
      refine k1 _ _ ⟨xs ++ [who ++ (⟨#[97 + ((f + 3 * (0 + (i : Int))) % 26).toNat]⟩ : Str)], _, _, _, rfl, ?_, by simp [hl], fun x hx => ?_, fun j x hx => ?_, ?_, ?_⟩
      · rw [mset_same]; simp
      · rcases List.mem_append.mp hx with hx | hx
        · exact hnm x hx
        · rw [List.mem_singleton.mp hx]
          unfold nmB
          rw [len_app1, hlow, decide_eq_true (by omega : 1 ≤ who.length + 1), decide_eq_true (by omega : who.length + 1 ≤ 8)]; rfl
      · by_cases hj : j < xs.length
        · rw [List.getElem?_append_left hj] at hx
          exact hla j x hx
        · rw [List.getElem?_append_right (by omega)] at hx
          have hj0 : j - xs.length = 0 := by
            have := (List.getElem?_eq_some_iff.mp hx).1
            simp at this; omega
          rw [hj0] at hx
          cases hx
          unfold lastIs
          rw [cps_app, List.getLast?_append]
          show some (97 + ((f + 3 * (0 + (i : Int))) % 26).toNat) = _
          congr 2
          omega
      · obtain ⟨a, b, c, e, z⟩ := (wj.mono (show _ ≤ k + 1 + 8 * (i + 1) by omega)).ex
        exact ⟨a, b, c, by rw [mset_ne hqw.symm]; exact e, z⟩
      · intro a o ha hao
        have hne : a ≠ q := fun z => by
          have := kp1 a o ha hao
          rw [z, hq] at this; cases this
        rw [mset_ne hne]
        exact kpj a o ha (kp2 a o ha (kpi a o ha hao))
  · obtain ⟨xs, a5, a6, a7, rfl, hmq, hl, hnm, hla, wi, kpi⟩ := hh
    rw [rg_len] at hl wi
    refine ⟨trivial, ?_⟩
    walk_at "go"
    rw [hmq]
    dsimp only
    refine h _ _ ⟨xs, rfl, by omega, hnm, last_nodup (by omega) hla⟩ (fun a o ha hao => ?_) ?_
    · have hne : a ≠ q := fun z => by
        have := kp1 a o ha hao
        rw [z, hq] at this; cases this
      unfold mdel
      rw [if_neg hne]
      exact kpi a o ha hao
    · obtain ⟨a, b, c, e, z⟩ := (wi.mono (show _ ≤ k + (1 + 8 * n) by omega)).ex
      exact ⟨a, b, c, by unfold mdel; rw [if_neg hqw.symm]; exact e, z⟩
  · obtain ⟨a, b, c, e, z⟩ := w1.ex
    exact ⟨a, b, c, by rw [mset_ne hqw.symm]; exact e, z⟩
  · exact kp1.trans (kp_new hq)
end
section
theorem nm_len {x : Str} (h : nmB x = true) : 1 ≤ x.length ∧ x.length ≤ 8 ∧ x.cps.toList.all low = true := by
  unfold nmB at h
  rw [Bool.and_eq_true, Bool.and_eq_true, decide_eq_true_eq, decide_eq_true_eq] at h
  exact ⟨h.1, h.2.1, h.2.2⟩
theorem nm_low {x : Str} (h : x.cps.toList.all low = true) : ∀ c ∈ x.cps.toList, c < 1114112 := fun c hc => by
  have := List.all_eq_true.mp h c hc
  unfold low at this
  rw [Bool.and_eq_true, decide_eq_true_eq, decide_eq_true_eq] at this
  omega
theorem thD_nm {n : Nat} {x : Str} (h : nmB x = true) : thD n (.str x) := by
  obtain ⟨_, h2, h3⟩ := nm_len h
  cases n <;> exact ⟨by omega, nm_low h3⟩
theorem thD_ints {n : Nat} {ts : List Int} (h : ts.length ≤ 10000) : thD (n + 1) (.tup (ts.map .int)) := ⟨by rw [List.length_map]; exact h, fun d hd => by obtain ⟨k, _, rfl⟩ := List.mem_map.mp hd; exact thD_int⟩
end
section
/-! ### wishes, good ones -/
structure Ws.Pre (W : Ws) : Prop where
  part : nmB W.part = true
  deed : ∀ x, W.deed = some x → nmB x = true
  looks : ∀ ls, W.looks = some ls → ls.length ≤ 2 ∧ ∀ l ∈ ls, l.Good 142
  name : nmB W.name = true
  least : 0 ≤ W.least ∧ W.least ≤ 4
  most : ∀ h, W.most = some h → 0 ≤ h ∧ h ≤ 4
structure Ws.Ok (W : Ws) : Prop extends W.Pre where
  cnt : ∀ h, W.most = some h → W.least ≤ h
def Ws.row (W : Ws) : D := .tup [.str W.part, oS W.deed, oL W.looks, .str W.name, .int W.least, oN W.most]
theorem Lk.Good.th {b : Nat} {l : Lk} (h : l.Good b) : thD 3 l.d := thD_mono _ 3 _ (by have := h.dp; omega) (l.th h.few)
theorem Ws.Pre.nm {W : Ws} (h : W.Pre) : (nmD (.str W.part) && ((isNone (oS W.deed) || nmD (oS W.deed)) && nmD (.str W.name))) = true := by
  show (nmB W.part && ((isNone (oS W.deed) || nmD (oS W.deed)) && nmB W.name)) = true
  rw [h.part, h.name, Bool.true_and, Bool.and_true]
  cases e : W.deed with
  | none => rfl
  | some x => exact h.deed x e
theorem valD_none {kvs : List (Key × D)} {k : Key} (h : k ∉ kvs.map (·.1)) : valD kvs k = none := by
  induction kvs with
  | nil => exact valD_nil
  | cons p r ih =>
    rw [List.map_cons, List.mem_cons, not_or] at h
    rw [valD_neg (fun e => h.1 e.symm)]
    exact ih h.2
theorem merge_nd : ∀ (ps acc : List (Key × D)), ((acc ++ ps).map (·.1)).Nodup → mergeD acc ps = acc ++ ps
  | [], acc, _ => by simp [mergeD]
  | p :: ps, acc, h => by
    have h1 : putD acc p.1 p.2 = acc ++ [p] := putD_new (valD_none fun z => by
      rw [List.map_append, List.map_cons, List.nodup_append] at h
      exact h.2.2 p.1 z p.1 List.mem_cons_self rfl)
    show mergeD (putD acc p.1 p.2) ps = _
    rw [h1, merge_nd ps (acc ++ [p]) (by simpa using h)]
    simp
def wDct (a b c : D) : D := .dct [(.inr "parts", a), (.inr "deeds", b), (.inr "mids", c)]
theorem kne1 : ¬ (Sum.inr (Str.ofString "parts") : Key) = .inr (Str.ofString "deeds") := by decide
theorem kne2 : ¬ (Sum.inr (Str.ofString "parts") : Key) = .inr (Str.ofString "mids") := by decide
theorem kne3 : ¬ (Sum.inr (Str.ofString "deeds") : Key) = .inr (Str.ofString "mids") := by decide
theorem wd_parts (a b c : D) : valD [((.inr "parts" : Key), a), (.inr "deeds", b), (.inr "mids", c)] (.inr "parts") = some a := valD_pos rfl
theorem wd_deeds (a b c : D) : valD [((.inr "parts" : Key), a), (.inr "deeds", b), (.inr "mids", c)] (.inr "deeds") = some b := by rw [valD_neg kne1]; exact valD_pos rfl
theorem wd_mids (a b c : D) : valD [((.inr "parts" : Key), a), (.inr "deeds", b), (.inr "mids", c)] (.inr "mids") = some c := by rw [valD_neg kne2, valD_neg kne3]; exact valD_pos rfl
def isWorld (d : D) : Prop := ∃ (ps ds : List Str) (ms : List Int), d = wDct (.lst (ps.map .str)) (.lst (ds.map .str)) (.lst (ms.map .int)) ∧ (0 < ps.length ∧ ps.length ≤ 2) ∧ (0 < ds.length ∧ ds.length ≤ 3) ∧ (∀ x ∈ ps ++ ds, nmB x = true) ∧ (ps ++ ds).Nodup ∧ ms.length = 3 ∧ ∀ n ∈ ms, Bd 140 n
end
section
theorem oN_inj {x y : Option Int} (h : oN x = oN y) : x = y := by
  cases x <;> cases y <;> first | rfl | (injection h with h; rw [h]) | cases h
theorem deqP {m : Mu} {x y : D} {b : Bool} (hx : pur x = true) (hy : pur y = true) (hb : b = true ↔ x = y) : deq (dat m x) (dat m y) = b := by
  rw [dat_pur hx, dat_pur hy, Bool.eq_iff_iff, deq_iff hx hy, hb]
end
end DL
namespace DL
open PySem L2 PySem.Spec PyProof.Rows
/-! ### repr of data, where nothing is under way -/
mutual
theorem dp_plain {K : PySem.W.Frag} {H : Hp} : ∀ {v : V} {d : PyData}, Dp K H v d → d.hasDict = false
  | _, _, .non => by simp only [PyData.hasDict]
  | _, _, .bl _ => by simp only [PyData.hasDict]
  | _, _, .int _ => by simp only [PyData.hasDict]
  | _, _, .str _ => by simp only [PyData.hasDict]
  | _, _, .lst _ r => by simp only [PyData.hasDict]; exact dp_plainL r
  | _, _, .tup _ r => by simp only [PyData.hasDict]; exact dp_plainL r
theorem dp_plainL {K : PySem.W.Frag} {H : Hp} : ∀ {vs : List V} {ds : List PyData}, DpAll K H vs ds → PyData.hasDictAll ds = false
  | _, _, .nil => by simp only [PyData.hasDictAll]
  | _, _, .cons r rs => by simp only [PyData.hasDictAll, dp_plain r, dp_plainL rs, Bool.or_false]
end
section
variable {X : Cx}
def rReprD (K : PySem.W.Frag) : List V → Hp → VK → Prop := fun xs H Q =>
  (∃ x d, xs = [x] ∧ Dp K H x d ∧ SeqAt.shaped d = true ∧ d.showable = true ∧ d.shown.length ≤ sizeLine ∧ Q (.str d.shown) H) ∨ ∃ a, xs = [.ref a] ∧ H a = some (.dK []) ∧ Q (.str (PyData.shown (.dict []))) H
theorem call_reprD (hg : X.A.guards = some []) (hu : X.A.units + 66 < cLine) : CallR X (.builtin "repr") (rReprD X.K) := by
  intro pins s σ H xs us Q I r h
  rcases h with ⟨x, d, rfl, hd, hs, hw, hz, q⟩ | ⟨a, rfl, hd, q⟩
  · obtain ⟨u, rfl, ru⟩ := vals1 r
    obtain ⟨as, rd⟩ := Dp.reads I d x u hd ru
    have dep := SeqAt.depth_of_shaped hs
    have nd := dp_plain hd
    cases hd with
    | non =>
      obtain rfl : u = Value.none := ru
      simp only [PyData.shown] at q
      exact PySem.P.repr_of_none ⟨.str _, H, I.tok _, ⟨_, rfl⟩, q⟩
    | bl b =>
      obtain rfl : u = Value.bool b := ru
      simp only [PyData.shown] at q
      exact PySem.P.repr_of_bool ⟨.str _, H, I.tok _, ⟨_, rfl⟩, q⟩
    | int i =>
      obtain ⟨t, rfl⟩ := ru
      simp only [PyData.shown] at q
      exact PySem.P.repr_of_int (by simpa only [PyData.showable, decide_eq_true_eq] using hw) ⟨.str _, H, I.tok _, ⟨_, rfl⟩, q⟩
    | str y =>
      obtain ⟨t, rfl⟩ := ru
      simp only [PyData.shown] at q hz
      exact PySem.P.repr_of_str ⟨.str _, H, I.tok _, ⟨_, rfl⟩, q⟩ hz
    | lst h1 h2 =>
      obtain rfl := show u = Value.ref _ from ru
      exact repr_of_reads' rd hw (fun z => by rw [nd] at z; cases z) hg (by omega) (fun _ _ e => e) (fun h' t tk kp => ⟨.str _, H, I.kept kp, ⟨_, rfl⟩, q⟩) hz
    | tup h1 h2 =>
      obtain rfl := show u = Value.ref _ from ru
      exact repr_of_reads' rd hw (fun z => by rw [nd] at z; cases z) hg (by omega) (fun _ _ e => e) (fun h' t tk kp => ⟨.str _, H, I.kept kp, ⟨_, rfl⟩, q⟩) hz
  · obtain ⟨u, rfl, ru⟩ := vals1 r
    obtain rfl : u = Value.ref a := ru
    obtain ⟨_, hsm, vs, rel, o, es, ep, ho, hx, hdt, _, hp, _⟩ := dk_of I.hok hd
    cases rel
    have he : es.toList = [] := by
      generalize es.toList = l at hp
      cases hp
      rfl
    have rd : Reads s.heap (.ref a) (.dict []) [a] := by
      refine Reads.dict (as := []) (bs := []) ho hx.1 hdt ?_ ?_ <;> (rw [he]; exact .nil)
    refine repr_of_reads' rd (by simp only [PyData.showable, PyData.showableKv]) (fun _ z => ?_) hg (by simp only [PyData.depth, PyData.depthKv]; omega) (fun _ _ e => e) (fun h' t tk kp => ⟨.str _, H, I.kept kp, ⟨_, rfl⟩, q⟩) (by decide +kernel)
    rw [List.mem_singleton.mp z] at hsm
    simp at hsm
/-! on data -/
def repOk (d : D) : Prop := d = .dct [] ∨ (shp d ∧ (py d).showable = true ∧ (py d).shown.length ≤ sizeLine)
@[irreducible] def repD (d : D) : Str := (py d).shown
def cRepr : DC := fun xs m P => match xs with
  | [x] => repOk (dat m x) ∧ P (.str (repD (dat m x))) m
  | _ => False
theorem repr_ok {K : KW} : CalD K (rReprD K.fr) cRepr := by
  intro F H0 m H vs ds P Q ok r h g
  unfold cRepr at h
  split at h
  · rename_i x
    obtain ⟨v, rfl, q⟩ := r.one
    obtain ⟨h1, h2⟩ := h
    have rq := dat_rp ok q
    rcases h1 with e | ⟨h1, h3, h4⟩
    · rw [e] at rq
      cases rq with
      | dct h5 h6 h7 =>
        rename_i a kv
        have : kv = [] := List.map_eq_nil_iff.mp h6
        subst this
        refine .inr ⟨_, rfl, h5, ?_⟩
        have e2 : PyData.shown (.dict []) = repD (dat m x) := by rw [e]; unfold repD; rw [py]
        rw [e2]
        exact g.id ok (.str _) h2
    · refine .inl ⟨_, _, rfl, dp_of rq (SeqAt.canLay_of_shaped h1), h1, h3, h4, ?_⟩
      have e2 : (py (dat m x)).shown = repD (dat m x) := by unfold repD; rfl
      rw [e2]
      exact g.id ok (.str _) h2
  · exact h.elim
theorem pd_repr {W : WX} {x : Str} {p pos : Pos} {e : Expr} {es : List Expr} {qs : DA} (hgu : X.A.guards = some []) (hu : X.A.units + 66 < cLine) (hm : X.mg x = none) (hv : bootBuiltins x = some (.builtin "repr")) (ha : PA X (e :: es) (lA (kw X) W qs)) (hg : Gl X x := by rfl) (hn : x ≠ "__name__" := by decide) (hdb : (x == ("__debug__" : Str)) = false := by decide)
    (he : starEach (e :: es) X.env = (false, eval e X.env) :: starEach es X.env := by rfl) (hpl : (backTo pos (starEach es X.env)).any (·.1) = false := by rfl) : PE X (.Call (.Name x p) (e :: es) [] pos) (lE (kw X) W (rCB cRepr qs)) := pd_callB (call_reprD hgu hu) repr_ok hm hv ha hg hn hdb he hpl
end
/-! what may be shown -/
mutual
def shoD : D → Prop
  | .non => True
  | .bl _ => True
  | .int n => n.natAbs < 10 ^ 100
  | .str x => x.length ≤ 100 ∧ ∀ c ∈ x.cps.toList, c < 1114112
  | .lst ds => shoL ds
  | .tup ds => shoL ds
  | _ => False
def shoL : List D → Prop
  | [] => True
  | d :: ds => shoD d ∧ shoL ds
end
mutual
def wtD : D → Nat
  | .int _ => 334
  | .str x => x.length
  | .lst ds => wtL ds
  | .tup ds => wtL ds
  | _ => 0
def wtL : List D → Nat
  | [] => 0
  | d :: ds => wtD d + 1 + wtL ds
end
theorem log_small {n : Int} (h : n.natAbs < 10 ^ 100) : n.natAbs.log2 < 333 := by
  by_cases z : n.natAbs = 0
  · rw [z]; decide
  · rw [Nat.log2_lt z]
    exact Nat.lt_of_lt_of_le h (by decide +kernel)
mutual
theorem sho_ok : ∀ d : D, shoD d → (py d).showable = true ∧ (py d).leavesShort 101 = true ∧ (py d).weight ≤ wtD d
  | .non, _ => by rw [py]; simp [PyData.showable, PyData.leavesShort, PyData.weight, wtD]
  | .bl _, _ => by rw [py]; simp [PyData.showable, PyData.leavesShort, PyData.weight, wtD]
  | .int n, h => by
    have h : n.natAbs < 10 ^ 100 := by rw [shoD] at h; exact h
    have l := log_small h
    rw [py]
    refine ⟨?_, ?_, ?_⟩
    · simp only [PyData.showable, decide_eq_true_eq]; omega
    · simp only [PyData.leavesShort, PyData.shown]
      exact decide_eq_true (by rw [PySem.ofString_length]; exact int_text_length_le10 (k := 100) (by decide) h)
    · simp only [PyData.weight, wtD]
      split <;> omega
  | .str x, h => by
    rw [shoD] at h
    rw [py]
    refine ⟨by simp only [PyData.showable], ?_, ?_⟩
    · simp only [PyData.leavesShort, List.all_eq_true, decide_eq_true_eq]
      intro c hc
      have := h.2 c hc
      omega
    · simp only [PyData.weight, wtD]
      exact Nat.le_refl _
  | .lst ds, h => by
    rw [shoD] at h
    obtain ⟨a, b, c⟩ := sho_okL ds h
    rw [py]
    simp only [PyData.showable, PyData.leavesShort, PyData.weight, wtD]
    exact ⟨a, b, c⟩
  | .tup ds, h => by
    rw [shoD] at h
    obtain ⟨a, b, c⟩ := sho_okL ds h
    rw [py]
    simp only [PyData.showable, PyData.leavesShort, PyData.weight, wtD]
    exact ⟨a, b, c⟩
  | .ty _, h => by simp [shoD] at h
  | .adr _, h => by simp [shoD] at h
  | .glb _, h => by simp [shoD] at h
  | .exc _ _ _ _ _, h => by simp [shoD] at h
  | .dct _, h => by simp [shoD] at h
  | .ins _ _, h => by simp [shoD] at h
theorem sho_okL : ∀ ds : List D, shoL ds → PyData.showableAll (pyL ds) = true ∧ PyData.leavesShortAll 101 (pyL ds) = true ∧ PyData.weightAll (pyL ds) ≤ wtL ds
  | [], _ => by rw [pyL]; simp [PyData.showableAll, PyData.leavesShortAll, PyData.weightAll, wtL]
  | d :: ds, h => by
    rw [shoL] at h
    obtain ⟨a1, a2, a3⟩ := sho_ok d h.1
    obtain ⟨b1, b2, b3⟩ := sho_okL ds h.2
    rw [pyL]
    simp only [PyData.showableAll, PyData.leavesShortAll, PyData.weightAll, wtL, a1, a2, b1, b2]
    exact ⟨rfl, rfl, by omega⟩
end
theorem rep_of {d : D} (h1 : shp d) (h2 : shoD d) (h3 : wtD d ≤ 100000) : repOk d := by
  obtain ⟨a, b, c⟩ := sho_ok d h2
  refine .inr ⟨h1, a, ?_⟩
  have := PyData.shown_le 101 (by decide) (py d) b
  exact Nat.le_trans this (by rw [sizeLine_eq]; omega)
theorem shoL_all {ds : List D} (h : ∀ d ∈ ds, shoD d) : shoL ds := by
  induction ds with
  | nil => rw [shoL]; trivial
  | cons a l ih => rw [shoL]; exact ⟨h a List.mem_cons_self, ih fun d hd => h d (List.mem_cons_of_mem _ hd)⟩
theorem units66 {k : Nat} {A : Around} (r : Room k A) : A.units + 66 < cLine := by have := r.un; omega
end DL
namespace DL
open PySem L2
local macro_rules | `(tactic| walk_at "dl") => `(tactic| ((conv => whnf); try dsimp only))
local macro_rules | `(tactic| walk_at "sd") => `(tactic| first | trivial | exact Nat.zero_le _ | assumption | decide | omega | exact len_line (by first | decide | omega | (simp; done) | (simp; omega)) | (simp; done) | (simp; omega) | exact ⟨by decide, by decide, by decide⟩ | exact .inl ⟨by decide, by decide⟩ | exact .inl ⟨by omega, by omega⟩ | exact wide_div (b := 64) (by decide) (by decide) (by decide) (by decide))
local macro_rules | `(tactic| walk_at "go") => `(tactic| ((conv => whnf); (try dsimp only); repeat ((with_reducible refine And.intro ?_ ?_); (focus (walk_at "sd")); (conv => whnf); (try dsimp only))))
local macro_rules | `(tactic| walk_at "th") => `(tactic| repeat' (first | assumption | exact thD_txt _ _ | exact thD_int | exact thD_non | exact thD_bl | (refine thD_mono _ _ _ ?_ (by assumption); decide) | refine List.forall_mem_cons.mpr (And.intro ?_ ?_) | exact List.forall_mem_nil _ | refine thD_tup (by simp) ?_ | refine thD_lst (by simp) ?_))
local macro_rules | `(tactic| walk_at "ln") => `(tactic| (intro ds m Q PX h; repeat (obtain ⟨_, h⟩ := h); subst_vars; rfl))
section
/-! ### rooms: what is one -/
def strIs (s : Str) : D → Bool
  | .str x => decide (x = s)
  | _ => false
theorem deq_tup_str {xs : List D} {s : Str} : deq (.tup xs) (.str s) = false := by unfold deq; rw [py, py, PyData.eqv]; all_goals (intros; simp_all)
theorem deq_lst_str {xs : List D} {s : Str} : deq (.lst xs) (.str s) = false := by unfold deq; rw [py, py, PyData.eqv]; all_goals (intros; simp_all)
def thingB : D → Bool
  | .int _ => true
  | .tup [a, b] => strIs "last" a && isWhole b
  | _ => false
theorem thing_no : ∀ {xs : List D}, xs.length ≠ 2 → thingB (.tup xs) = false
  | [], _ => rfl
  | [_], _ => rfl
  | [_, _], h => (h rfl).elim
  | _ :: _ :: _ :: _, _ => rfl
def sp_is_thing : SpD := fun ds m P _ => ∃ d, ds = [d] ∧ Thg d ∧ P (.bl (thingB d)) m
def rd_is_thing : DS :=
    sSeq (sIf (rTru (rCall sp_is_whole [] (rCons (rV 0) (rNil)))) (sRet (rC (.bl true))) (sNext))
    (sRet (rAndV (rCB cIsi (rCons (rV 0) (rCons (rC (.ty "tuple")) (rNil)))) (rAndV (rOp oEq (rCB cLen (rCons (rV 0) (rNil))) (rC (.int 2))) (rAndV (rOp oEq (rOp oIx (rV 0) (rC (.int 0))) (rC (.str "last"))) (rCall sp_is_whole [] (rCons (rOp oIx (rV 0) (rC (.int 1))) (rNil)))))))
theorem ln_is_thing : ∀ ds m Q PX, sp_is_thing ds m Q PX → ds.length = 1 := fun ds m Q PX h => by (repeat (obtain ⟨_, h⟩ := h)); subst_vars; rfl
theorem pu_is_thing : ∀ ds m Q PX, sp_is_thing ds m Q PX → rd_is_thing (dEnds Q PX) (dstart ["thing"] ds) m := by
  rintro ds m Q PX ⟨d, rfl, hd, h⟩
  have hd' := hd
  revert h
  revert hd'
  refine hd.cases_ (p := fun d => Thg d → Q (.bl (thingB d)) m → rd_is_thing (dEnds Q PX) (dstart ["thing"] [d]) m) ?_ ?_ ?_ ?_ ?_ ?_ ?_
  all_goals (try (intros; walk_at "go"; refine ⟨_, rfl, by assumption, ?_⟩; walk_at "go"; assumption))
  intro xs hl hx hd' h
  walk_at "go"
  refine ⟨_, rfl, hd', ?_⟩
  walk_at "go"
  by_cases h2 : xs.length = 2
  · match xs, h2, hx, h with
    | [a, b], _, hx, h =>
    change Q (.bl (strIs "last" a && isWhole b)) m at h
    have ha := hx a List.mem_cons_self
    have hb := thg_of (hx b (by simp))
    have fin : strIs "last" a = false → Q (.bl false) m := fun e => by rw [e] at h; exact h
    cases a with
    | str w =>
      by_cases e : w = "last"
      · rw [show strIs "last" (.str w) = true from decide_eq_true e, Bool.true_and] at h
        walk_at "go"
        rw [decide_eq_true e]
        walk_at "go"
        exact ⟨_, rfl, hb, h⟩
      · walk_at "go"
        rw [decide_eq_false e]
        exact fin (decide_eq_false e)
    | non => walk_at "go"; exact fin rfl
    | bl b => walk_at "go"; exact fin rfl
    | int i => walk_at "go"; exact fin rfl
    | lst ds =>
      walk_at "go"
      refine ⟨shpT (n := 19) ha, shpT (n := 1) (thD_txt _ _), ?_⟩
      have ee : deq (dat m (.lst ds)) (dat m (.str "last")) = false := deq_lst_str
      rw [if_neg (by decide), ee]; exact fin rfl
    | tup ds =>
      walk_at "go"
      refine ⟨shpT (n := 19) ha, shpT (n := 1) (thD_txt _ _), ?_⟩
      have ee : deq (dat m (.tup ds)) (dat m (.str "last")) = false := deq_tup_str
      rw [if_neg (by decide), ee]; exact fin rfl
    | _ => cases ha
  · rw [decide_eq_false (by omega)]
    rw [thing_no h2] at h
    exact h
def placeB (n : Int) : D → Bool
  | .int i => decide (0 ≤ i) && decide (i < n)
  | _ => false
def sp_is_place : SpD := fun ds m P _ => ∃ (d : D) (n : Int), ds = [d, .int n] ∧ Thg d ∧ P (.bl (placeB n d)) m
def rd_is_place : DS :=
    sRet (rAndV (rCall sp_is_whole [] (rCons (rV 0) (rNil))) (rChain oLe oLt (rC (.int 0)) (rV 0) (rV 1)))
theorem ln_is_place : ∀ ds m Q PX, sp_is_place ds m Q PX → ds.length = 2 := fun ds m Q PX h => by (repeat (obtain ⟨_, h⟩ := h)); subst_vars; rfl
theorem pu_is_place : ∀ ds m Q PX, sp_is_place ds m Q PX → rd_is_place (dEnds Q PX) (dstart ["thing", "many"] ds) m := by
  rintro ds m Q PX ⟨d, n, rfl, hd, h⟩
  have hd' := hd
  revert h
  revert hd'
  refine hd.cases_ (p := fun d => Thg d → Q (.bl (placeB n d)) m → rd_is_place (dEnds Q PX) (dstart ["thing", "many"] [d, .int n]) m) ?_ ?_ ?_ ?_ ?_ ?_ ?_
  all_goals (try (intros; walk_at "go"; refine ⟨_, rfl, by assumption, ?_⟩; walk_at "go"; assumption))
  intro i hd' h
  walk_at "go"
  refine ⟨_, rfl, hd', ?_⟩
  walk_at "go"
  change Q (.bl (decide (0 ≤ i) && decide (i < n))) m at h
  cases e : decide (0 ≤ i) with
  | false => rw [e] at h; exact h
  | true => rw [e, Bool.true_and] at h; exact h
noncomputable def wayB (n : Int) : D → Bool
  | .tup [a, b] => lookB a && placeB n b
  | _ => false
theorem way_no {n : Int} : ∀ {xs : List D}, xs.length ≠ 2 → wayB n (.tup xs) = false
  | [], _ => rfl
  | [_], _ => rfl
  | [_, _], h => (h rfl).elim
  | _ :: _ :: _ :: _, _ => rfl
def sp_is_way : SpD := fun ds m P _ => ∃ (d : D) (n : Int), ds = [d, .int n] ∧ Thg d ∧ P (.bl (wayB n d)) m
def rd_is_way : DS :=
    sRet (rAndV (rCB cIsi (rCons (rV 0) (rCons (rC (.ty "tuple")) (rNil)))) (rAndV (rOp oEq (rCB cLen (rCons (rV 0) (rNil))) (rC (.int 2))) (rAndV (rCall sp_is_look [] (rCons (rOp oIx (rV 0) (rC (.int 0))) (rNil))) (rCall sp_is_place [] (rCons (rOp oIx (rV 0) (rC (.int 1))) (rCons (rV 1) (rNil)))))))
theorem ln_is_way : ∀ ds m Q PX, sp_is_way ds m Q PX → ds.length = 2 := fun ds m Q PX h => by (repeat (obtain ⟨_, h⟩ := h)); subst_vars; rfl
theorem pu_is_way : ∀ ds m Q PX, sp_is_way ds m Q PX → rd_is_way (dEnds Q PX) (dstart ["way", "many"] ds) m := by
  rintro ds m Q PX ⟨d, n, rfl, hd, h⟩
  revert h
  refine hd.cases_ (p := fun d => Q (.bl (wayB n d)) m → rd_is_way (dEnds Q PX) (dstart ["way", "many"] [d, .int n]) m) ?_ ?_ ?_ ?_ ?_ ?_ ?_
  all_goals (try (intros; walk_at "go"; assumption))
  intro xs hl hx h
  walk_at "go"
  by_cases h2 : xs.length = 2
  · match xs, h2, hx, h with
    | [a, b], _, hx, h =>
    change Q (.bl (lookB a && placeB n b)) m at h
    have ha := thg_of (hx a List.mem_cons_self)
    have hb := thg_of (hx b (by simp))
    walk_at "go"
    refine ⟨_, rfl, ha, ?_⟩
    cases e : lookB a with
    | false => rw [e] at h; exact h
    | true =>
      rw [e, Bool.true_and] at h
      walk_at "go"
      exact ⟨_, _, rfl, hb, h⟩
  · rw [decide_eq_false (by omega)]
    rw [way_no h2] at h
    exact h
end
section
def tupB (k : Nat) (f : D → Bool) : D → Bool
  | .tup xs => decide (xs.length ≤ k) && xs.all f
  | _ => false
noncomputable def askingB (n : Int) : List D → Bool
  | [a, b, c, e, f] => nmD a && (nmD b && (tupB 2 thingB c && (tupB 3 (wayB n) e && placeB n f)))
  | _ => false
theorem asking_no {n : Int} : ∀ {xs : List D}, xs.length ≠ 5 → askingB n xs = false
  | [], _ => rfl
  | [_], _ => rfl
  | [_, _], _ => rfl
  | [_, _, _], _ => rfl
  | [_, _, _, _], _ => rfl
  | [_, _, _, _, _], h => (h rfl).elim
  | _ :: _ :: _ :: _ :: _ :: _ :: _, _ => rfl
def sp_is_asking : SpD := fun ds m P _ => ∃ (xs : List D) (n : Int), ds = [.lst xs, .int n] ∧ xs.length ≤ 10000 ∧ (∀ d ∈ xs, thD 19 d) ∧ P (.bl (askingB n xs)) m
def rd_is_asking : DS :=
    sSeq (sIf (rOr (rTst (rOp oNe (rCB cLen (rCons (rV 0) (rNil))) (rC (.int 5)))) (rOr (rNot (rTru (rCall sp_is_name [] (rCons (rOp oIx (rV 0) (rC (.int 0))) (rNil))))) (rNot (rTru (rCall sp_is_name [] (rCons (rOp oIx (rV 0) (rC (.int 1))) (rNil))))))) (sRet (rC (.bl false))) (sNext))
    (sSeq (sTupL [2, 3, 4] (rSl (rV 0) (rPart (rC (.int 2))) rNoP))
    (sSeq (sIf (rOr (rNot (rTru (rCB cIsi (rCons (rV 2) (rCons (rC (.ty "tuple")) (rNil)))))) (rOr (rTst (rOp oGt (rCB cLen (rCons (rV 2) (rNil))) (rC (.int 2)))) (rNot (rTru (rCB cAll (rCons (rLc (iAny (rV 2)) [6] (gN 6) (qYes) (rCall sp_is_thing [] (rCons (rV 6) (rNil)))) (rNil))))))) (sRet (rC (.bl false))) (sNext))
    (sSeq (sIf (rOr (rNot (rTru (rCB cIsi (rCons (rV 3) (rCons (rC (.ty "tuple")) (rNil)))))) (rTst (rOp oGt (rCB cLen (rCons (rV 3) (rNil))) (rC (.int 3))))) (sRet (rC (.bl false))) (sNext))
    (sRet (rAndV (rCB cAll (rCons (rLc (iAny (rV 3)) [5] (gN 5) (qYes) (rCall sp_is_way [] (rCons (rV 5) (rCons (rV 1) (rNil))))) (rNil))) (rCall sp_is_place [] (rCons (rV 4) (rCons (rV 1) (rNil)))))))))
theorem ln_is_asking : ∀ ds m Q PX, sp_is_asking ds m Q PX → ds.length = 2 := fun ds m Q PX h => by (repeat (obtain ⟨_, h⟩ := h)); subst_vars; rfl
def T_is_asking_3 : DS := sSeq (sIf (rOr (rNot (rTru (rCB cIsi (rCons (rV 2) (rCons (rC (.ty "tuple")) (rNil)))))) (rOr (rTst (rOp oGt (rCB cLen (rCons (rV 2) (rNil))) (rC (.int 2)))) (rNot (rTru (rCB cAll (rCons (rLc (iAny (rV 2)) [6] (gN 6) (qYes) (rCall sp_is_thing [] (rCons (rV 6) (rNil)))) (rNil))))))) (sRet (rC (.bl false))) (sNext))
    (sSeq (sIf (rOr (rNot (rTru (rCB cIsi (rCons (rV 3) (rCons (rC (.ty "tuple")) (rNil)))))) (rTst (rOp oGt (rCB cLen (rCons (rV 3) (rNil))) (rC (.int 3))))) (sRet (rC (.bl false))) (sNext))
    (sRet (rAndV (rCB cAll (rCons (rLc (iAny (rV 3)) [5] (gN 5) (qYes) (rCall sp_is_way [] (rCons (rV 5) (rCons (rV 1) (rNil))))) (rNil))) (rCall sp_is_place [] (rCons (rV 4) (rCons (rV 1) (rNil)))))))
def T_is_asking_4 : DS := sSeq (sIf (rOr (rNot (rTru (rCB cIsi (rCons (rV 3) (rCons (rC (.ty "tuple")) (rNil)))))) (rTst (rOp oGt (rCB cLen (rCons (rV 3) (rNil))) (rC (.int 3))))) (sRet (rC (.bl false))) (sNext))
    (sRet (rAndV (rCB cAll (rCons (rLc (iAny (rV 3)) [5] (gN 5) (qYes) (rCall sp_is_way [] (rCons (rV 5) (rCons (rV 1) (rNil))))) (rNil))) (rCall sp_is_place [] (rCons (rV 4) (rCons (rV 1) (rNil))))))
theorem pu_is_asking : ∀ ds m Q PX, sp_is_asking ds m Q PX → rd_is_asking (dEnds Q PX) (dstart ["rest", "many", "things", "ways", "other", "way", "thing"] ds) m := by
  rintro ds m Q PX ⟨xs, n, rfl, hl, hx, h⟩
  walk_at "go"
  by_cases h5 : xs.length = 5
  · match xs, h5, hx, h with
    | [a, b, c, e, f], _, hx, h =>
    change Q (.bl (nmD a && (nmD b && (tupB 2 thingB c && (tupB 3 (wayB n) e && placeB n f))))) m at h
    have ha := thg_of (hx a List.mem_cons_self)
    have hb := thg_of (hx b (by simp))
    have hc := hx c (by simp)
    have he := hx e (by simp)
    have hf := thg_of (hx f (by simp))
    walk_at "go"
    refine ⟨_, rfl, ha, ?_⟩
    cases e1 : nmD a with
    | false => rw [e1] at h; exact h
    | true =>
    rw [e1, Bool.true_and] at h
    walk_at "go"
    refine ⟨_, rfl, hb, ?_⟩
    cases e2 : nmD b with
    | false => rw [e2] at h; exact h
    | true =>
    rw [e2, Bool.true_and] at h
    walk_at "go"
    show T_is_asking_3 (dEnds Q PX) [some (.lst [a, b, c, e, f]), some (.int n), some c, some e, some f, none, none] m
    clear hx hl e1 e2
    have fin : tupB 2 thingB c = false → Q (.bl false) m := fun e => by rw [e] at h; exact h
    cases c with
    | tup ts =>
      obtain ⟨tl, tt⟩ : ts.length ≤ 10000 ∧ ∀ d ∈ ts, thD 18 d := hc
      walk_at "go"
      by_cases t2 : ts.length ≤ 2
      · rw [decide_eq_false (by omega)]
        walk_at "go"
        refine comp_map (fun d => .bl (thingB d)) (by omega) trivial (fun d hd Q q => ⟨d, rfl, thg_of (tt d hd), q⟩) ?_
        walk_at "dl"
        rw [show ts.map (fun d => D.bl (thingB d)) = (ts.map thingB).map D.bl from by rw [List.map_map]; rfl, boolsD_map]
        dsimp only
        rw [all_id]
        cases e3 : ts.all thingB with
        | false => exact fin (by show (decide (ts.length ≤ 2) && ts.all thingB) = false; rw [e3, Bool.and_false])
        | true =>
        rw [show tupB 2 thingB (.tup ts) = true from by show (decide (ts.length ≤ 2) && ts.all thingB) = true; rw [e3, decide_eq_true t2]; rfl, Bool.true_and] at h
        walk_at "go"
        show T_is_asking_4 (dEnds Q PX) [some (.lst [a, b, .tup ts, e, f]), some (.int n), some (.tup ts), some e, some f, none, none] m
        clear fin
        have fin : tupB 3 (wayB n) e = false → Q (.bl false) m := fun e => by rw [e] at h; exact h
        cases e with
        | tup ws =>
          obtain ⟨wl, wt⟩ : ws.length ≤ 10000 ∧ ∀ d ∈ ws, thD 18 d := he
          walk_at "go"
          by_cases w3 : ws.length ≤ 3
          · rw [decide_eq_false (by omega)]
            walk_at "go"
            refine comp_map (fun d => .bl (wayB n d)) (by omega) trivial (fun d hd Q q => ⟨d, n, rfl, thg_of (wt d hd), q⟩) ?_
            walk_at "dl"
            rw [show ws.map (fun d => D.bl (wayB n d)) = (ws.map (wayB n)).map D.bl from by rw [List.map_map]; rfl, boolsD_map]
            dsimp only
            rw [all_id]
            cases e4 : ws.all (wayB n) with
            | false => exact fin (by show (decide (ws.length ≤ 3) && ws.all (wayB n)) = false; rw [e4, Bool.and_false])
            | true =>
              rw [show tupB 3 (wayB n) (.tup ws) = true from by show (decide (ws.length ≤ 3) && ws.all (wayB n)) = true; rw [e4, decide_eq_true w3]; rfl, Bool.true_and] at h
              walk_at "go"
              exact ⟨_, _, rfl, hf, h⟩
          · rw [decide_eq_true (by omega)]
            exact fin (by show (decide (ws.length ≤ 3) && ws.all (wayB n)) = false; rw [decide_eq_false w3, Bool.false_and])
        | non => walk_at "go"; exact fin rfl
        | bl b => walk_at "go"; exact fin rfl
        | int i => walk_at "go"; exact fin rfl
        | str i => walk_at "go"; exact fin rfl
        | lst ds => walk_at "go"; exact fin rfl
        | _ => cases he
      · rw [decide_eq_true (by omega)]
        exact fin (by show (decide (ts.length ≤ 2) && ts.all thingB) = false; rw [decide_eq_false t2, Bool.false_and])
    | non => walk_at "go"; exact fin rfl
    | bl b => walk_at "go"; exact fin rfl
    | int i => walk_at "go"; exact fin rfl
    | str i => walk_at "go"; exact fin rfl
    | lst ds => walk_at "go"; exact fin rfl
    | _ => cases hc
  · rw [decide_eq_false (by omega)]
    rw [asking_no h5] at h
    exact h
def tellB : List D → Bool
  | [x] => thingB x
  | _ => false
noncomputable def roomB (n : Int) : D → Bool
  | .tup (w :: rest) => if strIs "tell" w then tellB rest else strIs "ask" w && askingB n rest
  | _ => false
def sp_is_room : SpD := fun ds m P _ => ∃ (d : D) (n : Int), ds = [d, .int n] ∧ Thg d ∧ P (.bl (roomB n d)) m
def rd_is_room : DS :=
    sSeq (sIf (rOr (rNot (rTru (rCB cIsi (rCons (rV 0) (rCons (rC (.ty "tuple")) (rNil)))))) (rTst (rOp oEq (rV 0) (rTup (rNil))))) (sRet (rC (.bl false))) (sNext))
    (sSeq (sStar 2 3 (rV 0))
    (sSeq (sIf (rTst (rOp oEq (rV 2) (rC (.str "tell")))) (sRet (rAndV (rOp oEq (rCB cLen (rCons (rV 3) (rNil))) (rC (.int 1))) (rCall sp_is_thing [] (rCons (rOp oIx (rV 3) (rC (.int 0))) (rNil))))) (sNext))
    (sRet (rAndV (rOp oEq (rV 2) (rC (.str "ask"))) (rCall sp_is_asking [] (rCons (rV 3) (rCons (rV 1) (rNil))))))))
theorem ln_is_room : ∀ ds m Q PX, sp_is_room ds m Q PX → ds.length = 2 := fun ds m Q PX h => by (repeat (obtain ⟨_, h⟩ := h)); subst_vars; rfl
def T_is_room_3 : DS := sSeq (sIf (rTst (rOp oEq (rV 2) (rC (.str "tell")))) (sRet (rAndV (rOp oEq (rCB cLen (rCons (rV 3) (rNil))) (rC (.int 1))) (rCall sp_is_thing [] (rCons (rOp oIx (rV 3) (rC (.int 0))) (rNil))))) (sNext))
    (sRet (rAndV (rOp oEq (rV 2) (rC (.str "ask"))) (rCall sp_is_asking [] (rCons (rV 3) (rCons (rV 1) (rNil))))))
theorem pu_is_room : ∀ ds m Q PX, sp_is_room ds m Q PX → rd_is_room (dEnds Q PX) (dstart ["room", "many", "word", "rest"] ds) m := by
  rintro ds m Q PX ⟨d, n, rfl, hd, h⟩
  revert h
  refine hd.cases_ (p := fun d => Q (.bl (roomB n d)) m → rd_is_room (dEnds Q PX) (dstart ["room", "many", "word", "rest"] [d, .int n]) m) ?_ ?_ ?_ ?_ ?_ ?_ ?_
  all_goals (try (intros; walk_at "go"; assumption))
  intro xs hl hx h
  walk_at "go"
  refine ⟨shpT (n := 20) ⟨hl, hx⟩, shpT (n := 1) thD_nil, ?_⟩
  show (match (if false = true then _ else deq (.tup xs) (.tup [])) with | true => _ | false => _)
  rw [deq_tup_nil]
  cases xs with
  | nil => walk_at "go"; exact h
  | cons w rest =>
    have hw := hx w List.mem_cons_self
    have hr : ∀ d ∈ rest, thD 19 d := fun d z => hx d (List.mem_cons_of_mem _ z)
    have hl' : rest.length < 10000 := by simp at hl; omega
    change Q (.bl (if strIs "tell" w then tellB rest else strIs "ask" w && askingB n rest)) m at h
    walk_at "go"
    show T_is_room_3 (dEnds Q PX) [some (.tup (w :: rest)), some (.int n), some w, some (.lst rest)] m
    have fin : strIs "tell" w = false → strIs "ask" w = false → Q (.bl false) m := fun e1 e2 => by rw [e1, e2] at h; exact h
    cases w with
    | str x =>
      by_cases e1 : x = "tell"
      · rw [show strIs "tell" (.str x) = true from decide_eq_true e1, if_pos rfl] at h
        walk_at "go"
        rw [decide_eq_true e1]
        walk_at "go"
        match rest, h, hr with
        | [], h, _ => exact h
        | [y], h, hr =>
          walk_at "go"
          exact ⟨_, rfl, thg_of (hr y List.mem_cons_self), h⟩
        | y :: z :: r, h, _ =>
          rw [decide_eq_false (by simp; omega)]
          exact h
      · rw [show strIs "tell" (.str x) = false from decide_eq_false e1, if_neg (by decide)] at h
        walk_at "go"
        rw [decide_eq_false e1]
        walk_at "go"
        by_cases e2 : x = "ask"
        · rw [show strIs "ask" (.str x) = true from decide_eq_true e2, Bool.true_and] at h
          rw [decide_eq_true e2]
          walk_at "go"
          exact ⟨rest, n, rfl, by omega, hr, h⟩
        · rw [decide_eq_false e2]
          exact fin (decide_eq_false e1) (decide_eq_false e2)
    | non => walk_at "go"; exact fin rfl rfl
    | bl b => walk_at "go"; exact fin rfl rfl
    | int i => walk_at "go"; exact fin rfl rfl
    | lst ds =>
      walk_at "go"
      refine ⟨shpT (n := 19) hw, shpT (n := 1) (thD_txt _ _), ?_⟩
      have ee : deq (dat m (.lst ds)) (dat m (.str "tell")) = false := deq_lst_str
      rw [if_neg (by decide), ee]
      walk_at "go"
      refine ⟨shpT (n := 19) hw, shpT (n := 1) (thD_txt _ _), ?_⟩
      have ee : deq (dat m (.lst ds)) (dat m (.str "ask")) = false := deq_lst_str
      rw [if_neg (by decide), ee]
      exact fin rfl rfl
    | tup ds =>
      walk_at "go"
      refine ⟨shpT (n := 19) hw, shpT (n := 1) (thD_txt _ _), ?_⟩
      have ee : deq (dat m (.tup ds)) (dat m (.str "tell")) = false := deq_tup_str
      rw [if_neg (by decide), ee]
      walk_at "go"
      refine ⟨shpT (n := 19) hw, shpT (n := 1) (thD_txt _ _), ?_⟩
      have ee : deq (dat m (.tup ds)) (dat m (.str "ask")) = false := deq_tup_str
      rw [if_neg (by decide), ee]
      exact fin rfl rfl
    | _ => cases hw
noncomputable def roomsB : D → Bool
  | .tup rs => decide (1 ≤ rs.length) && (decide (rs.length ≤ 9) && rs.all (roomB rs.length))
  | _ => false
def sp_are_rooms : SpD := fun ds m P _ => ∃ (d : D), ds = [d] ∧ Thg d ∧ P (.bl (roomsB d)) m
def rd_are_rooms : DS :=
    sSeq (sIf (rOr (rNot (rTru (rCB cIsi (rCons (rV 0) (rCons (rC (.ty "tuple")) (rNil)))))) (rNot (rTst (rChain oLe oLe (rC (.int 1)) (rCB cLen (rCons (rV 0) (rNil))) (rC (.int 9)))))) (sRet (rC (.bl false))) (sNext))
    (sRet (rCB cAll (rCons (rLc (iAny (rV 0)) [1] (gN 1) (qYes) (rCall sp_is_room [] (rCons (rV 1) (rCons (rCB cLen (rCons (rV 0) (rNil))) (rNil))))) (rNil))))
theorem ln_are_rooms : ∀ ds m Q PX, sp_are_rooms ds m Q PX → ds.length = 1 := fun ds m Q PX h => by (repeat (obtain ⟨_, h⟩ := h)); subst_vars; rfl
theorem pu_are_rooms : ∀ ds m Q PX, sp_are_rooms ds m Q PX → rd_are_rooms (dEnds Q PX) (dstart ["rooms", "room"] ds) m := by
  rintro ds m Q PX ⟨d, rfl, hd, h⟩
  revert h
  refine hd.cases_ (p := fun d => Q (.bl (roomsB d)) m → rd_are_rooms (dEnds Q PX) (dstart ["rooms", "room"] [d]) m) ?_ ?_ ?_ ?_ ?_ ?_ ?_
  all_goals (try (intros; walk_at "go"; assumption))
  intro rs hl hr h
  change Q (.bl (decide (1 ≤ rs.length) && (decide (rs.length ≤ 9) && rs.all (roomB rs.length)))) m at h
  walk_at "go"
  by_cases h1 : 1 ≤ rs.length
  · rw [decide_eq_true h1, Bool.true_and] at h
    rw [decide_eq_true (by omega : (1 : Int) ≤ (rs.length : Nat))]
    walk_at "go"
    by_cases h9 : rs.length ≤ 9
    · rw [decide_eq_true h9, Bool.true_and] at h
      rw [decide_eq_true (by omega : ((rs.length : Nat) : Int) ≤ 9)]
      walk_at "go"
      refine comp_map (fun d => .bl (roomB rs.length d)) (by omega) trivial (fun d hd Q q => ?_) ?_
      · walk_at "go"
        exact ⟨d, _, rfl, thg_of (hr d hd), q⟩
      walk_at "dl"
      rw [show rs.map (fun d => D.bl (roomB rs.length d)) = (rs.map (roomB rs.length)).map D.bl from by rw [List.map_map]; rfl, boolsD_map]
      dsimp only
      rw [all_id]
      exact h
    · rw [decide_eq_false h9] at h
      rw [decide_eq_false (by omega)]
      exact h
  · rw [decide_eq_false h1] at h
    rw [decide_eq_false (by omega)]
    exact h
end
section
/-! ### programs of rooms and their runs -/
inductive Th where
  | num (n : Int)
  | last (n : Int)
def Th.d : Th → D
  | .num n => .int n
  | .last n => .tup [.str "last", .int n]
def Th.at : Th → Int → Int
  | .num n, _ => n
  | .last n, l => l + n
inductive Rm where
  | tell (t : Th)
  | ask (p e : Str) (ts : List Th) (ws : List (Lk × Int)) (o : Int)
def wyD (w : Lk × Int) : D := .tup [w.1.d, .int w.2]
def Rm.d : Rm → D
  | .tell t => .tup [.str "tell", t.d]
  | .ask p e ts ws o => .tup [.str "ask", .str p, .str e, .tup (ts.map Th.d), .tup (ws.map wyD), .int o]
def rmsD (rs : List Rm) : D := .tup (rs.map Rm.d)
def Th.B : Th → Prop
  | .num n => Bd 152 n
  | .last n => Bd 152 n
def Th.S : Th → Prop
  | .num n => Bd 142 n
  | .last n => Bd 142 n
theorem Th.S.b {t : Th} (h : t.S) : t.B := by cases t <;> exact Bd.mono h
def Rm.ths : Rm → List Th
  | .tell t => [t]
  | .ask _ _ ts _ _ => ts
/-- what is told is small -/
def Rm.Sm (r : Rm) : Prop := ∀ t ∈ r.ths, t.S
structure Rm.Ok (n : Nat) (r : Rm) : Prop where
  tb : ∀ t ∈ r.ths, t.B
  nm : ∀ p e ts ws o, r = .ask p e ts ws o → (nmB p = true ∧ nmB e = true) ∧ ts.length ≤ 2 ∧ (ws.length ≤ 3 ∧ ∀ w ∈ ws, w.1.Good 142 ∧ 0 ≤ w.2 ∧ w.2 < n) ∧ 0 ≤ o ∧ o < n
structure RsOk (rs : List Rm) : Prop where
  one : 1 ≤ rs.length
  few : rs.length ≤ 9
  ok : ∀ r ∈ rs, r.Ok rs.length
abbrev Ask := Str × Str × List Int
def askT (a : Ask) : D := askD a.1 a.2.1 a.2.2
def oAsk : Option Ask → D
  | some a => askT a
  | none => .non
def Rm.asks : Rm → Int → Option Ask
  | .ask p e ts _ _, l => some (p, e, ts.map (·.at l))
  | .tell _, _ => none
def Rm.told : Rm → Int → Option Int
  | .ask _ _ _ _ _, _ => none
  | .tell t, l => some (t.at l)
def wTo (n : Int) (o : Int) : List (Lk × Int) → Int
  | [] => o
  | w :: ws => if w.1.fits n then w.2 else wTo n o ws
def Rm.to : Rm → Int → Int
  | .ask _ _ _ ws o, n => wTo n o ws
  | .tell _, _ => 0
def rmAt (rs : List Rm) (k : Int) : Rm := (rs[k.toNat]?).getD (.tell (.num 0))
theorem rm_at {rs : List Rm} {k : Int} (h0 : 0 ≤ k) (h1 : k < rs.length) : rmAt rs k ∈ rs ∧ atI (rs.map Rm.d) k = some (rmAt rs k).d := by
  obtain ⟨x, a1, a2⟩ := atI_some (xs := rs.map Rm.d) h0 (by rw [List.length_map]; exact h1)
  rw [List.getElem?_map] at a2
  cases e : rs[k.toNat]? with
  | none => rw [e] at a2; cases a2
  | some r =>
    rw [e] at a2; cases a2
    unfold rmAt
    rw [e]
    exact ⟨List.mem_of_getElem? e, a1⟩
theorem wTo_ok {n o : Int} {k : Nat} : ∀ {ws : List (Lk × Int)}, (∀ w ∈ ws, w.1.Good 142 ∧ 0 ≤ w.2 ∧ w.2 < k) → 0 ≤ o → o < k → 0 ≤ wTo n o ws ∧ wTo n o ws < k
  | [], _, h0, h1 => ⟨h0, h1⟩
  | w :: ws, h, h0, h1 => by
    unfold wTo
    split
    · exact (h w List.mem_cons_self).2
    · exact wTo_ok (fun w hw => h w (List.mem_cons_of_mem _ hw)) h0 h1
theorem Rm.Ok.to {n : Nat} {r : Rm} (h : r.Ok n) (hn : 0 < n) (a : Int) : 0 ≤ r.to a ∧ r.to a < n := by
  cases r with
  | tell t => exact ⟨Int.le_refl 0, by show (0 : Int) < n; omega⟩
  | ask p e ts ws o =>
    obtain ⟨_, _, h2, h3⟩ := h.nm p e ts ws o rfl
    exact wTo_ok h2.2 h3.1 h3.2
def runR (rs : List Rm) : List Int → Int → Int → List Ask × Option Int
  | [], k, l => match (rmAt rs k).asks l with
    | some a => ([a], none)
    | none => ([], (rmAt rs k).told l)
  | n :: ns, k, l => match (rmAt rs k).asks l with
    | some a => (a :: (runR rs ns ((rmAt rs k).to n) n).1, (runR rs ns ((rmAt rs k).to n) n).2)
    | none => ([], (rmAt rs k).told l)
theorem Th.th {n : Nat} (t : Th) : thD (n + 1) t.d := by
  cases t with
  | num k => exact thD_int
  | last k => exact thD_tup (by simp) (by walk_at "th")
theorem Th.is (t : Th) : thingB t.d = true := by
  cases t with
  | num k => rfl
  | last k => show (decide (Str.ofString "last" = Str.ofString "last") && true) = true; simp
def sp_thing_at : SpD := fun ds m P _ => ∃ (t : Th) (l : Int), ds = [t.d, .int l] ∧ P (.int (t.at l)) m
def rd_thing_at : DS :=
    sSeq (sIf (rTru (rCall sp_is_whole [] (rCons (rV 0) (rNil)))) (sRet (rV 0)) (sNext))
    (sRet (rOp oAdd (rV 1) (rOp oIx (rV 0) (rC (.int 1)))))
theorem ln_thing_at : ∀ ds m Q PX, sp_thing_at ds m Q PX → ds.length = 2 := fun ds m Q PX h => by repeat (first | (subst_vars; rfl; done) | (obtain ⟨_, h⟩ := h))
theorem pu_thing_at : ∀ ds m Q PX, sp_thing_at ds m Q PX → rd_thing_at (dEnds Q PX) (dstart ["thing", "last"] ds) m := by
  rintro ds m Q PX ⟨t, l, rfl, h⟩
  cases t with
  | num k =>
    walk_at "go"
    exact ⟨_, rfl, thg_of (n := 1) thD_int, h⟩
  | last k =>
    walk_at "go"
    refine ⟨_, rfl, thg_of (n := 1) (Th.th (.last k)), ?_⟩
    walk_at "go"
    exact h
def dFs (d : D) : List (Str × D) := [("rooms", d)]
def sp_Doer___init__ : SpD := fun ds m P PX => ∃ (q : Addr) (d : D), ds = [.adr q, d] ∧ m q = some (.ins "Doer" []) ∧ Thg d ∧
  (roomsB d = true → P .non (mset m q (.ins "Doer" (dFs d)))) ∧ (roomsB d = false → PX "BadRooms" [("why", .str "no rooms")] m)
def rd_Doer___init__ : DS :=
    sSeq (sIf (rNot (rTru (rCall sp_are_rooms [] (rCons (rV 1) (rNil))))) (sRaise "BadRooms" (rCons (rC (.str "no rooms")) (rNil))) (sNext))
    (sSetF "Doer" "rooms" (rV 0) (rV 1))
theorem ln_Doer___init__ : ∀ ds m Q PX, sp_Doer___init__ ds m Q PX → ds.length = 2 := fun ds m Q PX h => by repeat (first | (subst_vars; rfl; done) | (obtain ⟨_, h⟩ := h))
theorem pu_Doer___init__ : ∀ ds m Q PX, sp_Doer___init__ ds m Q PX → rd_Doer___init__ (dEnds Q PX) (dstart ["self", "rooms"] ds) m := by
  rintro ds m Q PX ⟨q, d, rfl, hq, hd, h1, h2⟩
  walk_at "go"
  refine ⟨_, rfl, hd, ?_⟩
  cases e : roomsB d with
  | false => exact h2 e
  | true =>
    walk_at "go"
    rw [hq]
    exact ⟨rfl, by decide, h1 e⟩
def doD (rs : List Rm) : D := .ins "Doer" (dFs (rmsD rs))
def sp_Doer_ask_at : SpD := fun ds m P _ => ∃ (rs : List Rm) (k l : Int), ds = [doD rs, .tup [.int k, .int l]] ∧ RsOk rs ∧ 0 ≤ k ∧ k < rs.length ∧ P (oAsk ((rmAt rs k).asks l)) m
def rd_Doer_ask_at : DS :=
    sSeq (sTup [2, 3] (rV 1))
    (sSeq (sStar 4 5 (rOp oIx (rFld "Doer" "rooms" (rV 0)) (rV 2)))
    (sSeq (sIf (rTst (rOp oNe (rV 4) (rC (.str "ask")))) (sRet (rC .non)) (sNext))
    (sRet (rTup (rCons (rOp oIx (rV 5) (rC (.int 0))) (rCons (rOp oIx (rV 5) (rC (.int 1))) (rCons (rCB cTup (rCons (rLc (iAny (rOp oIx (rV 5) (rC (.int 2)))) [6] (gN 6) (qYes) (rCall sp_thing_at [] (rCons (rV 6) (rCons (rV 3) (rNil))))) (rNil))) (rNil))))))))
theorem ln_Doer_ask_at : ∀ ds m Q PX, sp_Doer_ask_at ds m Q PX → ds.length = 2 := fun ds m Q PX h => by repeat (first | (subst_vars; rfl; done) | (obtain ⟨_, h⟩ := h))
theorem pu_Doer_ask_at : ∀ ds m Q PX, sp_Doer_ask_at ds m Q PX → rd_Doer_ask_at (dEnds Q PX) (dstart ["self", "state", "room", "last", "word", "rest", "thing"] ds) m := by
  rintro ds m Q PX ⟨rs, k, l, rfl, ho, k0, k1, h⟩
  obtain ⟨hm, ha⟩ := rm_at k0 k1
  have hr := ho.ok _ hm
  walk_at "go"
  rw [ha]
  cases hk : rmAt rs k with
  | tell t =>
    rw [hk] at h
    walk_at "go"
    exact h
  | ask p e ts ws o =>
    rw [hk] at h hr
    obtain ⟨_, h2, _⟩ := hr.nm p e ts ws o rfl
    walk_at "go"
    refine comp_on ts Th.d (fun t => .int (t.at l)) (by omega) trivial (fun t hm Q q => ?_) ?_
    · walk_at "go"
      exact ⟨t, l, rfl, q⟩
    have lm : (ts.map fun t => D.int (t.at l)).length = ts.length := List.length_map _
    walk_at "go"
    have e : (ts.map fun t => D.int (t.at l)) = (ts.map fun t => t.at l).map D.int := by rw [List.map_map]; rfl
    rw [e]
    exact h
def sp_Doer_told_at : SpD := fun ds m P _ => ∃ (rs : List Rm) (k l : Int), ds = [doD rs, .tup [.int k, .int l]] ∧ RsOk rs ∧ 0 ≤ k ∧ k < rs.length ∧ P (oN ((rmAt rs k).told l)) m
def rd_Doer_told_at : DS :=
    sSeq (sTup [2, 3] (rV 1))
    (sSeq (sStar 4 5 (rOp oIx (rFld "Doer" "rooms" (rV 0)) (rV 2)))
    (sSeq (sIf (rTst (rOp oNe (rV 4) (rC (.str "tell")))) (sRet (rC .non)) (sNext))
    (sRet (rCall sp_thing_at [] (rCons (rOp oIx (rV 5) (rC (.int 0))) (rCons (rV 3) (rNil)))))))
theorem ln_Doer_told_at : ∀ ds m Q PX, sp_Doer_told_at ds m Q PX → ds.length = 2 := fun ds m Q PX h => by repeat (first | (subst_vars; rfl; done) | (obtain ⟨_, h⟩ := h))
theorem pu_Doer_told_at : ∀ ds m Q PX, sp_Doer_told_at ds m Q PX → rd_Doer_told_at (dEnds Q PX) (dstart ["self", "state", "room", "last", "word", "rest"] ds) m := by
  rintro ds m Q PX ⟨rs, k, l, rfl, ho, k0, k1, h⟩
  obtain ⟨hm, ha⟩ := rm_at k0 k1
  walk_at "go"
  rw [ha]
  cases hk : rmAt rs k with
  | tell t =>
    rw [hk] at h
    walk_at "go"
    exact ⟨t, l, rfl, h⟩
  | ask p e ts ws o =>
    rw [hk] at h
    walk_at "go"
    exact h
def sp_Doer_goes : SpD := fun ds m P PX => ∃ (rs : List Rm) (k l : Int) (a : D), ds = [doD rs, .tup [.int k, .int l], a] ∧ RsOk rs ∧ 0 ≤ k ∧ k < rs.length ∧ Thg a ∧ (∀ n, a = .int n → (rmAt rs k).told l = none → P (.tup [.int ((rmAt rs k).to n), a]) m) ∧ ((isWhole a = false ∨ (rmAt rs k).told l ≠ none) → PX "BadTrial" [("why", .str "nothing is asked, or no answer")] m)
def rd_Doer_goes : DS :=
    sSeq (sStar 3 6 (rOp oIx (rFld "Doer" "rooms" (rV 0)) (rOp oIx (rV 1) (rC (.int 0)))))
    (sSeq (sIf (rOr (rTst (rOp oNe (rV 3) (rC (.str "ask")))) (rNot (rTru (rCall sp_is_whole [] (rCons (rV 2) (rNil)))))) (sRaise "BadTrial" (rCons (rC (.str "nothing is asked, or no answer")) (rNil))) (sNext))
    (sSeq (sFor (iAny (rOp oIx (rV 6) (rC (.int 3)))) (gT [4, 5]) (sIf (rTru (rCall (sp_fits 2) [] (rCons (rV 4) (rCons (rV 2) (rNil))))) (sRet (rTup (rCons (rV 5) (rCons (rV 2) (rNil))))) (sNext)))
    (sRet (rTup (rCons (rOp oIx (rV 6) (rC (.int 4))) (rCons (rV 2) (rNil)))))))
theorem ln_Doer_goes : ∀ ds m Q PX, sp_Doer_goes ds m Q PX → ds.length = 3 := fun ds m Q PX h => by repeat (first | (subst_vars; rfl; done) | (obtain ⟨_, h⟩ := h))
theorem pu_Doer_goes : ∀ ds m Q PX, sp_Doer_goes ds m Q PX → rd_Doer_goes (dEnds Q PX) (dstart ["self", "state", "answer", "word", "look", "room", "rest"] ds) m := by
  rintro ds m Q PX ⟨rs, k, l, a, rfl, ho, k0, k1, hta, h, hx⟩
  obtain ⟨hm, ha⟩ := rm_at k0 k1
  have hr := ho.ok _ hm
  walk_at "go"
  rw [ha]
  cases hk : rmAt rs k with
  | tell t =>
    rw [hk] at hx
    walk_at "go"
    exact hx (.inr (by intro z; cases z))
  | ask p e ts ws o =>
    rw [hk] at h hx hr
    obtain ⟨_, _, h2, _⟩ := hr.nm p e ts ws o rfl
    walk_at "go"
    refine ⟨_, rfl, hta, ?_⟩
    cases ei : isWhole a with
    | false => exact hx (.inl ei)
    | true =>
    cases a with
    | int n =>
      have h := h n rfl rfl
      walk_at "go"
      refine loop_inv (fun i δ m' => m' = m ∧ wTo n o ws = wTo n o (ws.drop i) ∧ ∃ a3 a4 a5, δ = [some (doD rs), some (.tup [.int k, .int l]), some (.int n), a3, a4, a5, some (.lst [.str p, .str e, .tup (ts.map Th.d), .tup (ws.map wyD), .int o])]) (fun i d δ m' e hh => ?_) (fun δ m' hh => ?_) ⟨rfl, rfl, _, _, _, rfl⟩
      · obtain ⟨rfl, hw, a3, a4, a5, rfl⟩ := hh
        rw [List.getElem?_map] at e
        cases ei : ws[i]? with
        | none => rw [ei] at e; cases e
        | some w =>
          rw [ei] at e
          cases e
          have hg := (h2.2 w (List.mem_of_getElem? ei)).1
          have ed : ws.drop i = w :: ws.drop (i + 1) := by
            obtain ⟨hi, hw⟩ := List.getElem?_eq_some_iff.mp ei
            rw [List.drop_eq_getElem_cons hi, hw]
          rw [ed] at hw
          refine ⟨trivial, fun Nx k1 => ?_⟩
          walk_at "go"
          refine ⟨w.1, n, rfl, hg.dp, ?_⟩
          unfold wTo at hw
          cases ef : w.1.fits n with
          | true =>
            rw [ef, if_pos rfl] at hw
            walk_at "go"
            change Q (.tup [.int (wTo n o ws), .int n]) m' at h
            rw [show wTo n o ws = w.2 from by cases ws <;> exact hw] at h
            exact h
          | false =>
            rw [ef, if_neg (by decide)] at hw
            walk_at "go"
            exact k1 _ _ ⟨rfl, by cases ws <;> exact hw, _, _, _, rfl⟩
      · obtain ⟨rfl, hw, a3, a4, a5, rfl⟩ := hh
        refine ⟨trivial, ?_⟩
        rw [List.length_map, List.drop_length] at hw
        walk_at "go"
        change Q (.tup [.int (wTo n o ws), .int n]) m' at h
        rw [hw] at h
        exact h
    | _ => cases ei
end
section
theorem RsOk.th {rs : List Rm} (h : RsOk rs) : thD 7 (rmsD rs) := by
  refine ⟨by rw [List.length_map]; have := h.few; omega, fun d hd => ?_⟩
  obtain ⟨r, hr, rfl⟩ := List.mem_map.mp hd
  have ho := h.ok r hr
  cases r with
  | tell t =>
    have := t.th (n := 4)
    exact thD_tup (by simp) (by walk_at "th")
  | ask p e ts ws o =>
    obtain ⟨⟨h1, h2⟩, h3, ⟨h4, h5⟩, _⟩ := ho.nm p e ts ws o rfl
    have t1 : thD 5 (.str p) := thD_nm h1
    have t2 : thD 5 (.str e) := thD_nm h2
    have t3 : thD 5 (.tup (ts.map Th.d)) := ⟨by rw [List.length_map]; omega, fun d hd => by
      obtain ⟨t, _, rfl⟩ := List.mem_map.mp hd
      exact t.th⟩
    have t4 : thD 5 (.tup (ws.map wyD)) := ⟨by rw [List.length_map]; omega, fun d hd => by
      obtain ⟨w, hw, rfl⟩ := List.mem_map.mp hd
      have g : thD 3 w.1.d := (h5 w hw).1.th
      exact thD_tup (by simp) (by walk_at "th")⟩
    exact thD_tup (by simp) (by walk_at "th")
theorem RsOk.is {rs : List Rm} (h : RsOk rs) : roomsB (rmsD rs) = true := by
  show (decide (1 ≤ (rs.map Rm.d).length) && (decide ((rs.map Rm.d).length ≤ 9) && (rs.map Rm.d).all (roomB (rs.map Rm.d).length))) = true
  rw [List.length_map, decide_eq_true h.one, decide_eq_true h.few, Bool.true_and, Bool.true_and, List.all_eq_true]
  intro d hd
  obtain ⟨r, hr, rfl⟩ := List.mem_map.mp hd
  have ho := h.ok r hr
  cases r with
  | tell t =>
    show (if strIs "tell" (.str "tell") then tellB [t.d] else strIs "ask" (.str "tell") && askingB rs.length [t.d]) = true
    rw [if_pos (by simp [strIs])]
    exact t.is
  | ask p e ts ws o =>
    obtain ⟨⟨h1, h2⟩, h3, ⟨h4, h5⟩, h6, h7⟩ := ho.nm p e ts ws o rfl
    show (if strIs "tell" (.str "ask") then tellB [.str p, .str e, .tup (ts.map Th.d), .tup (ws.map wyD), .int o] else strIs "ask" (.str "ask") && askingB rs.length [.str p, .str e, .tup (ts.map Th.d), .tup (ws.map wyD), .int o]) = true
    rw [show strIs "tell" (.str "ask") = false from by decide +kernel, show strIs "ask" (.str "ask") = true from by decide +kernel, if_neg (by decide), Bool.true_and]
    show (nmB p && (nmB e && ((decide ((ts.map Th.d).length ≤ 2) && (ts.map Th.d).all thingB) && ((decide ((ws.map wyD).length ≤ 3) && (ws.map wyD).all (wayB rs.length)) && (decide (0 ≤ o) && decide (o < rs.length)))))) = true
    rw [h1, h2, List.length_map, List.length_map, decide_eq_true h3, decide_eq_true h4, decide_eq_true h6, decide_eq_true h7]
    simp only [Bool.true_and, Bool.and_true, Bool.and_eq_true, List.all_eq_true]
    refine ⟨fun d hd => ?_, fun d hd => ?_⟩
    · obtain ⟨t, _, rfl⟩ := List.mem_map.mp hd
      exact t.is
    · obtain ⟨w, hw, rfl⟩ := List.mem_map.mp hd
      obtain ⟨g1, g2, g3⟩ := h5 w hw
      show (lookB w.1.d && (decide (0 ≤ w.2) && decide (w.2 < rs.length))) = true
      rw [g1.look, decide_eq_true g2, decide_eq_true g3]; rfl
theorem rm_ask {r : Rm} {l : Int} {a : Ask} (h : r.asks l = some a) : r.told l = none := by
  cases r with
  | tell t => cases h
  | ask => rfl
theorem runR_cons (rs : List Rm) (n : Int) (ns : List Int) (k l : Int) : runR rs (n :: ns) k l = (match (rmAt rs k).asks l with
    | some a => (a :: (runR rs ns ((rmAt rs k).to n) n).1, (runR rs ns ((rmAt rs k).to n) n).2)
    | none => ([], (rmAt rs k).told l)) := rfl
theorem runR_nil (rs : List Rm) (k l : Int) : runR rs [] k l = (match (rmAt rs k).asks l with
    | some a => ([a], none)
    | none => ([], (rmAt rs k).told l)) := rfl
end
section
/-- so many things, drawn -/
theorem comp_dr {w : Addr} {rg : DG} {re : DE} {δ : DSt} {n c N : Nat} {m : Mu} {P0 : DK} {R : D → Prop} {R1 : D → Prop} {P : List D → Mu → Prop}
    (hn : n ≤ 1000) (hN : n * c ≤ N) (h : Dr w N R m P0)
    (he : ∀ (i : Nat) (m' : Mu) (Kt : DK), i < n → Dr w c R1 m' Kt → rg (.int (0 + (i : Int))) δ m' fun δ' m'' => re δ' m'' Kt noX)
    (k : ∀ acc m', acc.length = n → (∀ d ∈ acc, R1 d) → Kp [w] m m' → Dr w (N - n * c) R m' P0 → P acc m') : rComp (fun _ => True) rg qYes re δ P (rangeD 0 n) [] m := by
  obtain ⟨kk, wl, hk, h⟩ := h
  refine comp_inv (fun i acc m' => Wl m' w (kk + i * c) ∧ Kp [w] m m' ∧ acc.length = i ∧ ∀ d ∈ acc, R1 d) (fun i acc m' hh => ?_) (by rw [rg_len]; omega) (fun i d acc m' e hh => ?_) (fun acc m4 hh => ?_) ⟨by rw [Nat.zero_mul]; exact wl, Kp.refl _ _, rfl, fun _ z => by cases z⟩
  · rw [hh.2.2.1]; exact Nat.le_refl _
  · obtain ⟨wi, kpi, hl, hR⟩ := hh
    obtain ⟨hi, rfl⟩ := rg_get e
    have hi' : i < n := by omega
    have hc : i * c + c ≤ n * c := by rw [← Nat.succ_mul]; exact Nat.mul_le_mul_right _ hi'
    refine ⟨trivial, fun Kt Kf k1 _ => ?_⟩
    refine he i m' Kt hi' ⟨_, wi, by omega, fun d m5 hd kp5 w5 => ?_⟩
    refine k1 _ _ ⟨by rw [Nat.succ_mul, ← Nat.add_assoc]; exact w5, kpi.trans kp5, by rw [List.length_append, hl]; rfl, fun z hz => ?_⟩
    rcases List.mem_append.mp hz with hz | hz
    · exact hR z hz
    · rw [List.mem_singleton.mp hz]; exact hd
  · obtain ⟨w4, kp4, hl, hR⟩ := hh
    rw [rg_len] at hl w4
    exact ⟨trivial, k acc m4 hl hR kp4 ⟨_, w4, by omega, fun d m' hd kp w' => h d m' hd (kp4.trans kp) (by rw [show kk + n * c + (N - n * c) = kk + N by omega] at w'; exact w')⟩⟩
end
section
/-! ### programs drawn (k55) -/
def isTh (d : D) : Prop := ∃ t : Th, d = t.d ∧ t.S
theorem B1 {t : Th} (h : t.S) : ∀ u ∈ (Rm.tell t).ths, u.B := fun u hu => by cases List.mem_singleton.mp hu; exact h.b
theorem S1 {t : Th} (h : t.S) : (Rm.tell t).Sm := fun u hu => by cases List.mem_singleton.mp hu; exact h
theorem ths_of {acc : List D} (h : ∀ d ∈ acc, isTh d) : ∃ ts : List Th, acc = ts.map Th.d ∧ ∀ t ∈ ts, t.S := by
  induction acc with
  | nil => exact ⟨[], rfl, fun _ z => by cases z⟩
  | cons d l ih =>
    obtain ⟨t, rfl, tB⟩ := h d List.mem_cons_self
    obtain ⟨ts, rfl, tsB⟩ := ih fun d hd => h d (List.mem_cons_of_mem _ hd)
    exact ⟨t :: ts, rfl, List.forall_mem_cons.mpr ⟨tB, tsB⟩⟩
def isWy (n : Int) (d : D) : Prop := ∃ w : Lk × Int, d = wyD w ∧ w.1.Good 142 ∧ 0 ≤ w.2 ∧ w.2 < n
theorem wys_of {n : Int} {acc : List D} (h : ∀ d ∈ acc, isWy n d) : ∃ ws : List (Lk × Int), acc = ws.map wyD ∧ ∀ w ∈ ws, w.1.Good 142 ∧ 0 ≤ w.2 ∧ w.2 < n := by
  induction acc with
  | nil => exact ⟨[], rfl, fun _ z => by cases z⟩
  | cons d l ih =>
    obtain ⟨t, rfl, ht⟩ := h d List.mem_cons_self
    obtain ⟨ts, rfl, hts⟩ := ih fun d hd => h d (List.mem_cons_of_mem _ hd)
    exact ⟨t :: ts, rfl, fun w hw => by
      rcases List.mem_cons.mp hw with rfl | hw
      · exact ht
      · exact hts w hw⟩
/-- small rooms drawn -/
def isRmS (n : Int) (d : D) : Prop := ∃ r : Rm, d = r.d ∧ r.Ok n.toNat ∧ r.Sm
def isRmsS (k : Nat) (d : D) : Prop := ∃ rs : List Rm, d = rmsD rs ∧ RsOk rs ∧ rs.length ≤ k ∧ ∀ r ∈ rs, r.Sm
theorem rmsS_of {n : Int} {acc : List D} (h : ∀ d ∈ acc, isRmS n d) : ∃ rs : List Rm, acc = rs.map Rm.d ∧ ∀ r ∈ rs, r.Ok n.toNat ∧ r.Sm := by
  induction acc with
  | nil => exact ⟨[], rfl, fun _ z => by cases z⟩
  | cons d l ih =>
    obtain ⟨t, rfl, ht⟩ := h d List.mem_cons_self
    obtain ⟨ts, rfl, hts⟩ := ih fun d hd => h d (List.mem_cons_of_mem _ hd)
    exact ⟨t :: ts, rfl, fun w hw => by
      rcases List.mem_cons.mp hw with rfl | hw
      · exact ht
      · exact hts w hw⟩
end
section
/-! ### runs walked (k55) -/
def sp__law_number : SpD := sp_thing_at
def rd__law_number : DS :=
    sSeq (sIf (rTru (rCB cIsi (rCons (rV 0) (rCons (rC (.ty "tuple")) (rNil))))) (sRet (rOp oAdd (rV 1) (rOp oIx (rV 0) (rC (.int 1))))) (sNext))
    (sRet (rV 0))
theorem ln__law_number : ∀ ds m Q PX, sp__law_number ds m Q PX → ds.length = 2 := ln_thing_at
theorem pu__law_number : ∀ ds m Q PX, sp__law_number ds m Q PX → rd__law_number (dEnds Q PX) (dstart ["_law_thing_here", "_law_last"] ds) m := by
  rintro ds m Q PX ⟨t, l, rfl, h⟩
  cases t with
  | num k => walk_at "go"; exact h
  | last k => walk_at "go"; exact h
def sp__law_goes : SpD := fun ds m P _ => ∃ (rs : List Rm) (k l n : Int), ds = [rmsD rs, .tup [.int k, .int l], .int n] ∧ RsOk rs ∧ 0 ≤ k ∧ k < rs.length ∧ (rmAt rs k).told l = none ∧ P (.tup [.int ((rmAt rs k).to n), .int n]) m
theorem ln__law_goes : ∀ ds m Q PX, sp__law_goes ds m Q PX → ds.length = 3 := fun ds m Q PX h => by (repeat (obtain ⟨_, h⟩ := h)); subst_vars; rfl
structure AsOk (a : Ask) : Prop where
  nm : nmB a.1 = true ∧ nmB a.2.1 = true
  few : a.2.2.length ≤ 2
theorem AsOk.th {a : Ask} (h : AsOk a) : thD 3 (askT a) := by
  have t1 := thD_nm (n := 2) h.nm.1
  have t2 := thD_nm (n := 2) h.nm.2
  have t3 : thD 2 (.tup (a.2.2.map .int)) := thD_ints (by have := h.few; omega)
  exact ⟨by simp, by walk_at "th"⟩
theorem ask_pur (a : Ask) : pur (askT a) = true := by
  show (true && (true && (purL (a.2.2.map .int) && true))) = true
  rw [pur_ints]; rfl
theorem Rm.Ok.asks {n : Nat} {r : Rm} (h : r.Ok n) {l : Int} {a : Ask} (e : r.asks l = some a) : AsOk a := by
  cases r with
  | tell t => cases e
  | ask p e' ts ws o =>
    cases e
    obtain ⟨h1, h2, _⟩ := h.nm p e' ts ws o rfl
    exact ⟨h1, by show (ts.map _).length ≤ 2; rw [List.length_map]; exact h2⟩
end
section
/-! ### programs drawn (k75, k71) -/
def sp__law_world_v2 : SpD := fun ds m P _ => ∃ w : Addr, ds = [.adr w] ∧ Dr w 53 isWorld m P
def rd__law_world_v2 : DS :=
    sSeq (sSet 1 (rCall sp__law_names [] (rCons (rV 0) (rCons (rC (.int 4)) (rNil)))))
    (sSeq (sSet 2 (rSl (rV 1) rNoP (rPart (rOp oAdd (rC (.int 1)) (rCall sp__law_draw [] (rCons (rV 0) (rCons (rC (.int 2)) (rNil))))))))
    (sRet (rDctN [(rC (.str "parts"), rV 2), (rC (.str "deeds"), rSl (rV 1) (rPart (rC (.int 2))) (rPart (rOp oAdd (rC (.int 3)) (rCall sp__law_draw [] (rCons (rV 0) (rCons (rC (.int 2)) (rNil))))))), (rC (.str "mids"), rCall sp__law_mids [] (rCons (rV 0) (rNil)))])))
theorem ln__law_world_v2 : ∀ ds m Q PX, sp__law_world_v2 ds m Q PX → ds.length = 1 := fun ds m Q PX h => by repeat (first | (subst_vars; rfl; done) | (obtain ⟨_, h⟩ := h))
theorem pu__law_world_v2 : ∀ ds m Q PX, sp__law_world_v2 ds m Q PX → rd__law_world_v2 (dEnds Q PX) (dstart ["_law_well_here", "_law_names_here", "_law_parts"] ds) m := by
  rintro ds m Q PX ⟨w, rfl, h⟩
  walk_at "go"
  refine ⟨w, 4, rfl, by decide, h.sub (by decide) fun d m1 hd kp1 h => ?_⟩
  obtain ⟨xs, rfl, hl, hnm, hnd⟩ := hd
  match xs, hl, hnm, hnd with
  | [x0, x1, x2, x3], _, hnm, hnd =>
  walk_at "go"
  refine h.num (by decide) (by decide) (by decide) fun r m2 r0 r1 kp2 h => ?_
  obtain ⟨ps, hps, hp1, hp2⟩ : ∃ ps : List Str, cutD (List.map D.str [x0, x1, x2, x3]) none (some (1 + r)) = ps.map D.str ∧ (0 < ps.length ∧ ps.length ≤ 2) ∧ ps.Sublist [x0, x1] := by
    obtain rfl | rfl : r = 0 ∨ r = 1 := by omega
    · exact ⟨[x0], rfl, ⟨by simp, by simp⟩, by simp⟩
    · exact ⟨[x0, x1], rfl, ⟨by simp, by simp⟩, by simp⟩
  walk_at "go"
  refine h.num (by decide) (by decide) (by decide) fun s m3 s0 s1 kp3 h => ?_
  obtain ⟨es, hes, he1, he2⟩ : ∃ ps : List Str, cutD (List.map D.str [x0, x1, x2, x3]) (some 2) (some (3 + s)) = ps.map D.str ∧ (0 < ps.length ∧ ps.length ≤ 3) ∧ ps.Sublist [x2, x3] := by
    obtain rfl | rfl : s = 0 ∨ s = 1 := by omega
    · exact ⟨[x2], rfl, ⟨by simp, by simp⟩, by simp⟩
    · exact ⟨[x2, x3], rfl, ⟨by simp, by simp⟩, by simp⟩
  walk_at "go"
  refine ⟨w, rfl, h.sub (by decide) fun d m4 hd kp4 h => ?_⟩
  obtain ⟨ms, rfl, hml, hmb⟩ := hd
  walk_at "go"
  rw [hps, hes]
  refine h.done ⟨ps, es, ms, congrArg D.dct (merge_nd _ [] (by show [(.inr "parts" : Key), .inr "deeds", .inr "mids"].Nodup; decide)), hp1, he1, fun x hx => hnm x ?_, List.Sublist.nodup (hp2.append he2) hnd, hml, hmb⟩
  exact (hp2.append he2).subset hx
def sp__law_thing_v2 : SpD := fun ds m P _ => ∃ (w : Addr) (ms : List Int), ds = [.adr w, .lst (ms.map .int)] ∧ ms.length = 3 ∧ (∀ n ∈ ms, Bd 140 n) ∧ Dr w 4 isTh m P
def rd__law_thing_v2 : DS :=
    sRet (rOp oIx (rLst (rCons (rTup (rCons (rC (.str "last")) (rCons (rOp oSub (rCall sp__law_draw [] (rCons (rV 0) (rCons (rC (.int 5)) (rNil)))) (rC (.int 2))) (rNil)))) (rCons (rCall sp__law_near [] (rCons (rV 0) (rCons (rV 1) (rNil)))) (rCons (rC (.int 0)) (rNil))))) (rCall sp__law_draw [] (rCons (rV 0) (rCons (rC (.int 3)) (rNil)))))
theorem ln__law_thing_v2 : ∀ ds m Q PX, sp__law_thing_v2 ds m Q PX → ds.length = 2 := fun ds m Q PX h => by repeat (first | (subst_vars; rfl; done) | (obtain ⟨_, h⟩ := h))
theorem pu__law_thing_v2 : ∀ ds m Q PX, sp__law_thing_v2 ds m Q PX → rd__law_thing_v2 (dEnds Q PX) (dstart ["_law_well_here", "_law_mids_here"] ds) m := by
  rintro ds m Q PX ⟨w, ms, rfl, hms, hmb, h⟩
  walk_at "go"
  refine h.num (by decide) (by decide) (by decide) fun r1 m1 r10 r11 kp1 h => ?_
  walk_at "go"
  refine ⟨w, ms, 140, rfl, by decide, by omega, by omega, hmb, h.sub (by decide) fun d m2 hd kp2 h => ?_⟩
  obtain ⟨n, hb, rfl⟩ := hd
  walk_at "go"
  refine h.num (by decide) (by decide) (by decide) fun r2 m3 r20 r21 kp3 h => ?_
  have hr : r2 = 0 ∨ r2 = 1 ∨ r2 = 2 := by omega
  rcases hr with rfl | rfl | rfl
  · exact h.done ⟨.last (r1 - 2), rfl, show Bd 142 _ from Nat.lt_of_lt_of_le (m := 1000) (by omega) (by decide)⟩
  · exact h.done ⟨.num n, rfl, hb.mono⟩
  · exact h.done ⟨.num 0, rfl, by show Bd 142 0; unfold Bd; decide⟩
def sp__law_room_v2 : SpD := fun ds m P _ => ∃ (w : Addr) (wd : D) (n : Int), ds = [.adr w, wd, .int n] ∧ isWorld wd ∧ 0 < n ∧ n ≤ 9 ∧ Dr w 77 (isRmS n) m P
def rd__law_room_v2 : DS :=
    sSeq (sIf (rTst (rOp oEq (rCall sp__law_draw [] (rCons (rV 0) (rCons (rC (.int 4)) (rNil)))) (rC (.int 0)))) (sRet (rTup (rCons (rC (.str "tell")) (rCons (rCall sp__law_thing_v2 [] (rCons (rV 0) (rCons (rOp oDGet (rV 1) (rC (.str "mids"))) (rNil)))) (rNil))))) (sNext))
    (sSeq (sSet 3 (rCB cTup (rCons (rLc (iRange (rCons (rOp oIx (rLst (rCons (rC (.int 0)) (rCons (rC (.int 1)) (rCons (rC (.int 1)) (rCons (rC (.int 2)) (rNil)))))) (rCall sp__law_draw [] (rCons (rV 0) (rCons (rC (.int 4)) (rNil))))) (rNil))) [6] (gN 6) (qYes) (rCall sp__law_thing_v2 [] (rCons (rV 0) (rCons (rOp oDGet (rV 1) (rC (.str "mids"))) (rNil))))) (rNil))))
    (sSeq (sSet 4 (rCB cTup (rCons (rLc (iRange (rCons (rCall sp__law_draw [] (rCons (rV 0) (rCons (rC (.int 4)) (rNil)))) (rNil))) [6] (gN 6) (qYes) (rTup (rCons (rCall sp__law_look [] (rCons (rV 0) (rCons (rOp oDGet (rV 1) (rC (.str "mids"))) (rNil)))) (rCons (rCall sp__law_draw [] (rCons (rV 0) (rCons (rV 2) (rNil)))) (rNil))))) (rNil))))
    (sSeq (sSet 5 (rTup (rCons (rCall sp__law_one [] (rCons (rV 0) (rCons (rOp oDGet (rV 1) (rC (.str "parts"))) (rNil)))) (rCons (rCall sp__law_one [] (rCons (rV 0) (rCons (rOp oDGet (rV 1) (rC (.str "deeds"))) (rNil)))) (rNil)))))
    (sRet (rOp oAdd (rOp oAdd (rTup (rCons (rC (.str "ask")) (rNil))) (rV 5)) (rTup (rCons (rV 3) (rCons (rV 4) (rCons (rCall sp__law_draw [] (rCons (rV 0) (rCons (rV 2) (rNil)))) (rNil))))))))))
theorem ln__law_room_v2 : ∀ ds m Q PX, sp__law_room_v2 ds m Q PX → ds.length = 3 := fun ds m Q PX h => by repeat (first | (subst_vars; rfl; done) | (obtain ⟨_, h⟩ := h))
def T__law_room_v2_3 : DS := sSeq (sSet 4 (rCB cTup (rCons (rLc (iRange (rCons (rCall sp__law_draw [] (rCons (rV 0) (rCons (rC (.int 4)) (rNil)))) (rNil))) [6] (gN 6) (qYes) (rTup (rCons (rCall sp__law_look [] (rCons (rV 0) (rCons (rOp oDGet (rV 1) (rC (.str "mids"))) (rNil)))) (rCons (rCall sp__law_draw [] (rCons (rV 0) (rCons (rV 2) (rNil)))) (rNil))))) (rNil))))
    (sSeq (sSet 5 (rTup (rCons (rCall sp__law_one [] (rCons (rV 0) (rCons (rOp oDGet (rV 1) (rC (.str "parts"))) (rNil)))) (rCons (rCall sp__law_one [] (rCons (rV 0) (rCons (rOp oDGet (rV 1) (rC (.str "deeds"))) (rNil)))) (rNil)))))
    (sRet (rOp oAdd (rOp oAdd (rTup (rCons (rC (.str "ask")) (rNil))) (rV 5)) (rTup (rCons (rV 3) (rCons (rV 4) (rCons (rCall sp__law_draw [] (rCons (rV 0) (rCons (rV 2) (rNil)))) (rNil))))))))
theorem pu__law_room_v2 : ∀ ds m Q PX, sp__law_room_v2 ds m Q PX → rd__law_room_v2 (dEnds Q PX) (dstart ["_law_well_here", "_law_world_here", "_law_many", "_law_things", "_law_ways", "_law_place", "_law_k"] ds) m := by
  rintro ds m Q PX ⟨w, wd, n, rfl, hwd, n0, n9, h⟩
  have big : (2 : Nat) ^ 200 > 1000 := by decide
  obtain ⟨ps, es, ms, rfl, hps, hes, hnm, hnd, hms, hmb⟩ := hwd
  walk_at "go"
  refine h.num (by decide) (by decide) (by decide) fun r1 m1 r10 r11 kp1 h => ?_
  walk_at "go"
  rw [if_neg (by decide)]
  cases e : decide (r1 = 0) with
  | true =>
    walk_at "go"
    rw [wd_mids]
    refine ⟨w, ms, rfl, hms, hmb, h.sub (by decide) fun d m2 hd kp2 h => ?_⟩
    obtain ⟨t, rfl, tB⟩ := hd
    walk_at "go"
    exact h.done ⟨.tell t, rfl, ⟨B1 tB, fun _ _ _ _ _ e => by cases e⟩, S1 tB⟩
  | false =>
    walk_at "go"
    refine h.num (by decide) (by decide) (by decide) fun r2 m2 r20 r21 kp2 h => ?_
    have fin : ∀ x : Int, 0 ≤ x → x ≤ 2 → sSeq (sSet 3 (rCB cTup (rCons (rLc (iRange (rCons (rC (.int x)) (rNil))) [6] (gN 6) (qYes) (rCall sp__law_thing_v2 [] (rCons (rV 0) (rCons (rOp oDGet (rV 1) (rC (.str "mids"))) (rNil))))) (rNil)))) T__law_room_v2_3 (dEnds Q PX) [some (.adr w), some (wDct (.lst (ps.map .str)) (.lst (es.map .str)) (.lst (ms.map .int))), some (.int n), none, none, none, none] m2 := by
      intro x hx0 hx
      walk_at "go"
      refine comp_dr (R1 := isTh) (c := 4) (by omega) (by omega) h (fun i m' Kt hi hk => ?_) fun acc m3 hl hacc kp3 h => ?_
      · walk_at "go"
        rw [wd_mids]
        exact ⟨w, ms, rfl, hms, hmb, hk⟩
      obtain ⟨ts, rfl, tsB⟩ := ths_of hacc
      rw [List.length_map] at hl
      have lt : (ts.map Th.d).length = ts.length := List.length_map _
      walk_at "go"
      refine h.num (by omega) (by decide) (by decide) fun r3 m4 r30 r31 kp4 h => ?_
      walk_at "go"
      refine comp_dr (R1 := isWy n) (c := 21) (by omega) (by omega) h (fun i m' Kt hi hk => ?_) fun acc m5 hl2 hacc kp5 h => ?_
      · walk_at "go"
        rw [wd_mids]
        refine ⟨w, ms, rfl, by omega, by omega, hmb, hk.sub (by decide) fun d m6 hd kp6 hk => ?_⟩
        obtain ⟨l, gl, rfl⟩ := hd
        walk_at "go"
        refine hk.num (by decide) n0 (by omega) fun s m7 s0 s1 kp7 hk => ?_
        walk_at "go"
        exact hk.done ⟨(l, s), rfl, gl, s0, s1⟩
      obtain ⟨ws, rfl, hws⟩ := wys_of hacc
      rw [List.length_map] at hl2
      have lw : (ws.map wyD).length = ws.length := List.length_map _
      have lp : (ps.map D.str).length = ps.length := List.length_map _
      have le : (es.map D.str).length = es.length := List.length_map _
      walk_at "go"
      rw [wd_parts]
      refine ⟨w, _, _, rfl, .inl rfl, by omega, by omega, h.sub (by omega) fun d m6 hd kp6 h => ?_⟩
      obtain ⟨p, hp, rfl⟩ := List.mem_map.mp hd
      walk_at "go"
      rw [wd_deeds]
      refine ⟨w, _, _, rfl, .inl rfl, by omega, by omega, h.sub (by omega) fun d m7 hd kp7 h => ?_⟩
      obtain ⟨e, he, rfl⟩ := List.mem_map.mp hd
      walk_at "go"
      refine h.num (by omega) n0 (by omega) fun o m8 o0 o1 kp8 h => ?_
      walk_at "go"
      refine h.done ⟨.ask p e ts ws o, rfl, ⟨fun t ht => (tsB t ht).b, fun p' e' ts' ws' o' eq => ?_⟩, tsB⟩
      cases eq
      exact ⟨⟨hnm p (List.mem_append_left _ hp), hnm e (List.mem_append_right _ he)⟩, by omega, ⟨by omega, fun w hw => ⟨(hws w hw).1, (hws w hw).2.1, by have := (hws w hw).2.2; omega⟩⟩, o0, by omega⟩
    have hr : r2 = 0 ∨ r2 = 1 ∨ r2 = 2 ∨ r2 = 3 := by omega
    rcases hr with rfl | rfl | rfl | rfl
    · exact fin 0 (by decide) (by decide)
    · exact fin 1 (by decide) (by decide)
    · exact fin 1 (by decide) (by decide)
    · exact fin 2 (by decide) (by decide)
end
section
def sp__law_rooms_v2 : SpD := fun ds m P _ => ∃ (w : Addr) (wd : D) (k : Nat), ds = [.adr w, wd, .int k] ∧ isWorld wd ∧ 0 < k ∧ k ≤ 4 ∧ Dr w 313 (isRmsS k) m P
def rd__law_rooms_v2 : DS :=
    sSeq (sSet 3 (rOp oAdd (rC (.int 1)) (rCall sp__law_draw [] (rCons (rV 0) (rCons (rV 2) (rNil))))))
    (sSeq (sSet 4 (rLcM (iRange (rCons (rV 3) (rNil))) [5] (gN 5) (qYes) (rCall sp__law_room_v2 [] (rCons (rV 0) (rCons (rV 1) (rCons (rV 3) (rNil)))))))
    (sSeq (sIf (rTst (rOp oGt (rV 3) (rC (.int 1)))) (sSetIx (rTup (rCons (rC (.str "tell")) (rCons (rCall sp__law_thing_v2 [] (rCons (rV 0) (rCons (rOp oDGet (rV 1) (rC (.str "mids"))) (rNil)))) (rNil)))) (rV 4) (rNeg (rC (.int 1)))) (sNext))
    (sRet (rCB cTup (rCons (rV 4) (rNil))))))
theorem ln__law_rooms_v2 : ∀ ds m Q PX, sp__law_rooms_v2 ds m Q PX → ds.length = 3 := fun ds m Q PX h => by repeat (first | (subst_vars; rfl; done) | (obtain ⟨_, h⟩ := h))
def T__law_rooms_v2_3 : DS := sSeq (sIf (rTst (rOp oGt (rV 3) (rC (.int 1)))) (sSetIx (rTup (rCons (rC (.str "tell")) (rCons (rCall sp__law_thing_v2 [] (rCons (rV 0) (rCons (rOp oDGet (rV 1) (rC (.str "mids"))) (rNil)))) (rNil)))) (rV 4) (rNeg (rC (.int 1)))) (sNext))
    (sRet (rCB cTup (rCons (rV 4) (rNil))))
def T__law_rooms_v2_4 : DS := sRet (rCB cTup (rCons (rV 4) (rNil)))
theorem pu__law_rooms_v2 : ∀ ds m Q PX, sp__law_rooms_v2 ds m Q PX → rd__law_rooms_v2 (dEnds Q PX) (dstart ["_law_well_here", "_law_world_here", "_law_most", "_law_many", "_law_found", "_law_k"] ds) m := by
  rintro ds m Q PX ⟨w, wd, k, rfl, hwd, k0, k4, h⟩
  have big : (2 : Nat) ^ 200 > 1000 := by decide
  walk_at "go"
  refine h.num (by decide) (by omega) (by omega) fun r m1 r0 r1 kp1 h => ?_
  obtain ⟨n, hn⟩ : ∃ n : Int, n = 1 + r := ⟨_, rfl⟩
  walk_at "go"
  rw [← hn]
  refine comp_dr (R1 := isRmS n) (c := 77) (by omega) (by omega) h (fun i m' Kt hi hk => ?_) fun acc m5 hl hacc kp5 h => ?_
  · walk_at "go"
    exact ⟨w, wd, _, rfl, hwd, by omega, by omega, hk⟩
  obtain ⟨rs, rfl, hrs⟩ := rmsS_of hacc
  rw [List.length_map] at hl
  intro q hq
  obtain ⟨kk, wl, hkk, h⟩ := h
  have hqw : q ≠ w := fun z => wl.some (z ▸ hq)
  have kn : Kp [] m5 (mset m5 q (.lst (rs.map Rm.d))) := kp_new hq
  have w6 := wl.keep kn (by simp)
  have fin : ∀ (qs : List Rm) (m6 : Mu), qs.length = n.toNat → (∀ r ∈ qs, r.Ok n.toNat ∧ r.Sm) → m6 q = some (.lst (qs.map Rm.d)) → Wl m6 w (kk + 4) → Kp [w] m5 m6 → T__law_rooms_v2_4 (dEnds Q PX) [some (.adr w), some wd, some (.int k), some (.int n), some (.adr q), none] m6 := by
    intro qs m6 hql hqs e6 w6 kp6
    have lq : (qs.map Rm.d).length = qs.length := List.length_map _
    walk_at "dl"
    rw [asL_adr e6]
    exact h _ _ ⟨qs, rfl, ⟨by omega, by omega, fun r hr => by rw [hql]; exact (hqs r hr).1⟩, by omega, fun r hr => (hqs r hr).2⟩ kp6 (w6.mono (by omega))
  show T__law_rooms_v2_3 (dEnds Q PX) [some (.adr w), some wd, some (.int k), some (.int n), some (.adr q), none] (mset m5 q (.lst (rs.map Rm.d)))
  obtain ⟨m6, hm6⟩ : ∃ m6, m6 = mset m5 q (.lst (rs.map Rm.d)) := ⟨_, rfl⟩
  have e6 : m6 q = some (.lst (rs.map Rm.d)) := by rw [hm6]; exact mset_same
  rw [← hm6] at kn w6
  rw [← hm6]
  walk_at "go"
  by_cases h1 : 1 < n
  · rw [decide_eq_true h1]
    obtain ⟨ps, es, ms, rfl, hps, hes, hnm, hnd, hms, hmb⟩ := hwd
    walk_at "go"
    rw [wd_mids]
    refine ⟨w, ms, rfl, hms, hmb, _, w6, by omega, fun d m7 hd kp7 w7 => ?_⟩
    obtain ⟨t, rfl, tB⟩ := hd
    have e7 := kp7 q _ (by simpa using hqw) e6
    walk_at "dl"
    refine ⟨len_line (by simp), ?_⟩
    walk_at "dl"
    rw [e7]
    have ix : ixN (rs.map Rm.d).length (-1) = some (rs.length - 1) := by
      unfold ixN
      rw [List.length_map, if_neg (by decide), if_pos (by omega)]
      congr 1; omega
    walk_at "dl"
    rw [ix]
    walk_at "dl"
    refine fin (rs.set (rs.length - 1) (.tell t)) _ (by rw [List.length_set]; exact hl) (fun r hr => ?_) (by rw [mset_same, List.map_set]; rfl) ?_ ?_
    · rcases List.mem_or_eq_of_mem_set hr with hr | rfl
      · exact hrs r hr
      · exact ⟨⟨B1 tB, fun _ _ _ _ _ e => by cases e⟩, S1 tB⟩
    · obtain ⟨a, b, c, e, r⟩ := w7.ex
      exact ⟨a, b, c, by rw [mset_ne (fun z => hqw z.symm)]; exact e, r⟩
    · intro a o ha e
      rw [mset_ne]
      · exact kp7 a o ha (kn a o (by simp) e)
      · intro z; rw [z, hq] at e; cases e
  · rw [decide_eq_false h1]
    exact fin rs m6 hl hrs e6 (w6.mono (by omega)) (kn.more (by simp))
def sp__law_said : SpD := fun ds m P _ => ∃ (rs : List Rm) (k l : Int), ds = [rmsD rs, .tup [.int k, .int l]] ∧ RsOk rs ∧ 0 ≤ k ∧ k < rs.length ∧ P (.tup [oAsk ((rmAt rs k).asks l), oN ((rmAt rs k).told l)]) m
def rd__law_said : DS :=
    sSeq (sSet 2 (rOp oIx (rV 0) (rOp oIx (rV 1) (rC (.int 0)))))
    (sSeq (sIf (rTst (rOp oEq (rOp oIx (rV 2) (rC (.int 0))) (rC (.str "tell")))) (sRet (rTup (rCons (rC .non) (rCons (rCall sp__law_number [] (rCons (rOp oIx (rV 2) (rC (.int 1))) (rCons (rOp oIx (rV 1) (rC (.int 1))) (rNil)))) (rNil))))) (sNext))
    (sRet (rTup (rCons (rTup (rCons (rOp oIx (rV 2) (rC (.int 1))) (rCons (rOp oIx (rV 2) (rC (.int 2))) (rCons (rCB cTup (rCons (rLc (iAny (rOp oIx (rV 2) (rC (.int 3)))) [3] (gN 3) (qYes) (rCall sp__law_number [] (rCons (rV 3) (rCons (rOp oIx (rV 1) (rC (.int 1))) (rNil))))) (rNil))) (rNil))))) (rCons (rC .non) (rNil))))))
theorem ln__law_said : ∀ ds m Q PX, sp__law_said ds m Q PX → ds.length = 2 := fun ds m Q PX h => by repeat (first | (subst_vars; rfl; done) | (obtain ⟨_, h⟩ := h))
theorem pu__law_said : ∀ ds m Q PX, sp__law_said ds m Q PX → rd__law_said (dEnds Q PX) (dstart ["_law_house", "_law_state", "_law_room_here", "_law_thing_here"] ds) m := by
  rintro ds m Q PX ⟨rs, k, l, rfl, ho, k0, k1, h⟩
  obtain ⟨hm, ha⟩ := rm_at k0 k1
  have hr := ho.ok _ hm
  walk_at "go"
  rw [ha]
  cases hk : rmAt rs k with
  | tell t =>
    rw [hk] at h
    walk_at "go"
    refine ⟨t, l, rfl, ?_⟩
    walk_at "go"
    exact h
  | ask p e ts ws o =>
    rw [hk] at h hr
    obtain ⟨_, h2, _⟩ := hr.nm p e ts ws o rfl
    walk_at "go"
    refine comp_on ts Th.d (fun t => .int (t.at l)) (by omega) trivial (fun t hm Q q => ?_) ?_
    · walk_at "go"
      exact ⟨t, l, rfl, q⟩
    have lm : (ts.map fun t => D.int (t.at l)).length = ts.length := List.length_map _
    walk_at "go"
    have e : (ts.map fun t => D.int (t.at l)) = (ts.map fun t => t.at l).map D.int := by rw [List.map_map]; rfl
    rw [e]
    exact h
def sp__law_goes_v2 : SpD := sp__law_goes
def rd__law_goes_v2 : DS :=
    sSeq (sFor (iAny (rOp oIx (rOp oIx (rV 0) (rOp oIx (rV 1) (rC (.int 0)))) (rC (.int 4)))) (gT [3, 4]) (sIf (rTru (rCall (sp__law_fits 2) [] (rCons (rV 3) (rCons (rV 2) (rNil))))) (sRet (rTup (rCons (rV 4) (rCons (rV 2) (rNil))))) (sNext)))
    (sRet (rTup (rCons (rOp oIx (rOp oIx (rV 0) (rOp oIx (rV 1) (rC (.int 0)))) (rC (.int 5))) (rCons (rV 2) (rNil)))))
theorem ln__law_goes_v2 : ∀ ds m Q PX, sp__law_goes_v2 ds m Q PX → ds.length = 3 := ln__law_goes
theorem pu__law_goes_v2 : ∀ ds m Q PX, sp__law_goes_v2 ds m Q PX → rd__law_goes_v2 (dEnds Q PX) (dstart ["_law_house", "_law_state", "_law_answer", "_law_look_here", "_law_room_here"] ds) m := by
  rintro ds m Q PX ⟨rs, k, l, n, rfl, ho, k0, k1, hto, h⟩
  obtain ⟨hm, ha⟩ := rm_at k0 k1
  have hr := ho.ok _ hm
  walk_at "go"
  rw [ha]
  cases hk : rmAt rs k with
  | tell t => rw [hk] at hto; cases hto
  | ask p e ts ws o =>
    rw [hk] at h hr
    obtain ⟨_, _, h2, _⟩ := hr.nm p e ts ws o rfl
    change Q (.tup [.int (wTo n o ws), .int n]) m at h
    walk_at "go"
    refine loop_inv (fun i δ m' => m' = m ∧ wTo n o ws = wTo n o (ws.drop i) ∧ ∃ a3 a4, δ = [some (rmsD rs), some (.tup [.int k, .int l]), some (.int n), a3, a4]) (fun i d δ m' e hh => ?_) (fun δ m' hh => ?_) ⟨rfl, rfl, _, _, rfl⟩
    · obtain ⟨rfl, hw, a3, a4, rfl⟩ := hh
      rw [List.getElem?_map] at e
      cases ei : ws[i]? with
      | none => rw [ei] at e; cases e
      | some w =>
        rw [ei] at e
        cases e
        have hg := (h2.2 w (List.mem_of_getElem? ei)).1
        have ed : ws.drop i = w :: ws.drop (i + 1) := by
          obtain ⟨hi, hw⟩ := List.getElem?_eq_some_iff.mp ei
          rw [List.drop_eq_getElem_cons hi, hw]
        rw [ed, show wTo n o (w :: ws.drop (i + 1)) = if w.1.fits n then w.2 else wTo n o (ws.drop (i + 1)) from rfl] at hw
        refine ⟨trivial, fun Nx k1 => ?_⟩
        walk_at "go"
        refine ⟨w.1, n, rfl, hg.dp, ?_⟩
        cases ef : w.1.fits n with
        | true =>
          rw [ef, if_pos rfl] at hw
          rw [hw] at h
          walk_at "go"
          exact h
        | false =>
          rw [ef, if_neg (by decide)] at hw
          walk_at "go"
          exact k1 _ _ ⟨rfl, hw, _, _, rfl⟩
    · obtain ⟨rfl, hw, a3, a4, rfl⟩ := hh
      refine ⟨trivial, ?_⟩
      rw [List.length_map, List.drop_length] at hw
      rw [hw] at h
      walk_at "go"
      rw [ha, hk]
      walk_at "go"
      exact h
end
section
/-! ### loops and comprehensions over things of a kind -/
section
variable {α : Type} {Ph : Mu → Prop} {rg rg1 : DG} {qt qt1 : DT} {ri1 : DI} {js1 : List Nat} {re : DE} {δ : DSt} {P : List D → Mu → Prop} {m : Mu}
theorem comp_ty (dd : α → D) (f : α → List D) (L : Nat) (ph : Ph m) : ∀ {xs : List α} {acc : List D},
    (∀ x ∈ xs, ∀ (acc' : List D) (Cn : List D → Mu → Prop), acc'.length + (f x).length ≤ L → Cn (acc' ++ f x) m → rg (dd x) δ m fun δ' m' => qt δ' m' (fun k m1 => match k with
      | true => re δ' m1 (fun y m2 => acc'.length < sizeLine ∧ Cn (acc' ++ [y]) m2) noX
      | false => Cn acc' m1) noX) → acc.length + (xs.flatMap f).length ≤ L → P (acc ++ xs.flatMap f) m → rComp Ph rg qt re δ P (xs.map dd) acc m
  | [], acc, _, _, h => by rw [List.map_nil, rComp_nil]; exact ⟨ph, by simpa using h⟩
  | x :: xs, acc, hs, hl, h => by
    simp only [List.flatMap_cons, List.length_append] at hl
    rw [List.map_cons, rComp_cons]
    refine ⟨ph, hs x List.mem_cons_self acc _ (by omega) ?_⟩
    exact comp_ty dd f L ph (fun y hy => hs y (List.mem_cons_of_mem _ hy)) (by rw [List.length_append]; omega) (by simpa using h)
theorem comp2_ty (dd : α → D) (f : α → List D) (L : Nat) (ph : Ph m) : ∀ {xs : List α} {acc : List D},
    (∀ x ∈ xs, ∀ (acc' : List D) (Cn : List D → Mu → Prop), acc'.length + (f x).length ≤ L → Cn (acc' ++ f x) m → rg (dd x) δ m fun δ' m' => qt δ' m' (fun k m1 => match k with
      | true => ri1 δ' m1 (fun Ph1 ds1 m2 => rComp Ph1 rg1 qt1 re (wipeD δ' js1) (fun acc' m3 => Cn acc' m3) ds1 acc' m2) noX
      | false => Cn acc' m1) noX) → acc.length + (xs.flatMap f).length ≤ L → P (acc ++ xs.flatMap f) m → rComp2 Ph rg qt ri1 js1 rg1 qt1 re δ P (xs.map dd) acc m
  | [], acc, _, _, h => by rw [List.map_nil, rComp2_nil]; exact ⟨ph, by simpa using h⟩
  | x :: xs, acc, hs, hl, h => by
    simp only [List.flatMap_cons, List.length_append] at hl
    rw [List.map_cons, rComp2_cons]
    refine ⟨ph, hs x List.mem_cons_self acc _ (by omega) ?_⟩
    exact comp2_ty dd f L ph (fun y hy => hs y (List.mem_cons_of_mem _ hy)) (by rw [List.length_append]; omega) (by simpa using h)
end
theorem flatMap_single {α β : Type} (f : α → β) (l : List α) : l.flatMap (fun a => [f a]) = l.map f := by induction l with | nil => rfl | cons a l ih => simp [List.flatMap_cons, ih]
end
section
/-! ### the answers that matter (k71) -/
theorem compB_ty {α : Type} {Ph : Mu → Prop} {rg : DG} {qt : DT} {b : DB} {δ : DSt} {P : List D → Mu → Prop} {m : Mu} (dd : α → D) (f : α → List D) (L : Nat) (ph : Ph m) : ∀ {xs : List α} {acc : List D},
    (∀ x ∈ xs, ∀ (acc' : List D) (Cn : List D → Mu → Prop), acc'.length + (f x).length ≤ L → Cn (acc' ++ f x) m → rg (dd x) δ m fun δ' m' => qt δ' m' (fun k m1 => match k with
      | true => b δ' m1 acc' Cn
      | false => Cn acc' m1) noX) → acc.length + (xs.flatMap f).length ≤ L → P (acc ++ xs.flatMap f) m → rCompB Ph rg qt b δ P (xs.map dd) acc m
  | [], acc, _, _, h => by rw [List.map_nil, rCompB_nil]; exact ⟨ph, by simpa using h⟩
  | x :: xs, acc, hs, hl, h => by
    simp only [List.flatMap_cons, List.length_append] at hl
    rw [List.map_cons, rCompB_cons]
    refine ⟨ph, hs x List.mem_cons_self acc _ (by omega) ?_⟩
    exact compB_ty dd f L ph (fun y hy => hs y (List.mem_cons_of_mem _ hy)) (by rw [List.length_append]; omega) (by simpa using h)
theorem ths_len {rs : List Rm} {n : Nat} (h : ∀ r ∈ rs, r.Ok n) : (rs.flatMap Rm.ths).length ≤ rs.length * 2 := flat_len _ 2 rs fun r hr => by
  have := (h r hr).nm
  cases r with
  | tell t => show 1 ≤ 2; omega
  | ask p e ts ws o => exact (this p e ts ws o rfl).2.1
def sp_things_of : SpD := fun ds m P _ => ∃ rs : List Rm, ds = [doD rs] ∧ RsOk rs ∧ P (.lst ((rs.flatMap Rm.ths).map Th.d)) m
def rd_things_of : DS :=
    sRet (rLcB (iAny (rFld "Doer" "rooms" (rV 0))) [2, 3, 1] (gStar 2 3) (qYes) (bF (iAny (rIfE (rTst (rOp oEq (rV 2) (rC (.str "ask")))) (rOp oIx (rV 3) (rC (.int 2))) (rSl (rV 3) rNoP (rPart (rC (.int 1)))))) [1] (gN 1) (qYes) (bE (rV 1))))
theorem ln_things_of : ∀ ds m Q PX, sp_things_of ds m Q PX → ds.length = 1 := fun ds m Q PX h => by (repeat (obtain ⟨_, h⟩ := h)); subst_vars; rfl
theorem pu_things_of : ∀ ds m Q PX, sp_things_of ds m Q PX → rd_things_of (dEnds Q PX) (dstart ["doer", "thing", "word", "rest"] ds) m := by
  rintro ds m Q PX ⟨rs, rfl, ho, h⟩
  have hl := ths_len ho.ok
  have h9 := ho.few
  walk_at "go"
  refine compB_ty Rm.d (fun r => r.ths.map Th.d) 100 trivial (fun r hr acc Cn hc h' => ?_) (by rw [← List.map_flatMap, List.length_map, List.length_nil]; omega) (by rw [List.nil_append, ← List.map_flatMap]; exact h)
  have inner : ∀ (ts : List Th) (a b c d : Option D), acc.length + ts.length ≤ 100 → Cn (acc ++ ts.map Th.d) m → rCompB (fun _ => True) (gN 1) qYes (bE (rV 1)) [a, b, c, d] Cn (ts.map Th.d) acc m := by
    intro ts a b c d hl' hC
    refine compB_ty Th.d (fun t => [t.d]) 100 trivial (fun t ht acc' Cn' hc' h'' => ?_) (by rw [flatMap_single, List.length_map]; omega) (by rw [flatMap_single]; exact hC)
    have hc2 : acc'.length + 1 ≤ 100 := hc'
    walk_at "go"
    exact h''
  have hok := (ho.ok r hr).nm
  rw [List.length_map] at hc
  cases r with
  | tell t =>
    walk_at "go"
    exact inner [t] _ _ _ _ hc h'
  | ask p e ts ws o =>
    walk_at "go"
    exact inner ts _ _ _ _ hc h'
def Th.pl : Th → Option Int
  | .num n => some n
  | .last _ => none
def Th.mo : Th → Option Int
  | .num _ => none
  | .last n => some n
def meetR (ts : List Th) : List Int := (ts.filterMap Th.pl).flatMap fun n => (ts.filterMap Th.mo).flatMap fun k => [n - k, n - k + 1]
theorem meet_len {ts : List Th} : (meetR ts).length ≤ ts.length * (ts.length * 2) := by
  refine Nat.le_trans (flat_len _ (ts.length * 2) _ fun n _ => Nat.le_trans (flat_len _ 2 _ fun k _ => by simp) ?_) (Nat.mul_le_mul_right _ (List.length_filterMap_le _ _))
  exact Nat.mul_le_mul_right _ (List.length_filterMap_le _ _)
theorem pl_eq : ∀ ts : List Th, ((ts.map Th.d).filter (fun d => isWhole d)).map id = (ts.filterMap Th.pl).map .int
  | [] => rfl
  | .num n :: ts => by
    rw [List.map_cons, List.filter_cons_of_pos (by rfl), List.map_cons, pl_eq ts]; rfl
  | .last n :: ts => by
    rw [List.map_cons, List.filter_cons_of_neg (by show ¬ (false = true); decide), pl_eq ts]; rfl
def snd2 : D → D
  | .tup [_, d] => d
  | d => d
theorem mo_eq : ∀ ts : List Th, ((ts.map Th.d).filter (fun d => !isWhole d)).map snd2 = (ts.filterMap Th.mo).map .int
  | [] => rfl
  | .num n :: ts => by
    rw [List.map_cons, List.filter_cons_of_neg (by show ¬ (false = true); decide), mo_eq ts]; rfl
  | .last n :: ts => by
    rw [List.map_cons, List.filter_cons_of_pos (by rfl), List.map_cons, mo_eq ts]; rfl
def sp_meeting_numbers : SpD := fun ds m P _ => ∃ ts : List Th, ds = [.lst (ts.map Th.d)] ∧ ts.length ≤ 100 ∧ P (.lst ((meetR ts).map .int)) m
def rd_meeting_numbers : DS :=
    sSeq (sSet 1 (rLc (iAny (rV 0)) [3] (gN 3) (rTru (rCall sp_is_whole [] (rCons (rV 3) (rNil)))) (rV 3)))
    (sSeq (sSet 2 (rLc (iAny (rV 0)) [3] (gN 3) (rNot (rTru (rCall sp_is_whole [] (rCons (rV 3) (rNil))))) (rOp oIx (rV 3) (rC (.int 1)))))
    (sRet (rLcB (iAny (rV 1)) [4, 5, 6] (gN 4) (qYes) (bF (iAny (rV 2)) [5, 6] (gN 5) (qYes) (bF (iAny (rTup (rCons (rC (.int 0)) (rCons (rC (.int 1)) (rNil))))) [6] (gN 6) (qYes) (bE (rOp oAdd (rOp oSub (rV 4) (rV 5)) (rV 6))))))))
theorem ln_meeting_numbers : ∀ ds m Q PX, sp_meeting_numbers ds m Q PX → ds.length = 1 := fun ds m Q PX h => by (repeat (obtain ⟨_, h⟩ := h)); subst_vars; rfl
theorem pu_meeting_numbers : ∀ ds m Q PX, sp_meeting_numbers ds m Q PX → rd_meeting_numbers (dEnds Q PX) (dstart ["things", "plain", "mores", "thing", "number", "more", "step"] ds) m := by
  rintro ds m Q PX ⟨ts, rfl, hl, h⟩
  have lt : (ts.map Th.d).length = ts.length := List.length_map _
  walk_at "go"
  refine comp_fm isWhole id (by omega) trivial (fun d hd Q' h' => ?_) (fun d hd _ Q' h' => h') ?_
  · obtain ⟨t, _, rfl⟩ := List.mem_map.mp hd
    walk_at "go"
    refine ⟨_, rfl, thg_of (n := 1) t.th, ?_⟩
    cases t with
    | num n => exact h'
    | last n => exact h'
  rw [pl_eq]
  walk_at "go"
  refine comp_fm (fun d => !isWhole d) snd2 (by omega) trivial (fun d hd Q' h' => ?_) (fun d hd hp Q' h' => ?_) ?_
  · obtain ⟨t, _, rfl⟩ := List.mem_map.mp hd
    walk_at "go"
    refine ⟨_, rfl, thg_of (n := 1) t.th, ?_⟩
    cases t with
    | num n => exact h'
    | last n => exact h'
  · obtain ⟨t, _, rfl⟩ := List.mem_map.mp hd
    cases t with
    | num n => exact absurd hp (by show ¬ (false = true); decide)
    | last n => walk_at "go"; exact h'
  rw [mo_eq]
  walk_at "go"
  have ml := meet_len (ts := ts)
  have m2 : ts.length * (ts.length * 2) ≤ 100 * (100 * 2) := Nat.mul_le_mul hl (Nat.mul_le_mul_right _ hl)
  obtain ⟨ps, hps⟩ : ∃ ps, ps = ts.filterMap Th.pl := ⟨_, rfl⟩
  obtain ⟨ks, hks⟩ : ∃ ks, ks = ts.filterMap Th.mo := ⟨_, rfl⟩
  have hm : meetR ts = ps.flatMap fun n => ks.flatMap fun k => [n - k, n - k + 1] := by rw [hps, hks]; rfl
  rw [hm] at h ml
  rw [← hps, ← hks]
  clear hm
  refine compB_ty .int (fun n => (ks.flatMap fun k => [n - k, n - k + 1]).map .int) 20000 trivial (fun n _ acc Cn hc h' => ?_) (by rw [← List.map_flatMap, List.length_map, List.length_nil]; omega) (by rw [List.nil_append, ← List.map_flatMap]; exact h)
  rw [List.length_map] at hc
  walk_at "go"
  refine compB_ty .int (fun k => ([n - k, n - k + 1] : List Int).map .int) 20000 trivial (fun k _ acc' Cn' hc' h'' => ?_) (by rw [← List.map_flatMap, List.length_map]; exact hc) (by rw [← List.map_flatMap]; exact h')
  have hc2 : acc'.length + 2 ≤ 20000 := hc'
  walk_at "go"
  refine compB_ty (α := Int) .int (fun z => [D.int (n - k + z)]) 20000 trivial (xs := [0, 1]) (fun z _ acc2 Cn2 hc3 h3 => ?_) (by simpa using hc2) (by simpa using h'')
  have hc4 : acc2.length + 1 ≤ 20000 := hc3
  walk_at "go"
  exact h3
def Rm.lks : Rm → List Lk
  | .tell _ => []
  | .ask _ _ _ ws _ => ws.map (·.1)
def preR (rs : List Rm) : List Int := rs.flatMap (fun r => r.lks.flatMap Lk.turns) ++ meetR (rs.flatMap Rm.ths)
def sampR (rs : List Rm) : List Int := withFirst (preR rs)
end
section
def Rm.isA : Rm → Bool
  | .tell _ => false
  | .ask _ _ _ _ _ => true
def Rm.aD (r : Rm) : List D := match r with
  | .tell _ => []
  | r => [r.d]
theorem aD_eq : ∀ rs : List Rm, rs.flatMap Rm.aD = (rs.filter Rm.isA).map Rm.d
  | [] => rfl
  | .tell t :: rs => by rw [List.flatMap_cons, aD_eq rs]; rfl
  | .ask p e ts ws o :: rs => by rw [List.flatMap_cons, aD_eq rs]; rfl
theorem lks_eq : ∀ rs : List Rm, (rs.filter Rm.isA).flatMap (fun r => r.lks.flatMap Lk.turns) = rs.flatMap (fun r => r.lks.flatMap Lk.turns)
  | [] => rfl
  | .tell t :: rs => by rw [List.filter_cons_of_neg (by show ¬ (false = true); decide), lks_eq rs]; rfl
  | .ask p e ts ws o :: rs => by rw [List.filter_cons_of_pos (by rfl), List.flatMap_cons, List.flatMap_cons, lks_eq rs]
theorem Rm.Ok.lk {n : Nat} {r : Rm} (h : r.Ok n) : r.lks.length ≤ 3 ∧ ∀ l ∈ r.lks, l.Good 142 := by
  cases r with
  | tell t => exact ⟨Nat.zero_le _, fun _ z => by cases z⟩
  | ask p e ts ws o =>
    obtain ⟨_, _, h2, _⟩ := h.nm p e ts ws o rfl
    refine ⟨by show (ws.map _).length ≤ 3; rw [List.length_map]; exact h2.1, fun l hl => ?_⟩
    obtain ⟨w, hw, rfl⟩ := List.mem_map.mp hl
    exact (h2.2 w hw).1
theorem trn_len {rs : List Rm} (h : ∀ r ∈ rs, ∃ n, r.Ok n) : (rs.flatMap (fun r => r.lks.flatMap Lk.turns)).length ≤ rs.length * 24 := flat_len _ 24 rs fun r hr => by
  obtain ⟨n, hn⟩ := h r hr
  refine Nat.le_trans (flat_len _ 8 _ fun l hl => turns_len l (hn.lk.2 l hl).few) ?_
  have := hn.lk.1
  omega
theorem ths_len' {rs : List Rm} (h : ∀ r ∈ rs, ∃ n, r.Ok n) : (rs.flatMap Rm.ths).length ≤ rs.length * 2 := flat_len _ 2 rs fun r hr => by
  obtain ⟨n, hn⟩ := h r hr
  have := hn.nm
  cases r with
  | tell t => show 1 ≤ 2; omega
  | ask p e ts ws o => exact (this p e ts ws o rfl).2.1
theorem pm_len : ∀ ts : List Th, (ts.filterMap Th.pl).length + (ts.filterMap Th.mo).length = ts.length
  | [] => rfl
  | .num n :: ts => by
    have := pm_len ts
    show ((n :: ts.filterMap Th.pl).length + (ts.filterMap Th.mo).length) = _
    simp only [List.length_cons]; omega
  | .last n :: ts => by
    have := pm_len ts
    show ((ts.filterMap Th.pl).length + (n :: ts.filterMap Th.mo).length) = _
    simp only [List.length_cons]; omega
theorem pk_le : ∀ p, p < 25 → ∀ k, k < 25 → p + k ≤ 24 → p * (k * 2) ≤ 288 := by decide
theorem meet_len' {ts : List Th} (h : ts.length ≤ 24) : (meetR ts).length ≤ 288 := by
  have e := pm_len ts
  refine Nat.le_trans (flat_len _ ((ts.filterMap Th.mo).length * 2) _ fun n _ => flat_len _ 2 _ fun k _ => by simp) (pk_le _ (by omega) _ (by omega) (by omega))
def sp_samples_of : SpD := fun ds m P _ => ∃ Rs : List (List Rm), ds = [.lst (Rs.map doD)] ∧ (∀ R ∈ Rs, RsOk R) ∧ Rs.flatten.length ≤ 12 ∧ P (.lst ((sampR Rs.flatten).map .int)) m
def rd_samples_of : DS :=
    sSeq (sSet 1 (rLc2 (iAny (rV 0)) [3, 4] (gN 3) (qYes) (iAny (rFld "Doer" "rooms" (rV 3))) [4] (gN 4) (rTst (rOp oEq (rOp oIx (rV 4) (rC (.int 0))) (rC (.str "ask")))) (rV 4)))
    (sSeq (sSet 2 (rLcB (iAny (rV 1)) [4, 6, 7, 5] (gN 4) (qYes) (bF (iAny (rOp oIx (rV 4) (rC (.int 4)))) [6, 7, 5] (gT [6, 7]) (qYes) (bF (iAny (rCall sp_turns [] (rCons (rV 6) (rNil)))) [5] (gN 5) (qYes) (bE (rV 5))))))
    (sRet (rCall sp_with_first [] (rCons (rOp oAdd (rV 2) (rCall sp_meeting_numbers [] (rCons (rLc2 (iAny (rV 0)) [3, 8] (gN 3) (qYes) (iAny (rCall sp_things_of [] (rCons (rV 3) (rNil)))) [8] (gN 8) (qYes) (rV 8)) (rNil)))) (rNil)))))
theorem ln_samples_of : ∀ ds m Q PX, sp_samples_of ds m Q PX → ds.length = 1 := fun ds m Q PX h => by (repeat (obtain ⟨_, h⟩ := h)); subst_vars; rfl
theorem pu_samples_of : ∀ ds m Q PX, sp_samples_of ds m Q PX → rd_samples_of (dEnds Q PX) (dstart ["some", "rooms", "found", "doer", "room", "turn", "look", "to", "thing"] ds) m := by
  rintro ds m Q PX ⟨Rs, rfl, ho, hl, h⟩
  have ok : ∀ r ∈ Rs.flatten, ∃ n, r.Ok n := fun r hr => by
    obtain ⟨R, hR, hr⟩ := List.mem_flatten.mp hr
    exact ⟨_, (ho R hR).ok r hr⟩
  have l1 := trn_len ok
  have l2 := ths_len' ok
  have ea : (Rs.flatMap fun R => R.flatMap Rm.aD) = (Rs.flatten.filter Rm.isA).map Rm.d := by rw [← aD_eq, List.flatten_eq_flatMap, List.flatMap_assoc]; rfl
  walk_at "go"
  refine comp2_ty doD (fun R => R.flatMap Rm.aD) 100 trivial (fun R hR acc Cn hc h' => ?_) (by rw [ea, List.length_map, List.length_nil]; have := List.length_filter_le Rm.isA Rs.flatten; omega) ?_
  · walk_at "go"
    refine comp_ty Rm.d Rm.aD 100 trivial (fun r hr acc' Cn' hc' h2 => ?_) hc h'
    cases r with
    | tell t => walk_at "go"; simpa [Rm.aD] using h2
    | ask p e ts ws o =>
      have hc2 : acc'.length + 1 ≤ 100 := hc'
      walk_at "go"
      exact h2
  rw [List.nil_append, ea]
  obtain ⟨As, hAs⟩ : ∃ As, As = Rs.flatten.filter Rm.isA := ⟨_, rfl⟩
  have lA := lks_eq Rs.flatten
  rw [← hAs] at lA
  rw [← hAs]
  have okA : ∀ r ∈ As, r.isA = true ∧ ∃ n, r.Ok n := fun r hr => by
    rw [hAs] at hr
    exact ⟨(List.mem_filter.mp hr).2, ok r (List.mem_filter.mp hr).1⟩
  clear hAs
  walk_at "go"
  refine compB_ty Rm.d (fun r => (r.lks.flatMap Lk.turns).map .int) 1000 trivial (fun r hr acc Cn hc h' => ?_) (by rw [← List.map_flatMap, List.length_map, List.length_nil, lA]; omega) ?_
  · obtain ⟨ha, n, hn⟩ := okA r hr
    cases r with
    | tell t => exact absurd ha (by show ¬ (false = true); decide)
    | ask p e ts ws o =>
      have hg := hn.lk.2
      have eq : ((Rm.ask p e ts ws o).lks.flatMap Lk.turns).map D.int = ws.flatMap fun w => (w.1.turns).map .int := by
        show ((ws.map (·.1)).flatMap Lk.turns).map D.int = _
        rw [List.flatMap_map, List.map_flatMap]
      rw [eq] at hc h'
      walk_at "go"
      refine compB_ty wyD (fun w => (w.1.turns).map .int) 1000 trivial (fun w hw acc' Cn' hc' h2 => ?_) hc h'
      have gw := hg w.1 (List.mem_map.mpr ⟨w, hw, rfl⟩)
      rw [List.length_map] at hc'
      walk_at "go"
      refine ⟨w.1, rfl, gw.dp, gw.few, ?_⟩
      walk_at "go"
      refine compB_ty .int (fun z => [.int z]) 1000 trivial (fun z _ acc2 Cn2 hc3 h3 => ?_) (by rw [flatMap_single, List.length_map]; exact hc') (by rw [flatMap_single]; exact h2)
      have hc4 : acc2.length + 1 ≤ 1000 := hc3
      walk_at "go"
      exact h3
  rw [List.nil_append, ← List.map_flatMap, lA]
  have lt : ((Rs.flatten.flatMap Rm.ths).map Th.d).length = (Rs.flatten.flatMap Rm.ths).length := List.length_map _
  have et : (Rs.flatMap fun R => (R.flatMap Rm.ths).map Th.d) = (Rs.flatten.flatMap Rm.ths).map Th.d := by rw [← List.map_flatMap, List.flatten_eq_flatMap, List.flatMap_assoc]; rfl
  walk_at "go"
  refine comp2_ty doD (fun R => (R.flatMap Rm.ths).map Th.d) 100 trivial (fun R hR acc Cn hc h' => ?_) (by rw [et, List.length_nil]; omega) ?_
  · walk_at "go"
    refine ⟨R, rfl, ho R hR, ?_⟩
    walk_at "go"
    refine comp_ty Th.d (fun t => [t.d]) 100 trivial (fun t _ acc' Cn' hc' h2 => ?_) (by rw [flatMap_single]; exact hc) (by rw [flatMap_single]; exact h')
    have hc2 : acc'.length + 1 ≤ 100 := hc'
    walk_at "go"
    exact h2
  rw [List.nil_append, et]
  walk_at "go"
  refine ⟨_, rfl, by omega, ?_⟩
  have ml := meet_len' (ts := Rs.flatten.flatMap Rm.ths) (by omega)
  obtain ⟨A, hA⟩ : ∃ A, A = Rs.flatten.flatMap (fun r => r.lks.flatMap Lk.turns) := ⟨_, rfl⟩
  obtain ⟨B, hB⟩ : ∃ B, B = meetR (Rs.flatten.flatMap Rm.ths) := ⟨_, rfl⟩
  have hAB : preR Rs.flatten = A ++ B := by rw [hA, hB]; rfl
  unfold sampR at h
  rw [hAB] at h
  rw [← hA] at l1
  rw [← hB] at ml
  rw [← hA, ← hB]
  have la : (A.map D.int).length = A.length := List.length_map _
  have lb : (B.map D.int).length = B.length := List.length_map _
  walk_at "go"
  exact ⟨A ++ B, by rw [List.map_append]; rfl, by rw [List.length_append]; omega, h⟩
def sp_answer_samples : SpD := fun ds m P PX => ∃ d e : D, ds = [d, e] ∧ Thg d ∧ Thg e ∧
  ((∃ a b, d = rmsD a ∧ e = rmsD b ∧ RsOk a ∧ RsOk b ∧ a.length + b.length ≤ 12 ∧ P (.lst ((sampR (a ++ b)).map .int)) m) ∨ (roomsB d = false ∧ PX "BadRooms" [("why", .str "no rooms")] m) ∨ (∃ a, d = rmsD a ∧ RsOk a ∧ roomsB e = false ∧ PX "BadRooms" [("why", .str "no rooms")] m))
def rd_answer_samples : DS :=
    sRet (rCall sp_samples_of [] (rCons (rLst (rCons (rMk "Doer" sp_Doer___init__ 1 0 (gI [0, 1]) (rCons (rV 0) (rNil)) (rNil)) (rCons (rMk "Doer" sp_Doer___init__ 1 0 (gI [0, 1]) (rCons (rV 1) (rNil)) (rNil)) (rNil)))) (rNil)))
theorem ln_answer_samples : ∀ ds m Q PX, sp_answer_samples ds m Q PX → ds.length = 2 := by rintro ds m Q PX ⟨d, e, rfl, _⟩; rfl
theorem pu_answer_samples : ∀ ds m Q PX, sp_answer_samples ds m Q PX → rd_answer_samples (dEnds Q PX) (dstart ["one", "other"] ds) m := by
  rintro ds m Q PX ⟨d, e, rfl, hd, he, h⟩
  walk_at "go"
  intro p hp
  refine ⟨p, d, rfl, mset_same, hd, fun e1 => ⟨rfl, _, mset_same, ?_⟩, fun e1 => ?_⟩
  · rw [mset_mset, mdel_mset hp]
    walk_at "go"
    intro q hq
    refine ⟨q, e, rfl, mset_same, he, fun e2 => ⟨rfl, _, mset_same, ?_⟩, fun e2 => ?_⟩
    · rw [mset_mset, mdel_mset hq]
      walk_at "go"
      obtain ⟨a, b, rfl, rfl, oa, ob, hl, h⟩ | ⟨e3, _⟩ | ⟨a, rfl, oa, e3, _⟩ := h
      · refine ⟨[a, b], rfl, fun R hR => ?_, by simp only [List.flatten_cons, List.flatten_nil, List.append_nil, List.length_append]; exact hl, ?_⟩
        · rcases List.mem_cons.mp hR with rfl | hR
          · exact oa
          · cases List.mem_singleton.mp hR; exact ob
        · rw [show [a, b].flatten = a ++ b from by simp]; exact h
      · rw [e1] at e3; cases e3
      · rw [e2] at e3; cases e3
    · obtain ⟨a, b, rfl, rfl, oa, ob, hl, h⟩ | ⟨e3, _⟩ | ⟨a, rfl, oa, e3, h⟩ := h
      · rw [ob.is] at e2; cases e2
      · rw [e1] at e3; cases e3
      · rw [mdel_mset hq]; exact h
  · obtain ⟨a, b, rfl, rfl, oa, ob, hl, h⟩ | ⟨e3, h⟩ | ⟨a, rfl, oa, e3, h⟩ := h
    · rw [oa.is] at e1; cases e1
    · rw [mdel_mset hp]; exact h
    · rw [oa.is] at e1; cases e1
end
section
theorem wf_cons (ts : List Int) : ∃ c R, withFirst ts = c :: R ∧ (∀ t, t ∈ R ↔ t ∈ ts) ∧ (c :: R).Pairwise (· < ·) := by
  have ha := srtU_asc ts
  have hm := fun x => mem_srtU x ts
  unfold withFirst
  cases e : srtU ts with
  | nil => rw [e] at hm; exact ⟨0, [], rfl, hm, by simp⟩
  | cons a r =>
    rw [e] at ha hm
    refine ⟨a - 1, a :: r, rfl, hm, List.pairwise_cons.mpr ⟨fun x hx => ?_, ha⟩⟩
    rcases List.mem_cons.mp hx with rfl | hx
    · omega
    · have := (List.pairwise_cons.mp ha).1 x hx; omega
end
section
/-! ### like answers: like runs -/
/-- two numbers that no number of ts parts -/
def Alk (ts : List Int) (n x : Int) : Prop := ∀ t ∈ ts, (t ≤ n ↔ t ≤ x)
theorem Alk.symm {ts : List Int} {n x : Int} (h : Alk ts n x) : Alk ts x n := fun t ht => (h t ht).symm
theorem Alk.fits {ts : List Int} {n x : Int} (h : Alk ts n x) {l : Lk} (hl : ∀ t ∈ l.turns, t ∈ ts) : l.fits n = l.fits x := by
  have one : ∀ {n x : Int}, n ≤ x → Alk ts n x → l.fits n = l.fits x := fun {n x} hnx h => (fits_same l hnx fun j h1 h2 z => by
    have := h j (hl j z)
    omega).symm
  by_cases hnx : n ≤ x
  · exact one hnx h
  · exact (one (by omega) h.symm).symm
theorem Alk.meet {ts : List Int} {n x t : Int} (h : Alk ts n x) (h1 : t ∈ ts) (h2 : t + 1 ∈ ts) : n = t ↔ x = t := by
  have := h t h1
  have := h (t + 1) h2
  omega
theorem Alk.to {ts : List Int} {n x : Int} (h : Alk ts n x) {r : Rm} (hr : ∀ t ∈ r.lks.flatMap Lk.turns, t ∈ ts) : r.to n = r.to x := by
  cases r with
  | tell t => rfl
  | ask p e ths ws o =>
    show wTo n o ws = wTo x o ws
    have hw : ∀ w ∈ ws, ∀ t ∈ w.1.turns, t ∈ ts := fun w hw t ht => hr t (List.mem_flatMap.mpr ⟨w.1, List.mem_map.mpr ⟨w, hw, rfl⟩, ht⟩)
    clear hr
    induction ws with
    | nil => rfl
    | cons w ws ih =>
      unfold wTo
      rw [h.fits (hw w List.mem_cons_self), ih fun w' h' => hw w' (List.mem_cons_of_mem _ h')]
/-- two things are told alike at one last answer just where at the other -/
theorem th_alk {ts : List Int} {n x : Int} (h : Alk ts n x) {ths : List Th} (hm : ∀ t ∈ meetR ths, t ∈ ts) {s t : Th} (hs : s ∈ ths) (ht : t ∈ ths) : s.at n = t.at n ↔ s.at x = t.at x := by
  have key : ∀ {a k : Int}, Th.num a ∈ ths → Th.last k ∈ ths → (a = n + k ↔ a = x + k) := fun {a k} ha hk => by
    have h1 : a - k ∈ meetR ths := List.mem_flatMap.mpr ⟨a, List.mem_filterMap.mpr ⟨_, ha, rfl⟩, List.mem_flatMap.mpr ⟨k, List.mem_filterMap.mpr ⟨_, hk, rfl⟩, by simp⟩⟩
    have h2 : a - k + 1 ∈ meetR ths := List.mem_flatMap.mpr ⟨a, List.mem_filterMap.mpr ⟨_, ha, rfl⟩, List.mem_flatMap.mpr ⟨k, List.mem_filterMap.mpr ⟨_, hk, rfl⟩, by simp⟩⟩
    have := h.meet (hm _ h1) (hm _ h2)
    omega
  cases s with
  | num a =>
    cases t with
    | num b => exact Iff.rfl
    | last k => exact key hs ht
  | last k =>
    cases t with
    | num b =>
      show n + k = b ↔ x + k = b
      have := key ht hs
      omega
    | last j =>
      show n + k = n + j ↔ x + k = x + j
      omega
theorem ths_alk {ts : List Int} {n x : Int} (h : Alk ts n x) {ths : List Th} (hm : ∀ t ∈ meetR ths, t ∈ ts) : ∀ {as bs : List Th}, (∀ s ∈ as, s ∈ ths) → (∀ s ∈ bs, s ∈ ths) → (as.map (·.at n) = bs.map (·.at n) ↔ as.map (·.at x) = bs.map (·.at x))
  | [], [], _, _ => Iff.rfl
  | [], _ :: _, _, _ => by simp
  | _ :: _, [], _, _ => by simp
  | a :: as, b :: bs, ha, hb => by
    simp only [List.map_cons, List.cons.injEq]
    rw [th_alk h hm (ha a List.mem_cons_self) (hb b List.mem_cons_self), ths_alk h hm (fun s z => ha s (List.mem_cons_of_mem _ z)) (fun s z => hb s (List.mem_cons_of_mem _ z))]
/-- what two rooms say -/
theorem said_alk {ts : List Int} {n x : Int} (h : Alk ts n x) {ths : List Th} (hm : ∀ t ∈ meetR ths, t ∈ ts) {r q : Rm} (hr : ∀ s ∈ r.ths, s ∈ ths) (hq : ∀ s ∈ q.ths, s ∈ ths) :
    (r.asks n = q.asks n ↔ r.asks x = q.asks x) ∧ (r.told n = q.told n ↔ r.told x = q.told x) := by
  cases r with
  | tell s =>
    cases q with
    | tell t =>
      refine ⟨Iff.rfl, ?_⟩
      show some (s.at n) = some (t.at n) ↔ some (s.at x) = some (t.at x)
      rw [Option.some.injEq, Option.some.injEq]
      exact th_alk h hm (hr s List.mem_cons_self) (hq t List.mem_cons_self)
    | ask p e us ws o => exact ⟨by simp [Rm.asks], by simp [Rm.told]⟩
  | ask p e us ws o =>
    cases q with
    | tell t => exact ⟨by simp [Rm.asks], by simp [Rm.told]⟩
    | ask p' e' us' ws' o' =>
      refine ⟨?_, Iff.rfl⟩
      simp only [Rm.asks, Option.some.injEq, Prod.mk.injEq]
      have := ths_alk h hm (as := us) (bs := us') hr hq
      rw [this]
theorem asks_none {r : Rm} {n x : Int} : r.asks n = none ↔ r.asks x = none := by cases r <;> simp [Rm.asks]
/-- answers that are like one another, one by one -/
inductive AlkL (ts : List Int) : List Int → List Int → Prop
  | nil : AlkL ts [] []
  | cons {n x : Int} {ns xs : List Int} : Alk ts n x → AlkL ts ns xs → AlkL ts (n :: ns) (x :: xs)
structure Cov (ts : List Int) (ths : List Th) (rs : List Rm) : Prop where
  one : 1 ≤ rs.length
  ok : ∀ r ∈ rs, r.Ok rs.length
  tr : ∀ r ∈ rs, ∀ t ∈ r.lks.flatMap Lk.turns, t ∈ ts
  th : ∀ r ∈ rs, ∀ s ∈ r.ths, s ∈ ths
theorem Cov.at {ts : List Int} {ths : List Th} {rs : List Rm} (h : Cov ts ths rs) {k : Int} (k0 : 0 ≤ k) (k1 : k < rs.length) : rmAt rs k ∈ rs := (rm_at k0 k1).1
end
section
theorem RsOk.put {R : List Rm} (h : RsOk R) {j : Nat} (hj : j < R.length) {r : Rm} (hr : r.Ok R.length) : RsOk (R.take j ++ [r] ++ R.drop (j + 1)) := by
  have l : (R.take j ++ [r] ++ R.drop (j + 1)).length = R.length := by simp only [List.length_append, List.length_take, List.length_drop, List.length_cons, List.length_nil]; omega
  refine ⟨by rw [l]; exact h.one, by rw [l]; exact h.few, fun x hx => ?_⟩
  rw [l]
  rcases List.mem_append.mp hx with hx | hx
  · rcases List.mem_append.mp hx with hx | hx
    · exact h.ok x (List.mem_of_mem_take hx)
    · rw [List.mem_singleton.mp hx]; exact hr
  · exact h.ok x (List.mem_of_mem_drop hx)
end
section
/-! ### the fewest rows that part -/
def lowOf (c : List Nat) : Nat := match c.getLast? with
  | none => 0
  | some x => x + 1
def nexts (n : Nat) (c : List Nat) : List Nat := (List.range n).filter fun k => decide (lowOf c ≤ k)
def lots (n : Nat) : Nat → List (List Nat)
  | 0 => [[]]
  | s + 1 => (lots n s).flatMap fun c => (nexts n c).map fun k => c ++ [k]
def hits (col : List Bool) (c : List Nat) : Bool := c.any fun k => (col[k]?).getD false
def partsAll (T : List (List Bool)) (c : List Nat) : Bool := T.all fun col => hits col c
def fewGo (T : List (List Bool)) (n : Nat) : List Nat → Option (List Nat)
  | [] => none
  | s :: ss => match (lots n s).find? (partsAll T) with
    | some c => some c
    | none => fewGo T n ss
def few (T : List (List Bool)) (n : Nat) : Option (List Nat) := fewGo T n (List.range (n + 1))
end
section
theorem mem_meet {ts : List Th} {x : Int} : x ∈ meetR ts ↔ ∃ n k, Th.num n ∈ ts ∧ Th.last k ∈ ts ∧ (x = n - k ∨ x = n - k + 1) := by
  unfold meetR
  simp only [List.mem_flatMap, List.mem_filterMap, List.mem_cons, List.not_mem_nil, or_false]
  constructor
  · rintro ⟨n, ⟨s, hs, e1⟩, k, ⟨t, ht, e2⟩, h⟩
    cases s with
    | last j => cases e1
    | num j =>
      cases t with
      | num i => cases e2
      | last i => cases e1; cases e2; exact ⟨_, _, hs, ht, h⟩
  · rintro ⟨n, k, h1, h2, h⟩
    exact ⟨n, ⟨_, h1, rfl⟩, k, ⟨_, h2, rfl⟩, h⟩
theorem mem_pre {rs : List Rm} {x : Int} : x ∈ preR rs ↔ (∃ r ∈ rs, x ∈ r.lks.flatMap Lk.turns) ∨ ∃ n k, (∃ r ∈ rs, Th.num n ∈ r.ths) ∧ (∃ r ∈ rs, Th.last k ∈ r.ths) ∧ (x = n - k ∨ x = n - k + 1) := by
  unfold preR
  rw [List.mem_append, mem_meet]
  simp only [List.mem_flatMap]
theorem wf_bd {ts : List Int} (h : ∀ t ∈ ts, Bd 154 t) : ∀ s ∈ withFirst ts, Bd 160 s := by
  have e1 : (2 : Nat) ^ 154 = 22835963083295358096932575511191922182123945984 := by decide +kernel
  have e2 : (2 : Nat) ^ 160 = 1461501637330902918203684832716283019655932542976 := by decide +kernel
  have hm := fun x => mem_srtU x ts
  unfold withFirst
  cases e : srtU ts with
  | nil => intro s hs; cases List.mem_singleton.mp hs; show (0 : Int).natAbs < _; rw [e2]; decide
  | cons a r =>
    rw [e] at hm
    intro s hs
    have hb : ∀ t ∈ a :: r, t.natAbs < 2 ^ 154 := fun t ht => h t ((hm t).mp ht)
    show s.natAbs < 2 ^ 160
    rcases List.mem_cons.mp hs with rfl | hs
    · have := hb a List.mem_cons_self; omega
    · have := hb s hs; omega
theorem turn_bd {l : Lk} (h : l.Good 142) : ∀ t ∈ l.turns, Bd 144 t := by
  intro t ht
  have h1 := (mem_srtU t l.edges).mp (List.mem_filter.mp ht).1
  obtain ⟨n, hn, h2⟩ := List.mem_flatMap.mp h1
  have hb : n.natAbs < 2 ^ 142 := h.nm n hn
  have e1 : (2 : Nat) ^ 144 = 22300745198530623141535718272648361505980416 := by decide +kernel
  have e2 : (2 : Nat) ^ 142 = 5575186299632655785383929568162090376495104 := by decide +kernel
  simp only [List.mem_cons, List.not_mem_nil, or_false] at h2
  show t.natAbs < 2 ^ 144
  omega
theorem pre_bd {rs : List Rm} (ok : ∀ r ∈ rs, ∃ n, r.Ok n) : ∀ t ∈ preR rs, Bd 154 t := by
  intro t ht
  have e1 : (2 : Nat) ^ 154 = 22835963083295358096932575511191922182123945984 := by decide +kernel
  have e2 : (2 : Nat) ^ 152 = 5708990770823839524233143877797980545530986496 := by decide +kernel
  rcases mem_pre.mp ht with ⟨r, hr, h⟩ | ⟨n, k, ⟨r, hr, h1⟩, ⟨q, hq, h2⟩, h⟩
  · obtain ⟨l, hl, h⟩ := List.mem_flatMap.mp h
    obtain ⟨n, hn⟩ := ok r hr
    exact (turn_bd (hn.lk.2 l hl) t h).mono
  · obtain ⟨_, o1⟩ := ok r hr
    obtain ⟨_, o2⟩ := ok q hq
    have b1 : n.natAbs < 2 ^ 152 := o1.tb _ h1
    have b2 : k.natAbs < 2 ^ 152 := o2.tb _ h2
    show t.natAbs < 2 ^ 154
    omega
theorem wf_len6 (ts : List Int) : (withFirst ts).length ≤ ts.length + 1 := by
  have := srtU_len ts
  unfold withFirst
  cases e : srtU ts with
  | nil => simp
  | cons a r => rw [e] at this; simp only [List.length_cons] at this ⊢; omega
theorem pre_len {rs : List Rm} (ok : ∀ r ∈ rs, ∃ n, r.Ok n) (h : rs.length ≤ 12) : (preR rs).length ≤ 576 := by
  have h1 := trn_len ok
  have h2 := ths_len' ok
  have h3 := meet_len' (ts := rs.flatMap Rm.ths) (by omega)
  unfold preR
  rw [List.length_append]
  omega
theorem samp_len {rs : List Rm} (ok : ∀ r ∈ rs, ∃ n, r.Ok n) (h : rs.length ≤ 12) : (sampR rs).length ≤ 577 := Nat.le_trans (wf_len6 _) (Nat.succ_le_succ (pre_len ok h))
theorem both_ok {a b : List Rm} (oa : RsOk a) (ob : RsOk b) : ∀ r ∈ a ++ b, ∃ n, r.Ok n := fun r hr => by
  rcases List.mem_append.mp hr with hr | hr
  · exact ⟨_, oa.ok r hr⟩
  · exact ⟨_, ob.ok r hr⟩
theorem cov_of {a rs : List Rm} (oa : RsOk a) (h : ∀ r ∈ a, r ∈ rs) : Cov (preR rs) (rs.flatMap Rm.ths) a where
  one := oa.one
  ok := oa.ok
  tr := fun r hr t ht => mem_pre.mpr (.inl ⟨r, h r hr, ht⟩)
  th := fun r hr s hs => List.mem_flatMap.mpr ⟨r, h r hr, hs⟩
theorem meet_pre {rs : List Rm} : ∀ t ∈ meetR (rs.flatMap Rm.ths), t ∈ preR rs := fun t ht => List.mem_append_right _ ht
theorem AlkL.snoc {ts : List Int} {n x : Int} : ∀ {ns xs : List Int}, AlkL ts ns xs → Alk ts n x → AlkL ts (ns ++ [n]) (xs ++ [x])
  | _, _, .nil, h => .cons h .nil
  | _, _, .cons a t, h => .cons a (t.snoc h)
theorem AlkL.len {ts : List Int} : ∀ {ns xs : List Int}, AlkL ts ns xs → ns.length = xs.length
  | _, _, .nil => rfl
  | _, _, .cons _ t => by rw [List.length_cons, List.length_cons, t.len]
theorem askT_inj {a b : Ask} (h : askT a = askT b) : a = b := by
  obtain ⟨p, e, ns⟩ := a
  obtain ⟨p', e', ns'⟩ := b
  unfold askT askD at h
  simp only [D.tup.injEq, List.cons.injEq, D.str.injEq, and_true] at h
  obtain ⟨h1, h2, h3⟩ := h
  rw [h1, h2, map_ints_inj h3]
end
section
/-! ### demands of a plan, plans eased -/
abbrev Od := Str × Str × Str
def odD (o : Od) : D := .tup [.str o.1, .str o.2.1, .str o.2.2]
def lsD (x : Str) : D := .tup [.str "least", .str x]
def dems (ws : List Ws) (os : List Od) : List D := ((ws.filter fun W => decide (0 < W.least)).map fun W => lsD W.name) ++ os.map odD
structure PT (d : D) : Prop where
  p : pur d = true
  t : thD 5 d
structure OdOk (ns : List Str) (o : Od) : Prop where
  w : o.1 = "all" ∨ o.1 = "ready"
  a : o.2.1 ∈ ns
  b : o.2.2 ∈ ns
  ne : o.2.1 ≠ o.2.2
structure PnOk (ws : List Ws) (os : List Od) (ss : List Str) : Prop where
  few : ws.length ≤ 5
  ok : ∀ W ∈ ws, W.Ok
  nd : (ws.map Ws.name).Nodup
  many : os.length ≤ 12
  ods : ∀ o ∈ os, OdOk (ws.map Ws.name) o
  ondd : os.Nodup
  sfew : ss.length ≤ 4
  snd : ss.Nodup
  snm : ∀ x ∈ ss, nmB x = true
theorem PnOk.nm {ws : List Ws} {os : List Od} {ss : List Str} (h : PnOk ws os ss) {x : Str} (hx : x ∈ ws.map Ws.name) : nmB x = true := by
  obtain ⟨W, hW, rfl⟩ := List.mem_map.mp hx
  exact (h.ok W hW).name
theorem pt_od {o : Od} (h1 : o.1 = "all" ∨ o.1 = "ready") (h2 : nmB o.2.1 = true) (h3 : nmB o.2.2 = true) : PT (odD o) := by
  have t2 := thD_nm (n := 4) h2
  have t3 := thD_nm (n := 4) h3
  have t1 : thD 4 (.str o.1) := by rcases h1 with e | e <;> (rw [e]; exact thD_txt _ _)
  exact ⟨rfl, thD_tup (by simp) (by walk_at "th")⟩
theorem pt_ls {x : Str} (h : nmB x = true) : PT (lsD x) := by
  have t2 := thD_nm (n := 4) h
  exact ⟨rfl, thD_tup (by simp) (by walk_at "th")⟩
theorem PnOk.pt {ws : List Ws} {os : List Od} {ss : List Str} (h : PnOk ws os ss) : ∀ d ∈ dems ws os, PT d := by
  intro d hd
  rcases List.mem_append.mp hd with hd | hd
  · obtain ⟨W, hW, rfl⟩ := List.mem_map.mp hd
    exact pt_ls (h.ok W (List.mem_filter.mp hW).1).name
  · obtain ⟨o, ho, rfl⟩ := List.mem_map.mp hd
    have := h.ods o ho
    exact pt_od this.w (h.nm this.a) (h.nm this.b)
theorem PnOk.th {ws : List Ws} {os : List Od} {ss : List Str} (h : PnOk ws os ss) : thD 6 (.tup (os.map odD)) ∧ thD 6 (.tup (ss.map D.str)) := by
  constructor
  · refine ⟨by rw [List.length_map]; have := h.many; omega, fun d hd => ?_⟩
    obtain ⟨o, ho, rfl⟩ := List.mem_map.mp hd
    have := h.ods o ho
    exact (pt_od this.w (h.nm this.a) (h.nm this.b)).t
  · refine ⟨by rw [List.length_map]; have := h.sfew; omega, fun d hd => ?_⟩
    obtain ⟨x, hx, rfl⟩ := List.mem_map.mp hd
    exact thD_nm (h.snm x hx)
end
section
/-! ### samples of last answers (k61) -/
def moL (r : Rm) : List Int := r.ths.filterMap Th.mo
def sp_like : SpD := fun ds m P _ => ∃ (ns : List Int) (n : Int), ds = [.lst (ns.map .int), .int n] ∧ ns.Pairwise (· < ·) ∧ 0 < ns.length ∧ ns.length ≤ 100000 ∧ P (.int (likeOf ns n)) m
theorem most_last {b : Int} {bs : List Int} (h : (b :: bs).Pairwise (· < ·)) : mostI b bs = (b :: bs).getLast (by simp) := by
  obtain ⟨h1, h2⟩ := mostI_spec bs b
  have h3 := asc_last h (by simp) _ h1
  have h4 := h2 _ (List.getLast_mem (l := b :: bs) (by simp))
  omega
def rd_like : DS :=
    sRet (rMaxK (rCons (rLc (iAny (rV 0)) [2] (gN 2) (rTst (rOp oLe (rV 2) (rV 1))) (rV 2)) (rNil)) (rCons (rOp oIx (rV 0) (rC (.int 0))) (rNil)))
theorem ln_like : ∀ ds m Q PX, sp_like ds m Q PX → ds.length = 2 := fun ds m Q PX h => by (repeat (obtain ⟨_, h⟩ := h)); subst_vars; rfl
theorem pu_like : ∀ ds m Q PX, sp_like ds m Q PX → rd_like (dEnds Q PX) (dstart ["samples", "number", "sample"] ds) m := by
  rintro ds m Q PX ⟨ns, n, rfl, asc, h0, hl, h⟩
  have lS : (ns.map D.int).length = ns.length := List.length_map _
  walk_at "go"
  refine comp_fm (fun d => match d with | .int k => decide (k ≤ n) | _ => false) id (by omega) trivial (fun d hd Q' h' => ?_) (fun d hd _ Q' h' => h') ?_
  · obtain ⟨k, _, rfl⟩ := List.mem_map.mp hd
    walk_at "go"
    exact h'
  have ef : ((ns.map D.int).filter fun d => match d with | .int k => decide (k ≤ n) | _ => false).map id = (ns.filter fun k => decide (k ≤ n)).map D.int := by rw [List.map_id, List.filter_map]; rfl
  rw [ef]
  have af := asc.filter (fun k => decide (k ≤ n))
  cases ns with
  | nil => simp at h0
  | cons a r =>
    walk_at "dl"
    rw [show atI ((a :: r).map D.int) 0 = some (.int a) from by rw [List.map_cons, atI0]]
    walk_at "dl"
    rw [asI_lst]
    unfold likeOf at h
    cases hf : (a :: r).filter fun k => decide (k ≤ n) with
    | nil => rw [hf] at h; exact h
    | cons b bs =>
      rw [hf] at h af
      dsimp only
      rw [most_last af]
      exact h
end
section
/-! ### two programs walked together (k72): the plain law -/
theorem like_gn (f : Int → Bool) (ts : List Int) (h : ∀ j, f j ≠ f (j - 1) → j ∈ ts) (n : Int) : f n = f (likeOf (withFirst ts) n) := by
  have cst : ∀ (a : Int) (k : Nat), (∀ j : Int, a < j → j ≤ a + k → j ∉ ts) → f (a + k) = f a := by
    intro a k
    induction k with
    | zero => intro _; simp
    | succ k ih =>
      intro hn
      have i1 := ih fun j h1 h2 => hn j h1 (by omega)
      have h1 := hn (a + (k + 1 : Nat)) (by omega) (Int.le_refl _)
      have h2 : f (a + (k + 1 : Nat)) = f (a + (k + 1 : Nat) - 1) := Decidable.byContradiction fun z => h1 (h _ z)
      rw [h2, ← i1]
      congr 1
      omega
  have same : ∀ {a b : Int}, a ≤ b → (∀ j : Int, a < j → j ≤ b → j ∉ ts) → f b = f a := by
    intro a b hab hn
    have := cst a (b - a).toNat (fun j h1 h2 => hn j h1 (by omega))
    have e : a + ((b - a).toNat : Int) = b := by omega
    rw [e] at this
    exact this
  unfold withFirst
  have hasc := srtU_asc ts
  cases e : srtU ts with
  | nil =>
    have no : ∀ j, j ∉ ts := fun j hj => by have := (mem_srtU j ts).mpr hj; rw [e] at this; cases this
    dsimp only
    have e1 : likeOf [0] n = 0 := by
      unfold likeOf
      cases h0 : decide ((0 : Int) ≤ n) <;> simp [h0]
    rw [e1]
    by_cases h0 : 0 ≤ n
    · exact same h0 fun j _ _ => no j
    · exact (same (by omega) fun j _ _ => no j).symm
  | cons a r =>
    rw [e] at hasc
    have mem : ∀ j, j ∈ ts → j ∈ a :: r := fun j hj => by have := (mem_srtU j ts).mpr hj; rwa [e] at this
    dsimp only
    unfold likeOf
    by_cases ha : a ≤ n
    · -- some turn is not above n
      have hf : (((a - 1) :: a :: r).filter fun k => decide (k ≤ n)) = (a - 1) :: a :: r.filter fun k => decide (k ≤ n) := by
        rw [List.filter_cons_of_pos (by simp; omega), List.filter_cons_of_pos (by simpa using ha)]
      rw [hf]
      have hl : ((a - 1) :: a :: r.filter fun k => decide (k ≤ n)).getLastD (((a - 1) :: a :: r).head?.getD 0) = (a :: r.filter fun k => decide (k ≤ n)).getLast (by simp) := by
        simp [List.getLastD, List.getLast_cons]
      rw [hl]
      have asc2 : (a :: r.filter fun k => decide (k ≤ n)).Pairwise (· < ·) := by
        have := hasc.filter (fun k => decide (k ≤ n))
        rwa [List.filter_cons_of_pos (by simpa using ha)] at this
      have hm := List.getLast_mem (l := a :: r.filter fun k => decide (k ≤ n)) (by simp)
      have hle : (a :: r.filter fun k => decide (k ≤ n)).getLast (by simp) ≤ n := by
        rcases List.mem_cons.mp hm with z | z
        · rw [z]; exact ha
        · exact of_decide_eq_true (List.mem_filter.mp z).2
      refine same hle fun j h1 h2 hj => ?_
      have hj2 : j ∈ a :: r.filter fun k => decide (k ≤ n) := by
        rcases List.mem_cons.mp (mem j hj) with z | z
        · rw [z]; exact List.mem_cons_self
        · exact List.mem_cons_of_mem _ (List.mem_filter.mpr ⟨z, decide_eq_true h2⟩)
      have := asc_last asc2 (by simp) j hj2
      omega
    · -- n lies below all turns
      have below : ∀ j ∈ a :: r, n < j := fun j hj => by
        rcases List.mem_cons.mp hj with z | z
        · rw [z]; omega
        · have := (List.pairwise_cons.mp hasc).1 j z; omega
      have hr : (a :: r).filter (fun k => decide (k ≤ n)) = [] := List.filter_eq_nil_iff.mpr fun j hj z => by have := of_decide_eq_true z; have := below j hj; omega
      have res : (((a - 1) :: a :: r).filter fun k => decide (k ≤ n)).getLastD (((a - 1) :: a :: r).head?.getD 0) = a - 1 := by
        cases e0 : decide (a - 1 ≤ n) with
        | true => rw [List.filter_cons_of_pos (by simpa using e0), hr]; rfl
        | false => rw [List.filter_cons_of_neg (by simpa using e0), hr]; rfl
      rw [res]
      have hn1 : n ≤ a - 1 := by omega
      refine (same hn1 fun j h1 h2 hj => ?_).symm
      have := mem j hj
      rcases List.mem_cons.mp this with z | z
      · omega
      · have := (List.pairwise_cons.mp hasc).1 j z; omega
theorem alk_like (ts : List Int) (n : Int) : Alk ts n (likeOf (withFirst ts) n) := fun t ht => by
  have := like_gn (fun j => decide (t ≤ j)) ts (fun j hj => by
    by_cases e : j = t
    · rw [e]; exact ht
    · refine absurd ?_ hj
      show decide (t ≤ j) = decide (t ≤ j - 1)
      rw [decide_eq_decide]; omega) n
  exact decide_eq_decide.mp this
theorem like_mem {ns : List Int} (h : 0 < ns.length) (n : Int) : likeOf ns n ∈ ns := by
  unfold likeOf
  cases e : ns.filter (fun k => decide (k ≤ n)) with
  | nil =>
    cases ns with
    | nil => cases h
    | cons a r => exact List.mem_cons_self
  | cons a r =>
    have : (a :: r).getLastD (ns.head?.getD 0) = (a :: r).getLast (by simp) := by simp [List.getLastD, List.getLast_cons]
    rw [this]
    have h2 : ∀ x ∈ a :: r, x ∈ ns := fun x hx => by
      rw [← e] at hx
      exact (List.mem_filter.mp hx).1
    exact h2 _ (List.getLast_mem (l := a :: r) (by simp))
theorem wf_pos (ts : List Int) : 0 < (withFirst ts).length := by
  obtain ⟨c, R, e, _⟩ := wf_cons ts
  rw [e]; exact Nat.succ_pos _
theorem Alk.trans {ts : List Int} {a b c : Int} (h : Alk ts a b) (k : Alk ts b c) : Alk ts a c := fun t ht => (h t ht).trans (k t ht)
/-- a place in both programs, and the last answer -/
abbrev Cf := Int × Int × Int
section
variable (a b : List Rm)
def saB (c : Cf) : Prop := (rmAt a c.1).asks c.2.2 = (rmAt b c.2.1).asks c.2.2 ∧ (rmAt a c.1).told c.2.2 = (rmAt b c.2.1).told c.2.2
def nxC (c : Cf) (n : Int) : Cf := ((rmAt a c.1).to n, (rmAt b c.2.1).to n, n)
def gdC : Cf → List Int → Prop
  | _, [] => True
  | c, n :: ns => saB a b c ∧ (rmAt a c.1).asks c.2.2 ≠ none ∧ gdC (nxC a b c n) ns
def enC : Cf → List Int → Cf
  | c, [] => c
  | c, n :: ns => enC (nxC a b c n) ns
def RgC (c : Cf) : Prop := (0 ≤ c.1 ∧ c.1 < a.length) ∧ 0 ≤ c.2.1 ∧ c.2.1 < b.length
def SmC (ts : List Int) (c d : Cf) : Prop := c.1 = d.1 ∧ c.2.1 = d.2.1 ∧ (Alk ts c.2.2 d.2.2 ∨ moL (rmAt a c.1) = [] ∧ moL (rmAt b c.2.1) = [])
def SpcR : Option (List Int) → Prop
  | some r => runR a r 0 0 ≠ runR b r 0 0 ∧ ∀ ns : List Int, ns.length < r.length → runR a ns 0 0 = runR b ns 0 0
  | none => ∀ ns : List Int, runR a ns 0 0 = runR b ns 0 0
end
section
variable {a b : List Rm}
theorem gd_snoc {n : Int} : ∀ {p : List Int} {c : Cf}, gdC a b c (p ++ [n]) ↔ gdC a b c p ∧ saB a b (enC a b c p) ∧ (rmAt a (enC a b c p).1).asks (enC a b c p).2.2 ≠ none
  | [], c => by simp [gdC, enC]
  | m :: p, c => by
    show (saB a b c ∧ _ ∧ gdC a b (nxC a b c m) (p ++ [n])) ↔ (saB a b c ∧ _ ∧ gdC a b (nxC a b c m) p) ∧ _
    rw [gd_snoc (p := p)]
    simp only [enC, and_assoc]
theorem en_snoc {n : Int} : ∀ {p : List Int} {c : Cf}, enC a b c (p ++ [n]) = nxC a b (enC a b c p) n
  | [], c => rfl
  | m :: p, c => en_snoc (p := p)
theorem run_diff : ∀ {p : List Int} {c : Cf}, gdC a b c p → ¬ saB a b (enC a b c p) → runR a p c.1 c.2.2 ≠ runR b p c.2.1 c.2.2
  | [], c, _, h => by
    intro e
    refine h ?_
    show saB a b c
    rw [runR_nil, runR_nil] at e
    unfold saB
    cases e1 : (rmAt a c.1).asks c.2.2 with
    | none =>
      cases e2 : (rmAt b c.2.1).asks c.2.2 with
      | none =>
        rw [e1, e2] at e
        exact ⟨rfl, (Prod.mk.inj e).2⟩
      | some q => rw [e1, e2] at e; cases (Prod.mk.inj e).1
    | some q =>
      cases e2 : (rmAt b c.2.1).asks c.2.2 with
      | none => rw [e1, e2] at e; cases (Prod.mk.inj e).1
      | some q' =>
        rw [e1, e2] at e
        have := (Prod.mk.inj e).1
        rw [(List.cons.inj this).1, rm_ask e1, rm_ask e2]
        exact ⟨rfl, rfl⟩
  | n :: p, c, g, h => by
    obtain ⟨g1, g2, g3⟩ := g
    intro e
    rw [runR_cons, runR_cons] at e
    cases e1 : (rmAt a c.1).asks c.2.2 with
    | none => exact g2 e1
    | some q =>
      have e2 := g1.1
      rw [e1] at e2
      rw [e1, ← e2] at e
      obtain ⟨x, y⟩ := Prod.mk.inj e
      exact run_diff g3 h (Prod.ext (List.cons.inj x).2 y)
theorem run_path : ∀ {ns : List Int} {c : Cf}, runR a ns c.1 c.2.2 ≠ runR b ns c.2.1 c.2.2 → ∃ p : List Int, p.length ≤ ns.length ∧ gdC a b c p ∧ ¬ saB a b (enC a b c p)
  | ns, c, h => by
    by_cases s : saB a b c
    · cases ns with
      | nil =>
        refine absurd ?_ h
        rw [runR_nil, runR_nil, s.1, s.2]
      | cons n ns =>
        rw [runR_cons, runR_cons] at h
        cases e1 : (rmAt a c.1).asks c.2.2 with
        | none =>
          refine absurd ?_ h
          rw [← s.1, e1, s.2]
        | some q =>
          have e2 := s.1
          rw [e1] at e2
          rw [e1, ← e2] at h
          have h' : runR a ns (nxC a b c n).1 (nxC a b c n).2.2 ≠ runR b ns (nxC a b c n).2.1 (nxC a b c n).2.2 := fun z => h (by
            show (q :: (runR a ns (nxC a b c n).1 (nxC a b c n).2.2).1, (runR a ns (nxC a b c n).1 (nxC a b c n).2.2).2) = (q :: (runR b ns (nxC a b c n).2.1 (nxC a b c n).2.2).1, (runR b ns (nxC a b c n).2.1 (nxC a b c n).2.2).2)
            rw [z])
          obtain ⟨p, h1, h2, h3⟩ := run_path h'
          exact ⟨n :: p, Nat.succ_le_succ h1, ⟨s, (fun z => by rw [e1] at z; cases z), h2⟩, h3⟩
    · exact ⟨[], Nat.zero_le _, trivial, s⟩
theorem asks_fix {r : Rm} (h : moL r = []) (n x : Int) : r.asks n = r.asks x ∧ r.told n = r.told x := by
  have key : ∀ ts : List Th, ts.filterMap Th.mo = [] → ts.map (·.at n) = ts.map (·.at x) := by
    intro ts
    induction ts with
    | nil => intro _; rfl
    | cons t ts ih =>
      intro h
      cases t with
      | num k => simp only [List.map_cons]; rw [ih (by simpa [Th.mo] using h)]; rfl
      | last k => simp [Th.mo] at h
  cases r with
  | tell t =>
    refine ⟨rfl, ?_⟩
    have := key [t] h
    show some (t.at n) = some (t.at x)
    simpa using this
  | ask p e ts ws o =>
    refine ⟨?_, rfl⟩
    show some (p, e, ts.map (·.at n)) = some (p, e, ts.map (·.at x))
    rw [key ts h]
end
theorem SmC.symm {a b : List Rm} {ts : List Int} {c d : Cf} (h : SmC a b ts c d) : SmC a b ts d c := by
  obtain ⟨h1, h2, h3⟩ := h
  refine ⟨h1.symm, h2.symm, ?_⟩
  rw [← h1, ← h2]
  exact h3.imp Alk.symm id
theorem SmC.trans {a b : List Rm} {ts : List Int} {c d e : Cf} (h : SmC a b ts c d) (k : SmC a b ts d e) : SmC a b ts c e := by
  obtain ⟨h1, h2, h3⟩ := h
  obtain ⟨k1, k2, k3⟩ := k
  refine ⟨h1.trans k1, h2.trans k2, ?_⟩
  rw [← h1, ← h2] at k3
  rcases h3 with h3 | h3
  · rcases k3 with k3 | k3
    · exact .inl (h3.trans k3)
    · exact .inr k3
  · exact .inr h3
theorem SmC.refl {a b : List Rm} {ts : List Int} {c : Cf} : SmC a b ts c c := ⟨rfl, rfl, .inl fun _ _ => Iff.rfl⟩
/-- two programs with the numbers their answers turn at -/
structure Two (a b : List Rm) (ts : List Int) (ths : List Th) : Prop where
  oa : RsOk a
  ob : RsOk b
  ca : Cov ts ths a
  cb : Cov ts ths b
  mt : ∀ t ∈ meetR ths, t ∈ ts
theorem two_of {a b : List Rm} (oa : RsOk a) (ob : RsOk b) : Two a b (preR (a ++ b)) ((a ++ b).flatMap Rm.ths) :=
  ⟨oa, ob, cov_of oa fun r h => List.mem_append_left _ h, cov_of ob fun r h => List.mem_append_right _ h, meet_pre⟩
section
variable {a b : List Rm} {ts : List Int} {ths : List Th}
theorem Two.rg0 (w : Two a b ts ths) : RgC a b (0, 0, 0) := by
  have := w.oa.one
  have := w.ob.one
  exact ⟨⟨Int.le_refl 0, by show (0 : Int) < _; omega⟩, Int.le_refl 0, by show (0 : Int) < _; omega⟩
theorem Two.rgn (w : Two a b ts ths) {c : Cf} (h : RgC a b c) (n : Int) : RgC a b (nxC a b c n) :=
  ⟨(w.oa.ok _ (w.ca.at h.1.1 h.1.2)).to w.oa.one n, (w.ob.ok _ (w.cb.at h.2.1 h.2.2)).to w.ob.one n⟩
theorem Two.rge (w : Two a b ts ths) : ∀ {p : List Int} {c : Cf}, RgC a b c → RgC a b (enC a b c p)
  | [], _, h => h
  | n :: p, _, h => w.rge (p := p) (w.rgn h n)
theorem SmC.rg {c d : Cf} (h : SmC a b ts c d) (k : RgC a b d) : RgC a b c := by
  obtain ⟨h1, h2, _⟩ := h
  unfold RgC
  rw [h1, h2]
  exact k
theorem Two.sa (w : Two a b ts ths) {c d : Cf} (h : SmC a b ts c d) (k : RgC a b c) : saB a b c ↔ saB a b d := by
  obtain ⟨h1, h2, h3⟩ := h
  unfold saB
  rw [← h1, ← h2]
  rcases h3 with h3 | ⟨h3, h4⟩
  · have := said_alk h3 w.mt (w.ca.th _ (w.ca.at k.1.1 k.1.2)) (w.cb.th _ (w.cb.at k.2.1 k.2.2))
    rw [this.1, this.2]
  · obtain ⟨x1, x2⟩ := asks_fix h3 c.2.2 d.2.2
    obtain ⟨y1, y2⟩ := asks_fix h4 c.2.2 d.2.2
    rw [x1, x2, y1, y2]
theorem SmC.asks {c d : Cf} (h : SmC a b ts c d) : (rmAt a c.1).asks c.2.2 = none ↔ (rmAt a d.1).asks d.2.2 = none := by
  rw [h.1]; exact asks_none
theorem Two.nx (w : Two a b ts ths) {c d : Cf} (h : SmC a b ts c d) (k : RgC a b c) {n x : Int} (hn : Alk ts n x) : SmC a b ts (nxC a b c n) (nxC a b d x) := by
  refine ⟨?_, ?_, .inl hn⟩
  · show (rmAt a c.1).to n = (rmAt a d.1).to x
    rw [← h.1]
    exact hn.to (w.ca.tr _ (w.ca.at k.1.1 k.1.2))
  · show (rmAt b c.2.1).to n = (rmAt b d.2.1).to x
    rw [← h.2.1]
    exact hn.to (w.cb.tr _ (w.cb.at k.2.1 k.2.2))
/-- a walk that has looked behind the first `n` of its entries -/
structure Bfs (a b : List Rm) (ts S : List Int) (L : List (Cf × List Int)) (n : Nat) : Prop where
  ini : ∃ e : Cf × List Int, L[0]? = some e ∧ e.2 = [] ∧ SmC a b ts e.1 (0, 0, 0)
  pth : ∀ e ∈ L, gdC a b (0, 0, 0) e.2 ∧ SmC a b ts e.1 (enC a b (0, 0, 0) e.2)
  srt : L.Pairwise fun (e f : Cf × List Int) => e.2.length ≤ f.2.length
  lim : ∀ e : Cf × List Int, L[n]? = some e → ∀ f ∈ L, f.2.length ≤ e.2.length + 1
  ix : ∀ (i : Nat) (e : Cf × List Int), L[i]? = some e → e.2.length ≤ i
  cov : ∀ i, i < n → ∀ e : Cf × List Int, L[i]? = some e → saB a b e.1 → (rmAt a e.1.1).asks e.1.2.2 ≠ none → ∀ s ∈ S, ∃ f ∈ L, SmC a b ts f.1 (nxC a b e.1 s) ∧ f.2.length ≤ e.2.length + 1
theorem Bfs.rg {S : List Int} {L : List (Cf × List Int)} {n : Nat} (w : Two a b ts ths) (h : Bfs a b ts S L n) {e : Cf × List Int} (he : e ∈ L) : RgC a b e.1 :=
  (h.pth e he).2.rg (w.rge w.rg0)
theorem bfs_start {S : List Int} {c : Cf} (h : SmC a b ts c (0, 0, 0)) : Bfs a b ts S [(c, [])] 0 where
  ini := ⟨_, rfl, rfl, h⟩
  pth := fun e he => by cases List.mem_singleton.mp he; exact ⟨trivial, h⟩
  srt := List.pairwise_singleton _ _
  lim := fun e he f hf => by cases List.mem_singleton.mp hf; exact Nat.zero_le _
  ix := fun i e he => by
    cases i with
    | zero => cases he; exact Nat.le_refl _
    | succ i => cases he
  cov := fun i hi => absurd hi (Nat.not_lt_zero _)
theorem get_app {α : Type} {L N : List α} {i : Nat} {e : α} (h : (L ++ N)[i]? = some e) : L[i]? = some e ∨ L.length ≤ i ∧ e ∈ N := by
  by_cases hi : i < L.length
  · rw [List.getElem?_append_left hi] at h; exact .inl h
  · rw [List.getElem?_append_right (by omega)] at h; exact .inr ⟨by omega, List.mem_of_getElem? h⟩
theorem Bfs.step {S : List Int} {L N : List (Cf × List Int)} {n : Nat} {e : Cf × List Int} (w : Two a b ts ths) (h : Bfs a b ts S L n) (he : L[n]? = some e)
    (hn : ∀ x ∈ N, saB a b e.1 ∧ (rmAt a e.1.1).asks e.1.2.2 ≠ none ∧ ∃ s, x.2 = e.2 ++ [s] ∧ SmC a b ts x.1 (nxC a b e.1 s))
    (hc : saB a b e.1 → (rmAt a e.1.1).asks e.1.2.2 ≠ none → ∀ s ∈ S, ∃ x ∈ L ++ N, SmC a b ts x.1 (nxC a b e.1 s)) : Bfs a b ts S (L ++ N) (n + 1) where
  ini := by
    obtain ⟨x, h1, h2⟩ := h.ini
    refine ⟨x, ?_, h2⟩
    rw [List.getElem?_append_left (List.getElem?_eq_some_iff.mp h1).1]
    exact h1
  pth := fun x hx => by
    rcases List.mem_append.mp hx with hx | hx
    · exact h.pth x hx
    · obtain ⟨h1, h2, s, h3, h4⟩ := hn x hx
      have hm := List.mem_of_getElem? he
      obtain ⟨p1, p2⟩ := h.pth e hm
      have hr := h.rg w hm
      rw [h3]
      refine ⟨gd_snoc.mpr ⟨p1, (w.sa p2 hr).mp h1, fun z => h2 (p2.asks.mpr z)⟩, ?_⟩
      rw [en_snoc]
      exact h4.trans (w.nx p2 hr fun _ _ => Iff.rfl)
  srt := List.pairwise_append.mpr ⟨h.srt, by
      have : ∀ x ∈ N, x.2.length = e.2.length + 1 := fun x hx => by
        obtain ⟨_, _, s, h3, _⟩ := hn x hx
        rw [h3, List.length_append]; rfl
      clear hc hn
      induction N with
      | nil => exact List.Pairwise.nil
      | cons x N ih => exact List.pairwise_cons.mpr ⟨fun y hy => by rw [this x List.mem_cons_self, this y (List.mem_cons_of_mem _ hy)]; exact Nat.le_refl _, ih fun y hy => this y (List.mem_cons_of_mem _ hy)⟩, fun x hx y hy => by
      obtain ⟨_, _, s, h3, _⟩ := hn y hy
      rw [h3, List.length_append]
      exact h.lim e he x hx⟩
  lim := fun x hx y hy => by
    have hxl : e.2.length ≤ x.2.length := by
      rcases get_app hx with z | ⟨_, z⟩
      · obtain ⟨h1, e1⟩ := List.getElem?_eq_some_iff.mp he
        obtain ⟨h2, e2⟩ := List.getElem?_eq_some_iff.mp z
        have := List.pairwise_iff_getElem.mp h.srt n (n + 1) h1 h2 (Nat.lt_succ_self n)
        rw [e1, e2] at this
        exact this
      · obtain ⟨_, _, s, h3, _⟩ := hn x z
        rw [h3, List.length_append]; exact Nat.le_add_right _ _
    rcases List.mem_append.mp hy with hy | hy
    · have := h.lim e he y hy
      omega
    · obtain ⟨_, _, s, h3, _⟩ := hn y hy
      rw [h3, List.length_append]
      exact Nat.add_le_add_right hxl 1
  ix := fun i x hx => by
    rcases get_app hx with z | ⟨z1, z⟩
    · exact h.ix i x z
    · obtain ⟨_, _, s, h3, _⟩ := hn x z
      have h1 := (List.getElem?_eq_some_iff.mp he).1
      have h2 := h.ix n e he
      rw [h3, List.length_append]
      show e.2.length + 1 ≤ i
      omega
  cov := fun i hi x hx hs hq s hS => by
    by_cases hin : i < n
    · have hl : i < L.length := by
        have := (List.getElem?_eq_some_iff.mp he).1
        omega
      rw [List.getElem?_append_left hl] at hx
      obtain ⟨f, h1, h2⟩ := h.cov i hin x hx hs hq s hS
      exact ⟨f, List.mem_append_left _ h1, h2⟩
    · obtain rfl : i = n := by omega
      rw [List.getElem?_append_left (List.getElem?_eq_some_iff.mp he).1, he] at hx
      cases hx
      obtain ⟨f, h1, h2⟩ := hc hs hq s hS
      refine ⟨f, h1, h2, ?_⟩
      rcases List.mem_append.mp h1 with z | z
      · exact h.lim e he f z
      · obtain ⟨_, _, s', h3, _⟩ := hn f z
        rw [h3, List.length_append]; exact Nat.le_refl _
/-- what a walk has met -/
theorem Bfs.met {S : List Int} {L : List (Cf × List Int)} {n : Nat} (w : Two a b ts ths) (hS : ∀ x, ∃ s ∈ S, Alk ts x s) (h : Bfs a b ts S L n) (D : Nat)
    (hD : ∀ i e, L[i]? = some e → e.2.length < D → i < n) : ∀ (k : Nat) (p : List Int), p.length = k → p.length < D → gdC a b (0, 0, 0) p → ∃ i e, i < n ∧ L[i]? = some e ∧ SmC a b ts e.1 (enC a b (0, 0, 0) p) ∧ e.2.length ≤ p.length
  | 0, p, hk, hp, g => by
    cases List.length_eq_zero_iff.mp hk
    obtain ⟨e, h1, h2, h3⟩ := h.ini
    exact ⟨0, e, hD 0 e h1 (by rw [h2]; exact hp), h1, h3, by rw [h2]; exact Nat.le_refl _⟩
  | k + 1, p, hk, hp, g => by
    have hne : p ≠ [] := fun z => by rw [z] at hk; cases hk
    obtain ⟨q, x, rfl⟩ : ∃ q x, p = q ++ [x] := ⟨p.dropLast, p.getLast hne, (List.dropLast_concat_getLast hne).symm⟩
    rw [List.length_append] at hk hp
    have hk' : q.length = k := Nat.succ.inj hk
    obtain ⟨g1, g2, g3⟩ := gd_snoc.mp g
    obtain ⟨i, e, i1, i2, i3, i4⟩ := Bfs.met w hS h D hD k q hk' (Nat.lt_of_succ_lt hp) g1
    have hr := h.rg w (List.mem_of_getElem? i2)
    obtain ⟨s, s1, s2⟩ := hS x
    obtain ⟨f, f1, f2, f3⟩ := h.cov i i1 e i2 ((w.sa i3 hr).mpr g2) (fun z => g3 (i3.asks.mp z)) s s1
    obtain ⟨j, hj⟩ := List.getElem?_of_mem f1
    have fl : f.2.length ≤ q.length + 1 := Nat.le_trans f3 (Nat.succ_le_succ i4)
    refine ⟨j, f, hD j f hj (Nat.lt_of_le_of_lt fl hp), hj, ?_, by rw [List.length_append]; exact fl⟩
    rw [en_snoc]
    exact f2.trans (w.nx i3 hr s2.symm)
theorem Bfs.some {S : List Int} {L : List (Cf × List Int)} {n k : Nat} {e : Cf × List Int} (w : Two a b ts ths) (hS : ∀ x, ∃ s ∈ S, Alk ts x s) (h : Bfs a b ts S L n) (hk : k ≤ n) (he : L[k]? = some e)
    (h1 : ∀ i f, i < k → L[i]? = some f → saB a b f.1) (h2 : ¬ saB a b e.1) : SpcR a b (some e.2) := by
  have hm := List.mem_of_getElem? he
  obtain ⟨p1, p2⟩ := h.pth e hm
  refine ⟨run_diff (c := (0, 0, 0)) p1 fun z => h2 ((w.sa p2 (h.rg w hm)).mpr z), fun ns hl => Decidable.byContradiction fun hne => ?_⟩
  obtain ⟨p, q1, q2, q3⟩ := run_path (c := (0, 0, 0)) hne
  have hD : ∀ i f, L[i]? = Option.some f → f.2.length < e.2.length → i < k := fun i f hf hlt => by
    refine Decidable.byContradiction fun hik => ?_
    by_cases e1 : i = k
    · rw [e1, he] at hf; cases hf; omega
    · obtain ⟨l1, e1⟩ := List.getElem?_eq_some_iff.mp he
      obtain ⟨l2, e2⟩ := List.getElem?_eq_some_iff.mp hf
      have := List.pairwise_iff_getElem.mp h.srt k i l1 l2 (by omega)
      rw [e1, e2] at this
      omega
  obtain ⟨i, f, i1, i2, i3, i4⟩ := Bfs.met w hS h e.2.length (fun i f x y => Nat.lt_of_lt_of_le (hD i f x y) hk) p.length p rfl (by omega) q2
  exact q3 ((w.sa i3 (h.rg w (List.mem_of_getElem? i2))).mp (h1 i f (hD i f i2 (by omega)) i2))
theorem Bfs.none {S : List Int} {L : List (Cf × List Int)} {n : Nat} (w : Two a b ts ths) (hS : ∀ x, ∃ s ∈ S, Alk ts x s) (h : Bfs a b ts S L n) (hk : L.length ≤ n)
    (h1 : ∀ f ∈ L, saB a b f.1) : SpcR a b none := by
  refine fun ns => Decidable.byContradiction fun hne => ?_
  obtain ⟨p, q1, q2, q3⟩ := run_path (c := (0, 0, 0)) hne
  obtain ⟨i, f, i1, i2, i3, i4⟩ := Bfs.met w hS h (p.length + 1) (fun i f x y => Nat.lt_of_lt_of_le (List.getElem?_eq_some_iff.mp x).1 hk) p.length p rfl (Nat.lt_succ_self _) q2
  have hm := List.mem_of_getElem? i2
  exact q3 ((w.sa i3 (h.rg w hm)).mp (h1 f hm))
end
theorem nodup_le {α : Type} : ∀ {l m : List α}, l.Nodup → (∀ x ∈ l, x ∈ m) → l.length ≤ m.length
  | [], _, _, _ => Nat.zero_le _
  | x :: l, m, h, s => by
    obtain ⟨p, q, rfl⟩ := List.append_of_mem (s x List.mem_cons_self)
    have h2 := List.nodup_cons.mp h
    have := nodup_le (l := l) (m := p ++ q) h2.2 fun y hy => by
      have := s y (List.mem_cons_of_mem _ hy)
      rcases List.mem_append.mp this with z | z
      · exact List.mem_append_left _ z
      · rcases List.mem_cons.mp z with z | z
        · exact absurd (z ▸ hy) h2.1
        · exact List.mem_append_right _ z
    simp only [List.length_append, List.length_cons] at this ⊢
    omega
end
section
/-! ### what both say, and what is behind (k72) -/
def saidT (r : Rm) (l : Int) : D := .tup [oAsk (r.asks l), oN (r.told l)]
theorem oAsk_inj {x y : Option Ask} (h : oAsk x = oAsk y) : x = y := by
  cases x with
  | none =>
    cases y with
    | none => rfl
    | some b => cases h
  | some a =>
    cases y with
    | none => cases h
    | some b => rw [askT_inj (a := a) (b := b) h]
theorem said_pur (r : Rm) (l : Int) : pur (saidT r l) = true := by
  unfold saidT
  show (pur (oAsk (r.asks l)) && (pur (oN (r.told l)) && true)) = true
  have h1 : pur (oAsk (r.asks l)) = true := by
    cases r.asks l with
    | none => rfl
    | some a => exact ask_pur a
  have h2 : pur (oN (r.told l)) = true := by cases r.told l <;> rfl
  rw [h1, h2]; rfl
theorem said_th {n : Nat} {r : Rm} (h : r.Ok n) (l : Int) : thD 4 (saidT r l) := by
  refine ⟨by simp, fun d hd => ?_⟩
  simp only [List.mem_cons, List.not_mem_nil, or_false] at hd
  rcases hd with rfl | rfl
  · cases e : r.asks l with
    | none => exact thD_non
    | some a => exact (h.asks e).th
  · cases r.told l with
    | none => exact thD_non
    | some a => exact thD_int
noncomputable def saBb (a b : List Rm) (c : Cf) : Bool := @decide (saB a b c) (Classical.propDecidable _)
theorem saBb_iff {a b : List Rm} {c : Cf} : saBb a b c = true ↔ saB a b c := @decide_eq_true_iff _ (Classical.propDecidable _)
theorem saBb_no {a b : List Rm} {c : Cf} : saBb a b c = false ↔ ¬ saB a b c := @decide_eq_false_iff_not _ (Classical.propDecidable _)
theorem said_deq (a b : List Rm) (c : Cf) (m : Mu) : deq (dat m (saidT (rmAt a c.1) c.2.2)) (dat m (saidT (rmAt b c.2.1) c.2.2)) = saBb a b c := by
  refine deqP (said_pur _ _) (said_pur _ _) ?_
  rw [saBb_iff]
  unfold saB saidT
  simp only [D.tup.injEq, List.cons.injEq, and_true]
  exact ⟨fun h => ⟨congrArg oAsk h.1, congrArg oN h.2⟩, fun h => ⟨oAsk_inj h.1, oN_inj h.2⟩⟩
def sp_said_at : SpD := fun ds m P _ => ∃ (rs : List Rm) (k l : Int), ds = [doD rs, .int k, .int l] ∧ RsOk rs ∧ 0 ≤ k ∧ k < rs.length ∧ P (saidT (rmAt rs k) l) m
def rd_said_at : DS :=
    sRet (rTup (rCons (rMet "Doer" "ask_at" sp_Doer_ask_at 1 0 (gI [0, 1]) (rV 0) (rCons (rTup (rCons (rV 1) (rCons (rV 2) (rNil)))) (rNil)) (rNil)) (rCons (rMet "Doer" "told_at" sp_Doer_told_at 1 0 (gI [0, 1]) (rV 0) (rCons (rTup (rCons (rV 1) (rCons (rV 2) (rNil)))) (rNil)) (rNil)) (rNil))))
theorem ln_said_at : ∀ ds m Q PX, sp_said_at ds m Q PX → ds.length = 3 := fun ds m Q PX h => by repeat (first | (subst_vars; rfl; done) | (obtain ⟨_, h⟩ := h))
theorem pu_said_at : ∀ ds m Q PX, sp_said_at ds m Q PX → rd_said_at (dEnds Q PX) (dstart ["doer", "room", "last"] ds) m := by
  rintro ds m Q PX ⟨rs, k, l, rfl, ho, k0, k1, h⟩
  walk_at "go"
  refine ⟨rs, k, l, rfl, ho, k0, k1, ?_⟩
  walk_at "go"
  refine ⟨rs, k, l, rfl, ho, k0, k1, ?_⟩
  walk_at "go"
  exact h
def triD (c : Cf) : D := .tup [.int c.1, .int c.2.1, .int c.2.2]
def twoD (a b : List Rm) : D := .lst [doD a, doD b]
def sp_is_same : SpD := fun ds m P _ => ∃ (a b : List Rm) (c : Cf), ds = [twoD a b, triD c] ∧ RsOk a ∧ RsOk b ∧ RgC a b c ∧ P (.bl (saBb a b c)) m
def rd_is_same : DS :=
    sSeq (sTup [2, 3, 4] (rV 1))
    (sRet (rOp oEq (rCall sp_said_at [] (rCons (rOp oIx (rV 0) (rC (.int 0))) (rCons (rV 2) (rCons (rV 4) (rNil))))) (rCall sp_said_at [] (rCons (rOp oIx (rV 0) (rC (.int 1))) (rCons (rV 3) (rCons (rV 4) (rNil)))))))
theorem ln_is_same : ∀ ds m Q PX, sp_is_same ds m Q PX → ds.length = 2 := fun ds m Q PX h => by repeat (first | (subst_vars; rfl; done) | (obtain ⟨_, h⟩ := h))
theorem pu_is_same : ∀ ds m Q PX, sp_is_same ds m Q PX → rd_is_same (dEnds Q PX) (dstart ["some", "triple", "room", "place", "last"] ds) m := by
  rintro ds m Q PX ⟨a, b, c, rfl, oa, ob, hr, h⟩
  walk_at "go"
  refine ⟨a, c.1, c.2.2, rfl, oa, hr.1.1, hr.1.2, ?_⟩
  walk_at "go"
  refine ⟨b, c.2.1, c.2.2, rfl, ob, hr.2.1, hr.2.2, ?_⟩
  walk_at "go"
  refine ⟨shpT (said_th (oa.ok _ (rm_at hr.1.1 hr.1.2).1) _), shpT (said_th (ob.ok _ (rm_at hr.2.1 hr.2.2).1) _), ?_⟩
  rw [said_deq]
  exact h
def hgB (r : Rm) : Bool := r.ths.any fun t => !isWhole t.d
theorem hg_mo {r : Rm} (h : hgB r = false) : moL r = [] := by
  unfold hgB at h
  unfold moL
  rw [List.any_eq_false] at h
  rw [List.filterMap_eq_nil_iff]
  intro t ht
  have := h t ht
  cases t with
  | num n => rfl
  | last n => exact absurd rfl this
def sp_hangs : SpD := fun ds m P _ => ∃ (rs : List Rm) (k : Int), ds = [doD rs, .int k] ∧ RsOk rs ∧ 0 ≤ k ∧ k < rs.length ∧ P (.bl (hgB (rmAt rs k))) m
def rd_hangs : DS :=
    sSeq (sStar 2 3 (rOp oIx (rFld "Doer" "rooms" (rV 0)) (rV 1)))
    (sRet (rCB cAny (rCons (rLc (iAny (rIfE (rTst (rOp oEq (rV 2) (rC (.str "ask")))) (rOp oIx (rV 3) (rC (.int 2))) (rSl (rV 3) rNoP (rPart (rC (.int 1)))))) [4] (gN 4) (qYes) (rNotV (rCall sp_is_whole [] (rCons (rV 4) (rNil))))) (rNil))))
theorem ln_hangs : ∀ ds m Q PX, sp_hangs ds m Q PX → ds.length = 2 := fun ds m Q PX h => by repeat (first | (subst_vars; rfl; done) | (obtain ⟨_, h⟩ := h))
theorem pu_hangs : ∀ ds m Q PX, sp_hangs ds m Q PX → rd_hangs (dEnds Q PX) (dstart ["doer", "room", "word", "rest", "thing"] ds) m := by
  rintro ds m Q PX ⟨rs, k, rfl, ho, k0, k1, h⟩
  obtain ⟨hm, ha⟩ := rm_at k0 k1
  have hr := ho.ok _ hm
  have inner : ∀ (ts : List Th) (A B C E F : Option D), ts.length ≤ 2 → Q (.bl (ts.any fun t => !isWhole t.d)) m → rComp (fun _ => True) (gN 4) qYes (rNotV (rCall sp_is_whole [] (rCons (rV 4) (rNil)))) [A, B, C, E, F] (fun ds m' => cAny [.lst ds] m' Q) (ts.map Th.d) [] m := by
    intro ts A B C E F hl hq
    refine comp_on ts Th.d (fun t => .bl (!isWhole t.d)) (by omega) trivial (fun t ht Q q => ?_) ?_
    · walk_at "go"
      refine ⟨_, rfl, thg_of (n := 1) t.th, ?_⟩
      walk_at "go"
      exact q
    · walk_at "dl"
      rw [show ts.map (fun t => D.bl (!isWhole t.d)) = (ts.map fun t => !isWhole t.d).map D.bl from by rw [List.map_map]; rfl, boolsD_map]
      dsimp only
      rw [show (ts.map fun t => !isWhole t.d).any id = ts.any fun t => !isWhole t.d from by rw [List.any_map]; rfl]
      exact hq
  walk_at "go"
  rw [ha]
  cases hk : rmAt rs k with
  | tell t =>
    rw [hk] at h
    walk_at "go"
    exact inner [t] _ _ _ _ _ (by simp) h
  | ask p e ts ws o =>
    rw [hk] at h hr
    have h2 := (hr.nm p e ts ws o rfl).2.1
    walk_at "go"
    exact inner ts _ _ _ _ _ h2 h
/-- a triple, its last answer by its sample, or nought where nothing hangs on it -/
def setC (a b : List Rm) (S : List Int) (c : Cf) : Cf := (c.1, c.2.1, if hgB (rmAt a c.1) || hgB (rmAt b c.2.1) then likeOf S c.2.2 else 0)
theorem set_sim (a b : List Rm) (ts : List Int) (c : Cf) : SmC a b ts (setC a b (withFirst ts) c) c := by
  refine ⟨rfl, rfl, ?_⟩
  show Alk ts (if hgB (rmAt a c.1) || hgB (rmAt b c.2.1) then likeOf (withFirst ts) c.2.2 else 0) c.2.2 ∨ moL (rmAt a c.1) = [] ∧ moL (rmAt b c.2.1) = []
  cases e : hgB (rmAt a c.1) || hgB (rmAt b c.2.1) with
  | true => exact .inl (alk_like ts _).symm
  | false =>
    rw [Bool.or_eq_false_iff] at e
    exact .inr ⟨hg_mo e.1, hg_mo e.2⟩
def sp_settled_triple : SpD := fun ds m P _ => ∃ (a b : List Rm) (S : List Int) (c : Cf), ds = [twoD a b, .lst (S.map .int), triD c] ∧ RsOk a ∧ RsOk b ∧ RgC a b c ∧ S.Pairwise (· < ·) ∧ 0 < S.length ∧ S.length ≤ 100000 ∧ P (triD (setC a b S c)) m
def rd_settled_triple : DS :=
    sSeq (sTup [3, 4, 5] (rV 2))
    (sSeq (sIf (rOr (rTru (rCall sp_hangs [] (rCons (rOp oIx (rV 0) (rC (.int 0))) (rCons (rV 3) (rNil))))) (rTru (rCall sp_hangs [] (rCons (rOp oIx (rV 0) (rC (.int 1))) (rCons (rV 4) (rNil)))))) (sRet (rTup (rCons (rV 3) (rCons (rV 4) (rCons (rCall sp_like [] (rCons (rV 1) (rCons (rV 5) (rNil)))) (rNil)))))) (sNext))
    (sRet (rTup (rCons (rV 3) (rCons (rV 4) (rCons (rC (.int 0)) (rNil)))))))
theorem ln_settled_triple : ∀ ds m Q PX, sp_settled_triple ds m Q PX → ds.length = 3 := fun ds m Q PX h => by repeat (first | (subst_vars; rfl; done) | (obtain ⟨_, h⟩ := h))
theorem pu_settled_triple : ∀ ds m Q PX, sp_settled_triple ds m Q PX → rd_settled_triple (dEnds Q PX) (dstart ["some", "samples", "triple", "room", "place", "last"] ds) m := by
  rintro ds m Q PX ⟨a, b, S, c, rfl, oa, ob, hr, asc, h0, hl, h⟩
  unfold setC at h
  walk_at "go"
  refine ⟨a, c.1, rfl, oa, hr.1.1, hr.1.2, ?_⟩
  cases e1 : hgB (rmAt a c.1) with
  | true =>
    rw [e1] at h
    walk_at "go"
    refine ⟨S, c.2.2, rfl, asc, h0, hl, ?_⟩
    walk_at "go"
    exact h
  | false =>
    rw [e1] at h
    walk_at "go"
    refine ⟨b, c.2.1, rfl, ob, hr.2.1, hr.2.2, ?_⟩
    cases e2 : hgB (rmAt b c.2.1) with
    | true =>
      rw [e2] at h
      walk_at "go"
      refine ⟨S, c.2.2, rfl, asc, h0, hl, ?_⟩
      walk_at "go"
      exact h
    | false =>
      rw [e2] at h
      walk_at "go"
      exact h
def sp_rooms_behind : SpD := fun ds m P _ => ∃ (a b : List Rm) (S : List Int) (c : Cf), ds = [twoD a b, .lst (S.map .int), triD c] ∧ RsOk a ∧ RsOk b ∧ RgC a b c ∧ (rmAt a c.1).asks c.2.2 = (rmAt b c.2.1).asks c.2.2 ∧ S.Pairwise (· < ·) ∧ 0 < S.length ∧ S.length ≤ 100000 ∧ P (.lst (if (rmAt a c.1).asks c.2.2 = none then [] else S.map fun s => .tup [.int s, triD (setC a b S (nxC a b c s))])) m
def rd_rooms_behind : DS :=
    sSeq (sTup [5, 6, 7] (rV 2))
    (sSeq (sIf (rTst (rOp (oIsN false) (rMet "Doer" "ask_at" sp_Doer_ask_at 1 0 (gI [0, 1]) (rOp oIx (rV 0) (rC (.int 0))) (rCons (rTup (rCons (rV 5) (rCons (rV 7) (rNil)))) (rNil)) (rNil)) (rC .non))) (sRet (rLst (rNil))) (sNext))
    (sSeq (sSet 3 (rLstM (rNil)))
    (sSeq (sFor (iAny (rV 1)) (gN 4) (sSeq (sSet 8 (rOp oAdd (rSl (rMet "Doer" "goes" sp_Doer_goes 2 0 (gI [0, 1, 2]) (rOp oIx (rV 0) (rC (.int 0))) (rCons (rTup (rCons (rV 5) (rCons (rV 7) (rNil)))) (rCons (rV 4) (rNil))) (rNil)) rNoP (rPart (rC (.int 1)))) (rMet "Doer" "goes" sp_Doer_goes 2 0 (gI [0, 1, 2]) (rOp oIx (rV 0) (rC (.int 1))) (rCons (rTup (rCons (rV 6) (rCons (rV 7) (rNil)))) (rCons (rV 4) (rNil))) (rNil))))
    (sExpr (rApp (rV 3) (rTup (rCons (rV 4) (rCons (rCall sp_settled_triple [] (rCons (rV 0) (rCons (rV 1) (rCons (rV 8) (rNil))))) (rNil))))))))
    (sRet (rSeal (rV 3))))))
theorem ln_rooms_behind : ∀ ds m Q PX, sp_rooms_behind ds m Q PX → ds.length = 3 := fun ds m Q PX h => by repeat (first | (subst_vars; rfl; done) | (obtain ⟨_, h⟩ := h))
theorem pu_rooms_behind : ∀ ds m Q PX, sp_rooms_behind ds m Q PX → rd_rooms_behind (dEnds Q PX) (dstart ["some", "samples", "triple", "found", "answer", "room", "place", "last", "later"] ds) m := by
  rintro ds m Q PX ⟨a, b, S, c, rfl, oa, ob, hr, hs, asc, h0, hl, h⟩
  walk_at "go"
  refine ⟨a, c.1, c.2.2, rfl, oa, hr.1.1, hr.1.2, ?_⟩
  cases e : (rmAt a c.1).asks c.2.2 with
  | none =>
    rw [e, if_pos rfl] at h
    walk_at "go"
    exact h
  | some q =>
    rw [e, if_neg (by simp)] at h
    walk_at "go"
    intro p hp
    have e2 : (rmAt b c.2.1).asks c.2.2 = some q := by rw [← hs, e]
    refine loop_inv (fun i δ m' => m' = mset m p (.lst ((S.take i).map fun s => .tup [.int s, triD (setC a b S (nxC a b c s))])) ∧ ∃ x y, δ = [some (twoD a b), some (.lst (S.map .int)), some (triD c), some (.adr p), x, some (.int c.1), some (.int c.2.1), some (.int c.2.2), y]) (fun i d δ m' ei hh => ?_) (fun δ m' hh => ?_) ⟨rfl, _, _, rfl⟩
    · obtain ⟨rfl, x, y, rfl⟩ := hh
      rw [List.getElem?_map] at ei
      cases es : S[i]? with
      | none => rw [es] at ei; cases ei
      | some s =>
      rw [es] at ei
      cases ei
      have hi := (List.getElem?_eq_some_iff.mp es).1
      refine ⟨trivial, fun Nx k1 => ?_⟩
      walk_at "go"
      refine ⟨a, c.1, c.2.2, .int s, rfl, oa, hr.1.1, hr.1.2, (thg_of (n := 1) thD_int), fun n en et => ?_, fun z => ?_⟩
      · cases en
        walk_at "go"
        refine ⟨b, c.2.1, c.2.2, .int s, rfl, ob, hr.2.1, hr.2.2, (thg_of (n := 1) thD_int), fun n en et => ?_, fun z => ?_⟩
        · cases en
          walk_at "go"
          refine ⟨len_line (by show (cutD [D.int ((rmAt a c.1).to s), D.int s] none (some 1)).length + 2 ≤ 1000000; rw [show (cutD [D.int ((rmAt a c.1).to s), D.int s] none (some 1)) = [D.int ((rmAt a c.1).to s)] from rfl]; simp only [List.length_cons, List.length_nil]; omega), ⟨_, mset_same⟩, ?_⟩
          walk_at "go"
          refine ⟨a, b, S, nxC a b c s, rfl, oa, ob, ?_, asc, h0, hl, ?_⟩
          · exact ⟨(oa.ok _ (rm_at hr.1.1 hr.1.2).1).to oa.one s, (ob.ok _ (rm_at hr.2.1 hr.2.2).1).to ob.one s⟩
          walk_at "go"
          rw [mset_same]
          walk_at "dl"
          refine ⟨len_line (by rw [List.length_map, List.length_take]; omega), ?_⟩
          rw [mset_mset]
          refine k1 _ _ ⟨?_, _, _, rfl⟩
          rw [List.take_add_one, es]
          simp
        · rcases z with z | z
          · cases z
          · exact absurd (rm_ask e2) z
      · rcases z with z | z
        · cases z
        · exact absurd (rm_ask e) z
    · obtain ⟨rfl, x, y, rfl⟩ := hh
      rw [List.length_map, List.take_length]
      walk_at "go"
      rw [mset_same, mdel_mset hp]
      exact h
end
section
/-! ### paired_off (k72) -/
theorem mset_swap {m : Mu} {a b : Addr} {o p : MO} (h : a ≠ b) : mset (mset m a o) b p = mset (mset m b p) a o := by
  funext x
  unfold mset
  by_cases h1 : x = b
  · by_cases h2 : x = a
    · exact absurd (h2.symm.trans h1) h
    · rw [if_pos h1, if_neg h2, if_pos h1]
  · by_cases h2 : x = a
    · rw [if_neg h1, if_pos h2, if_pos h2]
    · rw [if_neg h1, if_neg h2, if_neg h2, if_neg h1]
def rowT (ns : List Int) : D := .tup (ns.map .int)
def kvsOf (L : List (Cf × List Int)) : List (D × D) := L.map fun e => (triD e.1, rowT e.2)
def lnOf (L : List (Cf × List Int)) : List D := L.map fun e => triD e.1
theorem nk_tri {c d : Cf} (h : nk (triD c) = nk (triD d)) : c = d := by
  obtain ⟨c1, c2, c3⟩ := c
  obtain ⟨d1, d2, d3⟩ := d
  simp only [triD, nk, nks, NestedKey.tup.injEq, List.cons.injEq, NestedKey.num.injEq] at h
  obtain ⟨h1, h2, h3, _⟩ := h
  rw [h1, h2, h3]
theorem kt_tri (c : Cf) : ktB (triD c) = true := by
  rfl
theorem val_no {L : List (Cf × List Int)} {c : Cf} (h : c ∉ L.map (·.1)) : valG (kvsOf L) (triD c) = none := by
  refine valG_none.mpr fun p hp e => h ?_
  obtain ⟨x, hx, rfl⟩ := List.mem_map.mp hp
  exact List.mem_map.mpr ⟨x, hx, nk_tri e⟩
theorem nd_get {α β : Type} {f : α → β} : ∀ {l : List α}, (l.map f).Nodup → ∀ {x y : α}, x ∈ l → y ∈ l → f x = f y → x = y
  | [], _, _, _, h, _, _ => by cases h
  | a :: l, nd, x, y, hx, hy, e => by
    obtain ⟨n1, n2⟩ := List.nodup_cons.mp nd
    rcases List.mem_cons.mp hx with ex | hx1
    · rcases List.mem_cons.mp hy with ey | hy1
      · rw [ex, ey]
      · rw [ex] at e
        exact absurd (List.mem_map.mpr ⟨y, hy1, e.symm⟩) n1
    · rcases List.mem_cons.mp hy with ey | hy1
      · rw [ey] at e
        exact absurd (List.mem_map.mpr ⟨x, hx1, e⟩) n1
      · exact nd_get n2 hx1 hy1 e
theorem val_yes {L : List (Cf × List Int)} (nd : (L.map (·.1)).Nodup) {e : Cf × List Int} (h : e ∈ L) : valG (kvsOf L) (triD e.1) = some (rowT e.2) := by
  cases ev : valG (kvsOf L) (triD e.1) with
  | none => exact absurd rfl (valG_none.mp ev _ (List.mem_map.mpr ⟨e, h, rfl⟩))
  | some d =>
    obtain ⟨p, hp, e1, e2⟩ := valG_mem ev
    obtain ⟨x, hx, rfl⟩ := List.mem_map.mp hp
    have := nd_get nd hx h (nk_tri e1)
    rw [← e2, this]
theorem put_new {L : List (Cf × List Int)} {c : Cf} {ns : List Int} (h : c ∉ L.map (·.1)) : putG (kvsOf L) (triD c) (rowT ns) = kvsOf (L ++ [(c, ns)]) := by
  rw [putG_new (val_no h)]
  unfold kvsOf
  rw [List.map_append]; rfl
/-- all settled places -/
def spaC (a b : List Rm) (S : List Int) : List Cf := (List.range a.length).flatMap fun (i : Nat) => (List.range b.length).flatMap fun (j : Nat) => ((0 : Int) :: S).map fun s => ((i : Int), (j : Int), s)
theorem spa_mem {a b : List Rm} {S : List Int} {c : Cf} (h0 : 0 < S.length) (h : RgC a b c) : setC a b S c ∈ spaC a b S := by
  obtain ⟨⟨h1, h2⟩, h3, h4⟩ := h
  unfold spaC
  rw [List.mem_flatMap]
  refine ⟨c.1.toNat, List.mem_range.mpr (by omega), ?_⟩
  rw [List.mem_flatMap]
  refine ⟨c.2.1.toNat, List.mem_range.mpr (by omega), ?_⟩
  rw [List.mem_map]
  refine ⟨(setC a b S c).2.2, ?_, ?_⟩
  · unfold setC
    dsimp only
    split
    · exact List.mem_cons_of_mem _ (like_mem h0 _)
    · exact List.mem_cons_self
  · show ((c.1.toNat : Int), (c.2.1.toNat : Int), _) = (c.1, c.2.1, _)
    rw [Int.toNat_of_nonneg h1, Int.toNat_of_nonneg h3]
    rfl
theorem flat_const {α β : Type} {f : α → List β} {n : Nat} : ∀ l : List α, (∀ x ∈ l, (f x).length = n) → (l.flatMap f).length = l.length * n
  | [], _ => by simp
  | x :: l, h => by
    rw [List.flatMap_cons, List.length_append, h x List.mem_cons_self, flat_const l fun y hy => h y (List.mem_cons_of_mem _ hy), List.length_cons, Nat.succ_mul, Nat.add_comm]
theorem spa_len (a b : List Rm) (S : List Int) : (spaC a b S).length = a.length * (b.length * (S.length + 1)) := by
  unfold spaC
  rw [flat_const (n := b.length * (S.length + 1)) _ fun i _ => by
    rw [flat_const (n := S.length + 1) _ fun j _ => by rw [List.length_map, List.length_cons], List.length_range], List.length_range]
/-- what the walk holds: no place twice, each settled -/
structure Wk (a b : List Rm) (S : List Int) (L : List (Cf × List Int)) : Prop where
  nd : (L.map (·.1)).Nodup
  sp : ∀ e ∈ L, e.1 ∈ spaC a b S
theorem Wk.len {a b : List Rm} {S : List Int} {L : List (Cf × List Int)} (h : Wk a b S L) : L.length ≤ (spaC a b S).length := by
  have := nodup_le h.nd fun x hx => by
    obtain ⟨e, he, rfl⟩ := List.mem_map.mp hx
    exact h.sp e he
  rwa [List.length_map] at this
theorem Wk.snoc {a b : List Rm} {S : List Int} {L : List (Cf × List Int)} (h : Wk a b S L) {c : Cf} {ns : List Int} (h1 : c ∉ L.map (·.1)) (h2 : c ∈ spaC a b S) : Wk a b S (L ++ [(c, ns)]) where
  nd := by
    rw [List.map_append]
    refine List.nodup_append.mpr ⟨h.nd, by simp, fun x hx y hy => ?_⟩
    rw [List.map_cons, List.map_nil, List.mem_singleton] at hy
    rw [hy]
    exact fun z => h1 (by rw [z] at hx; exact hx)
  sp := fun e he => by
    rcases List.mem_append.mp he with he | he
    · exact h.sp e he
    · cases List.mem_singleton.mp he
      exact h2
abbrev smpR (a b : List Rm) : List Int := sampR (a ++ b)
def BfP (a b : List Rm) (L : List (Cf × List Int)) : Prop := Bfs a b (preR (a ++ b)) (smpR a b) L L.length
end
section
/-! ### parted (k72) -/
def oRw : Option (List Int) → D
  | none => .non
  | some r => .lst (r.map .int)
theorem smp_cov (a b : List Rm) : ∀ x, ∃ s ∈ smpR a b, Alk (preR (a ++ b)) x s := fun x => ⟨_, like_mem (wf_pos _) x, alk_like _ x⟩
end
section
/-! ### the paper that a program makes of two alike programs (k74): the plain law -/
theorem lk_cons (a : Int) (r : List Int) (n : Int) : likeOf ((a - 1) :: a :: r) n = ((a :: r).filter fun k => decide (k ≤ n)).getLastD (a - 1) := by
  unfold likeOf
  cases e0 : decide (a - 1 ≤ n) with
  | true => rw [List.filter_cons_of_pos (by simpa using e0), List.getLastD_cons]
  | false => rw [List.filter_cons_of_neg (by simpa using e0)]; rfl
theorem like_alk {ts : List Int} {n x : Int} (h : Alk ts n x) : likeOf (withFirst ts) n = likeOf (withFirst ts) x := by
  unfold withFirst
  cases e : srtU ts with
  | nil =>
    dsimp only
    have e1 : ∀ n, likeOf [0] n = 0 := fun n => by
      unfold likeOf
      cases h0 : decide ((0 : Int) ≤ n) <;> simp [h0]
    rw [e1, e1]
  | cons a r =>
    dsimp only
    rw [lk_cons, lk_cons]
    congr 1
    refine List.filter_congr fun k hk => ?_
    rw [decide_eq_decide]
    exact h k ((mem_srtU k ts).mp (by rw [e]; exact hk))
theorem mo_hg {r : Rm} (h : moL r = []) : hgB r = false := by
  unfold moL at h
  unfold hgB
  rw [List.filterMap_eq_nil_iff] at h
  rw [List.any_eq_false]
  intro t ht
  have := h t ht
  cases t with
  | num n => exact fun z => by cases z
  | last n => cases this
/-- triples of the same kind settle to one and the same triple -/
theorem set_eq {a b : List Rm} {ts : List Int} {c d : Cf} (h : SmC a b ts c d) : setC a b (withFirst ts) c = setC a b (withFirst ts) d := by
  obtain ⟨h1, h2, h3⟩ := h
  unfold setC
  rw [h1, h2] at *
  rcases h3 with h3 | h3
  · rw [like_alk h3]
  · rw [mo_hg h3.1, mo_hg h3.2]; rfl
theorem set_set (a b : List Rm) (ts : List Int) (c : Cf) : setC a b (withFirst ts) (setC a b (withFirst ts) c) = setC a b (withFirst ts) c := set_eq (set_sim a b ts c)
/-- a whole walk over two programs, its triples settled: the paper is closed -/
theorem bfs_closed {a b : List Rm} {ts : List Int} {L : List (Cf × List Int)} (B : Bfs a b ts (withFirst ts) L L.length) (st : ∀ e ∈ L, setC a b (withFirst ts) e.1 = e.1) :
    setC a b (withFirst ts) (0, 0, 0) ∈ L.map (·.1) ∧
    ∀ e ∈ L, saB a b e.1 → (rmAt a e.1.1).asks e.1.2.2 ≠ none → ∀ s ∈ withFirst ts, setC a b (withFirst ts) (nxC a b e.1 s) ∈ L.map (·.1) := by
  refine ⟨?_, fun e he hs ha s hS => ?_⟩
  · obtain ⟨e, e1, _, e3⟩ := B.ini
    have hm := List.mem_of_getElem? e1
    rw [← set_eq e3, st e hm]
    exact List.mem_map_of_mem hm
  · obtain ⟨i, hi, ei⟩ := List.mem_iff_getElem.mp he
    obtain ⟨f, hf, f1, _⟩ := B.cov i hi e (by rw [List.getElem?_eq_getElem hi, ei]) hs ha s hS
    rw [← set_eq f1, st f hf]
    exact List.mem_map_of_mem hf
/-- two programs that no row parts: all triples that the walk meets say the same -/
theorem bfs_same {a b : List Rm} {S : List Int} {ts : List Int} {ths : List Th} {L : List (Cf × List Int)} (w : Two a b ts ths) (B : Bfs a b ts S L L.length)
    (h : ∀ ns : List Int, runR a ns 0 0 = runR b ns 0 0) : ∀ e ∈ L, saB a b e.1 := by
  intro e he
  obtain ⟨g, s⟩ := B.pth e he
  refine Classical.byContradiction fun z => ?_
  have rg := B.rg w he
  exact run_diff g (fun k => z ((w.sa s rg).mpr k)) (h e.2)
end
section
/-! ### two programs walked together, every triple settled (k74) -/
structure Wkq (a b : List Rm) (S : List Int) (L : List (Cf × List Int)) : Prop extends Wk a b S L where
  st : ∀ e ∈ L, setC a b S e.1 = e.1
theorem Wkq.len {a b : List Rm} {S : List Int} {L : List (Cf × List Int)} (h : Wkq a b S L) : L.length ≤ (spaC a b S).length := h.toWk.len
theorem Wkq.snoc {a b : List Rm} {S : List Int} {L : List (Cf × List Int)} (h : Wkq a b S L) {c : Cf} {ns : List Int} (h1 : c ∉ L.map (·.1)) (h2 : c ∈ spaC a b S) (h3 : setC a b S c = c) : Wkq a b S (L ++ [(c, ns)]) where
  toWk := h.toWk.snoc h1 h2
  st := fun e he => by
    rcases List.mem_append.mp he with he | he
    · exact h.st e he
    · cases List.mem_singleton.mp he
      exact h3
theorem mul36 {x y : Nat} (h : x + y ≤ 12) : x * y ≤ 36 := (by decide : ∀ x < 13, ∀ y < 13, x + y ≤ 12 → x * y ≤ 36) x (by omega) y (by omega) h
def sp_paired_off_v3 : SpD := fun ds m P _ => ∃ a b : List Rm, ds = [rmsD a, rmsD b] ∧ RsOk a ∧ RsOk b ∧ a.length + b.length ≤ 12 ∧
  ∀ m' p L, Kp [] m m' → m p = none → m' p = some (.dgt (kvsOf L)) → BfP a b L → (L.map (·.1)).Nodup → (∀ e ∈ L, setC a b (smpR a b) e.1 = e.1) → L.length ≤ 20808 → P (.adr p) m'
def T_paired_off_v3_5 : DS := sSeq (sSet 6 (rLstM (rCons (rV 4) (rNil))))
    (sSeq (sSet 7 (rC (.int 0)))
    (sSeq (sWhile (rTst (rOp oLt (rV 7) (rCB cLen (rCons (rV 6) (rNil))))) (sSeq (sIf (rTru (rCall sp_is_same [] (rCons (rV 2) (rCons (rOp oIx (rV 6) (rV 7)) (rNil))))) (sFor (iAny (rCall sp_rooms_behind [] (rCons (rV 2) (rCons (rV 3) (rCons (rOp oIx (rV 6) (rV 7)) (rNil)))))) (gT [8, 9]) (sIf (rTst (rOp (oInG true) (rV 9) (rV 5))) (sSeq (sSetG (rOp oAdd (rOp oGetG (rV 5) (rOp oIx (rV 6) (rV 7))) (rTup (rCons (rV 8) (rNil)))) (rV 5) (rV 9))
    (sExpr (rApp (rV 6) (rV 9)))) (sNext))) (sNext))
    (sAug 7 (rC (.int 1)))))
    (sRet (rV 5))))
def rd_paired_off_v3 : DS :=
    sSeq (sSet 2 (rLst (rCons (rMk "Doer" sp_Doer___init__ 1 0 (gI [0, 1]) (rCons (rV 0) (rNil)) (rNil)) (rCons (rMk "Doer" sp_Doer___init__ 1 0 (gI [0, 1]) (rCons (rV 1) (rNil)) (rNil)) (rNil)))))
    (sSeq (sSet 3 (rCall sp_samples_of [] (rCons (rV 2) (rNil))))
    (sSeq (sSet 4 (rCall sp_settled_triple [] (rCons (rV 2) (rCons (rV 3) (rCons (rTup (rCons (rC (.int 0)) (rCons (rC (.int 0)) (rCons (rC (.int 0)) (rNil))))) (rNil))))))
    (sSeq (sSet 5 (rDgt1 (rV 4) (rTup (rNil))))
    (sSeq (sSet 6 (rLstM (rCons (rV 4) (rNil))))
    (sSeq (sSet 7 (rC (.int 0)))
    (sSeq (sWhile (rTst (rOp oLt (rV 7) (rCB cLen (rCons (rV 6) (rNil))))) (sSeq (sIf (rTru (rCall sp_is_same [] (rCons (rV 2) (rCons (rOp oIx (rV 6) (rV 7)) (rNil))))) (sFor (iAny (rCall sp_rooms_behind [] (rCons (rV 2) (rCons (rV 3) (rCons (rOp oIx (rV 6) (rV 7)) (rNil)))))) (gT [8, 9]) (sIf (rTst (rOp (oInG true) (rV 9) (rV 5))) (sSeq (sSetG (rOp oAdd (rOp oGetG (rV 5) (rOp oIx (rV 6) (rV 7))) (rTup (rCons (rV 8) (rNil)))) (rV 5) (rV 9))
    (sExpr (rApp (rV 6) (rV 9)))) (sNext))) (sNext))
    (sAug 7 (rC (.int 1)))))
    (sRet (rV 5))))))))
theorem ln_paired_off_v3 : ∀ ds m Q PX, sp_paired_off_v3 ds m Q PX → ds.length = 2 := fun ds m Q PX h => by repeat (first | (subst_vars; rfl; done) | (obtain ⟨_, h⟩ := h))
theorem pu_paired_off_v3 : ∀ ds m Q PX, sp_paired_off_v3 ds m Q PX → rd_paired_off_v3 (dEnds Q PX) (dstart ["one", "other", "some", "samples", "first", "found", "line", "at", "answer", "later"] ds) m := by
  rintro ds m Q PX ⟨a, b, rfl, oa, ob, lab, h⟩
  have w := two_of oa ob
  have hS : (smpR a b).length ≤ 577 := samp_len (both_ok oa ob) (by rw [List.length_append]; omega)
  have hP : 0 < (smpR a b).length := wf_pos _
  have asc : (smpR a b).Pairwise (· < ·) := by obtain ⟨c, R, e1, _, e3⟩ := wf_cons (preR (a ++ b)); rw [show smpR a b = c :: R from e1]; exact e3
  have hB : (spaC a b (smpR a b)).length ≤ 20808 := by
    rw [spa_len]
    rw [← Nat.mul_assoc]
    exact Nat.le_trans (Nat.mul_le_mul (mul36 lab) (Nat.succ_le_succ hS)) (by decide)
  walk_at "go"
  intro q hq
  refine ⟨q, rmsD a, rfl, mset_same, thg_of oa.th, fun e => ⟨rfl, _, mset_same, ?_⟩, fun e => absurd (oa.is.symm.trans e) (by simp)⟩
  rw [mset_mset, mdel_mset hq]
  walk_at "go"
  intro q2 hq2
  refine ⟨q2, rmsD b, rfl, mset_same, thg_of ob.th, fun e => ⟨rfl, _, mset_same, ?_⟩, fun e => absurd (ob.is.symm.trans e) (by simp)⟩
  rw [mset_mset, mdel_mset hq2]
  walk_at "go"
  refine ⟨[a, b], rfl, fun R hR => ?_, by simp only [List.flatten_cons, List.flatten_nil, List.append_nil, List.length_append]; omega, ?_⟩
  · rcases List.mem_cons.mp hR with rfl | hR
    · exact oa
    · cases List.mem_singleton.mp hR; exact ob
  rw [show [a, b].flatten = a ++ b from by simp]
  walk_at "go"
  refine ⟨a, b, smpR a b, (0, 0, 0), rfl, oa, ob, w.rg0, asc, hP, by omega, ?_⟩
  walk_at "go"
  intro p hp
  obtain ⟨c0, hc0⟩ : ∃ c0, setC a b (smpR a b) (0, 0, 0) = c0 := ⟨_, rfl⟩
  have sim0 : SmC a b (preR (a ++ b)) c0 (0, 0, 0) := hc0 ▸ set_sim a b (preR (a ++ b)) (0, 0, 0)
  have spa0 : c0 ∈ spaC a b (smpR a b) := hc0 ▸ spa_mem hP w.rg0
  show T_paired_off_v3_5 (dEnds Q PX) [some (rmsD a), some (rmsD b), some (twoD a b), some (.lst ((smpR a b).map .int)), some (triD (setC a b (smpR a b) (0, 0, 0))), some (.adr p), none, none, none, none] (mset m p (.dgt (kvsOf [(setC a b (smpR a b) (0, 0, 0), [])])))
  rw [hc0]
  walk_at "go"
  intro q hq
  have hpq : p ≠ q := fun z => by rw [← z, mset_same] at hq; cases hq
  refine while_inv (fun k δ m' => ∃ L n t8 t9, n ≤ L.length ∧ k + n = (spaC a b (smpR a b)).length + 1 ∧ m' = mset (mset m p (.dgt (kvsOf L))) q (.lst (lnOf L)) ∧
    δ = [some (rmsD a), some (rmsD b), some (twoD a b), some (.lst ((smpR a b).map .int)), some (triD c0), some (.adr p), some (.adr q), some (.int (n : Nat)), t8, t9] ∧
    Bfs a b (preR (a ++ b)) (smpR a b) L n ∧ Wkq a b (smpR a b) L) ((spaC a b (smpR a b)).length + 1) ⟨[(c0, [])], 0, none, none, Nat.zero_le _, rfl, rfl, rfl, bfs_start sim0, ⟨⟨by simp, fun e he => by cases List.mem_singleton.mp he; exact spa0⟩, fun e he => by cases List.mem_singleton.mp he; exact hc0 ▸ set_set a b (preR (a ++ b)) (0, 0, 0)⟩⟩ (fun k δ m' hh => ?_)
  obtain ⟨L, n, t8, t9, hn, hk, rfl, rfl, B, W⟩ := hh
  have lL : (lnOf L).length = L.length := List.length_map _
  have hW := W.len
  walk_at "go"
  rw [asL_adr mset_same]
  walk_at "go"
  by_cases hlt : n < L.length
  · rw [decide_eq_true (by omega)]
    walk_at "go"
    obtain ⟨e, he⟩ : ∃ e, L[n]? = some e := ⟨_, List.getElem?_eq_getElem hlt⟩
    have hm := List.mem_of_getElem? he
    have hr := B.rg w hm
    have ha : ∀ N : List (Cf × List Int), atI (lnOf (L ++ N)) (n : Nat) = some (triD e.1) := fun N => by
      obtain ⟨x, x1, x2⟩ := atI_some (xs := lnOf (L ++ N)) (i := (n : Nat)) (by omega) (by unfold lnOf; rw [List.length_map, List.length_append]; omega)
      rw [x1]
      unfold lnOf at x2
      rw [List.getElem?_map, Int.toNat_natCast, List.getElem?_append_left hlt, he] at x2
      exact x2.symm
    have ha0 : atI (lnOf L) (n : Nat) = some (triD e.1) := by have := ha []; rwa [List.append_nil] at this
    rw [asL_adr mset_same]
    dsimp only
    rw [ha0]
    walk_at "go"
    refine ⟨a, b, e.1, rfl, oa, ob, hr, ?_⟩
    cases es : saBb a b e.1 with
    | false =>
      walk_at "go"
      have B2 := B.step (N := []) w he (fun x hx => by cases hx) (fun z => absurd z (saBb_no.mp es))
      rw [List.append_nil] at B2
      exact ⟨k - 1, by omega, L, n + 1, _, _, hlt, by omega, rfl, rfl, B2, W⟩
    | true =>
      have es1 := saBb_iff.mp es
      walk_at "go"
      rw [asL_adr mset_same]
      dsimp only
      rw [ha0]
      walk_at "go"
      refine ⟨a, b, smpR a b, e.1, rfl, oa, ob, hr, es1.1, asc, hP, by omega, ?_⟩
      obtain ⟨S', hS'⟩ : ∃ S', S' = if (rmAt a e.1.1).asks e.1.2.2 = none then [] else smpR a b := ⟨_, rfl⟩
      have eS : (if (rmAt a e.1.1).asks e.1.2.2 = none then [] else (smpR a b).map fun s => D.tup [.int s, triD (setC a b (smpR a b) (nxC a b e.1 s))]) = S'.map fun s => D.tup [.int s, triD (setC a b (smpR a b) (nxC a b e.1 s))] := by
        rw [hS']; split <;> rfl
      rw [eS]
      walk_at "go"
      refine loop_inv (fun i δ m' => ∃ N t8 t9, m' = mset (mset m p (.dgt (kvsOf (L ++ N)))) q (.lst (lnOf (L ++ N))) ∧
        δ = [some (rmsD a), some (rmsD b), some (twoD a b), some (.lst ((smpR a b).map .int)), some (triD c0), some (.adr p), some (.adr q), some (.int (n : Nat)), t8, t9] ∧
        Wkq a b (smpR a b) (L ++ N) ∧ (∀ x ∈ N, saB a b e.1 ∧ (rmAt a e.1.1).asks e.1.2.2 ≠ none ∧ ∃ s, x.2 = e.2 ++ [s] ∧ SmC a b (preR (a ++ b)) x.1 (nxC a b e.1 s)) ∧
        ∀ s ∈ S'.take i, ∃ x ∈ L ++ N, SmC a b (preR (a ++ b)) x.1 (nxC a b e.1 s)) (fun i d δ m' ei hh => ?_) (fun δ m' hh => ?_) ⟨[], t8, t9, by rw [List.append_nil], rfl, by rw [List.append_nil]; exact W, (fun x hx => by cases hx), (fun s hs => by cases hs)⟩
      · obtain ⟨N, u8, u9, rfl, rfl, W2, hN, hC⟩ := hh
        rw [List.getElem?_map] at ei
        cases ex : S'[i]? with
        | none => rw [ex] at ei; cases ei
        | some s =>
        rw [ex] at ei
        cases ei
        have hsm : s ∈ S' := List.mem_of_getElem? ex
        have hq0 : (rmAt a e.1.1).asks e.1.2.2 ≠ none := fun z => by rw [hS', if_pos z] at hsm; cases hsm
        have tk : S'.take (i + 1) = S'.take i ++ [s] := by rw [List.take_add_one, ex]; rfl
        refine ⟨trivial, fun Nx k1 => ?_⟩
        walk_at "go"
        have dg : dgOf (mset (mset m p (.dgt (kvsOf (L ++ N)))) q (.lst (lnOf (L ++ N)))) (.adr p) = some (kvsOf (L ++ N)) := dgOf_adr (by rw [mset_ne hpq]; exact mset_same)
        rw [dg]
        dsimp only
        obtain ⟨c, hc⟩ : ∃ c, setC a b (smpR a b) (nxC a b e.1 s) = c := ⟨_, rfl⟩
        have simc : SmC a b (preR (a ++ b)) c (nxC a b e.1 s) := hc ▸ set_sim a b (preR (a ++ b)) (nxC a b e.1 s)
        have spac : c ∈ spaC a b (smpR a b) := hc ▸ spa_mem hP (w.rgn hr s)
        have stc : setC a b (smpR a b) c = c := hc ▸ set_set a b (preR (a ++ b)) (nxC a b e.1 s)
        rw [hc]
        refine ⟨kt_tri _, ?_⟩
        rw [if_pos rfl]
        by_cases hin : c ∈ (L ++ N).map (·.1)
        · obtain ⟨x, hx, ec⟩ := List.mem_map.mp hin
          rw [← ec, val_yes W2.nd hx]
          walk_at "go"
          refine k1 _ _ ⟨N, _, _, rfl, rfl, W2, hN, fun r hr => ?_⟩
          rw [tk] at hr
          rcases List.mem_append.mp hr with z | z
          · exact hC r z
          · rw [List.mem_singleton.mp z]
            exact ⟨x, hx, ec ▸ simc⟩
        · rw [val_no hin]
          walk_at "go"
          rw [asL_adr mset_same]
          dsimp only
          rw [ha N]
          walk_at "go"
          rw [dg]
          dsimp only
          refine ⟨kt_tri _, ?_⟩
          rw [val_yes W2.nd (List.mem_append_left N hm)]
          walk_at "go"
          have hix := B.ix n e he
          have hLN := W2.len
          refine ⟨len_line (by rw [List.length_map]; show e.2.length + 1 ≤ 1000000; omega), ?_⟩
          walk_at "go"
          rw [mset_ne hpq, mset_same]
          dsimp only
          refine ⟨kt_tri _, len_line (by unfold kvsOf; rw [List.length_map]; omega), ?_⟩
          rw [mset_swap hpq.symm, mset_mset, show D.tup (e.2.map .int ++ [.int s]) = rowT (e.2 ++ [s]) from by unfold rowT; rw [List.map_append]; rfl, put_new hin]
          walk_at "go"
          refine ⟨⟨_, mset_same⟩, ?_⟩
          walk_at "go"
          rw [mset_same]
          walk_at "dl"
          refine ⟨len_line (by unfold lnOf; rw [List.length_map]; omega), ?_⟩
          rw [mset_mset]
          refine k1 _ _ ⟨N ++ [(c, e.2 ++ [s])], _, _, ?_, rfl, by rw [← List.append_assoc]; exact W2.snoc hin spac stc, fun x hx => ?_, fun r hr => ?_⟩
          · rw [← List.append_assoc]
            unfold lnOf
            rw [List.map_append (l₁ := L ++ N)]
            rfl
          · rcases List.mem_append.mp hx with z | z
            · exact hN x z
            · rw [List.mem_singleton.mp z]
              exact ⟨es1, hq0, s, rfl, simc⟩
          · rw [tk] at hr
            rw [← List.append_assoc]
            rcases List.mem_append.mp hr with z | z
            · obtain ⟨x, x1, x2⟩ := hC r z
              exact ⟨x, List.mem_append_left _ x1, x2⟩
            · rw [List.mem_singleton.mp z]
              exact ⟨_, List.mem_append_right _ (List.mem_singleton.mpr rfl), simc⟩
      · obtain ⟨N, u8, u9, rfl, rfl, W2, hN, hC⟩ := hh
        rw [List.length_map, List.take_length] at hC
        walk_at "go"
        have B2 := B.step w he hN fun _ z s hs => hC s (by rw [hS', if_neg z]; exact hs)
        exact ⟨k - 1, by omega, L ++ N, n + 1, _, _, by rw [List.length_append]; omega, by omega, rfl, rfl, B2, W2⟩
  · rw [decide_eq_false (by omega)]
    walk_at "go"
    have en : n = L.length := by omega
    refine h _ p L ?_ hp ?_ (by unfold BfP; rw [← en]; exact B) W.nd W.st (Nat.le_trans hW hB)
    · have hmq : m q = none := by rw [mset_ne hpq.symm] at hq; exact hq
      exact (kp_new hp).trans (kp_new (by rw [mset_ne hpq.symm]; exact hmq))
    · rw [mset_ne hpq]; exact mset_same
end
section
/-! ### parted up to twelve rooms (k74) -/
def sp_parted_v3 : SpD := fun ds m P _ => ∃ a b : List Rm, ds = [rmsD a, rmsD b] ∧ RsOk a ∧ RsOk b ∧ a.length + b.length ≤ 12 ∧
  ∀ m' R, Kp [] m m' → SpcR a b R → (∀ r, R = some r → r.length ≤ 20808) → P (oRw R) m'
def rd_parted_v3 : DS :=
    sSeq (sSet 2 (rLst (rCons (rMk "Doer" sp_Doer___init__ 1 0 (gI [0, 1]) (rCons (rV 0) (rNil)) (rNil)) (rCons (rMk "Doer" sp_Doer___init__ 1 0 (gI [0, 1]) (rCons (rV 1) (rNil)) (rNil)) (rNil)))))
    (sSeq (sFor (iItG (rCall sp_paired_off_v3 [] (rCons (rV 0) (rCons (rV 1) (rNil))))) (gT [3, 4]) (sIf (rNot (rTru (rCall sp_is_same [] (rCons (rV 2) (rCons (rV 3) (rNil)))))) (sRet (rCB cLst (rCons (rV 4) (rNil)))) (sNext)))
    (sRet (rC .non)))
theorem ln_parted_v3 : ∀ ds m Q PX, sp_parted_v3 ds m Q PX → ds.length = 2 := fun ds m Q PX h => by repeat (first | (subst_vars; rfl; done) | (obtain ⟨_, h⟩ := h))
theorem pu_parted_v3 : ∀ ds m Q PX, sp_parted_v3 ds m Q PX → rd_parted_v3 (dEnds Q PX) (dstart ["one", "other", "some", "triple", "answers"] ds) m := by
  rintro ds m Q PX ⟨a, b, rfl, oa, ob, lab, h⟩
  have w := two_of oa ob
  walk_at "go"
  intro q hq
  refine ⟨q, rmsD a, rfl, mset_same, thg_of oa.th, fun e => ⟨rfl, _, mset_same, ?_⟩, fun e => absurd (oa.is.symm.trans e) (by simp)⟩
  rw [mset_mset, mdel_mset hq]
  walk_at "go"
  intro q2 hq2
  refine ⟨q2, rmsD b, rfl, mset_same, thg_of ob.th, fun e => ⟨rfl, _, mset_same, ?_⟩, fun e => absurd (ob.is.symm.trans e) (by simp)⟩
  rw [mset_mset, mdel_mset hq2]
  walk_at "go"
  refine ⟨a, b, rfl, oa, ob, lab, fun m1 p L kp hp e1 B nd _st lL => ?_⟩
  walk_at "go"
  rw [e1]
  walk_at "go"
  intro o
  have kp2 : Kp [] m (mset m1 p (.dgl o (kvsOf L))) := fun x u hx e => by
    have hxp : x ≠ p := fun z => by rw [z, hp] at e; cases e
    rw [mset_ne hxp]
    exact kp x u hx e
  rw [show (kvsOf L).map (fun q => D.tup [q.1, q.2]) = L.map fun e => D.tup [triD e.1, rowT e.2] from by unfold kvsOf; rw [List.map_map]; rfl]
  refine loop_inv (fun i δ m' => m' = mset m1 p (.dgl o (kvsOf L)) ∧ (∀ e ∈ L.take i, saB a b e.1) ∧ ∃ x y, δ = [some (rmsD a), some (rmsD b), some (twoD a b), x, y]) (fun i d δ m' ei hh => ?_) (fun δ m' hh => ?_) ⟨rfl, (fun e he => by cases he), _, _, rfl⟩
  · obtain ⟨rfl, hs, x, y, rfl⟩ := hh
    rw [List.getElem?_map] at ei
    cases ex : L[i]? with
    | none => rw [ex] at ei; cases ei
    | some e =>
    rw [ex] at ei
    cases ei
    have hm := List.mem_of_getElem? ex
    have hi := (List.getElem?_eq_some_iff.mp ex).1
    refine ⟨mset_same, fun Nx k1 => ?_⟩
    walk_at "go"
    refine ⟨a, b, e.1, rfl, oa, ob, B.rg w hm, ?_⟩
    cases es : saBb a b e.1 with
    | true =>
      walk_at "go"
      refine k1 _ _ ⟨rfl, fun f hf => ?_, _, _, rfl⟩
      rw [List.take_add_one, ex] at hf
      rcases List.mem_append.mp hf with z | z
      · exact hs f z
      · rw [List.mem_singleton.mp z]; exact saBb_iff.mp es
    | false =>
      have hix := B.ix i e ex
      walk_at "go"
      refine h _ (some e.2) kp2 (B.some w (smp_cov a b) (Nat.le_of_lt hi) ex (fun j f hj hf => hs f ?_) (saBb_no.mp es)) fun r er => by cases er; omega
      exact List.mem_of_getElem? (by rw [List.getElem?_take_of_lt hj]; exact hf)
  · obtain ⟨rfl, hs, x, y, rfl⟩ := hh
    rw [List.length_map, List.take_length] at hs
    refine ⟨mset_same, ?_⟩
    walk_at "go"
    exact h _ none kp2 (B.none w (smp_cov a b) (Nat.le_refl _) hs) fun r er => by cases er
end
section
/-! ### two programs, or what is none (k78) -/
theorem tups_cf : ∀ L : List (Cf × List Int), tupsD ((kvsOf L).map (·.1)) = some (L.map fun e => [e.1.1, e.1.2.1, e.1.2.2])
  | [] => rfl
  | e :: L => by
    have ih := tups_cf L
    show (match intsT ([e.1.1, e.1.2.1, e.1.2.2].map D.int), tupsD ((kvsOf L).map (·.1)) with
      | some ns, some l => some (ns :: l)
      | _, _ => none) = _
    rw [intsT_map, ih]
    rfl
end
section
/-! ### the paper of two alike programs (k74) -/
/-- the triples of a whole walk over two programs, in any order -/
def Clo (a b : List Rm) (ls : List Cf) : Prop := ∃ L, BfP a b L ∧ (L.map (·.1)).Nodup ∧ (∀ e ∈ L, setC a b (smpR a b) e.1 = e.1) ∧ ls.Perm (L.map (·.1)) ∧ L.length ≤ 20808
def cfOf : List Int → Cf
  | [x, y, z] => (x, y, z)
  | _ => (0, 0, 0)
end
section
/-! ### shows_same lets the paper of two alike programs by (k74) -/
def keyC (c : Cf) : D × D := (triD c, .bl true)
theorem keyC_out {ls : List Cf} {c : Cf} (h : c ∉ ls) : valG (ls.map keyC) (triD c) = none := by
  rw [valG_none]
  intro q hq e
  obtain ⟨g, hg, rfl⟩ := List.mem_map.mp hq
  exact h (nk_tri (show nk (triD g) = nk (triD c) from e) ▸ hg)
theorem keyC_in {ls : List Cf} {c : Cf} (h : c ∈ ls) : valG (ls.map keyC) (triD c) = some (.bl true) := by
  cases e : valG (ls.map keyC) (triD c) with
  | none => exact absurd rfl (valG_none.mp e _ (List.mem_map_of_mem (f := keyC) h))
  | some d =>
    obtain ⟨q, hq, _, rfl⟩ := valG_mem e
    obtain ⟨g, _, rfl⟩ := List.mem_map.mp hq
    rfl
def smpA (a b : List Rm) (c : Cf) : List Int := if (rmAt a c.1).asks c.2.2 = none then [] else smpR a b
theorem flat_le {α β : Type} {n : Nat} {f : α → List β} : ∀ ls : List α, (∀ c ∈ ls, (f c).length ≤ n) → (ls.flatMap f).length ≤ ls.length * n
  | [], _ => Nat.zero_le _
  | c :: ls, h => by
    have h1 := flat_le ls fun x hx => h x (List.mem_cons_of_mem _ hx)
    have h2 := h c List.mem_cons_self
    rw [List.flatMap_cons, List.length_append, List.length_cons, Nat.succ_mul]
    omega
theorem one_flat {α β : Type} {f : α → β} : ∀ ls : List α, (ls.flatMap fun c => [f c]) = ls.map f
  | [] => rfl
  | c :: ls => by rw [List.flatMap_cons, one_flat ls]; rfl
/-- a right paper: all its triples say the same, and it is closed -/
structure PapC (a b : List Rm) (ls : List Cf) : Prop where
  nd : ls.Nodup
  rg : ∀ c ∈ ls, RgC a b c
  sa : ∀ c ∈ ls, saB a b c
  st : setC a b (smpR a b) (0, 0, 0) ∈ ls
  cl : ∀ c ∈ ls, (rmAt a c.1).asks c.2.2 ≠ none → ∀ s ∈ smpR a b, setC a b (smpR a b) (nxC a b c s) ∈ ls
  few : ls.length ≤ 20808
end
section
/-! ### the paper of two alike programs is let by (k74) -/
theorem clo_pap {a b : List Rm} {ls : List Cf} (oa : RsOk a) (ob : RsOk b) (h : Clo a b ls) (e : ∀ ns : List Int, runR a ns 0 0 = runR b ns 0 0) : PapC a b ls := by
  obtain ⟨L, B, nd, st, pl, lL⟩ := h
  have w := two_of oa ob
  have sm := bfs_same w B e
  obtain ⟨c1, c2⟩ := bfs_closed B st
  refine ⟨pl.nodup_iff.mpr nd, fun c hc => ?_, fun c hc => ?_, pl.mem_iff.mpr c1, fun c hc ha s hs => pl.mem_iff.mpr ?_, ?_⟩
  · obtain ⟨x, hx, rfl⟩ := List.mem_map.mp (pl.mem_iff.mp hc)
    exact B.rg w hx
  · obtain ⟨x, hx, rfl⟩ := List.mem_map.mp (pl.mem_iff.mp hc)
    exact sm x hx
  · obtain ⟨x, hx, rfl⟩ := List.mem_map.mp (pl.mem_iff.mp hc)
    exact c2 x hx (sm x hx) ha s hs
  · rw [pl.length_eq, List.length_map]; exact lL
end
section
/-! ### papers of sameness (k73): the plain law, the program's word -/
def cfI (c : Cf) : List Int := [c.1, c.2.1, c.2.2]
theorem cf_inj {c d : Cf} (h : cfI c = cfI d) : c = d := by
  obtain ⟨c1, c2, c3⟩ := c
  obtain ⟨d1, d2, d3⟩ := d
  simp only [cfI, List.cons.injEq, and_true] at h
  obtain ⟨rfl, rfl, rfl⟩ := h
  rfl
theorem map_inj_cf : ∀ {l k : List Cf}, l.map cfI = k.map cfI → l = k
  | [], [], _ => rfl
  | [], _ :: _, h => by cases h
  | _ :: _, [], h => by cases h
  | x :: l, y :: k, h => by
    rw [List.map_cons, List.map_cons] at h
    injection h with h1 h2
    rw [cf_inj h1, map_inj_cf h2]
/-- the triples of a whole walk, rising -/
def ClS (a b : List Rm) (ls : List Cf) : Prop := Clo a b ls ∧ (ls.map cfI).Pairwise fun q r => lexI r q = false
theorem Clo.nd {a b : List Rm} {ls : List Cf} (h : Clo a b ls) : ls.Nodup := by
  obtain ⟨L, B, nd, st, pl, lL⟩ := h
  exact pl.nodup_iff.mpr nd
theorem Clo.rg {a b : List Rm} {ls : List Cf} (oa : RsOk a) (ob : RsOk b) (h : Clo a b ls) : ∀ c ∈ ls, RgC a b c := fun c hc => by
  obtain ⟨L, B, nd, st, pl, lL⟩ := h
  obtain ⟨x, hx, rfl⟩ := List.mem_map.mp (pl.mem_iff.mp hc)
  exact B.rg (two_of oa ob) hx
theorem Clo.st {a b : List Rm} {ls : List Cf} (h : Clo a b ls) : ∀ c ∈ ls, setC a b (smpR a b) c = c := fun c hc => by
  obtain ⟨L, B, nd, st, pl, lL⟩ := h
  obtain ⟨x, hx, rfl⟩ := List.mem_map.mp (pl.mem_iff.mp hc)
  exact st x hx
theorem Clo.len {a b : List Rm} {ls : List Cf} (oa : RsOk a) (ob : RsOk b) (h : Clo a b ls) : ls.length ≤ a.length * (b.length * ((smpR a b).length + 1)) := by
  rw [← spa_len]
  refine nodup_le h.nd fun c hc => ?_
  rw [← h.st c hc]
  exact spa_mem (wf_pos _) (h.rg oa ob c hc)
theorem clo_sub {a b : List Rm} {ls ks : List Cf} (oa : RsOk a) (ob : RsOk b) (h : Clo a b ls) (k : Clo a b ks) : ∀ c ∈ ls, c ∈ ks := by
  obtain ⟨K, C, kd, ks', kl, _⟩ := k
  have w := two_of oa ob
  obtain ⟨c1, c2⟩ := bfs_closed C ks'
  have go : ∀ (p : List Int) (k : Nat), p.length = k → gdC a b (0, 0, 0) p → RgC a b (enC a b (0, 0, 0) p) ∧ setC a b (smpR a b) (enC a b (0, 0, 0) p) ∈ K.map (·.1) := by
    intro p k
    induction k generalizing p with
    | zero =>
      intro e _
      cases List.eq_nil_of_length_eq_zero e
      exact ⟨w.rg0, c1⟩
    | succ k ih =>
      intro e g
      have hne : p ≠ [] := fun z => by rw [z] at e; cases e
      obtain ⟨q, n, rfl⟩ : ∃ q n, p = q ++ [n] := ⟨p.dropLast, p.getLast hne, (List.dropLast_concat_getLast hne).symm⟩
      obtain ⟨g1, g2, g3⟩ := gd_snoc.mp g
      obtain ⟨r1, m1⟩ := ih q (by simp at e; omega) g1
      rw [en_snoc]
      refine ⟨w.rgn r1 n, ?_⟩
      obtain ⟨x, hx, ex⟩ := List.mem_map.mp m1
      have sm : SmC a b (preR (a ++ b)) x.1 (enC a b (0, 0, 0) q) := ex ▸ set_sim a b (preR (a ++ b)) _
      have rx : RgC a b x.1 := C.rg w hx
      obtain ⟨s, hs, al⟩ := smp_cov a b n
      have := c2 x hx ((w.sa sm rx).mpr g2) (fun z => g3 (sm.asks.mp z)) s hs
      show setC a b (withFirst (preR (a ++ b))) _ ∈ _
      rw [← set_eq (w.nx sm rx (n := s) (x := n) fun t ht => (al t ht).symm)]
      exact this
  obtain ⟨L, B, nd, st, pl, _⟩ := h
  intro c hc
  obtain ⟨x, hx, rfl⟩ := List.mem_map.mp (pl.mem_iff.mp hc)
  obtain ⟨g, s⟩ := B.pth x hx
  rw [kl.mem_iff, ← st x hx]
  have := (go x.2 _ rfl g).2
  rw [show setC a b (smpR a b) x.1 = setC a b (smpR a b) (enC a b (0, 0, 0) x.2) from set_eq s]
  exact this
theorem clo_uni {a b : List Rm} {ls ks : List Cf} (oa : RsOk a) (ob : RsOk b) (h : ClS a b ls) (k : ClS a b ks) : ls = ks := by
  have pm : ls.Perm ks := (List.perm_ext_iff_of_nodup h.1.nd k.1.nd).mpr fun c => ⟨clo_sub oa ob h.1 k.1 c, clo_sub oa ob k.1 h.1 c⟩
  have := perm_sorted (pm.map cfI) h.2 k.2
  exact map_inj_cf this
/-- what the paper of sameness asks of its triples -/
def ShowT (a b : List Rm) (cs : List Cf) : Prop := (∀ c ∈ cs, RgC a b c) ∧ setC a b (smpR a b) (0, 0, 0) ∈ cs ∧ (∀ c ∈ cs, saB a b c) ∧ ∀ c ∈ cs, (rmAt a c.1).asks c.2.2 ≠ none → ∀ s ∈ smpR a b, setC a b (smpR a b) (nxC a b c s) ∈ cs
theorem clo_show {a b : List Rm} {ls : List Cf} (oa : RsOk a) (ob : RsOk b) (h : Clo a b ls) : ShowT a b ls ↔ ∀ ns : List Int, runR a ns 0 0 = runR b ns 0 0 := by
  constructor
  · intro k
    obtain ⟨L, B, nd, st, pl, lL⟩ := h
    exact Bfs.none (two_of oa ob) (smp_cov a b) B (Nat.le_refl _) fun f hf => k.2.2.1 f.1 (pl.mem_iff.mpr (List.mem_map_of_mem hf))
  · intro k
    have := clo_pap oa ob h k
    exact ⟨this.rg, this.st, this.sa, this.cl⟩
theorem spc_iff {a b : List Rm} {r : Option (List Int)} (h : SpcR a b r) : r = none ↔ ∀ ns : List Int, runR a ns 0 0 = runR b ns 0 0 := by
  cases r with
  | none => exact ⟨fun _ => h, fun _ => rfl⟩
  | some r => exact ⟨fun z => by (cases z), fun k => absurd (k r) h.1⟩
theorem samp_len8 {rs : List Rm} (ok : ∀ r ∈ rs, ∃ n, r.Ok n) (h : rs.length ≤ 8) : (sampR rs).length ≤ 481 := by
  have h1 := trn_len ok
  have h2 := ths_len' ok
  have h3 := meet_len' (ts := rs.flatMap Rm.ths) (by omega)
  refine Nat.le_trans (wf_len6 _) (Nat.succ_le_succ ?_)
  unfold preR
  rw [List.length_append]
  omega
theorem comp_b3 {Ph : Mu → Prop} {rg : DG} {re : DE} {δ : DSt} {P : List D → Mu → Prop} {α : Type} {m : Mu} (xs : List α) (g : α → D) (q : α → Prop) (hn : xs.length ≤ 16777216) (ph : Ph m)
    (he : ∀ x ∈ xs, ∀ Q : DK, (∀ b : Bool, (b = true ↔ q x) → Q (.bl b) m) → rg (g x) δ m fun δ' m' => re δ' m' Q noX)
    (h : ∀ bs : List Bool, (bs.all id = true ↔ ∀ x ∈ xs, q x) → (bs.any id = true ↔ ∃ x ∈ xs, q x) → P (bs.map .bl) m) : rComp Ph rg qYes re δ P (xs.map g) [] m := by
  classical
  refine comp_on xs g (fun x => .bl (decide (q x))) hn ph (fun x hx Q h' => he x hx Q fun b hb => ?_) ?_
  · have : b = decide (q x) := by
      cases b with
      | true => exact (decide_eq_true (hb.mp rfl)).symm
      | false => exact (decide_eq_false fun z => by cases hb.mpr z).symm
    rw [this]; exact h'
  · have := h (xs.map fun x => decide (q x)) (by rw [List.all_map, List.all_eq_true]; exact ⟨fun z x hx => of_decide_eq_true (z x hx), fun z x hx => decide_eq_true (z x hx)⟩)
      (by rw [List.any_map, List.any_eq_true]; exact ⟨fun ⟨x, hx, z⟩ => ⟨x, hx, of_decide_eq_true z⟩, fun ⟨x, hx, z⟩ => ⟨x, hx, decide_eq_true z⟩⟩)
    rw [List.map_map] at this
    exact this
theorem comp_b3D {Ph : Mu → Prop} {rg : DG} {re : DE} {δ : DSt} {P : List D → Mu → Prop} {m : Mu} (xs : List D) (q : D → Prop) (hn : xs.length ≤ 16777216) (ph : Ph m)
    (he : ∀ x ∈ xs, ∀ Q : DK, (∀ b : Bool, (b = true ↔ q x) → Q (.bl b) m) → rg x δ m fun δ' m' => re δ' m' Q noX)
    (h : ∀ bs : List Bool, (bs.all id = true ↔ ∀ x ∈ xs, q x) → (bs.any id = true ↔ ∃ x ∈ xs, q x) → P (bs.map .bl) m) : rComp Ph rg qYes re δ P xs [] m := by
  have := comp_b3 xs id q hn ph he h
  rwa [List.map_id] at this
end
section
theorem kp_none {m m' : Mu} {q : Addr} (h : Kp [] m m') (e : m' q = none) : m q = none := by
  cases e1 : m q with
  | none => rfl
  | some o => rw [h q o (fun z => by cases z) e1] at e; cases e
theorem kp_own {m m' : Mu} {q : Addr} {o : MO} (h : Kp [] m m') (e : m q = none) : Kp [] m (mset m' q o) := fun x u hx ex => by
  have hxq : x ≠ q := fun z => by rw [z, e] at ex; cases ex
  rw [mset_ne hxq]
  exact h x u hx ex
end
section
/-! ### papers of sameness (k73): the program's word on any paper -/
def AtT (d : D) : Prop := d = .non ∨ (∃ b, d = .bl b) ∨ (∃ i : Int, d = .int i ∧ i.natAbs < 10 ^ 100) ∨ d = .str (Str.ofString "1")
def ItmT (x : D) : Prop := x = .non ∨ ∃ es, (x = .tup es ∨ x = .lst es) ∧ es.length ≤ 4 ∧ ∀ d ∈ es, AtT d
theorem at_thg {d : D} (h : AtT d) : Thg d := by
  rcases h with rfl | ⟨b, rfl⟩ | ⟨i, rfl, _⟩ | rfl
  · exact thg_of (n := 1) thD_non
  · exact thg_of (n := 1) thD_bl
  · exact thg_of (n := 1) thD_int
  · exact thg_of (n := 1) (show thD 1 _ from ⟨by decide, by decide⟩)
def IsTri (a b : List Rm) (x : D) : Prop := ∃ c, x = triD c ∧ RgC a b c
/-- a triple of small numbers -/
def SmT (c : Cf) : Prop := c.1.natAbs < 10 ^ 100 ∧ c.2.1.natAbs < 10 ^ 100 ∧ c.2.2.natAbs < 10 ^ 100
theorem tri_itm {c : Cf} (h : SmT c) : ItmT (triD c) := .inr ⟨_, .inl rfl, by simp, fun d hd => by
  simp only [List.mem_cons, List.not_mem_nil, or_false] at hd
  rcases hd with rfl | rfl | rfl
  · exact .inr (.inr (.inl ⟨_, rfl, h.1⟩))
  · exact .inr (.inr (.inl ⟨_, rfl, h.2.1⟩))
  · exact .inr (.inr (.inl ⟨_, rfl, h.2.2⟩))⟩
theorem whole_int {d : D} (h : isWhole d = true) : ∃ i, d = .int i := by
  unfold isWhole at h
  split at h
  · exact ⟨_, rfl⟩
  · cases h
theorem place_int {n : Int} {d : D} (h : placeB n d = true) : ∃ i, d = .int i ∧ 0 ≤ i ∧ i < n := by
  unfold placeB at h
  split at h
  · rename_i i
    simp only [Bool.and_eq_true, decide_eq_true_eq] at h
    exact ⟨i, rfl, h.1, h.2⟩
  · cases h
def sp_same_pairs_v3 : SpD := fun ds m P _ => ∃ a b : List Rm, ds = [rmsD a, rmsD b] ∧ RsOk a ∧ RsOk b ∧ a.length + b.length ≤ 12 ∧
  ∀ m' ls q, Kp [] m m' → m q = none → m' q = some (.lst (ls.map triD)) → ClS a b ls → P (.adr q) m'
def rd_same_pairs_v3 : DS :=
    sRet (rSrtKGM (rCall sp_paired_off_v3 [] (rCons (rV 0) (rCons (rV 1) (rNil)))))
theorem ln_same_pairs_v3 : ∀ ds m Q PX, sp_same_pairs_v3 ds m Q PX → ds.length = 2 := fun ds m Q PX h => by repeat (first | (subst_vars; rfl; done) | (obtain ⟨_, h⟩ := h))
theorem pu_same_pairs_v3 : ∀ ds m Q PX, sp_same_pairs_v3 ds m Q PX → rd_same_pairs_v3 (dEnds Q PX) (dstart ["one", "other"] ds) m := by
  rintro ds m Q PX ⟨a, b, rfl, oa, ob, lab, h⟩
  walk_at "go"
  refine ⟨a, b, rfl, oa, ob, lab, fun m1 p L kp hp e1 B nd st lL => ?_⟩
  walk_at "go"
  rw [dgOf_adr e1]
  dsimp only
  rw [tups_cf]
  dsimp only
  refine ⟨fun _ q hq e => ?_, fun l' pl pw => ?_⟩
  · obtain ⟨x, _, rfl⟩ := List.mem_map.mp hq
    cases e
  · have e0 : l' = (l'.map cfOf).map cfI := by
      rw [List.map_map]
      conv => lhs; rw [← List.map_id l']
      refine List.map_congr_left fun q hq => ?_
      obtain ⟨x, _, rfl⟩ := List.mem_map.mp (pl.mem_iff.mp hq)
      rfl
    have e2 : l'.map tupI = (l'.map cfOf).map triD := by
      rw [List.map_map]
      refine List.map_congr_left fun q hq => ?_
      obtain ⟨x, _, rfl⟩ := List.mem_map.mp (pl.mem_iff.mp hq)
      rfl
    rw [e2]
    intro o ho
    refine h _ (l'.map cfOf) o (kp_own kp (kp_none kp ho)) (kp_none kp ho) mset_same ⟨⟨L, B, nd, st, ?_, lL⟩, by rw [← e0]; exact pw⟩
    have := pl.map cfOf
    rw [List.map_map] at this
    exact this
def sp_is_triple_v3 : SpD := fun ds m P _ => ∃ (a b : List Rm) (x : D), ds = [twoD a b, x] ∧ ItmT x ∧ ∀ t : Bool, (t = true ↔ IsTri a b x) → P (.bl t) m
def rd_is_triple_v3 : DS :=
    sSeq (sIf (rOr (rNot (rTru (rCB cIsi (rCons (rV 1) (rCons (rC (.ty "tuple")) (rNil)))))) (rOr (rTst (rOp oNe (rCB cLen (rCons (rV 1) (rNil))) (rC (.int 3)))) (rNot (rTru (rCall sp_is_whole [] (rCons (rOp oIx (rV 1) (rC (.int 2))) (rNil))))))) (sRet (rC (.bl false))) (sNext))
    (sRet (rAndV (rCall sp_is_place [] (rCons (rOp oIx (rV 1) (rC (.int 0))) (rCons (rCB cLen (rCons (rFld "Doer" "rooms" (rOp oIx (rV 0) (rC (.int 0)))) (rNil))) (rNil)))) (rCall sp_is_place [] (rCons (rOp oIx (rV 1) (rC (.int 1))) (rCons (rCB cLen (rCons (rFld "Doer" "rooms" (rOp oIx (rV 0) (rC (.int 1)))) (rNil))) (rNil))))))
theorem ln_is_triple_v3 : ∀ ds m Q PX, sp_is_triple_v3 ds m Q PX → ds.length = 2 := fun ds m Q PX h => by repeat (first | (subst_vars; rfl; done) | (obtain ⟨_, h⟩ := h))
theorem pu_is_triple_v3 : ∀ ds m Q PX, sp_is_triple_v3 ds m Q PX → rd_is_triple_v3 (dEnds Q PX) (dstart ["some", "thing"] ds) m := by
  rintro ds m Q PX ⟨a, b, x, rfl, hx, h⟩
  have fal : (¬ IsTri a b x) → Q (.bl false) m := fun z => h false ⟨fun e => (by cases e), fun e => absurd e z⟩
  rcases hx with rfl | ⟨es, rfl | rfl, le, he⟩
  · walk_at "go"
    exact fal fun ⟨c, e, _⟩ => by cases e
  · walk_at "go"
    by_cases hl : es.length = 3
    · obtain ⟨x, y, z, rfl⟩ : ∃ x y z, es = [x, y, z] := by
        match es, hl with
        | [x, y, z], _ => exact ⟨x, y, z, rfl⟩
      have hx := he x (by simp)
      have hy := he y (by simp)
      have hz := he z (by simp)
      walk_at "go"
      refine ⟨_, rfl, at_thg hz, ?_⟩
      cases ez : isWhole z with
      | false =>
        walk_at "go"
        exact fal fun ⟨c, e, _⟩ => by cases e; cases ez
      | true =>
        obtain ⟨k, rfl⟩ := whole_int ez
        walk_at "go"
        refine ⟨_, _, rfl, at_thg hx, ?_⟩
        rw [List.length_map]
        cases ex : placeB a.length x with
        | false =>
          walk_at "go"
          exact fal fun ⟨c, e, hr⟩ => by
            cases e
            have : placeB a.length (.int c.1) = true := by unfold placeB; simp only [Bool.and_eq_true, decide_eq_true_eq]; exact hr.1
            rw [this] at ex; cases ex
        | true =>
          obtain ⟨i, rfl, i0, i1⟩ := place_int ex
          walk_at "go"
          refine ⟨_, _, rfl, at_thg hy, ?_⟩
          rw [List.length_map]
          cases ey : placeB b.length y with
          | false =>
            walk_at "go"
            exact fal fun ⟨c, e, hr⟩ => by
              cases e
              have : placeB b.length (.int c.2.1) = true := by unfold placeB; simp only [Bool.and_eq_true, decide_eq_true_eq]; exact hr.2
              rw [this] at ey; cases ey
          | true =>
            obtain ⟨j, rfl, j0, j1⟩ := place_int ey
            walk_at "go"
            exact h true ⟨fun _ => ⟨(i, j, k), rfl, ⟨i0, i1⟩, j0, j1⟩, fun _ => rfl⟩
    · rw [if_pos rfl, decide_eq_false (by omega)]
      walk_at "go"
      exact fal fun ⟨c, e, _⟩ => by injection e with e; rw [e] at hl; exact hl rfl
  · walk_at "go"
    exact fal fun ⟨c, e, _⟩ => by cases e
/-- a paper: a list or a tuple of all kinds of things, none, nothing -/
def PapT (n : Nat) (f : D) : Prop := (∃ xs : List D, (f = .lst xs ∨ f = .tup xs) ∧ xs.length ≤ n ∧ ∀ x ∈ xs, ItmT x) ∨ f = .non ∨ f = .dct []
def ShowD (a b : List Rm) (f : D) : Prop := ∃ cs : List Cf, f = .lst (cs.map triD) ∧ ShowT a b cs
theorem tris_of {a b : List Rm} : ∀ {xs : List D}, (∀ x ∈ xs, IsTri a b x) → ∃ cs : List Cf, xs = cs.map triD ∧ ∀ c ∈ cs, RgC a b c
  | [], _ => ⟨[], rfl, fun _ z => by cases z⟩
  | x :: xs, h => by
    obtain ⟨cs, rfl, hc⟩ := tris_of fun y hy => h y (List.mem_cons_of_mem _ hy)
    obtain ⟨c, rfl, hr⟩ := h x List.mem_cons_self
    exact ⟨c :: cs, rfl, fun d hd => by
      rcases List.mem_cons.mp hd with rfl | hd
      · exact hr
      · exact hc d hd⟩
theorem tri_inj {c d : Cf} (h : triD c = triD d) : c = d := nk_tri (by rw [h])
theorem tris_inj : ∀ {l k : List Cf}, l.map triD = k.map triD → l = k
  | [], [], _ => rfl
  | [], _ :: _, h => by cases h
  | _ :: _, [], h => by cases h
  | x :: l, y :: k, h => by
    rw [List.map_cons, List.map_cons] at h
    injection h with h1 h2
    rw [tri_inj h1, tris_inj h2]
def addK (G : List Cf) (x : Cf) : List Cf := if x ∈ G then G else G ++ [x]
theorem put_keyC (G : List Cf) (x : Cf) : putG (G.map keyC) (triD x) (.bl true) = (addK G x).map keyC := by
  unfold addK
  by_cases hm : x ∈ G
  · rw [if_pos hm]
    have hs := keyC_in hm
    unfold putG
    rw [if_pos (by rw [hs]; rfl), List.map_map]
    refine List.map_congr_left fun y _ => ?_
    show (if nk (keyC y).1 = nk (triD x) then ((keyC y).1, D.bl true) else keyC y) = keyC y
    split <;> rfl
  · rw [if_neg hm, putG_new (keyC_out hm), List.map_append]; rfl
theorem addK_mem {G : List Cf} {x y : Cf} : y ∈ addK G x ↔ y ∈ G ∨ y = x := by
  unfold addK
  split
  · rename_i h
    exact ⟨.inl, fun z => by rcases z with z | rfl; exact z; exact h⟩
  · simp
theorem addK_len (G : List Cf) (x : Cf) : (addK G x).length ≤ G.length + 1 := by
  unfold addK
  split
  · exact Nat.le_succ _
  · rw [List.length_append]; exact Nat.le_refl _
theorem foldK_mem : ∀ (l G : List Cf) (y : Cf), y ∈ l.foldl addK G ↔ y ∈ G ∨ y ∈ l
  | [], G, y => by simp
  | x :: l, G, y => by rw [List.foldl_cons, foldK_mem l, addK_mem, List.mem_cons, or_assoc]
theorem dc_dupC {Ph : Mu → Prop} {rg : DG} {qt : DT} {rk rv : DE} {δ : DSt} {P : List (D × D) → Mu → Prop} {m : Mu} (ph : Ph m) : ∀ (xs G : List Cf), G.length + xs.length < 16777216 →
    (∀ x ∈ xs, ∀ K : D → D → Mu → Prop, K (triD x) (.bl true) m → ∀ Kf : Mu → Prop, rg (triD x) δ m fun δ' m' => qt δ' m' (fun k m1 => match k with
      | true => rk δ' m1 (fun y m2 => rv δ' m2 (fun z m3 => K y z m3) noX) noX
      | false => Kf m1) noX) → P ((xs.foldl addK G).map keyC) m → rComG Ph rg qt rk rv δ P (xs.map triD) (G.map keyC) m
  | [], G, _, _, h => by rw [List.map_nil, rComG_nil]; exact ⟨ph, h⟩
  | x :: xs, G, hl, hs, h => by
    simp only [List.length_cons] at hl
    rw [List.map_cons, rComG_cons]
    refine ⟨ph, hs x List.mem_cons_self _ ?_ _⟩
    refine ⟨kt_tri x, by rw [List.length_map]; exact Nat.lt_of_lt_of_le (show G.length < 16777216 by omega) (by decide), ?_⟩
    rw [put_keyC]
    have := addK_len G x
    exact dc_dupC ph xs (addK G x) (by omega) (fun t ht => hs t (List.mem_cons_of_mem _ ht)) h
theorem val_in {X : List Cf} {c : Cf} : (valG (X.map keyC) (triD c)).isSome = decide (c ∈ X) := by
  by_cases h : c ∈ X
  · rw [keyC_in h, decide_eq_true h]; rfl
  · rw [keyC_out h, decide_eq_false h]; rfl
def sp_shows_same_v3 : SpD := fun ds m P _ => ∃ (a b : List Rm) (d f : D), ds = [rmsD a, rmsD b, d] ∧ RsOk a ∧ RsOk b ∧ a.length ≤ 4 ∧ b.length ≤ 4 ∧ PapT 31000 f ∧ (d = f ∨ ∃ o xs, d = .adr o ∧ f = .lst xs ∧ m o = some (.lst xs)) ∧ ∀ (m' : Mu) (t : Bool), Kp [] m m' → (t = true ↔ ShowD a b f) → P (.bl t) m'
def rd_shows_same_v3 : DS :=
    sSeq (sSet 3 (rLst (rCons (rMk "Doer" sp_Doer___init__ 1 0 (gI [0, 1]) (rCons (rV 0) (rNil)) (rNil)) (rCons (rMk "Doer" sp_Doer___init__ 1 0 (gI [0, 1]) (rCons (rV 1) (rNil)) (rNil)) (rNil)))))
    (sSeq (sIf (rOr (rNot (rTru (rCB cIsi (rCons (rV 2) (rCons (rC (.ty "list")) (rNil)))))) (rNot (rTru (rCB cAll (rCons (rLc (iAny (rV 2)) [9] (gN 9) (qYes) (rCall sp_is_triple_v3 [] (rCons (rV 3) (rCons (rV 9) (rNil))))) (rNil)))))) (sRet (rC (.bl false))) (sNext))
    (sSeq (sSet 4 (rCall sp_samples_of [] (rCons (rV 3) (rNil))))
    (sSeq (sSet 5 (rDcG (iAny (rV 2)) [6] (gN 6) (qYes) (rV 6) (rC (.bl true))))
    (sSeq (sIf (rOr (rTst (rOp (oInG true) (rCall sp_settled_triple [] (rCons (rV 3) (rCons (rV 4) (rCons (rTup (rCons (rC (.int 0)) (rCons (rC (.int 0)) (rCons (rC (.int 0)) (rNil))))) (rNil))))) (rV 5))) (rNot (rTru (rCB cAll (rCons (rLc (iAny (rV 2)) [6] (gN 6) (qYes) (rCall sp_is_same [] (rCons (rV 3) (rCons (rV 6) (rNil))))) (rNil)))))) (sRet (rC (.bl false))) (sNext))
    (sRet (rCB cAll (rCons (rLc2 (iAny (rV 2)) [6, 7, 8] (gN 6) (qYes) (iAny (rCall sp_rooms_behind [] (rCons (rV 3) (rCons (rV 4) (rCons (rV 6) (rNil)))))) [7, 8] (gT [7, 8]) (qYes) (rOp (oInG false) (rV 8) (rV 5))) (rNil))))))))
theorem ln_shows_same_v3 : ∀ ds m Q PX, sp_shows_same_v3 ds m Q PX → ds.length = 3 := fun ds m Q PX h => by repeat (first | (subst_vars; rfl; done) | (obtain ⟨_, h⟩ := h))
theorem pu_shows_same_v3 : ∀ ds m Q PX, sp_shows_same_v3 ds m Q PX → rd_shows_same_v3 (dEnds Q PX) (dstart ["one", "other", "paper", "some", "samples", "known", "triple", "answer", "later", "thing"] ds) m := by
  rintro ds m Q PX ⟨a, b, d0, f, rfl, oa, ob, la, lb, hf, hd0, h⟩
  have w := two_of oa ob
  have fal : ∀ {m'}, Kp [] m m' → (¬ ShowD a b f) → Q (.bl false) m' := fun kp z => h _ false kp ⟨fun e => (by cases e), fun e => absurd e z⟩
  walk_at "go"
  intro q hq
  refine ⟨q, rmsD a, rfl, mset_same, thg_of oa.th, fun e => ⟨rfl, _, mset_same, ?_⟩, fun e => absurd (oa.is.symm.trans e) (by simp)⟩
  rw [mset_mset, mdel_mset hq]
  walk_at "go"
  intro q2 hq2
  refine ⟨q2, rmsD b, rfl, mset_same, thg_of ob.th, fun e => ⟨rfl, _, mset_same, ?_⟩, fun e => absurd (ob.is.symm.trans e) (by simp)⟩
  rw [mset_mset, mdel_mset hq2]
  walk_at "go"
  have hS : (smpR a b).length ≤ 481 := samp_len8 (both_ok oa ob) (by rw [List.length_append]; omega)
  have hP : 0 < (smpR a b).length := wf_pos _
  have asc : (smpR a b).Pairwise (· < ·) := by obtain ⟨c, R, e1, _, e3⟩ := wf_cons (preR (a ++ b)); rw [show smpR a b = c :: R from e1]; exact e3
  rcases hd0 with rfl | ⟨o, xs, rfl, rfl, ho⟩
  rotate_left
  · have lx : xs.length ≤ 31000 ∧ ∀ x ∈ xs, ItmT x := by
      rcases hf with ⟨ys, e | e, ly, hy⟩ | e | e
      · cases e; exact ⟨ly, hy⟩
      · cases e
      · cases e
      · cases e
    obtain ⟨lx, hx⟩ := lx
    walk_at "go"
    rw [show tyN m (.adr o) = some "list" from by unfold tyN; dsimp only; rw [ho]]
    walk_at "go"
    rw [ho]
    dsimp only
    refine comp_b3D xs (IsTri a b) (by omega) ho (fun x hxm Q' h' => ?_) fun bs ba _ => ?_
    · walk_at "go"
      exact ⟨a, b, x, rfl, hx x hxm, h'⟩
    walk_at "dl"
    rw [boolsD_map]
    dsimp only
    cases hb : bs.all id with
    | false =>
      walk_at "go"
      refine fal (Kp.refl _ _) fun ⟨cs, e, s1, _⟩ => ?_
      injection e with e
      have : bs.all id = true := ba.mpr fun d hd => by
        rw [e] at hd
        obtain ⟨c, hc, rfl⟩ := List.mem_map.mp hd
        exact ⟨c, rfl, s1 c hc⟩
      rw [hb] at this
      cases this
    | true =>
    obtain ⟨cs, rfl, rg⟩ := tris_of (ba.mp hb)
    rw [List.length_map] at lx
    have shw : ShowD a b (.lst (cs.map triD)) ↔ ShowT a b cs := ⟨fun ⟨ds, e, s⟩ => by injection e with e; rw [tris_inj e]; exact s, fun s => ⟨cs, rfl, s⟩⟩
    walk_at "go"
    refine ⟨[a, b], rfl, fun R hR => ?_, by simp only [List.flatten_cons, List.flatten_nil, List.append_nil, List.length_append]; omega, ?_⟩
    · rcases List.mem_cons.mp hR with rfl | hR
      · exact oa
      · cases List.mem_singleton.mp hR; exact ob
    rw [show [a, b].flatten = a ++ b from by simp]
    walk_at "go"
    rw [ho]
    dsimp only
    refine dc_dupC ho cs [] (by simp; omega) (fun c hc Kk hk Kf => ?_) ?_
    · walk_at "go"
      exact hk
    intro p hp
    obtain ⟨X, hXe⟩ : ∃ X, X = cs.foldl addK [] := ⟨_, rfl⟩
    have mem : ∀ y, y ∈ X ↔ y ∈ cs := fun y => by rw [hXe, foldK_mem]; simp
    rw [← hXe]
    obtain ⟨m1, hm1⟩ : ∃ m1, m1 = mset m p (.dgt (X.map keyC)) := ⟨_, rfl⟩
    have c1 : m1 p = some (.dgt (X.map keyC)) := by rw [hm1]; exact mset_same
    have k1 : Kp [] m m1 := by rw [hm1]; exact kp_new hp
    have ho1 := k1 o _ (by simp) ho
    rw [← hm1]
    walk_at "go"
    refine ⟨a, b, smpR a b, (0, 0, 0), rfl, oa, ob, w.rg0, asc, hP, by omega, ?_⟩
    walk_at "go"
    rw [dgOf_adr c1]
    dsimp only
    refine ⟨kt_tri _, ?_⟩
    rw [if_pos rfl]
    by_cases h0 : setC a b (smpR a b) (0, 0, 0) ∉ X
    · rw [keyC_out h0]
      walk_at "go"
      exact fal k1 fun s => h0 ((mem _).mpr (shw.mp s).2.1)
    have h0 := Classical.not_not.mp h0
    rw [keyC_in h0]
    walk_at "go"
    rw [ho1]
    dsimp only
    refine comp_b3 cs triD (saB a b) (by omega) ho1 (fun c hc Q' q' => ?_) fun bs2 ba2 _ => ?_
    · walk_at "go"
      exact ⟨a, b, c, rfl, oa, ob, rg c hc, q' _ saBb_iff⟩
    walk_at "dl"
    rw [boolsD_map]
    dsimp only
    cases hb2 : bs2.all id with
    | false =>
      walk_at "go"
      refine fal k1 fun s => ?_
      rw [ba2.mpr (shw.mp s).2.2.1] at hb2
      cases hb2
    | true =>
    have sa := ba2.mp hb2
    walk_at "go"
    have eg : ∀ c : Cf, (if (rmAt a c.1).asks c.2.2 = none then [] else (smpR a b).map fun s => D.tup [.int s, triD (setC a b (smpR a b) (nxC a b c s))]) = (smpA a b c).map fun s => D.tup [.int s, triD (setC a b (smpR a b) (nxC a b c s))] := fun c => by unfold smpA; split <;> rfl
    have hf : ∀ c : Cf, (smpA a b c).length ≤ 481 := fun c => by
      unfold smpA
      split
      · exact Nat.zero_le _
      · exact hS
    have hl : (cs.flatMap fun c => (smpA a b c).map fun s => D.bl (decide (setC a b (smpR a b) (nxC a b c s) ∈ X))).length ≤ 16777216 := by
      refine Nat.le_trans (flat_le (n := 481) cs fun c _ => by rw [List.length_map]; exact hf c) ?_
      exact Nat.le_trans (Nat.mul_le_mul_right 481 lx) (by decide)
    rw [ho1]
    dsimp only
    refine comp2_ty triD (fun c => (smpA a b c).map fun s => D.bl (decide (setC a b (smpR a b) (nxC a b c s) ∈ X))) 16777216 ho1 (fun c hc acc' Cn la k => ?_) (by rw [List.length_nil, Nat.zero_add]; exact hl) ?_
    · walk_at "go"
      refine ⟨a, b, smpR a b, c, rfl, oa, ob, rg c hc, (sa c hc).1, asc, hP, by omega, ?_⟩
      rw [eg]
      walk_at "go"
      refine comp_ty (fun s : Int => D.tup [.int s, triD (setC a b (smpR a b) (nxC a b c s))]) (fun s => [D.bl (decide (setC a b (smpR a b) (nxC a b c s) ∈ X))]) 16777216 trivial (fun s hs acc2 C2 l2 k2 => ?_) ?_ ?_
      · walk_at "go"
        rw [dgOf_adr c1]
        dsimp only
        refine ⟨kt_tri _, ?_⟩
        rw [if_neg (by decide), val_in]
        exact ⟨Nat.lt_of_lt_of_le (show acc2.length < 16777216 by simp at l2; omega) (by decide), k2⟩
      · rw [List.length_map] at la
        rw [one_flat, List.length_map]; exact la
      · rw [one_flat]; exact k
    rw [List.nil_append, show (cs.flatMap fun c => (smpA a b c).map fun s => D.bl (decide (setC a b (smpR a b) (nxC a b c s) ∈ X))) = (cs.flatMap fun c => (smpA a b c).map fun s => decide (setC a b (smpR a b) (nxC a b c s) ∈ X)).map D.bl from by rw [List.map_flatMap]; simp only [List.map_map]; rfl]
    walk_at "dl"
    rw [boolsD_map]
    refine h _ _ k1 ?_
    rw [shw, List.all_eq_true]
    constructor
    · intro z
      refine ⟨rg, (mem _).mp h0, sa, fun c hc ha s hs => ?_⟩
      have := z (decide (setC a b (smpR a b) (nxC a b c s) ∈ X)) (List.mem_flatMap.mpr ⟨c, hc, List.mem_map.mpr ⟨s, by unfold smpA; rw [if_neg ha]; exact hs, rfl⟩⟩)
      exact (mem _).mp (of_decide_eq_true this)
    · intro z y hy
      obtain ⟨c, hc, hy⟩ := List.mem_flatMap.mp hy
      obtain ⟨s, hs, rfl⟩ := List.mem_map.mp hy
      unfold smpA at hs
      split at hs
      · cases hs
      · rename_i ha
        exact decide_eq_true ((mem _).mpr (z.2.2.2 c hc ha s hs))
  rcases hf with ⟨xs, rfl | rfl, lx, hx⟩ | rfl | rfl
  rotate_left
  · walk_at "go"
    exact fal (Kp.refl _ _) fun ⟨cs, e, _⟩ => by cases e
  · walk_at "go"
    exact fal (Kp.refl _ _) fun ⟨cs, e, _⟩ => by cases e
  · walk_at "go"
    exact fal (Kp.refl _ _) fun ⟨cs, e, _⟩ => by cases e
  walk_at "go"
  refine comp_b3D xs (IsTri a b) (by omega) trivial (fun x hxm Q' h' => ?_) fun bs ba _ => ?_
  · walk_at "go"
    exact ⟨a, b, x, rfl, hx x hxm, h'⟩
  walk_at "dl"
  rw [boolsD_map]
  dsimp only
  cases hb : bs.all id with
  | false =>
    walk_at "go"
    refine fal (Kp.refl _ _) fun ⟨cs, e, s1, _⟩ => ?_
    injection e with e
    have : bs.all id = true := ba.mpr fun d hd => by
      rw [e] at hd
      obtain ⟨c, hc, rfl⟩ := List.mem_map.mp hd
      exact ⟨c, rfl, s1 c hc⟩
    rw [hb] at this
    cases this
  | true =>
  obtain ⟨cs, rfl, rg⟩ := tris_of (ba.mp hb)
  rw [List.length_map] at lx
  have shw : ShowD a b (.lst (cs.map triD)) ↔ ShowT a b cs := ⟨fun ⟨ds, e, s⟩ => by injection e with e; rw [tris_inj e]; exact s, fun s => ⟨cs, rfl, s⟩⟩
  walk_at "go"
  refine ⟨[a, b], rfl, fun R hR => ?_, by simp only [List.flatten_cons, List.flatten_nil, List.append_nil, List.length_append]; omega, ?_⟩
  · rcases List.mem_cons.mp hR with rfl | hR
    · exact oa
    · cases List.mem_singleton.mp hR; exact ob
  rw [show [a, b].flatten = a ++ b from by simp]
  walk_at "go"
  refine dc_dupC trivial cs [] (by simp; omega) (fun c hc Kk hk Kf => ?_) ?_
  · walk_at "go"
    exact hk
  intro p hp
  obtain ⟨X, hXe⟩ : ∃ X, X = cs.foldl addK [] := ⟨_, rfl⟩
  have mem : ∀ y, y ∈ X ↔ y ∈ cs := fun y => by rw [hXe, foldK_mem]; simp
  rw [← hXe]
  obtain ⟨m1, hm1⟩ : ∃ m1, m1 = mset m p (.dgt (X.map keyC)) := ⟨_, rfl⟩
  have c1 : m1 p = some (.dgt (X.map keyC)) := by rw [hm1]; exact mset_same
  have k1 : Kp [] m m1 := by rw [hm1]; exact kp_new hp
  rw [← hm1]
  walk_at "go"
  refine ⟨a, b, smpR a b, (0, 0, 0), rfl, oa, ob, w.rg0, asc, hP, by omega, ?_⟩
  walk_at "go"
  rw [dgOf_adr c1]
  dsimp only
  refine ⟨kt_tri _, ?_⟩
  rw [if_pos rfl]
  by_cases h0 : setC a b (smpR a b) (0, 0, 0) ∉ X
  · rw [keyC_out h0]
    walk_at "go"
    exact fal k1 fun s => h0 ((mem _).mpr (shw.mp s).2.1)
  have h0 := Classical.not_not.mp h0
  rw [keyC_in h0]
  walk_at "go"
  refine comp_b3 cs triD (saB a b) (by omega) trivial (fun c hc Q' q' => ?_) fun bs2 ba2 _ => ?_
  · walk_at "go"
    exact ⟨a, b, c, rfl, oa, ob, rg c hc, q' _ saBb_iff⟩
  walk_at "dl"
  rw [boolsD_map]
  dsimp only
  cases hb2 : bs2.all id with
  | false =>
    walk_at "go"
    refine fal k1 fun s => ?_
    rw [ba2.mpr (shw.mp s).2.2.1] at hb2
    cases hb2
  | true =>
  have sa := ba2.mp hb2
  walk_at "go"
  have eg : ∀ c : Cf, (if (rmAt a c.1).asks c.2.2 = none then [] else (smpR a b).map fun s => D.tup [.int s, triD (setC a b (smpR a b) (nxC a b c s))]) = (smpA a b c).map fun s => D.tup [.int s, triD (setC a b (smpR a b) (nxC a b c s))] := fun c => by unfold smpA; split <;> rfl
  have hf : ∀ c : Cf, (smpA a b c).length ≤ 481 := fun c => by
    unfold smpA
    split
    · exact Nat.zero_le _
    · exact hS
  have hl : (cs.flatMap fun c => (smpA a b c).map fun s => D.bl (decide (setC a b (smpR a b) (nxC a b c s) ∈ X))).length ≤ 16777216 := by
    refine Nat.le_trans (flat_le (n := 481) cs fun c _ => by rw [List.length_map]; exact hf c) ?_
    exact Nat.le_trans (Nat.mul_le_mul_right 481 lx) (by decide)
  refine comp2_ty triD (fun c => (smpA a b c).map fun s => D.bl (decide (setC a b (smpR a b) (nxC a b c s) ∈ X))) 16777216 trivial (fun c hc acc' Cn la k => ?_) (by rw [List.length_nil, Nat.zero_add]; exact hl) ?_
  · walk_at "go"
    refine ⟨a, b, smpR a b, c, rfl, oa, ob, rg c hc, (sa c hc).1, asc, hP, by omega, ?_⟩
    rw [eg]
    walk_at "go"
    refine comp_ty (fun s : Int => D.tup [.int s, triD (setC a b (smpR a b) (nxC a b c s))]) (fun s => [D.bl (decide (setC a b (smpR a b) (nxC a b c s) ∈ X))]) 16777216 trivial (fun s hs acc2 C2 l2 k2 => ?_) ?_ ?_
    · walk_at "go"
      rw [dgOf_adr c1]
      dsimp only
      refine ⟨kt_tri _, ?_⟩
      rw [if_neg (by decide), val_in]
      exact ⟨Nat.lt_of_lt_of_le (show acc2.length < 16777216 by simp at l2; omega) (by decide), k2⟩
    · rw [List.length_map] at la
      rw [one_flat, List.length_map]; exact la
    · rw [one_flat]; exact k
  rw [List.nil_append, show (cs.flatMap fun c => (smpA a b c).map fun s => D.bl (decide (setC a b (smpR a b) (nxC a b c s) ∈ X))) = (cs.flatMap fun c => (smpA a b c).map fun s => decide (setC a b (smpR a b) (nxC a b c s) ∈ X)).map D.bl from by rw [List.map_flatMap]; simp only [List.map_map]; rfl]
  walk_at "dl"
  rw [boolsD_map]
  refine h _ _ k1 ?_
  rw [shw, List.all_eq_true]
  constructor
  · intro z
    refine ⟨rg, (mem _).mp h0, sa, fun c hc ha s hs => ?_⟩
    have := z (decide (setC a b (smpR a b) (nxC a b c s) ∈ X)) (List.mem_flatMap.mpr ⟨c, hc, List.mem_map.mpr ⟨s, by unfold smpA; rw [if_neg ha]; exact hs, rfl⟩⟩)
    exact (mem _).mp (of_decide_eq_true this)
  · intro z y hy
    obtain ⟨c, hc, hy⟩ := List.mem_flatMap.mp hy
    obtain ⟨s, hs, rfl⟩ := List.mem_map.mp hy
    unfold smpA at hs
    split at hs
    · cases hs
    · rename_i ha
      exact decide_eq_true ((mem _).mpr (z.2.2.2 c hc ha s hs))
end
section
/-! ### the law's own walk (k72) -/
/-! the walk -/
/-- all places behind a sample -/
def splC (a b : List Rm) (S : List Int) : List Cf := (List.range a.length).flatMap fun (i : Nat) => (List.range b.length).flatMap fun (j : Nat) => S.map fun s => ((i : Int), (j : Int), s)
structure Wl2 (a b : List Rm) (S : List Int) (N : List (Cf × List Int)) : Prop where
  nd : (N.map (·.1)).Nodup
  sp : ∀ e ∈ N, e.1 ∈ splC a b S
theorem Wl2.len {a b : List Rm} {S : List Int} {L : List (Cf × List Int)} (h : Wl2 a b S L) : L.length ≤ (splC a b S).length := by
  have := nodup_le h.nd fun x hx => by
    obtain ⟨e, he, rfl⟩ := List.mem_map.mp hx
    exact h.sp e he
  rwa [List.length_map] at this
theorem Wl2.snoc {a b : List Rm} {S : List Int} {L : List (Cf × List Int)} (h : Wl2 a b S L) {c : Cf} {ns : List Int} (h1 : c ∉ L.map (·.1)) (h2 : c ∈ splC a b S) : Wl2 a b S (L ++ [(c, ns)]) where
  nd := by
    rw [List.map_append]
    refine List.nodup_append.mpr ⟨h.nd, by simp, fun x hx y hy => ?_⟩
    rw [List.map_cons, List.map_nil, List.mem_singleton] at hy
    rw [hy]
    exact fun z => h1 (by rw [z] at hx; exact hx)
  sp := fun e he => by
    rcases List.mem_append.mp he with he | he
    · exact h.sp e he
    · cases List.mem_singleton.mp he
      exact h2
end
section
/-! ### papers of sameness (k73): the law's own reckoning -/
def stS (a b : List Rm) (S : List Int) (c : Cf) (p : Addr) (x5 x6 : Option D) : DSt := [some (rmsD a), some (rmsD b), some (.lst (S.map .int)), some (triD c), some (.adr p), x5, x6]
theorem hg_any (ts : List Th) : (((ts.map Th.d).filter (fun d => !isWhole d)).map id).isEmpty = !(ts.any fun t => !isWhole t.d) := by
  induction ts with
  | nil => rfl
  | cons t ts ih =>
    rw [List.map_cons, List.filter_cons, List.any_cons]
    cases e : isWhole t.d with
    | true => simpa using ih
    | false => simp
def sp__law_settled_v2 : SpD := fun ds m P _ => ∃ (a b : List Rm) (S : List Int) (c : Cf), ds = [rmsD a, rmsD b, .lst (S.map .int), triD c] ∧ RsOk a ∧ RsOk b ∧ RgC a b c ∧ 0 < S.length ∧ S.length ≤ 100000 ∧ ∀ m', Kp [] m m' → P (triD (setC a b S c)) m'
def rd__law_settled_v2 : DS :=
    sSeq (sSet 4 (rLstM (rNil)))
    (sSeq (sFor (iAny (rTup (rCons (rOp oIx (rV 0) (rOp oIx (rV 3) (rC (.int 0)))) (rCons (rOp oIx (rV 1) (rOp oIx (rV 3) (rC (.int 1)))) (rNil))))) (gN 5) (sIf (rTst (rOp oEq (rOp oIx (rV 5) (rC (.int 0))) (rC (.str "ask")))) (sSet 4 (rOp oAddM (rV 4) (rCB cLst (rCons (rOp oIx (rV 5) (rC (.int 3))) (rNil))))) (sExpr (rApp (rV 4) (rOp oIx (rV 5) (rC (.int 1)))))))
    (sSeq (sIf (rTst (rOp oEq (rLc (iAny (rV 4)) [6] (gN 6) (rTru (rCB cIsi (rCons (rV 6) (rCons (rC (.ty "tuple")) (rNil))))) (rV 6)) (rLst (rNil)))) (sRet (rOp oAdd (rSl (rV 3) rNoP (rPart (rC (.int 2)))) (rTup (rCons (rC (.int 0)) (rNil))))) (sNext))
    (sRet (rOp oAdd (rSl (rV 3) rNoP (rPart (rC (.int 2)))) (rTup (rCons (rCall sp__law_like [] (rCons (rV 2) (rCons (rOp oIx (rV 3) (rC (.int 2))) (rNil)))) (rNil)))))))
theorem ln__law_settled_v2 : ∀ ds m Q PX, sp__law_settled_v2 ds m Q PX → ds.length = 4 := fun ds m Q PX h => by repeat (first | (subst_vars; rfl; done) | (obtain ⟨_, h⟩ := h))
theorem pu__law_settled_v2 : ∀ ds m Q PX, sp__law_settled_v2 ds m Q PX → rd__law_settled_v2 (dEnds Q PX) (dstart ["_law_one_here", "_law_other", "_law_stops", "_law_triple", "_law_things", "_law_room_here", "_law_thing_here"] ds) m := by
  rintro ds m Q PX ⟨a, b, S, c, rfl, oa, ob, hr, S0, S1, h⟩
  obtain ⟨am, ea⟩ := rm_at hr.1.1 hr.1.2
  obtain ⟨bm, eb⟩ := rm_at hr.2.1 hr.2.2
  have ra := oa.ok _ am
  have rb := ob.ok _ bm
  obtain ⟨A, hA⟩ : ∃ A, A = rmAt a c.1 := ⟨_, rfl⟩
  obtain ⟨B, hB⟩ : ∃ B, B = rmAt b c.2.1 := ⟨_, rfl⟩
  rw [← hA] at ea ra
  rw [← hB] at eb rb
  have few : ∀ {n : Nat} {r : Rm}, r.Ok n → r.ths.length ≤ 2 := fun {n r} hr => by
    cases r with
    | tell t => simp [Rm.ths]
    | ask p e ts ws o => exact (hr.nm p e ts ws o rfl).2.1
  have fA := few ra
  have fB := few rb
  walk_at "go"
  intro p hp
  walk_at "go"
  rw [ea]
  walk_at "go"
  rw [eb]
  walk_at "go"
  have stp : ∀ (n : Nat) (R : Rm), R.Ok n → ∀ (T : List Th) (m' : Mu) (p : Addr) (x5 x6 : Option D) (Nx : DSt → Mu → Prop) (DD : DEnds), T.length ≤ 2 → Kp [] m m' → m p = none → m' p = some (.lst (T.map Th.d)) → (∀ q m2, Kp [] m m2 → m q = none → m2 q = some (.lst ((T ++ R.ths).map Th.d)) → Nx (stS a b S c q (some R.d) x6) m2) →
      (sIf (rTst (rOp oEq (rOp oIx (rV 5) (rC (.int 0))) (rC (.str "ask")))) (sSet 4 (rOp oAddM (rV 4) (rCB cLst (rCons (rOp oIx (rV 5) (rC (.int 3))) (rNil))))) (sExpr (rApp (rV 4) (rOp oIx (rV 5) (rC (.int 1)))))) { DD with nx := Nx } (stS a b S c p (some R.d) x6) m' := by
    intro n R hR T m' p x5 x6 Nx DD lT kp hp hm k
    have lT2 : (T.map Th.d).length = T.length := List.length_map _
    unfold stS
    cases R with
    | tell t =>
      walk_at "go"
      refine ⟨⟨_, hm⟩, ?_⟩
      walk_at "go"
      rw [hm]
      walk_at "dl"
      refine ⟨len_line (by omega), ?_⟩
      refine k p _ (kp_own kp hp) hp ?_
      rw [mset_same, List.map_append]; rfl
    | ask pp dd ts ws oo =>
      have h2 := (hR.nm pp dd ts ws oo rfl).2.1
      have l2 : (ts.map Th.d).length = ts.length := List.length_map _
      walk_at "go"
      rw [asL_adr hm]
      walk_at "go"
      intro p2 hp2
      have hp2m := kp_none kp hp2
      refine k p2 _ (kp_own kp hp2m) hp2m ?_
      rw [mset_same, List.map_append]; rfl
  refine loop_inv (fun i δ m' => ∃ p x5 x6, Kp [] m m' ∧ m p = none ∧ m' p = some (.lst ((([A, B].take i).flatMap Rm.ths).map Th.d)) ∧ δ = stS a b S c p x5 x6) (fun i d δ m' ei hh => ?_) (fun δ m' hh => ?_) ⟨p, none, none, kp_new hp, hp, mset_same, rfl⟩
  · obtain ⟨p, x5, x6, kp, hp, hm, rfl⟩ := hh
    refine ⟨trivial, fun Nx k1 => ?_⟩
    match i, ei with
    | 0, ei =>
      cases ei
      exact stp _ A ra [] m' p x5 x6 _ _ (by simp) kp hp hm fun q m2 k2 hq hm2 => k1 _ _ ⟨q, _, _, k2, hq, by rw [hm2]; simp, rfl⟩
    | 1, ei =>
      cases ei
      exact stp _ B rb A.ths m' p x5 x6 _ _ fA kp hp (by rw [hm]; simp) fun q m2 k2 hq hm2 => k1 _ _ ⟨q, _, _, k2, hq, by rw [hm2]; simp, rfl⟩
    | n + 2, ei => cases ei
  · obtain ⟨p, x5, x6, kp, hp, hm, rfl⟩ := hh
    obtain ⟨T, hT⟩ : ∃ T, T = A.ths ++ B.ths := ⟨_, rfl⟩
    have hm : m' p = some (.lst (T.map Th.d)) := by rw [hm, hT]; simp
    have lT : T.length ≤ 4 := by rw [hT, List.length_append]; omega
    have lT2 : (T.map Th.d).length = T.length := List.length_map _
    have hg : (T.any fun t => !isWhole t.d) = (hgB A || hgB B) := by rw [hT, List.any_append]; rfl
    refine ⟨trivial, ?_⟩
    unfold stS
    walk_at "go"
    rw [hm]
    dsimp only
    refine comp_fm (fun d => !isWhole d) id (by omega) hm (fun d hd Q' h' => ?_) (fun d hd _ Q' h' => h') ?_
    · obtain ⟨t, _, rfl⟩ := List.mem_map.mp hd
      cases t with
      | num n => walk_at "go"; exact h'
      | last n => walk_at "go"; exact h'
    have hth : thD 3 (.lst (((T.map Th.d).filter fun d => !isWhole d).map id)) := by
      refine ⟨?_, fun d hd => ?_⟩
      · rw [List.length_map]
        exact Nat.le_trans (List.length_filter_le _ _) (by omega)
      · rw [List.map_id] at hd
        obtain ⟨t, _, rfl⟩ := List.mem_map.mp (List.mem_filter.mp hd).1
        exact t.th
    walk_at "go"
    refine ⟨shpT hth, shpN, ?_⟩
    rw [if_neg (by simp), show deq (dat m' (.lst (((T.map Th.d).filter fun d => !isWhole d).map id))) (dat m' (.lst [])) = _ from deq_lst_nil, hg_any, hg]
    unfold setC at h
    rw [← hA, ← hB] at h
    cases e : (hgB A || hgB B) with
    | false =>
      rw [e, if_neg (by simp)] at h
      walk_at "go"
      exact ⟨show 3 ≤ sizeLine from by decide, h m' kp⟩
    | true =>
      rw [e, if_pos rfl] at h
      walk_at "go"
      refine ⟨_, S, c.2.2, rfl, .inl rfl, S0, S1, ?_⟩
      walk_at "go"
      exact ⟨show 3 ≤ sizeLine from by decide, h m' kp⟩
theorem kp_del {m m' : Mu} {p : Addr} (k : Kp [] m m') (h : m p = none) : Kp [] m (mdel m' p) := fun x u hx e => by
  have : x ≠ p := fun z => by rw [z, h] at e; cases e
  unfold mdel
  rw [if_neg this]
  exact k x u hx e
def behC (a b : List Rm) (S : List Int) (c : Cf) : List Cf := if (rmAt a c.1).asks c.2.2 = none then [] else S.map fun s => setC a b S (nxC a b c s)
theorem behC_len {a b : List Rm} {S : List Int} {c : Cf} : (behC a b S c).length ≤ S.length := by
  unfold behC
  split
  · exact Nat.zero_le _
  · rw [List.length_map]; exact Nat.le_refl _
theorem asks_tell {r : Rm} {l : Int} {q : Ask} (h : r.asks l = some q) : r.told l = none := by
  cases r with
  | tell t => cases h
  | ask p e ts ws o => rfl
def sp__law_behind_v4 : SpD := fun ds m P _ => ∃ (a b : List Rm) (S : List Int) (c : Cf), ds = [rmsD a, rmsD b, .lst (S.map .int), triD c] ∧ RsOk a ∧ RsOk b ∧ RgC a b c ∧ (rmAt a c.1).asks c.2.2 = (rmAt b c.2.1).asks c.2.2 ∧ 0 < S.length ∧ S.length ≤ 100000 ∧ ∀ m', Kp [] m m' → P (.lst ((behC a b S c).map triD)) m'
def rd__law_behind_v4 : DS :=
    sSeq (sTup [6, 7, 8] (rV 3))
    (sSeq (sIf (rOr (rTst (rOp (oIsN false) (rOp oIx (rCall sp__law_said [] (rCons (rV 0) (rCons (rTup (rCons (rV 6) (rCons (rV 8) (rNil)))) (rNil)))) (rC (.int 0))) (rC .non))) (rTst (rOp (oIsN false) (rOp oIx (rCall sp__law_said [] (rCons (rV 1) (rCons (rTup (rCons (rV 7) (rCons (rV 8) (rNil)))) (rNil)))) (rC (.int 0))) (rC .non)))) (sRet (rLst (rNil))) (sNext))
    (sSeq (sSet 4 (rLstM (rNil)))
    (sSeq (sFor (iAny (rV 2)) (gN 5) (sSeq (sSet 9 (rTup (rCons (rOp oIx (rCall sp__law_goes_v2 [] (rCons (rV 0) (rCons (rTup (rCons (rV 6) (rCons (rV 8) (rNil)))) (rCons (rV 5) (rNil))))) (rC (.int 0))) (rCons (rOp oIx (rCall sp__law_goes_v2 [] (rCons (rV 1) (rCons (rTup (rCons (rV 7) (rCons (rV 8) (rNil)))) (rCons (rV 5) (rNil))))) (rC (.int 0))) (rCons (rV 5) (rNil))))))
    (sExpr (rApp (rV 4) (rCall sp__law_settled_v2 [] (rCons (rV 0) (rCons (rV 1) (rCons (rV 2) (rCons (rV 9) (rNil))))))))))
    (sRet (rSeal (rV 4))))))
theorem ln__law_behind_v4 : ∀ ds m Q PX, sp__law_behind_v4 ds m Q PX → ds.length = 4 := fun ds m Q PX h => by repeat (first | (subst_vars; rfl; done) | (obtain ⟨_, h⟩ := h))
theorem pu__law_behind_v4 : ∀ ds m Q PX, sp__law_behind_v4 ds m Q PX → rd__law_behind_v4 (dEnds Q PX) (dstart ["_law_one_here", "_law_other", "_law_stops", "_law_triple", "_law_found", "_law_answer", "_law_room_here", "_law_place", "_law_last", "_law_later"] ds) m := by
  rintro ds m Q PX ⟨a, b, S, c, rfl, oa, ob, hr, eq, S0, S1, h⟩
  have w := two_of oa ob
  walk_at "go"
  refine ⟨a, c.1, c.2.2, rfl, oa, hr.1.1, hr.1.2, ?_⟩
  walk_at "go"
  cases ea : (rmAt a c.1).asks c.2.2 with
  | none =>
    unfold behC at h
    rw [if_pos ea] at h
    walk_at "go"
    exact h m (Kp.refl _ _)
  | some q =>
  rw [ea] at eq
  unfold behC at h
  rw [if_neg (by rw [ea]; simp)] at h
  walk_at "go"
  refine ⟨b, c.2.1, c.2.2, rfl, ob, hr.2.1, hr.2.2, ?_⟩
  rw [← eq]
  walk_at "go"
  intro p hp
  have lS : (S.map D.int).length = S.length := List.length_map _
  walk_at "go"
  refine loop_inv (fun i δ m' => ∃ x5 x9, Kp [] m m' ∧ m' p = some (.lst ((S.take i).map fun s => triD (setC a b S (nxC a b c s)))) ∧
    δ = [some (rmsD a), some (rmsD b), some (.lst (S.map .int)), some (triD c), some (.adr p), x5, some (.int c.1), some (.int c.2.1), some (.int c.2.2), x9]) (fun i d δ m' ei hh => ?_) (fun δ m' hh => ?_) ⟨none, none, kp_new hp, mset_same, rfl⟩
  · obtain ⟨x5, x9, kp, hm, rfl⟩ := hh
    rw [List.getElem?_map] at ei
    cases ex : S[i]? with
    | none => rw [ex] at ei; cases ei
    | some s =>
    rw [ex] at ei
    cases ei
    have hi := (List.getElem?_eq_some_iff.mp ex).1
    have tk : S.take (i + 1) = S.take i ++ [s] := by rw [List.take_add_one, ex]; rfl
    refine ⟨trivial, fun Nx k1 => ?_⟩
    walk_at "go"
    refine ⟨a, c.1, c.2.2, s, rfl, oa, hr.1.1, hr.1.2, asks_tell ea, ?_⟩
    walk_at "go"
    refine ⟨b, c.2.1, c.2.2, s, rfl, ob, hr.2.1, hr.2.2, asks_tell eq.symm, ?_⟩
    walk_at "go"
    refine ⟨⟨_, hm⟩, ?_⟩
    walk_at "go"
    refine ⟨a, b, S, nxC a b c s, rfl, oa, ob, w.rgn hr s, S0, S1, fun m2 kp2 => ?_⟩
    have hm2 := kp2 p _ (by simp) hm
    walk_at "go"
    rw [hm2]
    walk_at "dl"
    refine ⟨len_line (by rw [List.length_map, List.length_take]; omega), ?_⟩
    refine k1 _ _ ⟨some (.int s), _, kp_own (kp.trans kp2) hp, ?_, rfl⟩
    rw [mset_same, tk, List.map_append]; rfl
  · obtain ⟨x5, x9, kp, hm, rfl⟩ := hh
    rw [lS, List.take_length] at hm
    refine ⟨trivial, ?_⟩
    walk_at "dl"
    rw [hm]
    dsimp only
    have e : ((S.take S.length).map fun s => triD (setC a b S (nxC a b c s))) = (S.map fun s => setC a b S (nxC a b c s)).map triD := by rw [List.take_length, List.map_map]; rfl
    rw [← lS] at e
    first
      | exact h _ (kp_del kp hp)
      | (rw [List.map_map] at h; exact h _ (kp_del kp hp))
theorem tri_pur (c : Cf) : pur (triD c) = true := rfl
theorem tri_th (c : Cf) : thD 2 (triD c) := thD_ints (n := 1) (ts := [c.1, c.2.1, c.2.2]) (by simp)
theorem in_tri (m : Mu) (cs : List Cf) (c : Cf) : ((cs.map triD).any fun z => deq z (dat m (triD c))) = decide (c ∈ cs) := by
  rw [dat_pur (tri_pur c)]
  induction cs with
  | nil => rfl
  | cons d cs ih =>
    rw [List.map_cons, List.any_cons, ih]
    by_cases e : c = d
    · subst e
      rw [(deq_iff (tri_pur c) (tri_pur c)).mpr rfl]; simp
    · have : deq (triD d) (triD c) = false := by
        cases z : deq (triD d) (triD c) with
        | false => rfl
        | true => exact absurd (tri_inj ((deq_iff (tri_pur d) (tri_pur c)).mp z)).symm e
      rw [this]; simp [e]
theorem shp_tris (cs : List Cf) : shp (.lst (cs.map triD)) := shp_of (n := 20) fun d hd => by
  obtain ⟨c, _, rfl⟩ := List.mem_map.mp hd
  intro x hx
  simp only [List.mem_cons, List.not_mem_nil, or_false] at hx
  rcases hx with rfl | rfl | rfl <;> trivial
def sp__law_is_same : SpD := fun ds m P _ => ∃ (a b : List Rm) (c : Cf), ds = [rmsD a, rmsD b, triD c] ∧ RsOk a ∧ RsOk b ∧ RgC a b c ∧ P (.bl (saBb a b c)) m
def rd__law_is_same : DS :=
    sRet (rOp oEq (rCall sp__law_said [] (rCons (rV 0) (rCons (rTup (rCons (rOp oIx (rV 2) (rC (.int 0))) (rCons (rOp oIx (rV 2) (rC (.int 2))) (rNil)))) (rNil)))) (rCall sp__law_said [] (rCons (rV 1) (rCons (rTup (rCons (rOp oIx (rV 2) (rC (.int 1))) (rCons (rOp oIx (rV 2) (rC (.int 2))) (rNil)))) (rNil)))))
theorem ln__law_is_same : ∀ ds m Q PX, sp__law_is_same ds m Q PX → ds.length = 3 := fun ds m Q PX h => by repeat (first | (subst_vars; rfl; done) | (obtain ⟨_, h⟩ := h))
theorem pu__law_is_same : ∀ ds m Q PX, sp__law_is_same ds m Q PX → rd__law_is_same (dEnds Q PX) (dstart ["_law_one_here", "_law_other", "_law_triple"] ds) m := by
  rintro ds m Q PX ⟨a, b, c, rfl, oa, ob, hr, h⟩
  walk_at "go"
  refine ⟨a, c.1, c.2.2, rfl, oa, hr.1.1, hr.1.2, ?_⟩
  walk_at "go"
  refine ⟨b, c.2.1, c.2.2, rfl, ob, hr.2.1, hr.2.2, ?_⟩
  walk_at "go"
  refine ⟨shpT (said_th (oa.ok _ (rm_at hr.1.1 hr.1.2).1) _), shpT (said_th (ob.ok _ (rm_at hr.2.1 hr.2.2).1) _), ?_⟩
  rw [if_neg (by simp)]
  have := said_deq a b c m
  unfold saidT at this
  rw [this]
  exact h
def sp__law_is_triple : SpD := fun ds m P _ => ∃ (a b : List Rm) (x : D), ds = [rmsD a, rmsD b, x] ∧ ItmT x ∧ ∀ t : Bool, (t = true ↔ IsTri a b x) → P (.bl t) m
def rd__law_is_triple : DS :=
    sSeq (sIf (rOr (rNot (rTru (rCB cIsi (rCons (rV 2) (rCons (rC (.ty "tuple")) (rNil)))))) (rTst (rOp oNe (rCB cLen (rCons (rV 2) (rNil))) (rC (.int 3))))) (sRet (rC (.bl false))) (sNext))
    (sSeq (sIf (rTst (rOp oNe (rLc (iAny (rV 2)) [3] (gN 3) (rOr (rTru (rCB cIsi (rCons (rV 3) (rCons (rC (.ty "bool")) (rNil))))) (rNot (rTru (rCB cIsi (rCons (rV 3) (rCons (rC (.ty "int")) (rNil))))))) (rV 3)) (rLst (rNil)))) (sRet (rC (.bl false))) (sNext))
    (sRet (rAndV (rChain oLe oLt (rC (.int 0)) (rOp oIx (rV 2) (rC (.int 0))) (rCB cLen (rCons (rV 0) (rNil)))) (rChain oLe oLt (rC (.int 0)) (rOp oIx (rV 2) (rC (.int 1))) (rCB cLen (rCons (rV 1) (rNil)))))))
theorem ln__law_is_triple : ∀ ds m Q PX, sp__law_is_triple ds m Q PX → ds.length = 3 := fun ds m Q PX h => by repeat (first | (subst_vars; rfl; done) | (obtain ⟨_, h⟩ := h))
theorem pu__law_is_triple : ∀ ds m Q PX, sp__law_is_triple ds m Q PX → rd__law_is_triple (dEnds Q PX) (dstart ["_law_one_here", "_law_other", "_law_thing_here", "_law_number_here"] ds) m := by
  rintro ds m Q PX ⟨a, b, x, rfl, hx, h⟩
  have fal : (¬ IsTri a b x) → Q (.bl false) m := fun z => h false ⟨fun e => (by cases e), fun e => absurd e z⟩
  have lA : (a.map Rm.d).length = a.length := List.length_map _
  have lB : (b.map Rm.d).length = b.length := List.length_map _
  rcases hx with rfl | ⟨es, rfl | rfl, le, he⟩
  · walk_at "go"
    exact fal fun ⟨c, e, _⟩ => by cases e
  · walk_at "go"
    by_cases hl : es.length = 3
    · obtain ⟨x, y, z, rfl⟩ : ∃ x y z, es = [x, y, z] := by
        match es, hl with
        | [x, y, z], _ => exact ⟨x, y, z, rfl⟩
      walk_at "go"
      refine comp_fm (fun d => !isWhole d) id (by simp) trivial (fun d hd Q' h' => ?_) (fun d hd _ Q' h' => h') ?_
      · rcases he d hd with rfl | ⟨t, rfl⟩ | ⟨i, rfl, _⟩ | rfl
        · walk_at "go"; exact h'
        · walk_at "go"; exact h'
        · walk_at "go"; exact h'
        · walk_at "go"; exact h'
      have hth : thD 3 (.lst (([x, y, z].filter fun d => !isWhole d).map id)) := by
        refine ⟨?_, fun d hd => ?_⟩
        · rw [List.length_map]
          exact Nat.le_trans (List.length_filter_le _ _) (by simp)
        · rw [List.map_id] at hd
          rcases he d (List.mem_filter.mp hd).1 with rfl | ⟨t, rfl⟩ | ⟨i, rfl, _⟩ | rfl
          · exact thD_non
          · exact thD_bl
          · exact thD_int
          · exact ⟨by decide, by decide⟩
      walk_at "go"
      refine ⟨shpT hth, shpN, ?_⟩
      rw [if_pos rfl, show deq (dat m (.lst (([x, y, z].filter fun d => !isWhole d).map id))) (dat m (.lst [])) = _ from deq_lst_nil]
      cases en : (([x, y, z].filter fun d => !isWhole d).map id).isEmpty with
      | false =>
        walk_at "go"
        refine fal fun ⟨c, e, _⟩ => ?_
        cases e
        cases en
      | true =>
        rw [List.isEmpty_iff, List.map_id, List.filter_eq_nil_iff] at en
        obtain ⟨i, rfl⟩ := whole_int (d := x) (by have := en x (by simp); simpa using this)
        obtain ⟨j, rfl⟩ := whole_int (d := y) (by have := en y (by simp); simpa using this)
        obtain ⟨k, rfl⟩ := whole_int (d := z) (by have := en z (by simp); simpa using this)
        have tri : IsTri a b (.tup [.int i, .int j, .int k]) ↔ (0 ≤ i ∧ i < a.length) ∧ 0 ≤ j ∧ j < b.length := ⟨fun ⟨c, e, hr⟩ => by cases e; exact hr, fun hr => ⟨(i, j, k), rfl, hr⟩⟩
        by_cases i0 : 0 ≤ i
        · walk_at "go"
          rw [decide_eq_true i0]
          walk_at "go"
          rw [lA]
          by_cases i1 : i < a.length
          · rw [decide_eq_true i1]
            walk_at "go"
            by_cases j0 : 0 ≤ j
            · rw [decide_eq_true j0]
              walk_at "go"
              rw [lB]
              by_cases j1 : j < b.length
              · rw [decide_eq_true j1]
                exact h true ⟨fun _ => tri.mpr ⟨⟨i0, i1⟩, j0, j1⟩, fun _ => rfl⟩
              · rw [decide_eq_false j1]
                exact fal fun z => j1 (tri.mp z).2.2
            · rw [decide_eq_false j0]
              walk_at "go"
              exact fal fun z => j0 (tri.mp z).2.1
          · rw [decide_eq_false i1]
            walk_at "go"
            exact fal fun z => i1 (tri.mp z).1.2
        · walk_at "go"
          rw [decide_eq_false i0]
          walk_at "go"
          exact fal fun z => i0 (tri.mp z).1.1
    · rw [if_pos rfl, decide_eq_false (by omega)]
      walk_at "go"
      exact fal fun ⟨c, e, _⟩ => by injection e with e; rw [e] at hl; exact hl rfl
  · walk_at "go"
    exact fal fun ⟨c, e, _⟩ => by cases e
end
section
/-! ### papers of sameness (k73): all triples, the law's own walk -/
theorem tups_ln : ∀ L : List (Cf × List Int), tupsD (lnOf L) = some (L.map fun e => cfI e.1)
  | [] => rfl
  | e :: L => by
    unfold lnOf
    rw [List.map_cons, List.map_cons]
    show tupsD (.tup [.int e.1.1, .int e.1.2.1, .int e.1.2.2] :: lnOf L) = _
    unfold tupsD
    rw [tups_ln L]
    rfl
theorem ln_map (L : List (Cf × List Int)) : lnOf L = (L.map (·.1)).map triD := by unfold lnOf; rw [List.map_map]; rfl
def sp__law_all_v2 : SpD := fun ds m P _ => ∃ (a b : List Rm), ds = [rmsD a, rmsD b, .lst ((smpR a b).map .int)] ∧ RsOk a ∧ RsOk b ∧ a.length ≤ 4 ∧ b.length ≤ 4 ∧
  ∀ m' ls, Kp [] m m' → ClS a b ls → P (.lst (ls.map triD)) m'
def rd__law_all_v2 : DS :=
    sSeq (sSet 3 (rLstM (rCons (rCall sp__law_settled_v2 [] (rCons (rV 0) (rCons (rV 1) (rCons (rV 2) (rCons (rTup (rCons (rC (.int 0)) (rCons (rC (.int 0)) (rCons (rC (.int 0)) (rNil))))) (rNil)))))) (rNil))))
    (sSeq (sSet 4 (rC (.int 0)))
    (sSeq (sWhile (rTst (rOp oLt (rV 4) (rCB cLen (rCons (rV 3) (rNil))))) (sSeq (sIf (rTru (rCall sp__law_is_same [] (rCons (rV 0) (rCons (rV 1) (rCons (rOp oIx (rV 3) (rV 4)) (rNil)))))) (sFor (iAny (rCall sp__law_unlike [] (rCons (rCall sp__law_behind_v4 [] (rCons (rV 0) (rCons (rV 1) (rCons (rV 2) (rCons (rOp oIx (rV 3) (rV 4)) (rNil)))))) (rNil)))) (gN 5) (sIf (rTst (rOp (oInN true) (rV 5) (rV 3))) (sExpr (rApp (rV 3) (rV 5))) (sNext))) (sNext))
    (sSet 4 (rOp oAdd (rV 4) (rC (.int 1))))))
    (sRet (rCB cSrtL (rCons (rV 3) (rNil))))))
theorem ln__law_all_v2 : ∀ ds m Q PX, sp__law_all_v2 ds m Q PX → ds.length = 3 := fun ds m Q PX h => by repeat (first | (subst_vars; rfl; done) | (obtain ⟨_, h⟩ := h))
def T__law_all_v2_3 : DS := sSeq (sWhile (rTst (rOp oLt (rV 4) (rCB cLen (rCons (rV 3) (rNil))))) (sSeq (sIf (rTru (rCall sp__law_is_same [] (rCons (rV 0) (rCons (rV 1) (rCons (rOp oIx (rV 3) (rV 4)) (rNil)))))) (sFor (iAny (rCall sp__law_unlike [] (rCons (rCall sp__law_behind_v4 [] (rCons (rV 0) (rCons (rV 1) (rCons (rV 2) (rCons (rOp oIx (rV 3) (rV 4)) (rNil)))))) (rNil)))) (gN 5) (sIf (rTst (rOp (oInN true) (rV 5) (rV 3))) (sExpr (rApp (rV 3) (rV 5))) (sNext))) (sNext))
    (sSet 4 (rOp oAdd (rV 4) (rC (.int 1))))))
    (sRet (rCB cSrtL (rCons (rV 3) (rNil))))
theorem pu__law_all_v2 : ∀ ds m Q PX, sp__law_all_v2 ds m Q PX → rd__law_all_v2 (dEnds Q PX) (dstart ["_law_one_here", "_law_other", "_law_stops", "_law_found", "_law_at", "_law_triple"] ds) m := by
  rintro ds m Q PX ⟨a, b, rfl, oa, ob, la, lb, h⟩
  have w := two_of oa ob
  have hS : (smpR a b).length ≤ 481 := samp_len8 (both_ok oa ob) (by rw [List.length_append]; omega)
  have hP : 0 < (smpR a b).length := wf_pos _
  have hB : (spaC a b (smpR a b)).length ≤ 7712 := by
    rw [spa_len]
    refine Nat.le_trans (Nat.mul_le_mul la (Nat.mul_le_mul lb (Nat.succ_le_succ hS))) (by decide)
  walk_at "go"
  refine ⟨a, b, smpR a b, (0, 0, 0), rfl, oa, ob, w.rg0, hP, by omega, fun m1 kp1 => ?_⟩
  walk_at "go"
  intro p hp1
  have hp := kp_none kp1 hp1
  obtain ⟨c0, hc0⟩ : ∃ c0, setC a b (smpR a b) (0, 0, 0) = c0 := ⟨_, rfl⟩
  have sim0 : SmC a b (preR (a ++ b)) c0 (0, 0, 0) := hc0 ▸ set_sim a b (preR (a ++ b)) (0, 0, 0)
  have spa0 : c0 ∈ spaC a b (smpR a b) := hc0 ▸ spa_mem hP w.rg0
  rw [hc0]
  show T__law_all_v2_3 (dEnds Q PX) [some (rmsD a), some (rmsD b), some (.lst ((smpR a b).map .int)), some (.adr p), some (.int (0 : Nat)), none] (mset m1 p (.lst (lnOf [(c0, [])])))
  refine while_inv (fun k δ m' => ∃ L n t5, n ≤ L.length ∧ k + n = (spaC a b (smpR a b)).length + 1 ∧ Kp [] m m' ∧ m' p = some (.lst (lnOf L)) ∧
    δ = [some (rmsD a), some (rmsD b), some (.lst ((smpR a b).map .int)), some (.adr p), some (.int (n : Nat)), t5] ∧
    Bfs a b (preR (a ++ b)) (smpR a b) L n ∧ Wkq a b (smpR a b) L) ((spaC a b (smpR a b)).length + 1) ⟨[(c0, [])], 0, none, Nat.zero_le _, rfl, kp_own kp1 hp, mset_same, rfl, bfs_start sim0, ⟨⟨by simp, fun e he => by cases List.mem_singleton.mp he; exact spa0⟩, fun e he => by cases List.mem_singleton.mp he; exact hc0 ▸ set_set a b (preR (a ++ b)) (0, 0, 0)⟩⟩ (fun k δ m' hh => ?_)
  obtain ⟨L, n, t5, hn, hk, kp, hm, rfl, B, W⟩ := hh
  have lL : (lnOf L).length = L.length := List.length_map _
  have hW := W.len
  walk_at "go"
  rw [asL_adr hm]
  walk_at "go"
  by_cases hlt : n < L.length
  · rw [decide_eq_true (by omega)]
    walk_at "go"
    obtain ⟨e, he⟩ : ∃ e, L[n]? = some e := ⟨_, List.getElem?_eq_getElem hlt⟩
    have hmm := List.mem_of_getElem? he
    have hr := B.rg w hmm
    have ha0 : atI (lnOf L) (n : Nat) = some (triD e.1) := by
      obtain ⟨x, x1, x2⟩ := atI_some (xs := lnOf L) (i := (n : Nat)) (by omega) (by rw [lL]; omega)
      rw [x1]
      unfold lnOf at x2
      rw [List.getElem?_map, Int.toNat_natCast, he] at x2
      exact x2.symm
    rw [asL_adr hm]
    dsimp only
    rw [ha0]
    walk_at "go"
    refine ⟨a, b, e.1, rfl, oa, ob, hr, ?_⟩
    cases es : saBb a b e.1 with
    | false =>
      walk_at "go"
      have B2 := B.step (N := []) w he (fun x hx => by cases hx) (fun z => absurd z (saBb_no.mp es))
      rw [List.append_nil] at B2
      exact ⟨k - 1, by omega, L, n + 1, _, hlt, by omega, kp, hm, rfl, B2, W⟩
    | true =>
      have es1 := saBb_iff.mp es
      walk_at "go"
      rw [asL_adr hm]
      dsimp only
      rw [ha0]
      walk_at "go"
      refine ⟨a, b, smpR a b, e.1, rfl, oa, ob, hr, es1.1, hP, by omega, fun m2 kp2 => ?_⟩
      have hm2 := kp2 p _ (by simp) hm
      have kp02 := kp.trans kp2
      have hb := behC_len (a := a) (b := b) (S := smpR a b) (c := e.1)
      obtain ⟨f1, f2, f3⟩ := unl_facts ((behC a b (smpR a b) e.1).map triD) (fun d hd => by obtain ⟨c, _, rfl⟩ := List.mem_map.mp hd; exact tri_pur c)
      obtain ⟨U, hU⟩ : ∃ U, U = unl ((behC a b (smpR a b) e.1).map triD) := ⟨_, rfl⟩
      rw [← hU] at f1 f2 f3
      walk_at "go"
      refine ⟨_, rfl, by rw [List.length_map]; omega, fun d hd => ?_, ?_⟩
      · obtain ⟨c, _, rfl⟩ := List.mem_map.mp hd
        exact ⟨tri_pur c, thD_fit _ _ (thD_ints (n := 19) (ts := [c.1, c.2.1, c.2.2]) (by simp))⟩
      rw [← hU]
      walk_at "go"
      refine loop_inv (fun i δ m' => ∃ N t5, Kp [] m m' ∧ m' p = some (.lst (lnOf (L ++ N))) ∧
        δ = [some (rmsD a), some (rmsD b), some (.lst ((smpR a b).map .int)), some (.adr p), some (.int (n : Nat)), t5] ∧
        Wkq a b (smpR a b) (L ++ N) ∧ (∀ x ∈ N, saB a b e.1 ∧ (rmAt a e.1.1).asks e.1.2.2 ≠ none ∧ ∃ s, x.2 = e.2 ++ [s] ∧ SmC a b (preR (a ++ b)) x.1 (nxC a b e.1 s)) ∧
        ∀ c, triD c ∈ U.take i → c ∈ (L ++ N).map (·.1)) (fun i d δ m' ei hh => ?_) (fun δ m' hh => ?_) ⟨[], t5, kp02, by rw [List.append_nil]; exact hm2, rfl, by rw [List.append_nil]; exact W, (fun x hx => by cases hx), (fun s hs => by cases hs)⟩
      · obtain ⟨N, u5, kp3, hm3, rfl, W2, hN, hC⟩ := hh
        have hd := List.mem_of_getElem? ei
        have hi := (List.getElem?_eq_some_iff.mp ei).1
        have tk : U.take (i + 1) = U.take i ++ [d] := by rw [List.take_add_one, ei]; rfl
        obtain ⟨c, hcb, rfl⟩ := List.mem_map.mp ((f1 d).mp hd)
        have hb2 := hcb
        unfold behC at hb2
        split at hb2
        · cases hb2
        rename_i hq0
        obtain ⟨s, hs, hc⟩ := List.mem_map.mp hb2
        have simc : SmC a b (preR (a ++ b)) c (nxC a b e.1 s) := hc ▸ set_sim a b (preR (a ++ b)) (nxC a b e.1 s)
        have spac : c ∈ spaC a b (smpR a b) := hc ▸ spa_mem hP (w.rgn hr s)
        have stc : setC a b (smpR a b) c = c := hc ▸ set_set a b (preR (a ++ b)) (nxC a b e.1 s)
        have hLN := W2.len
        refine ⟨trivial, fun Nx k1 => ?_⟩
        walk_at "go"
        rw [asL_adr hm3]
        dsimp only
        refine ⟨.inr ⟨shpT (tri_th c), by rw [ln_map]; exact shp_tris _⟩, ?_⟩
        rw [if_pos rfl, ln_map, in_tri]
        by_cases hin : c ∈ (L ++ N).map (·.1)
        · rw [decide_eq_true hin]
          walk_at "go"
          refine k1 _ _ ⟨N, _, kp3, hm3, rfl, W2, hN, fun r hr => ?_⟩
          rw [tk] at hr
          rcases List.mem_append.mp hr with z | z
          · exact hC r z
          · rw [tri_inj (List.mem_singleton.mp z)]; exact hin
        · rw [decide_eq_false hin]
          walk_at "go"
          refine ⟨⟨_, hm3⟩, ?_⟩
          walk_at "go"
          rw [hm3]
          walk_at "dl"
          refine ⟨len_line (by unfold lnOf; rw [List.length_map]; omega), ?_⟩
          refine k1 _ _ ⟨N ++ [(c, e.2 ++ [s])], _, kp_own kp3 hp, ?_, rfl, by rw [← List.append_assoc]; exact W2.snoc hin spac stc, fun x hx => ?_, fun r hr => ?_⟩
          · rw [mset_same, ← List.append_assoc]
            unfold lnOf
            rw [List.map_append (l₁ := L ++ N)]
            rfl
          · rcases List.mem_append.mp hx with z | z
            · exact hN x z
            · rw [List.mem_singleton.mp z]
              exact ⟨es1, hq0, s, rfl, simc⟩
          · rw [← List.append_assoc, List.map_append]
            rw [tk] at hr
            rcases List.mem_append.mp hr with z | z
            · exact List.mem_append_left _ (hC r z)
            · rw [tri_inj (List.mem_singleton.mp z)]
              exact List.mem_append_right _ (List.mem_singleton.mpr rfl)
      · obtain ⟨N, u5, kp3, hm3, rfl, W2, hN, hC⟩ := hh
        rw [List.take_length] at hC
        have B2 := B.step w he hN fun _ z s hs => by
          have : setC a b (smpR a b) (nxC a b e.1 s) ∈ behC a b (smpR a b) e.1 := by
            unfold behC
            rw [if_neg z]
            exact List.mem_map.mpr ⟨s, hs, rfl⟩
          obtain ⟨x, hx, ex⟩ := List.mem_map.mp (hC _ ((f1 _).mpr (List.mem_map_of_mem this)))
          exact ⟨x, hx, ex ▸ set_sim a b (preR (a ++ b)) (nxC a b e.1 s)⟩
        refine ⟨trivial, ?_⟩
        walk_at "go"
        exact ⟨k - 1, by omega, L ++ N, n + 1, _, by rw [List.length_append]; omega, by omega, kp3, hm3, rfl, B2, W2⟩
  · rw [decide_eq_false (by omega)]
    walk_at "go"
    have en : n = L.length := by omega
    rw [asL_adr hm]
    dsimp only
    rw [tups_ln]
    dsimp only
    refine ⟨fun q hq e => ?_, fun l' pl pw => ?_⟩
    · obtain ⟨x, _, rfl⟩ := List.mem_map.mp hq
      cases e
    · have e0 : l' = (l'.map cfOf).map cfI := by
        rw [List.map_map]
        conv => lhs; rw [← List.map_id l']
        refine List.map_congr_left fun q hq => ?_
        obtain ⟨x, _, rfl⟩ := List.mem_map.mp (pl.mem_iff.mp hq)
        rfl
      have e2 : l'.map tupI = (l'.map cfOf).map triD := by
        rw [List.map_map]
        refine List.map_congr_left fun q hq => ?_
        obtain ⟨x, _, rfl⟩ := List.mem_map.mp (pl.mem_iff.mp hq)
        rfl
      rw [e2]
      refine h m' _ kp ⟨⟨L, by unfold BfP; rw [← en]; exact B, W.nd, W.st, ?_, by omega⟩, by rw [← e0]; exact pw⟩
      have := pl.map cfOf
      rw [List.map_map] at this
      exact this
end
section
/-! ### papers of sameness (k73): what a paper must hold, reckoned by the law -/
theorem itm_fit {x : D} (h : ItmT x) : fitD 5 x := by
  have at_fit : ∀ d, AtT d → fitD 4 d := fun d hd => by
    rcases hd with rfl | ⟨b, rfl⟩ | ⟨i, rfl, _⟩ | rfl
    · trivial
    · trivial
    · trivial
    · exact (by decide : ∀ c ∈ (Str.ofString "1").cps.toList, c < 1114112)
  rcases h with rfl | ⟨es, rfl | rfl, _, he⟩
  · trivial
  · exact fun d hd => at_fit d (he d hd)
  · exact fun d hd => at_fit d (he d hd)
theorem shp_itms {xs : List D} (h : ∀ x ∈ xs, ItmT x) : shp (.lst xs) := shp_of (n := 6) fun d hd => itm_fit (h d hd)
theorem beh_all {a b : List Rm} {S : List Int} {c : Cf} {cs : List Cf} : (∀ d ∈ behC a b S c, d ∈ cs) ↔ ((rmAt a c.1).asks c.2.2 ≠ none → ∀ s ∈ S, setC a b S (nxC a b c s) ∈ cs) := by
  unfold behC
  split
  · rename_i z
    exact ⟨fun _ k => absurd z k, fun _ d hd => by cases hd⟩
  · rename_i z
    exact ⟨fun h _ s hs => h _ (List.mem_map_of_mem hs), fun h d hd => by
      obtain ⟨s, hs, rfl⟩ := List.mem_map.mp hd
      exact h z s hs⟩
def sp__law_due_v7 : SpD := fun ds m P _ => ∃ (a b : List Rm) (f : D), ds = [rmsD a, rmsD b, .lst ((smpR a b).map .int), f] ∧ RsOk a ∧ RsOk b ∧ a.length ≤ 4 ∧ b.length ≤ 4 ∧ PapT 31000 f ∧ ∀ (m' : Mu) (t : Bool), Kp [] m m' → (t = true ↔ ShowD a b f) → P (.bl t) m'
def rd__law_due_v7 : DS :=
    sSeq (sIf (rNot (rTru (rCB cIsi (rCons (rV 3) (rCons (rC (.ty "list")) (rNil)))))) (sRet (rC (.bl false))) (sNext))
    (sSeq (sIf (rTst (rOp oNe (rLc (iAny (rV 3)) [6] (gN 6) (rNot (rTru (rCall sp__law_is_triple [] (rCons (rV 0) (rCons (rV 1) (rCons (rV 6) (rNil))))))) (rV 6)) (rLst (rNil)))) (sRet (rC (.bl false))) (sNext))
    (sSeq (sIf (rTst (rOp (oInN true) (rCall sp__law_settled_v2 [] (rCons (rV 0) (rCons (rV 1) (rCons (rV 2) (rCons (rTup (rCons (rC (.int 0)) (rCons (rC (.int 0)) (rCons (rC (.int 0)) (rNil))))) (rNil)))))) (rV 3))) (sRet (rC (.bl false))) (sNext))
    (sSeq (sFor (iAny (rV 3)) (gN 4) (sSeq (sIf (rNot (rTru (rCall sp__law_is_same [] (rCons (rV 0) (rCons (rV 1) (rCons (rV 4) (rNil))))))) (sRet (rC (.bl false))) (sNext))
    (sSeq (sSet 5 (rCall sp__law_behind_v4 [] (rCons (rV 0) (rCons (rV 1) (rCons (rV 2) (rCons (rV 4) (rNil)))))))
    (sIf (rTst (rOp oNe (rLc (iAny (rV 5)) [7] (gN 7) (rTst (rOp (oInN true) (rV 7) (rV 3))) (rV 7)) (rLst (rNil)))) (sRet (rC (.bl false))) (sNext)))))
    (sRet (rC (.bl true))))))
theorem ln__law_due_v7 : ∀ ds m Q PX, sp__law_due_v7 ds m Q PX → ds.length = 4 := fun ds m Q PX h => by repeat (first | (subst_vars; rfl; done) | (obtain ⟨_, h⟩ := h))
theorem pu__law_due_v7 : ∀ ds m Q PX, sp__law_due_v7 ds m Q PX → rd__law_due_v7 (dEnds Q PX) (dstart ["_law_one_here", "_law_other", "_law_stops", "_law_paper", "_law_triple", "_law_behind_it", "_law_thing_here", "_law_later"] ds) m := by
  rintro ds m Q PX ⟨a, b, f, rfl, oa, ob, la, lb, hf, h⟩
  have w := two_of oa ob
  have hS : (smpR a b).length ≤ 481 := samp_len8 (both_ok oa ob) (by rw [List.length_append]; omega)
  have hP : 0 < (smpR a b).length := wf_pos _
  have fal : ∀ {m'}, Kp [] m m' → (¬ ShowD a b f) → Q (.bl false) m' := fun kp z => h _ false kp ⟨fun e => (by cases e), fun e => absurd e z⟩
  rcases hf with ⟨xs, rfl | rfl, lx, hx⟩ | rfl | rfl
  rotate_left
  · walk_at "go"
    exact fal (Kp.refl _ _) fun ⟨cs, e, _⟩ => by cases e
  · walk_at "go"
    exact fal (Kp.refl _ _) fun ⟨cs, e, _⟩ => by cases e
  · walk_at "go"
    exact fal (Kp.refl _ _) fun ⟨cs, e, _⟩ => by cases e
  classical
  walk_at "go"
  refine comp_fm (fun d => !decide (IsTri a b d)) id (by omega) trivial (fun d hd Q' h' => ?_) (fun d hd _ Q' h' => h') ?_
  · walk_at "go"
    refine ⟨a, b, d, rfl, hx d hd, fun t ht => ?_⟩
    have et : t = decide (IsTri a b d) := by
      cases t with
      | true => exact (decide_eq_true (ht.mp rfl)).symm
      | false => exact (decide_eq_false fun z => by cases ht.mpr z).symm
    rw [et]
    walk_at "dl"
    exact h'
  obtain ⟨F, hF⟩ : ∃ F, F = (xs.filter fun d => !decide (IsTri a b d)).map id := ⟨_, rfl⟩
  have mF : ∀ d, d ∈ F ↔ d ∈ xs ∧ ¬ IsTri a b d := fun d => by rw [hF, List.map_id, List.mem_filter]; simp
  rw [← hF]
  walk_at "go"
  refine ⟨shp_itms fun d hd => hx d ((mF d).mp hd).1, shpN, ?_⟩
  rw [if_pos rfl, show deq (dat m (.lst F)) (dat m (.lst [])) = F.isEmpty from deq_lst_nil]
  cases en : F.isEmpty with
  | false =>
    walk_at "go"
    refine fal (Kp.refl _ _) fun ⟨cs, e, s1, _⟩ => ?_
    injection e with e
    cases F with
    | nil => cases en
    | cons d F =>
      obtain ⟨z1, z2⟩ := (mF d).mp List.mem_cons_self
      rw [e] at z1
      obtain ⟨c, hc, rfl⟩ := List.mem_map.mp z1
      exact z2 ⟨c, rfl, s1 c hc⟩
  | true =>
  rw [List.isEmpty_iff] at en
  obtain ⟨cs, rfl, rg⟩ := tris_of (a := a) (b := b) (xs := xs) fun x hxm => Classical.byContradiction fun z => by
    have := (mF x).mpr ⟨hxm, z⟩
    rw [en] at this; cases this
  rw [List.length_map] at lx
  have shw : ShowD a b (.lst (cs.map triD)) ↔ ShowT a b cs := ⟨fun ⟨ds, e, s⟩ => by injection e with e; rw [tris_inj e]; exact s, fun s => ⟨cs, rfl, s⟩⟩
  walk_at "go"
  refine ⟨a, b, smpR a b, (0, 0, 0), rfl, oa, ob, w.rg0, hP, by omega, fun m1 kp1 => ?_⟩
  walk_at "go"
  refine ⟨.inr ⟨shpT (tri_th _), shp_tris _⟩, ?_⟩
  rw [if_pos rfl, in_tri]
  by_cases h0 : setC a b (smpR a b) (0, 0, 0) ∉ cs
  · rw [decide_eq_false h0]
    walk_at "go"
    exact fal kp1 fun s => h0 (shw.mp s).2.1
  have h0 := Classical.not_not.mp h0
  rw [decide_eq_true h0]
  walk_at "go"
  refine loop_inv (fun i δ m' => ∃ x4 x5 x6 x7, Kp [] m m' ∧ (∀ c ∈ cs.take i, saB a b c ∧ ∀ d ∈ behC a b (smpR a b) c, d ∈ cs) ∧
    δ = [some (rmsD a), some (rmsD b), some (.lst ((smpR a b).map .int)), some (.lst (cs.map triD)), x4, x5, x6, x7]) (fun i d δ m' ei hh => ?_) (fun δ m' hh => ?_) ⟨none, none, none, none, kp1, (fun c hc => by cases hc), rfl⟩
  · obtain ⟨x4, x5, x6, x7, kp, hC, rfl⟩ := hh
    rw [List.getElem?_map] at ei
    cases ex : cs[i]? with
    | none => rw [ex] at ei; cases ei
    | some c =>
    rw [ex] at ei
    cases ei
    have hcm : c ∈ cs := List.mem_of_getElem? ex
    have tk : cs.take (i + 1) = cs.take i ++ [c] := by rw [List.take_add_one, ex]; rfl
    refine ⟨trivial, fun Nx k1 => ?_⟩
    walk_at "go"
    refine ⟨a, b, c, rfl, oa, ob, rg c hcm, ?_⟩
    cases es : saBb a b c with
    | false =>
      walk_at "go"
      exact fal kp fun s => saBb_no.mp es ((shw.mp s).2.2.1 c hcm)
    | true =>
    have es1 := saBb_iff.mp es
    walk_at "go"
    refine ⟨a, b, smpR a b, c, rfl, oa, ob, rg c hcm, es1.1, hP, by omega, fun m2 kp2 => ?_⟩
    have hb := behC_len (a := a) (b := b) (S := smpR a b) (c := c)
    obtain ⟨U, hU⟩ : ∃ U, U = behC a b (smpR a b) c := ⟨_, rfl⟩
    rw [← hU] at hb ⊢
    walk_at "go"
    refine comp_fm (fun d => !((cs.map triD).any fun z => deq z (dat m2 d))) id (by rw [List.length_map]; omega) trivial (fun d hd Q' h' => ?_) (fun d hd _ Q' h' => h') ?_
    · obtain ⟨u, _, rfl⟩ := List.mem_map.mp hd
      walk_at "go"
      refine ⟨.inr ⟨shpT (tri_th _), shp_tris _⟩, ?_⟩
      rw [if_pos rfl]
      exact h'
    obtain ⟨G, hG⟩ : ∃ G, G = ((U.map triD).filter fun d => !((cs.map triD).any fun z => deq z (dat m2 d))).map id := ⟨_, rfl⟩
    have mG : ∀ d, d ∈ G ↔ ∃ u ∈ U, d = triD u ∧ u ∉ cs := fun d => by
      rw [hG, List.map_id, List.mem_filter]
      constructor
      · rintro ⟨z1, z2⟩
        obtain ⟨u, hu, rfl⟩ := List.mem_map.mp z1
        rw [in_tri] at z2
        exact ⟨u, hu, rfl, by simpa using z2⟩
      · rintro ⟨u, hu, rfl, z⟩
        refine ⟨List.mem_map_of_mem hu, ?_⟩
        rw [in_tri]; simpa using z
    rw [← hG]
    walk_at "go"
    refine ⟨shp_of (n := 6) fun d hd => ?_, shpN, ?_⟩
    · obtain ⟨u, _, rfl, _⟩ := (mG d).mp hd
      exact thD_fit _ _ (thD_ints (n := 4) (ts := [u.1, u.2.1, u.2.2]) (by simp))
    rw [if_pos rfl, show deq (dat m2 (.lst G)) (dat m2 (.lst [])) = G.isEmpty from deq_lst_nil]
    cases en2 : G.isEmpty with
    | false =>
      walk_at "go"
      refine fal (kp.trans kp2) fun s => ?_
      cases G with
      | nil => cases en2
      | cons d G =>
        obtain ⟨u, hu, _, z⟩ := (mG d).mp List.mem_cons_self
        rw [hU] at hu
        exact z (beh_all.mpr ((shw.mp s).2.2.2 c hcm) u hu)
    | true =>
      rw [List.isEmpty_iff] at en2
      walk_at "go"
      refine k1 _ _ ⟨_, _, _, _, kp.trans kp2, fun x hxm => ?_, rfl⟩
      rw [tk] at hxm
      rcases List.mem_append.mp hxm with z | z
      · exact hC x z
      · rw [List.mem_singleton.mp z]
        refine ⟨es1, fun d hd => Classical.byContradiction fun z => ?_⟩
        have := (mG (triD d)).mpr ⟨d, by rw [hU]; exact hd, rfl, z⟩
        rw [en2] at this; cases this
  · obtain ⟨x4, x5, x6, x7, kp, hC, rfl⟩ := hh
    rw [List.length_map, List.take_length] at hC
    refine ⟨trivial, ?_⟩
    walk_at "go"
    exact h _ true kp ⟨fun _ => shw.mpr ⟨rg, h0, fun c hc => (hC c hc).1, fun c hc => beh_all.mp (hC c hc).2⟩, fun _ => rfl⟩
end
section
/-! ### papers of sameness (k73): a paper with one thing otherwise -/
theorem pap_app {n : Nat} {xs ys : List D} (hx : ∀ x ∈ xs, ItmT x) (hy : ∀ y ∈ ys, ItmT y) (l : xs.length + ys.length ≤ n) : PapT n (.lst (xs ++ ys)) := .inl ⟨_, .inl rfl, by rw [List.length_append]; exact l, fun x h => by
  rcases List.mem_append.mp h with z | z
  · exact hx x z
  · exact hy x z⟩
theorem itm_cutT {xs : List D} (hx : ∀ x ∈ xs, ItmT x) {a b : Option Int} : ∀ x ∈ cutD xs a b, ItmT x := fun x h => hx x (cut_mem h)
theorem itm_catT {xs ys : List D} (hx : ∀ x ∈ xs, ItmT x) (hy : ∀ x ∈ ys, ItmT x) : ∀ x ∈ xs ++ ys, ItmT x := fun x h => by
  rcases List.mem_append.mp h with z | z
  · exact hx x z
  · exact hy x z
theorem itm_oneT {y : D} (hy : ItmT y) : ∀ x ∈ [y], ItmT x := fun x h => by rw [List.mem_singleton.mp h]; exact hy
theorem itm_tup {es : List D} (l : es.length ≤ 4) (h : ∀ d ∈ es, AtT d) : ItmT (.tup es) := .inr ⟨es, .inl rfl, l, h⟩
theorem at_tri {x y z : D} (hx : AtT x) (hy : AtT y) (hz : AtT z) : ∀ d ∈ [x, y, z], AtT d := fun d hd => by
  simp only [List.mem_cons, List.not_mem_nil, or_false] at hd
  rcases hd with rfl | rfl | rfl
  · exact hx
  · exact hy
  · exact hz
theorem at_intT {i : Int} (h : i.natAbs < 10 ^ 100) : AtT (.int i) := .inr (.inr (.inl ⟨i, rfl, h⟩))
theorem itm_tri {x y z : D} (hx : AtT x) (hy : AtT y) (hz : AtT z) : ItmT (.tup [x, y, z]) := itm_tup (by simp) (at_tri hx hy hz)
def sp__law_turned_v4 : SpD := fun ds m P _ => ∃ (w : Addr) (xs : List D) (n : Nat), ds = [.adr w, .lst xs] ∧ 0 < xs.length ∧ xs.length ≤ n ∧ n ≤ 16000 ∧ (∀ x ∈ xs, ItmT x) ∧ Dr w 6 (PapT (2 * n + 1)) m P
def rd__law_turned_v4 : DS :=
    sSeq (sSet 2 (rCall sp__law_draw [] (rCons (rV 0) (rCons (rCB cLen (rCons (rV 1) (rNil))) (rNil)))))
    (sSeq (sSet 3 (rOp oIx (rV 1) (rV 2)))
    (sSeq (sIf (rOr (rNot (rTru (rCB cIsi (rCons (rV 3) (rCons (rC (.ty "tuple")) (rNil)))))) (rTst (rOp oNe (rCB cLen (rCons (rV 3) (rNil))) (rC (.int 3))))) (sRet (rOp oAdd (rSl (rV 1) rNoP (rPart (rV 2))) (rSl (rV 1) (rPart (rOp oAdd (rV 2) (rC (.int 1)))) rNoP))) (sNext))
    (sSeq (sTup [9, 10, 11] (rV 3))
    (sSeq (sSet 4 (rLst (rCons (rTup (rCons (rV 9) (rCons (rV 10) (rCons (rCall sp__law_one [] (rCons (rV 0) (rCons (rLst (rCons (rC (.bl true)) (rCons (rC .non) (rCons (rC (.str "1")) (rNil))))) (rNil)))) (rNil))))) (rCons (rTup (rCons (rV 9) (rCons (rV 10) (rNil)))) (rCons (rOp oAdd (rV 3) (rTup (rCons (rC (.int 0)) (rNil)))) (rCons (rCB cLst (rCons (rV 3) (rNil))) (rCons (rC .non) (rNil))))))))
    (sSeq (sSet 4 (rOp oAdd (rV 4) (rLst (rCons (rTup (rCons (rNeg (rC (.int 1))) (rCons (rV 10) (rCons (rV 11) (rNil))))) (rCons (rTup (rCons (rV 9) (rCons (rC (.int 9)) (rCons (rV 11) (rNil))))) (rCons (rTup (rCons (rC (.bl true)) (rCons (rV 10) (rCons (rV 11) (rNil))))) (rCons (rTup (rCons (rV 10) (rCons (rV 9) (rCons (rV 11) (rNil))))) (rNil))))))))
    (sSeq (sSet 5 (rCall sp__law_one [] (rCons (rV 0) (rCons (rV 4) (rNil)))))
    (sSeq (sSet 6 (rLst (rCons (rTup (rCons (rV 9) (rCons (rV 10) (rCons (rOp oPow (rC (.int 10)) (rC (.int 50))) (rNil))))) (rCons (rTup (rCons (rC (.int 0)) (rCons (rC (.int 0)) (rCons (rC (.int 5)) (rNil))))) (rCons (rTup (rCons (rV 9) (rCons (rV 10) (rCons (rOp oSub (rC (.int 0)) (rOp oPow (rC (.int 10)) (rC (.int 50)))) (rNil))))) (rCons (rV 3) (rNil)))))))
    (sSeq (sSet 7 (rOp oAdd (rSl (rV 1) rNoP (rPart (rV 2))) (rSl (rV 1) (rPart (rOp oAdd (rV 2) (rC (.int 1)))) rNoP)))
    (sSeq (sSet 8 (rLst (rCons (rV 7) (rCons (rV 7) (rCons (rOp oAdd (rOp oAdd (rSl (rV 1) rNoP (rPart (rV 2))) (rLst (rCons (rV 5) (rNil)))) (rSl (rV 1) (rPart (rOp oAdd (rV 2) (rC (.int 1)))) rNoP)) (rCons (rOp oAdd (rV 1) (rLst (rCons (rV 5) (rNil)))) (rCons (rRev (rV 1)) (rCons (rOp oAdd (rV 1) (rV 1)) (rCons (rCB cTup (rCons (rV 1) (rNil))) (rNil))))))))))
    (sSeq (sSet 8 (rOp oAdd (rV 8) (rLst (rCons (rOp oAdd (rOp oAdd (rSl (rV 1) rNoP (rPart (rV 2))) (rLst (rCons (rCall sp__law_one [] (rCons (rV 0) (rCons (rV 6) (rNil)))) (rNil)))) (rSl (rV 1) (rPart (rV 2)) rNoP)) (rCons (rOp oAdd (rV 7) (rLst (rCons (rCall sp__law_one [] (rCons (rV 0) (rCons (rV 6) (rNil)))) (rNil)))) (rCons (rC .non) (rCons (rDct0) (rCons (rLst (rNil)) (rNil)))))))))
    (sRet (rCall sp__law_one [] (rCons (rV 0) (rCons (rV 8) (rNil)))))))))))))))
theorem ln__law_turned_v4 : ∀ ds m Q PX, sp__law_turned_v4 ds m Q PX → ds.length = 2 := fun ds m Q PX h => by repeat (first | (subst_vars; rfl; done) | (obtain ⟨_, h⟩ := h))
def T__law_turned_v4_8 : DS := sSeq (sSet 6 (rLst (rCons (rTup (rCons (rV 9) (rCons (rV 10) (rCons (rOp oPow (rC (.int 10)) (rC (.int 50))) (rNil))))) (rCons (rTup (rCons (rC (.int 0)) (rCons (rC (.int 0)) (rCons (rC (.int 5)) (rNil))))) (rCons (rTup (rCons (rV 9) (rCons (rV 10) (rCons (rOp oSub (rC (.int 0)) (rOp oPow (rC (.int 10)) (rC (.int 50)))) (rNil))))) (rCons (rV 3) (rNil)))))))
    (sSeq (sSet 7 (rOp oAdd (rSl (rV 1) rNoP (rPart (rV 2))) (rSl (rV 1) (rPart (rOp oAdd (rV 2) (rC (.int 1)))) rNoP)))
    (sSeq (sSet 8 (rLst (rCons (rV 7) (rCons (rV 7) (rCons (rOp oAdd (rOp oAdd (rSl (rV 1) rNoP (rPart (rV 2))) (rLst (rCons (rV 5) (rNil)))) (rSl (rV 1) (rPart (rOp oAdd (rV 2) (rC (.int 1)))) rNoP)) (rCons (rOp oAdd (rV 1) (rLst (rCons (rV 5) (rNil)))) (rCons (rRev (rV 1)) (rCons (rOp oAdd (rV 1) (rV 1)) (rCons (rCB cTup (rCons (rV 1) (rNil))) (rNil))))))))))
    (sSeq (sSet 8 (rOp oAdd (rV 8) (rLst (rCons (rOp oAdd (rOp oAdd (rSl (rV 1) rNoP (rPart (rV 2))) (rLst (rCons (rCall sp__law_one [] (rCons (rV 0) (rCons (rV 6) (rNil)))) (rNil)))) (rSl (rV 1) (rPart (rV 2)) rNoP)) (rCons (rOp oAdd (rV 7) (rLst (rCons (rCall sp__law_one [] (rCons (rV 0) (rCons (rV 6) (rNil)))) (rNil)))) (rCons (rC .non) (rCons (rDct0) (rCons (rLst (rNil)) (rNil)))))))))
    (sRet (rCall sp__law_one [] (rCons (rV 0) (rCons (rV 8) (rNil))))))))
theorem pu__law_turned_v4 : ∀ ds m Q PX, sp__law_turned_v4 ds m Q PX → rd__law_turned_v4 (dEnds Q PX) (dstart ["_law_well_here", "_law_paper", "_law_at", "_law_triple", "_law_some", "_law_odd", "_law_more", "_law_rest", "_law_turned_here", "_law_room_here", "_law_place", "_law_last"] ds) m := by
  rintro ds m Q PX ⟨w, xs, n, rfl, l0, ln, hn, hx, hk⟩
  walk_at "go"
  refine hk.num (by decide) (by omega) (Nat.lt_of_le_of_lt (show (xs.length : Int).natAbs ≤ 16000 by omega) (by decide)) fun at_ m1 a0 a1 _ hk => ?_
  have c1 := cut_len xs none (some at_)
  have c2 := cut_len xs (some (at_ + 1)) none
  have c3 := cut_len xs (some at_) none
  walk_at "go"
  obtain ⟨d, d1, d2⟩ := atI_some (xs := xs) a0 (by omega)
  have hd := hx d (List.mem_of_getElem? d2)
  rw [d1]
  have rest : PapT (2 * n + 1) (.lst (cutD xs none (some at_) ++ cutD xs (some (at_ + 1)) none)) := pap_app (itm_cutT hx) (itm_cutT hx) (by omega)
  rcases hd with rfl | ⟨es, rfl | rfl, le, he⟩
  · walk_at "go"
    exact hk.done rest
  rotate_left
  · walk_at "go"
    exact hk.done rest
  walk_at "go"
  by_cases hl : es.length = 3
  rotate_left
  · rw [if_pos rfl, decide_eq_false (by omega)]
    walk_at "go"
    exact hk.done rest
  obtain ⟨x, y, z, rfl⟩ : ∃ x y z, es = [x, y, z] := by
    match es, hl with
    | [x, y, z], _ => exact ⟨x, y, z, rfl⟩
  have hx1 := he x (by simp)
  have hy1 := he y (by simp)
  have hz1 := he z (by simp)
  walk_at "go"
  refine ⟨w, _, _, rfl, .inl rfl, by simp, by simp, hk.sub (by decide) fun o m2 ho kp2 hk => ?_⟩
  have hoA : AtT o := by
    simp only [List.mem_cons, List.not_mem_nil, or_false] at ho
    rcases ho with rfl | rfl | rfl
    · exact .inr (.inl ⟨_, rfl⟩)
    · exact .inl rfl
    · exact .inr (.inr (.inr rfl))
  walk_at "go"
  refine ⟨w, _, _, rfl, .inl rfl, by simp, by simp, hk.sub (by decide) fun o2 m3 ho2 kp3 hk => ?_⟩
  have hO : ItmT o2 := by
    simp only [List.cons_append, List.nil_append, List.mem_cons, List.not_mem_nil, or_false] at ho2
    rcases ho2 with rfl | rfl | rfl | rfl | rfl | rfl | rfl | rfl | rfl
    · exact itm_tri hx1 hy1 hoA
    · exact itm_tup (by simp) fun d hd => he d (by simp only [List.mem_cons, List.not_mem_nil, or_false] at hd ⊢; rcases hd with rfl | rfl; exact .inl rfl; exact .inr (.inl rfl))
    · refine itm_tup (by simp) fun d hd => ?_
      simp only [List.mem_cons, List.not_mem_nil, or_false] at hd
      rcases hd with rfl | rfl | rfl | rfl
      · exact hx1
      · exact hy1
      · exact hz1
      · exact at_intT (by decide)
    · exact .inr ⟨_, .inr rfl, le, he⟩
    · exact .inl rfl
    · exact itm_tri (at_intT (by decide)) hy1 hz1
    · exact itm_tri hx1 (at_intT (by decide)) hz1
    · exact itm_tri (.inr (.inl ⟨_, rfl⟩)) hy1 hz1
    · exact itm_tri hy1 hx1 hz1
  clear ho2
  obtain ⟨S, hSe⟩ : ∃ S : D, S = .lst [.tup [x, y, o], .tup [x, y], .tup [x, y, z, .int 0], .lst [x, y, z], .non, .tup [.int (-1), y, z], .tup [x, .int 9, z], .tup [.bl true, y, z], .tup [y, x, z]] := ⟨_, rfl⟩
  show T__law_turned_v4_8 (dEnds Q PX) [some (.adr w), some (.lst xs), some (.int at_), some (.tup [x, y, z]), some (.lst [.tup [x, y, o], .tup [x, y], .tup [x, y, z, .int 0], .lst [x, y, z], .non, .tup [.int (-1), y, z], .tup [x, .int 9, z], .tup [.bl true, y, z], .tup [y, x, z]]), some o2, none, none, none, some x, some y, some z] m3
  rw [← hSe]
  walk_at "go"
  have itM : ∀ d, d ∈ [D.tup [x, y, .int (10 ^ Int.toNat 50)], .tup [.int 0, .int 0, .int 5], .tup [x, y, .int (0 - 10 ^ Int.toNat 50)], .tup [x, y, z]] → ItmT d := fun d hd => by
    simp only [List.mem_cons, List.not_mem_nil, or_false] at hd
    rcases hd with rfl | rfl | rfl | rfl
    · exact itm_tri hx1 hy1 (at_intT (by decide +kernel))
    · exact itm_tri (at_intT (by decide)) (at_intT (by decide)) (at_intT (by decide))
    · exact itm_tri hx1 hy1 (at_intT (by decide +kernel))
    · exact itm_tri hx1 hy1 hz1
  refine ⟨w, _, _, rfl, .inl rfl, by simp, by simp, hk.sub (by decide) fun o3 m4 ho3 kp4 hk => ?_⟩
  have hO3 := itM _ ho3
  walk_at "go"
  refine ⟨w, _, _, rfl, .inl rfl, by simp, by simp, hk.sub (by decide) fun o4 m5 ho4 kp5 hk => ?_⟩
  have hO4 := itM _ ho4
  clear ho3 ho4
  walk_at "go"
  refine ⟨w, _, _, rfl, .inl rfl, by simp, by simp, hk.sub (by decide) fun d m6 hd kp6 hk => ?_⟩
  have hr : ∀ x ∈ cutD xs none (some at_) ++ cutD xs (some (at_ + 1)) none, ItmT x := itm_catT (itm_cutT hx) (itm_cutT hx)
  have pd : PapT (2 * n + 1) d := by
    simp only [List.cons_append, List.nil_append, List.mem_cons, List.not_mem_nil, or_false] at hd
    rcases hd with rfl | rfl | rfl | rfl | rfl | rfl | rfl | rfl | rfl | rfl | rfl | rfl
    · exact rest
    · exact rest
    · exact pap_app (itm_catT (itm_cutT hx) (itm_oneT hO)) (itm_cutT hx) (by simp; omega)
    · exact pap_app hx (itm_oneT hO) (by simp; omega)
    · exact .inl ⟨_, .inl rfl, by rw [List.length_reverse]; omega, fun x h => hx x (List.mem_reverse.mp h)⟩
    · exact pap_app hx hx (by omega)
    · exact .inl ⟨_, .inr rfl, by omega, hx⟩
    · exact pap_app (itm_catT (itm_cutT hx) (itm_oneT hO3)) (itm_cutT hx) (by simp; omega)
    · exact pap_app hr (itm_oneT hO4) (by simp; omega)
    · exact .inr (.inl rfl)
    · exact .inr (.inr rfl)
    · exact .inl ⟨[], .inl rfl, by simp, fun x h => by cases h⟩
  walk_at "go"
  exact hk.done pd
end
section
/-! ### papers of sameness (k73): what is shown of a paper -/
theorem cut_m1d {α : Type} (f : α → D) (ts : List α) (h : ts.length ≤ 4) : cutD (ts.map f) none (some (-1)) = ts.dropLast.map f := by
  match ts, h with
  | [], _ => rfl
  | [_], _ => rfl
  | [_, _], _ => rfl
  | [_, _, _], _ => rfl
  | [_, _, _, _], _ => rfl
theorem rs_lastT {a : List Rm} {r : Rm} (oa : RsOk a) (hr : r.Ok a.length) : RsOk (a.dropLast ++ [r]) ∧ (a.dropLast ++ [r]).length = a.length := by
  have one := oa.one
  have l : (a.dropLast ++ [r]).length = a.length := by rw [List.length_append, List.length_dropLast, List.length_singleton]; omega
  refine ⟨⟨by omega, by rw [l]; exact oa.few, fun q hq => ?_⟩, l⟩
  rw [l]
  rcases List.mem_append.mp hq with z | z
  · exact oa.ok q (List.dropLast_subset _ z)
  · rw [List.mem_singleton.mp z]; exact hr
theorem clo_sm {a b : List Rm} {ls : List Cf} (oa : RsOk a) (ob : RsOk b) (h : Clo a b ls) : ∀ c ∈ ls, SmT c := fun c hc => by
  obtain ⟨⟨r1, r2⟩, r3, r4⟩ := h.rg oa ob c hc
  have f1 := oa.few
  have f2 := ob.few
  have st := h.st c hc
  have big : (9 : Nat) < 10 ^ 100 := by decide +kernel
  refine ⟨Nat.lt_of_le_of_lt (show c.1.natAbs ≤ 9 by omega) big, Nat.lt_of_le_of_lt (show c.2.1.natAbs ≤ 9 by omega) big, ?_⟩
  rw [← st]
  unfold setC
  dsimp only
  split
  · have := wf_bd (pre_bd (both_ok oa ob)) _ (like_mem (wf_pos (preR (a ++ b))) c.2.2)
    exact Nat.lt_trans this (by decide +kernel)
  · decide +kernel
theorem clo_itm {a b : List Rm} {ls : List Cf} (oa : RsOk a) (ob : RsOk b) (h : Clo a b ls) : ∀ x ∈ ls.map triD, ItmT x := fun x hx => by
  obtain ⟨c, hc, rfl⟩ := List.mem_map.mp hx
  exact tri_itm (clo_sm oa ob h c hc)
theorem clo_few {a b : List Rm} {ls : List Cf} (oa : RsOk a) (ob : RsOk b) (la : a.length ≤ 4) (lb : b.length ≤ 4) (h : Clo a b ls) : ls.length ≤ 7712 := by
  have hS : (smpR a b).length ≤ 481 := samp_len8 (both_ok oa ob) (by rw [List.length_append]; omega)
  exact Nat.le_trans (h.len oa ob) (Nat.le_trans (Nat.mul_le_mul la (Nat.mul_le_mul lb (Nat.succ_le_succ hS))) (by decide))
theorem ls_at {d : D} (h : AtT d) : shoD d := by
  rcases h with rfl | ⟨b, rfl⟩ | ⟨i, rfl, hi⟩ | rfl
  · rw [shoD]; trivial
  · rw [shoD]; trivial
  · rw [shoD]; exact hi
  · rw [shoD]; exact ⟨by decide, by decide⟩
theorem sh_at {d : D} (h : AtT d) : (py d).shown.length ≤ 101 := by
  rcases h with rfl | ⟨b, rfl⟩ | ⟨i, rfl, hi⟩ | rfl
  · rw [py]; decide
  · rw [py]; cases b <;> decide
  · have := (sho_ok (.int i) (by rw [shoD]; exact hi)).2.1
    rw [py] at this ⊢
    simpa only [PyData.leavesShort, decide_eq_true_eq] using this
  · rw [py]; decide +kernel
theorem ls_itm {d : D} (h : ItmT d) : shoD d := by
  rcases h with rfl | ⟨es, rfl | rfl, _, he⟩
  · rw [shoD]; trivial
  · rw [shoD]; exact shoL_all fun d hd => ls_at (he d hd)
  · rw [shoD]; exact shoL_all fun d hd => ls_at (he d hd)
theorem sh_sum {k : Nat} : ∀ ds : List D, (∀ d ∈ ds, (py d).shown.length ≤ k) → ((PyData.shownAll (pyL ds)).map (·.length)).sum ≤ k * ds.length ∧ (PyData.shownAll (pyL ds)).length = ds.length
  | [], _ => by rw [pyL]; simp [PyData.shownAll]
  | d :: ds, h => by
    obtain ⟨h1, h2⟩ := sh_sum ds fun x hx => h x (List.mem_cons_of_mem _ hx)
    have h3 := h d List.mem_cons_self
    rw [pyL]
    simp only [PyData.shownAll, List.map_cons, List.sum_cons, List.length_cons, Nat.mul_add, Nat.mul_one]
    exact ⟨by omega, by omega⟩
theorem sh_lst {k : Nat} {ds : List D} (h : ∀ d ∈ ds, (py d).shown.length ≤ k) : (py (.lst ds)).shown.length ≤ (k + 2) * ds.length + 3 := by
  obtain ⟨h1, h2⟩ := sh_sum ds h
  have h3 := PySem.listText_len_le (PyData.shownAll (pyL ds))
  rw [py]
  simp only [PyData.shown]
  rw [Nat.add_mul]
  omega
theorem sh_tup {k : Nat} {ds : List D} (h : ∀ d ∈ ds, (py d).shown.length ≤ k) : (py (.tup ds)).shown.length ≤ (k + 2) * ds.length + 3 := by
  obtain ⟨h1, h2⟩ := sh_sum ds h
  have h3 := PySem.tupleText_len_le (PyData.shownAll (pyL ds))
  rw [py]
  simp only [PyData.shown]
  rw [Nat.add_mul]
  omega
theorem sh_itm {d : D} (h : ItmT d) : (py d).shown.length ≤ 420 := by
  rcases h with rfl | ⟨es, rfl | rfl, le, he⟩
  · rw [py]; decide
  · have := sh_tup (k := 101) fun d hd => sh_at (he d hd)
    have := Nat.mul_le_mul_left 103 le
    omega
  · have := sh_lst (k := 101) fun d hd => sh_at (he d hd)
    have := Nat.mul_le_mul_left 103 le
    omega
theorem rep_pap {f : D} (h : PapT 31000 f) : repOk f := by
  rcases h with ⟨xs, rfl | rfl, lx, hx⟩ | rfl | rfl
  · refine .inr ⟨shp_itms hx, (sho_ok (.lst xs) (by rw [shoD]; exact shoL_all fun d hd => ls_itm (hx d hd))).1, ?_⟩
    have := sh_lst (k := 420) fun d hd => sh_itm (hx d hd)
    have := Nat.mul_le_mul_left 422 lx
    exact Nat.le_trans (by omega : _ ≤ 16000000) (by decide)
  · refine .inr ⟨shp_of (n := 6) fun d hd => itm_fit (hx d hd), (sho_ok (.tup xs) (by rw [shoD]; exact shoL_all fun d hd => ls_itm (hx d hd))).1, ?_⟩
    have := sh_tup (k := 420) fun d hd => sh_itm (hx d hd)
    have := Nat.mul_le_mul_left 422 lx
    exact Nat.le_trans (by omega : _ ≤ 16000000) (by decide)
  · exact rep_of (shp_of (n := 1) trivial) (by rw [shoD]; trivial) (by simp [wtD])
  · exact .inl rfl
theorem dat_adr73 {m : Mu} {q : Addr} {xs : List D} (h : m q = some (.lst xs)) : dat m (.adr q) = .lst xs := by unfold dat; rw [asL_adr h]
theorem deq_shp73 {x : D} (h : shp x) : deq x x = true := PySem.SeqAt.eqv_refl _ (SeqAt.canLay_of_shaped h)
theorem pap_dat {n : Nat} {f : D} (h : PapT n f) (m : Mu) : dat m f = f := by
  rcases h with ⟨xs, rfl | rfl, lx, hx⟩ | rfl | rfl <;> rfl
theorem pap_mono {n k : Nat} {f : D} (h : PapT n f) (hk : n ≤ k) : PapT k f := by
  rcases h with ⟨xs, hf, lx, hx⟩ | rfl | rfl
  · exact .inl ⟨xs, hf, by omega, hx⟩
  · exact .inr (.inl rfl)
  · exact .inr (.inr rfl)
theorem ne_nil73 {m : Mu} {xs : List D} : deq (dat m (.lst xs)) (dat m (.lst [])) = xs.isEmpty := deq_lst_nil
end
end DL
namespace Lw
open PySem L2 DL
local macro_rules | `(tactic| walk_at "dl") => `(tactic| ((conv => whnf); try dsimp only))
local macro_rules | `(tactic| walk_at "sd") => `(tactic| first | trivial | exact Nat.zero_le _ | assumption | decide | omega | exact len_line (by first | decide | omega | (simp; done) | (simp; omega)) | (simp; done) | (simp; omega) | exact ⟨by decide, by decide, by decide⟩ | exact .inl ⟨by decide, by decide⟩ | exact .inl ⟨by omega, by omega⟩ | exact wide_div (b := 64) (by decide) (by decide) (by decide) (by decide))
local macro_rules | `(tactic| walk_at "go") => `(tactic| ((conv => whnf); (try dsimp only); repeat ((with_reducible refine And.intro ?_ ?_); (focus (walk_at "sd")); (conv => whnf); (try dsimp only))))
local macro_rules | `(tactic| walk_at "th") => `(tactic| repeat' (first | assumption | exact thD_txt _ _ | exact thD_int | exact thD_non | exact thD_bl | (refine thD_mono _ _ _ ?_ (by assumption); decide) | refine List.forall_mem_cons.mpr (And.intro ?_ ?_) | exact List.forall_mem_nil _ | refine thD_tup (by simp) ?_ | refine thD_lst (by simp) ?_))
local macro_rules | `(tactic| walk_at "ln") => `(tactic| (intro ds m Q PX h; repeat (obtain ⟨_, h⟩ := h); subst_vars; rfl))
def top (i : Nat) : Stmt := PySem.Challenge.pw_stoodin_k73_whole_papers_of_sameness.main.body.getD i (.Pass ⟨0, 0, 0, 0⟩)
abbrev s_is_whole : Stmt := top 8
abbrev N_is_whole : List Str := ["thing"]
abbrev s_is_name : Stmt := top 9
abbrev N_is_name : List Str := ["thing", "sign"]
abbrev s_are_unlike : Stmt := top 10
abbrev N_are_unlike : List Str := ["some", "at", "one"]
abbrev s_is_one : Stmt := top 14
abbrev N_is_one : List Str := ["numbers", "number"]
abbrev s_is_plain : Stmt := top 15
abbrev N_is_plain : List Str := ["look", "word", "rest", "number"]
abbrev s_is_look : Stmt := top 16
abbrev N_is_look : List Str := ["look"]
abbrev s_fits : Stmt := top 17
abbrev N_fits : List Str := ["look", "number", "low", "high", "word", "rest"]
abbrev s_edges : Stmt := top 18
abbrev N_edges : List Str := ["look", "word", "rest", "number", "more"]
abbrev s_turns : Stmt := top 19
abbrev N_turns : List Str := ["look", "number"]
abbrev s_with_first : Stmt := top 20
abbrev N_with_first : List Str := ["some", "found"]
abbrev s_is_thing : Stmt := top 25
abbrev N_is_thing : List Str := ["thing"]
abbrev s_is_place : Stmt := top 26
abbrev N_is_place : List Str := ["thing", "many"]
abbrev s_is_way : Stmt := top 27
abbrev N_is_way : List Str := ["way", "many"]
abbrev s_is_asking : Stmt := top 28
abbrev N_is_asking : List Str := ["rest", "many", "things", "ways", "other", "way", "thing"]
abbrev s_is_room : Stmt := top 29
abbrev N_is_room : List Str := ["room", "many", "word", "rest"]
abbrev s_are_rooms : Stmt := top 30
abbrev N_are_rooms : List Str := ["rooms", "room"]
abbrev s_thing_at : Stmt := top 31
abbrev N_thing_at : List Str := ["thing", "last"]
abbrev s_Doer___init__ : Stmt := clsSt (top 32) 0
abbrev N_Doer___init__ : List Str := ["self", "rooms"]
abbrev s_Doer_ask_at : Stmt := clsSt (top 32) 2
abbrev N_Doer_ask_at : List Str := ["self", "state", "room", "last", "word", "rest", "thing"]
abbrev s_Doer_told_at : Stmt := clsSt (top 32) 3
abbrev N_Doer_told_at : List Str := ["self", "state", "room", "last", "word", "rest"]
abbrev s_Doer_goes : Stmt := clsSt (top 32) 4
abbrev N_Doer_goes : List Str := ["self", "state", "answer", "word", "look", "room", "rest"]
abbrev s_like : Stmt := top 34
abbrev N_like : List Str := ["samples", "number", "sample"]
abbrev s_things_of : Stmt := top 36
abbrev N_things_of : List Str := ["doer", "thing", "word", "rest"]
abbrev s_meeting_numbers : Stmt := top 37
abbrev N_meeting_numbers : List Str := ["things", "plain", "mores", "thing", "number", "more", "step"]
abbrev s_samples_of : Stmt := top 38
abbrev N_samples_of : List Str := ["some", "rooms", "found", "doer", "room", "turn", "look", "to", "thing"]
abbrev s_answer_samples : Stmt := top 39
abbrev N_answer_samples : List Str := ["one", "other"]
abbrev s_said_at : Stmt := top 40
abbrev N_said_at : List Str := ["doer", "room", "last"]
abbrev s_is_same : Stmt := top 41
abbrev N_is_same : List Str := ["some", "triple", "room", "place", "last"]
abbrev s_hangs : Stmt := top 42
abbrev N_hangs : List Str := ["doer", "room", "word", "rest", "thing"]
abbrev s_settled_triple : Stmt := top 43
abbrev N_settled_triple : List Str := ["some", "samples", "triple", "room", "place", "last"]
abbrev s_rooms_behind : Stmt := top 44
abbrev N_rooms_behind : List Str := ["some", "samples", "triple", "found", "answer", "room", "place", "last", "later"]
abbrev s_paired_off : Stmt := top 45
abbrev N_paired_off : List Str := ["one", "other", "some", "samples", "first", "found", "line", "at", "answer", "later"]
abbrev s_parted : Stmt := top 46
abbrev N_parted : List Str := ["one", "other", "some", "triple", "answers"]
abbrev s_same_pairs : Stmt := top 47
abbrev N_same_pairs : List Str := ["one", "other"]
abbrev s_is_triple : Stmt := top 48
abbrev N_is_triple : List Str := ["some", "thing"]
abbrev s_shows_same : Stmt := top 49
abbrev N_shows_same : List Str := ["one", "other", "paper", "some", "samples", "known", "triple", "answer", "later", "thing"]
abbrev s__law_cell_at : Stmt := top 51
abbrev N__law_cell_at : List Str := ["_law_script", "_law_k"]
abbrev s__law_well : Stmt := top 52
abbrev N__law_well : List Str := ["_law_cell"]
abbrev s__law_draw : Stmt := top 53
abbrev N__law_draw : List Str := ["_law_well_here", "_law_many", "_law_number_here", "_law_digit"]
abbrev s__law_one : Stmt := top 54
abbrev N__law_one : List Str := ["_law_well_here", "_law_some"]
abbrev s__law_names : Stmt := top 55
abbrev N__law_names : List Str := ["_law_well_here", "_law_many", "_law_letters", "_law_first", "_law_found", "_law_k", "_law_name", "_law_j"]
abbrev s__law_mids : Stmt := top 56
abbrev N__law_mids : List Str := ["_law_well_here", "_law_base", "_law_k"]
abbrev s__law_near : Stmt := top 57
abbrev N__law_near : List Str := ["_law_well_here", "_law_mids_here"]
abbrev s__law_unlike : Stmt := top 58
abbrev N__law_unlike : List Str := ["_law_some", "_law_k", "_law_one_here"]
abbrev s__law_look : Stmt := top 59
abbrev N__law_look : List Str := ["_law_well_here", "_law_mids_here", "_law_way", "_law_low", "_law_some", "_law_k"]
abbrev s__law_fits : Stmt := top 60
abbrev N__law_fits : List Str := ["_law_look_here", "_law_number_here", "_law_word"]
abbrev s__law_world : Stmt := top 61
abbrev N__law_world : List Str := ["_law_well_here", "_law_names_here", "_law_parts"]
abbrev s__law_thing : Stmt := top 62
abbrev N__law_thing : List Str := ["_law_well_here", "_law_mids_here"]
abbrev s__law_room : Stmt := top 63
abbrev N__law_room : List Str := ["_law_well_here", "_law_world_here", "_law_many", "_law_things", "_law_ways", "_law_place", "_law_k"]
abbrev s__law_rooms : Stmt := top 64
abbrev N__law_rooms : List Str := ["_law_well_here", "_law_world_here", "_law_most", "_law_many", "_law_found", "_law_k"]
abbrev s__law_number : Stmt := top 65
abbrev N__law_number : List Str := ["_law_thing_here", "_law_last"]
abbrev s__law_said : Stmt := top 66
abbrev N__law_said : List Str := ["_law_rooms_here", "_law_state", "_law_room_here", "_law_thing_here"]
abbrev s__law_goes : Stmt := top 67
abbrev N__law_goes : List Str := ["_law_rooms_here", "_law_state", "_law_answer", "_law_look_here", "_law_room_here"]
abbrev s__law_like : Stmt := top 68
abbrev N__law_like : List Str := ["_law_stops", "_law_number_here", "_law_sample"]
abbrev s__law_settled : Stmt := top 69
abbrev N__law_settled : List Str := ["_law_one_here", "_law_other", "_law_stops", "_law_triple", "_law_things", "_law_room_here", "_law_thing_here"]
abbrev s__law_behind : Stmt := top 70
abbrev N__law_behind : List Str := ["_law_one_here", "_law_other", "_law_stops", "_law_triple", "_law_found", "_law_answer", "_law_room_here", "_law_place", "_law_last", "_law_later"]
abbrev s__law_is_same : Stmt := top 71
abbrev N__law_is_same : List Str := ["_law_one_here", "_law_other", "_law_triple"]
abbrev s__law_all : Stmt := top 72
abbrev N__law_all : List Str := ["_law_one_here", "_law_other", "_law_stops", "_law_found", "_law_at", "_law_triple"]
abbrev s__law_is_triple : Stmt := top 73
abbrev N__law_is_triple : List Str := ["_law_one_here", "_law_other", "_law_thing_here", "_law_number_here"]
abbrev s__law_due : Stmt := top 74
abbrev N__law_due : List Str := ["_law_one_here", "_law_other", "_law_stops", "_law_paper", "_law_triple", "_law_behind_it", "_law_thing_here", "_law_later"]
abbrev s__law_turned : Stmt := top 75
abbrev N__law_turned : List Str := ["_law_well_here", "_law_paper", "_law_at", "_law_triple", "_law_some", "_law_odd", "_law_more", "_law_rest", "_law_turned_here", "_law_room_here", "_law_place", "_law_last"]
abbrev s_law : Stmt := top 76
abbrev N_law : List Str := ["_law_script", "_law_cell", "_law_well_here", "_law_world_here", "_law_one_here", "_law_other", "_law_stops", "_law_due_here", "_law_found", "_law_turn", "_law_paper", "_law_k", "_law_kept", "_law_told", "_law_due_of"]
abbrev s_TrialError___init__ : Stmt := clsSt (top 2) 0
def rd_law : DS :=
    sSeq (sFor (iAny (rOp oAdd (rLst (rCons (rCall sp__law_cell_at [] (rCons (rV 0) (rCons (rC (.int 0)) (rNil)))) (rNil))) (rSl (rV 0) (rPart (rC (.int 1))) (rPart (rC (.int 3)))))) (gN 1) (sSeq (sSet 2 (rCall sp__law_well [] (rCons (rV 1) (rNil))))
    (sSeq (sSet 3 (rCall sp__law_world_v2 [] (rCons (rV 2) (rNil))))
    (sSeq (sSet 4 (rCall sp__law_rooms_v2 [] (rCons (rV 2) (rCons (rV 3) (rCons (rC (.int 4)) (rNil))))))
    (sSeq (sSet 5 (rCall sp__law_one [] (rCons (rV 2) (rCons (rLst (rCons (rCall sp__law_rooms_v2 [] (rCons (rV 2) (rCons (rV 3) (rCons (rC (.int 4)) (rNil))))) (rCons (rV 4) (rCons (rV 4) (rCons (rOp oAdd (rSl (rV 4) rNoP (rPart (rNeg (rC (.int 1))))) (rTup (rCons (rCall sp__law_room_v2 [] (rCons (rV 2) (rCons (rV 3) (rCons (rCB cLen (rCons (rV 4) (rNil))) (rNil))))) (rNil)))) (rNil)))))) (rNil)))))
    (sSeq (sSet 6 (rCall sp_answer_samples [] (rCons (rV 4) (rCons (rV 5) (rNil)))))
    (sSeq (sSet 7 (rCall sp__law_all_v2 [] (rCons (rV 4) (rCons (rV 5) (rCons (rV 6) (rNil))))))
    (sSeq (sSet 8 (rCall sp_same_pairs_v3 [] (rCons (rV 4) (rCons (rV 5) (rNil)))))
    (sSeq (sIf (rOr (rNot (rTru (rCB cIsi (rCons (rV 8) (rCons (rC (.ty "list")) (rNil)))))) (rTst (rOp oNe (rV 8) (rV 7)))) (sRet (rC (.bl false))) (sNext))
    (sSeq (sIf (rTst (rOp oNe (rCall sp_shows_same_v3 [] (rCons (rV 4) (rCons (rV 5) (rCons (rV 8) (rNil))))) (rOp (oIsN false) (rCall sp_parted_v3 [] (rCons (rV 4) (rCons (rV 5) (rNil)))) (rC .non)))) (sRet (rC (.bl false))) (sNext))
    (sSeq (sFor (iRange (rCons (rC (.int 3)) (rNil))) (gN 9) (sSeq (sSet 10 (rCB cLst (rCons (rV 7) (rNil))))
    (sSeq (sFor (iRange (rCons (rCall sp__law_draw [] (rCons (rV 2) (rCons (rC (.int 3)) (rNil)))) (rNil))) (gN 11) (sIf (rAnd (rTru (rCB cIsi (rCons (rV 10) (rCons (rC (.ty "list")) (rNil))))) (rTst (rOp oNe (rV 10) (rLst (rNil))))) (sSet 10 (rCall sp__law_turned_v4 [] (rCons (rV 2) (rCons (rV 10) (rNil))))) (sNext)))
    (sSeq (sSet 12 (rCB cRepr (rCons (rV 10) (rNil))))
    (sSeq (sSet 13 (rCall sp_shows_same_v3 [] (rCons (rV 4) (rCons (rV 5) (rCons (rV 10) (rNil))))))
    (sSeq (sSet 14 (rCall sp__law_due_v7 [] (rCons (rV 4) (rCons (rV 5) (rCons (rV 6) (rCons (rV 10) (rNil)))))))
    (sIf (rOr (rNot (rTru (rCB cIsi (rCons (rV 13) (rCons (rC (.ty "bool")) (rNil)))))) (rOr (rTst (rOp oNe (rV 13) (rV 14))) (rTst (rOp oNe (rCB cRepr (rCons (rV 10) (rNil))) (rV 12))))) (sRet (rC (.bl false))) (sNext))))))))
    (sSeq (sExpr (rClr (rV 8)))
    (sIf (rTst (rOp oNe (rCall sp_same_pairs_v3 [] (rCons (rV 4) (rCons (rV 5) (rNil)))) (rV 7))) (sRet (rC (.bl false))) (sNext))))))))))))))
    (sRet (rC (.bl true)))
def T_law_5 : DS := sSeq (sSet 6 (rCall sp_answer_samples [] (rCons (rV 4) (rCons (rV 5) (rNil)))))
    (sSeq (sSet 7 (rCall sp__law_all_v2 [] (rCons (rV 4) (rCons (rV 5) (rCons (rV 6) (rNil))))))
    (sSeq (sSet 8 (rCall sp_same_pairs_v3 [] (rCons (rV 4) (rCons (rV 5) (rNil)))))
    (sSeq (sIf (rOr (rNot (rTru (rCB cIsi (rCons (rV 8) (rCons (rC (.ty "list")) (rNil)))))) (rTst (rOp oNe (rV 8) (rV 7)))) (sRet (rC (.bl false))) (sNext))
    (sSeq (sIf (rTst (rOp oNe (rCall sp_shows_same_v3 [] (rCons (rV 4) (rCons (rV 5) (rCons (rV 8) (rNil))))) (rOp (oIsN false) (rCall sp_parted_v3 [] (rCons (rV 4) (rCons (rV 5) (rNil)))) (rC .non)))) (sRet (rC (.bl false))) (sNext))
    (sSeq (sFor (iRange (rCons (rC (.int 3)) (rNil))) (gN 9) (sSeq (sSet 10 (rCB cLst (rCons (rV 7) (rNil))))
    (sSeq (sFor (iRange (rCons (rCall sp__law_draw [] (rCons (rV 2) (rCons (rC (.int 3)) (rNil)))) (rNil))) (gN 11) (sIf (rAnd (rTru (rCB cIsi (rCons (rV 10) (rCons (rC (.ty "list")) (rNil))))) (rTst (rOp oNe (rV 10) (rLst (rNil))))) (sSet 10 (rCall sp__law_turned_v4 [] (rCons (rV 2) (rCons (rV 10) (rNil))))) (sNext)))
    (sSeq (sSet 12 (rCB cRepr (rCons (rV 10) (rNil))))
    (sSeq (sSet 13 (rCall sp_shows_same_v3 [] (rCons (rV 4) (rCons (rV 5) (rCons (rV 10) (rNil))))))
    (sSeq (sSet 14 (rCall sp__law_due_v7 [] (rCons (rV 4) (rCons (rV 5) (rCons (rV 6) (rCons (rV 10) (rNil)))))))
    (sIf (rOr (rNot (rTru (rCB cIsi (rCons (rV 13) (rCons (rC (.ty "bool")) (rNil)))))) (rOr (rTst (rOp oNe (rV 13) (rV 14))) (rTst (rOp oNe (rCB cRepr (rCons (rV 10) (rNil))) (rV 12))))) (sRet (rC (.bl false))) (sNext))))))))
    (sSeq (sExpr (rClr (rV 8)))
    (sIf (rTst (rOp oNe (rCall sp_same_pairs_v3 [] (rCons (rV 4) (rCons (rV 5) (rNil)))) (rV 7))) (sRet (rC (.bl false))) (sNext))))))))
def T_law_8 : DS := sSeq (sIf (rOr (rNot (rTru (rCB cIsi (rCons (rV 8) (rCons (rC (.ty "list")) (rNil)))))) (rTst (rOp oNe (rV 8) (rV 7)))) (sRet (rC (.bl false))) (sNext))
    (sSeq (sIf (rTst (rOp oNe (rCall sp_shows_same_v3 [] (rCons (rV 4) (rCons (rV 5) (rCons (rV 8) (rNil))))) (rOp (oIsN false) (rCall sp_parted_v3 [] (rCons (rV 4) (rCons (rV 5) (rNil)))) (rC .non)))) (sRet (rC (.bl false))) (sNext))
    (sSeq (sFor (iRange (rCons (rC (.int 3)) (rNil))) (gN 9) (sSeq (sSet 10 (rCB cLst (rCons (rV 7) (rNil))))
    (sSeq (sFor (iRange (rCons (rCall sp__law_draw [] (rCons (rV 2) (rCons (rC (.int 3)) (rNil)))) (rNil))) (gN 11) (sIf (rAnd (rTru (rCB cIsi (rCons (rV 10) (rCons (rC (.ty "list")) (rNil))))) (rTst (rOp oNe (rV 10) (rLst (rNil))))) (sSet 10 (rCall sp__law_turned_v4 [] (rCons (rV 2) (rCons (rV 10) (rNil))))) (sNext)))
    (sSeq (sSet 12 (rCB cRepr (rCons (rV 10) (rNil))))
    (sSeq (sSet 13 (rCall sp_shows_same_v3 [] (rCons (rV 4) (rCons (rV 5) (rCons (rV 10) (rNil))))))
    (sSeq (sSet 14 (rCall sp__law_due_v7 [] (rCons (rV 4) (rCons (rV 5) (rCons (rV 6) (rCons (rV 10) (rNil)))))))
    (sIf (rOr (rNot (rTru (rCB cIsi (rCons (rV 13) (rCons (rC (.ty "bool")) (rNil)))))) (rOr (rTst (rOp oNe (rV 13) (rV 14))) (rTst (rOp oNe (rCB cRepr (rCons (rV 10) (rNil))) (rV 12))))) (sRet (rC (.bl false))) (sNext))))))))
    (sSeq (sExpr (rClr (rV 8)))
    (sIf (rTst (rOp oNe (rCall sp_same_pairs_v3 [] (rCons (rV 4) (rCons (rV 5) (rNil)))) (rV 7))) (sRet (rC (.bl false))) (sNext)))))
theorem ar_1 {T0 : Type} {P : List T0 → Prop} (h : ∀ (a0 : T0), P [a0]) : ∀ (u0 : List T0), u0.length = 1 → P u0 := fun u0 h0 => match u0, h0 with | [_], _ => h _
theorem ar_2 {T0 : Type} {P : List T0 → Prop} (h : ∀ (a0 a1 : T0), P [a0, a1]) : ∀ (u0 : List T0), u0.length = 2 → P u0 := fun u0 h0 => match u0, h0 with | [_, _], _ => h _ _
theorem ar_2_0 {T0 T1 : Type} {P : List T0 → List T1 → Prop} (h : ∀ (a0 a1 : T0), P [a0, a1] []) : ∀ (u0 : List T0) (u1 : List T1), u0.length = 2 → u1.length = 0 → P u0 u1 := fun u0 u1 h0 h1 => match u0, u1, h0, h1 with | [_, _], [], _, _ => h _ _
theorem ar_2_1_0 {T0 T1 T2 : Type} {P : List T0 → List T1 → List T2 → Prop} (h : ∀ (a0 a1 : T0) (a2 : T1), P [a0, a1] [a2] []) : ∀ (u0 : List T0) (u1 : List T1) (u2 : List T2), u0.length = 2 → u1.length = 1 → u2.length = 0 → P u0 u1 u2 := fun u0 u1 u2 h0 h1 h2 => match u0, u1, u2, h0, h1, h2 with | [_, _], [_], [], _, _, _ => h _ _ _
theorem ar_3 {T0 : Type} {P : List T0 → Prop} (h : ∀ (a0 a1 a2 : T0), P [a0, a1, a2]) : ∀ (u0 : List T0), u0.length = 3 → P u0 := fun u0 h0 => match u0, h0 with | [_, _, _], _ => h _ _ _
theorem ar_3_0 {T0 T1 : Type} {P : List T0 → List T1 → Prop} (h : ∀ (a0 a1 a2 : T0), P [a0, a1, a2] []) : ∀ (u0 : List T0) (u1 : List T1), u0.length = 3 → u1.length = 0 → P u0 u1 := fun u0 u1 h0 h1 => match u0, u1, h0, h1 with | [_, _, _], [], _, _ => h _ _ _
theorem ar_4 {T0 : Type} {P : List T0 → Prop} (h : ∀ (a0 a1 a2 a3 : T0), P [a0, a1, a2, a3]) : ∀ (u0 : List T0), u0.length = 4 → P u0 := fun u0 h0 => match u0, h0 with | [_, _, _, _], _ => h _ _ _ _
/-- what the top has left -/
structure Tx (w : World) (K : PySem.W.Frag) (mg : Str → Option Value) : Prop where
  f_is_whole : FunAt K mg "is_whole" "is_whole" s_is_whole
  f_is_name : FunAt K mg "is_name" "is_name" s_is_name
  f_are_unlike : FunAt K mg "are_unlike" "are_unlike" s_are_unlike
  f_is_one : FunAt K mg "is_one" "is_one" s_is_one
  f_is_plain : FunAt K mg "is_plain" "is_plain" s_is_plain
  f_is_look : FunAt K mg "is_look" "is_look" s_is_look
  f_fits : FunAt K mg "fits" "fits" s_fits
  f_edges : FunAt K mg "edges" "edges" s_edges
  f_turns : FunAt K mg "turns" "turns" s_turns
  f_with_first : FunAt K mg "with_first" "with_first" s_with_first
  f_is_thing : FunAt K mg "is_thing" "is_thing" s_is_thing
  f_is_place : FunAt K mg "is_place" "is_place" s_is_place
  f_is_way : FunAt K mg "is_way" "is_way" s_is_way
  f_is_asking : FunAt K mg "is_asking" "is_asking" s_is_asking
  f_is_room : FunAt K mg "is_room" "is_room" s_is_room
  f_are_rooms : FunAt K mg "are_rooms" "are_rooms" s_are_rooms
  f_thing_at : FunAt K mg "thing_at" "thing_at" s_thing_at
  f_Doer___init__ : MkAt K mg "Doer" "Doer.__init__" s_Doer___init__ [] []
  f_Doer_ask_at : MetAt K "Doer" "ask_at" "Doer.ask_at" s_Doer_ask_at [] []
  f_Doer_told_at : MetAt K "Doer" "told_at" "Doer.told_at" s_Doer_told_at [] []
  f_Doer_goes : MetAt K "Doer" "goes" "Doer.goes" s_Doer_goes [] []
  f_like : FunAt K mg "like" "like" s_like
  f_things_of : FunAt K mg "things_of" "things_of" s_things_of
  f_meeting_numbers : FunAt K mg "meeting_numbers" "meeting_numbers" s_meeting_numbers
  f_samples_of : FunAt K mg "samples_of" "samples_of" s_samples_of
  f_answer_samples : FunAt K mg "answer_samples" "answer_samples" s_answer_samples
  f_said_at : FunAt K mg "said_at" "said_at" s_said_at
  f_is_same : FunAt K mg "is_same" "is_same" s_is_same
  f_hangs : FunAt K mg "hangs" "hangs" s_hangs
  f_settled_triple : FunAt K mg "settled_triple" "settled_triple" s_settled_triple
  f_rooms_behind : FunAt K mg "rooms_behind" "rooms_behind" s_rooms_behind
  f_paired_off : FunAt K mg "paired_off" "paired_off" s_paired_off
  f_parted : FunAt K mg "parted" "parted" s_parted
  f_same_pairs : FunAt K mg "same_pairs" "same_pairs" s_same_pairs
  f_is_triple : FunAt K mg "is_triple" "is_triple" s_is_triple
  f_shows_same : FunAt K mg "shows_same" "shows_same" s_shows_same
  f__law_cell_at : FunAt K mg "_law_cell_at" "_law_cell_at" s__law_cell_at
  f__law_well : FunAt K mg "_law_well" "_law_well" s__law_well
  f__law_draw : FunAt K mg "_law_draw" "_law_draw" s__law_draw
  f__law_one : FunAt K mg "_law_one" "_law_one" s__law_one
  f__law_names : FunAt K mg "_law_names" "_law_names" s__law_names
  f__law_mids : FunAt K mg "_law_mids" "_law_mids" s__law_mids
  f__law_near : FunAt K mg "_law_near" "_law_near" s__law_near
  f__law_unlike : FunAt K mg "_law_unlike" "_law_unlike" s__law_unlike
  f__law_look : FunAt K mg "_law_look" "_law_look" s__law_look
  f__law_fits : FunAt K mg "_law_fits" "_law_fits" s__law_fits
  f__law_world : FunAt K mg "_law_world" "_law_world" s__law_world
  f__law_thing : FunAt K mg "_law_thing" "_law_thing" s__law_thing
  f__law_room : FunAt K mg "_law_room" "_law_room" s__law_room
  f__law_rooms : FunAt K mg "_law_rooms" "_law_rooms" s__law_rooms
  f__law_number : FunAt K mg "_law_number" "_law_number" s__law_number
  f__law_said : FunAt K mg "_law_said" "_law_said" s__law_said
  f__law_goes : FunAt K mg "_law_goes" "_law_goes" s__law_goes
  f__law_like : FunAt K mg "_law_like" "_law_like" s__law_like
  f__law_settled : FunAt K mg "_law_settled" "_law_settled" s__law_settled
  f__law_behind : FunAt K mg "_law_behind" "_law_behind" s__law_behind
  f__law_is_same : FunAt K mg "_law_is_same" "_law_is_same" s__law_is_same
  f__law_all : FunAt K mg "_law_all" "_law_all" s__law_all
  f__law_is_triple : FunAt K mg "_law_is_triple" "_law_is_triple" s__law_is_triple
  f__law_due : FunAt K mg "_law_due" "_law_due" s__law_due
  f__law_turned : FunAt K mg "_law_turned" "_law_turned" s__law_turned
  f_law : FunAt K mg "law" "law" s_law
  x_BadRooms : XAt K mg "BadRooms" s_TrialError___init__
  x_BadTrial : XAt K mg "BadTrial" s_TrialError___init__
  vV : PySem.W.findCls K (.type "ValueError") (.type "type") "__init__" = some (.val (.builtin "ValueError.__init__"))
  b_ValueError : mg "ValueError" = none
  b_all : mg "all" = none
  b_any : mg "any" = none
  b_bool : mg "bool" = none
  b_enumerate : mg "enumerate" = none
  b_int : mg "int" = none
  b_isinstance : mg "isinstance" = none
  b_len : mg "len" = none
  b_list : mg "list" = none
  b_max : mg "max" = none
  b_range : mg "range" = none
  b_repr : mg "repr" = none
  b_set : mg "set" = none
  b_sorted : mg "sorted" = none
  b_str : mg "str" = none
  b_tuple : mg "tuple" = none
  c0_LETTERS : ∃ t, mg "LETTERS" = some (.str "abcdefghijklmnopqrstuvwxyz" t)
  c0_MOST_LETTERS : ∃ t, mg "MOST_LETTERS" = some (.int 8 t)
  c0_MOST_ONE : ∃ t, mg "MOST_ONE" = some (.int 4 t)
  c0_MOST_ROOMS : ∃ t, mg "MOST_ROOMS" = some (.int 9 t)
  c0_MOST_THINGS : ∃ t, mg "MOST_THINGS" = some (.int 2 t)
  c0_MOST_WAYS : ∃ t, mg "MOST_WAYS" = some (.int 3 t)
  d_SIZES : KdF K w mg "SIZES" [("any", .int 1), ("is", .int 2), ("from", .int 2), ("to", .int 2), ("in", .int 3), ("one", .int 2)]
  fl_Doer_rooms : FldF K "Doer" "rooms"
theorem bb_all : bootBuiltins "all" = some (.builtin "all") := by decide +kernel
theorem bb_any : bootBuiltins "any" = some (.builtin "any") := by decide +kernel
theorem bb_bool : bootBuiltins "bool" = some (.type "bool") := by decide +kernel
theorem bb_int : bootBuiltins "int" = some (.type "int") := by decide +kernel
theorem bb_isinstance : bootBuiltins "isinstance" = some (.builtin "isinstance") := by decide +kernel
theorem bb_len : bootBuiltins "len" = some (.builtin "len") := by decide +kernel
theorem bb_list : bootBuiltins "list" = some (.type "list") := by decide +kernel
theorem bb_max : bootBuiltins "max" = some (.builtin "max") := by decide +kernel
theorem bb_repr : bootBuiltins "repr" = some (.builtin "repr") := by decide +kernel
theorem bb_set : bootBuiltins "set" = some (.type "set") := by decide +kernel
theorem bb_sorted : bootBuiltins "sorted" = some (.builtin "sorted") := by decide +kernel
theorem bb_str : bootBuiltins "str" = some (.type "str") := by decide +kernel
theorem bb_tuple : bootBuiltins "tuple" = some (.type "tuple") := by decide +kernel
theorem sc_is_whole : FnScope N_is_whole ["thing"] (defScope s_is_whole) := ⟨rfl, rfl, rfl, by decide +kernel, rfl, by decide +kernel, by decide +kernel⟩
theorem bi_is_whole : BindAll "is_whole" "is_whole" s_is_whole ["thing"] := fun _ _ _ _ _ _ => ar_1 (fun _ => rfl)
theorem sc_is_name : FnScope N_is_name ["thing"] (defScope s_is_name) := ⟨rfl, rfl, rfl, by decide +kernel, rfl, by decide +kernel, by decide +kernel⟩
theorem bi_is_name : BindAll "is_name" "is_name" s_is_name ["thing"] := fun _ _ _ _ _ _ => ar_1 (fun _ => rfl)
theorem sc_are_unlike : FnScope N_are_unlike ["some"] (defScope s_are_unlike) := ⟨rfl, rfl, rfl, by decide +kernel, rfl, by decide +kernel, by decide +kernel⟩
theorem bi_are_unlike : BindAll "are_unlike" "are_unlike" s_are_unlike ["some"] := fun _ _ _ _ _ _ => ar_1 (fun _ => rfl)
theorem sc_is_one : FnScope N_is_one ["numbers"] (defScope s_is_one) := ⟨rfl, rfl, rfl, by decide +kernel, rfl, by decide +kernel, by decide +kernel⟩
theorem bi_is_one : BindAll "is_one" "is_one" s_is_one ["numbers"] := fun _ _ _ _ _ _ => ar_1 (fun _ => rfl)
theorem sc_is_plain : FnScope N_is_plain ["look"] (defScope s_is_plain) := ⟨rfl, rfl, rfl, by decide +kernel, rfl, by decide +kernel, by decide +kernel⟩
theorem bi_is_plain : BindAll "is_plain" "is_plain" s_is_plain ["look"] := fun _ _ _ _ _ _ => ar_1 (fun _ => rfl)
theorem sc_is_look : FnScope N_is_look ["look"] (defScope s_is_look) := ⟨rfl, rfl, rfl, by decide +kernel, rfl, by decide +kernel, by decide +kernel⟩
theorem bi_is_look : BindAll "is_look" "is_look" s_is_look ["look"] := fun _ _ _ _ _ _ => ar_1 (fun _ => rfl)
theorem sc_fits : FnScope N_fits ["look", "number"] (defScope s_fits) := ⟨rfl, rfl, rfl, by decide +kernel, rfl, by decide +kernel, by decide +kernel⟩
theorem bi_fits : BindAll "fits" "fits" s_fits ["look", "number"] := fun _ _ _ _ _ _ => ar_2 (fun _ _ => rfl)
theorem sc_edges : FnScope N_edges ["look"] (defScope s_edges) := ⟨rfl, rfl, rfl, by decide +kernel, rfl, by decide +kernel, by decide +kernel⟩
theorem bi_edges : BindAll "edges" "edges" s_edges ["look"] := fun _ _ _ _ _ _ => ar_1 (fun _ => rfl)
theorem sc_turns : FnScope N_turns ["look"] (defScope s_turns) := ⟨rfl, rfl, rfl, by decide +kernel, rfl, by decide +kernel, by decide +kernel⟩
theorem bi_turns : BindAll "turns" "turns" s_turns ["look"] := fun _ _ _ _ _ _ => ar_1 (fun _ => rfl)
theorem sc_with_first : FnScope N_with_first ["some"] (defScope s_with_first) := ⟨rfl, rfl, rfl, by decide +kernel, rfl, by decide +kernel, by decide +kernel⟩
theorem bi_with_first : BindAll "with_first" "with_first" s_with_first ["some"] := fun _ _ _ _ _ _ => ar_1 (fun _ => rfl)
theorem sc_is_thing : FnScope N_is_thing ["thing"] (defScope s_is_thing) := ⟨rfl, rfl, rfl, by decide +kernel, rfl, by decide +kernel, by decide +kernel⟩
theorem bi_is_thing : BindAll "is_thing" "is_thing" s_is_thing ["thing"] := fun _ _ _ _ _ _ => ar_1 (fun _ => rfl)
theorem sc_is_place : FnScope N_is_place ["thing", "many"] (defScope s_is_place) := ⟨rfl, rfl, rfl, by decide +kernel, rfl, by decide +kernel, by decide +kernel⟩
theorem bi_is_place : BindAll "is_place" "is_place" s_is_place ["thing", "many"] := fun _ _ _ _ _ _ => ar_2 (fun _ _ => rfl)
theorem sc_is_way : FnScope N_is_way ["way", "many"] (defScope s_is_way) := ⟨rfl, rfl, rfl, by decide +kernel, rfl, by decide +kernel, by decide +kernel⟩
theorem bi_is_way : BindAll "is_way" "is_way" s_is_way ["way", "many"] := fun _ _ _ _ _ _ => ar_2 (fun _ _ => rfl)
theorem sc_is_asking : FnScope N_is_asking ["rest", "many"] (defScope s_is_asking) := ⟨rfl, rfl, rfl, by decide +kernel, rfl, by decide +kernel, by decide +kernel⟩
theorem bi_is_asking : BindAll "is_asking" "is_asking" s_is_asking ["rest", "many"] := fun _ _ _ _ _ _ => ar_2 (fun _ _ => rfl)
theorem sc_is_room : FnScope N_is_room ["room", "many"] (defScope s_is_room) := ⟨rfl, rfl, rfl, by decide +kernel, rfl, by decide +kernel, by decide +kernel⟩
theorem bi_is_room : BindAll "is_room" "is_room" s_is_room ["room", "many"] := fun _ _ _ _ _ _ => ar_2 (fun _ _ => rfl)
theorem sc_are_rooms : FnScope N_are_rooms ["rooms"] (defScope s_are_rooms) := ⟨rfl, rfl, rfl, by decide +kernel, rfl, by decide +kernel, by decide +kernel⟩
theorem bi_are_rooms : BindAll "are_rooms" "are_rooms" s_are_rooms ["rooms"] := fun _ _ _ _ _ _ => ar_1 (fun _ => rfl)
theorem sc_thing_at : FnScope N_thing_at ["thing", "last"] (defScope s_thing_at) := ⟨rfl, rfl, rfl, by decide +kernel, rfl, by decide +kernel, by decide +kernel⟩
theorem bi_thing_at : BindAll "thing_at" "thing_at" s_thing_at ["thing", "last"] := fun _ _ _ _ _ _ => ar_2 (fun _ _ => rfl)
theorem sc_Doer___init__ : FnScope N_Doer___init__ ["self", "rooms"] (defScope s_Doer___init__) := ⟨rfl, rfl, rfl, by decide +kernel, rfl, by decide +kernel, by decide +kernel⟩
theorem sc_Doer_ask_at : FnScope N_Doer_ask_at ["self", "state"] (defScope s_Doer_ask_at) := ⟨rfl, rfl, rfl, by decide +kernel, rfl, by decide +kernel, by decide +kernel⟩
theorem sc_Doer_told_at : FnScope N_Doer_told_at ["self", "state"] (defScope s_Doer_told_at) := ⟨rfl, rfl, rfl, by decide +kernel, rfl, by decide +kernel, by decide +kernel⟩
theorem sc_Doer_goes : FnScope N_Doer_goes ["self", "state", "answer"] (defScope s_Doer_goes) := ⟨rfl, rfl, rfl, by decide +kernel, rfl, by decide +kernel, by decide +kernel⟩
theorem sc_like : FnScope N_like ["samples", "number"] (defScope s_like) := ⟨rfl, rfl, rfl, by decide +kernel, rfl, by decide +kernel, by decide +kernel⟩
theorem bi_like : BindAll "like" "like" s_like ["samples", "number"] := fun _ _ _ _ _ _ => ar_2 (fun _ _ => rfl)
theorem sc_things_of : FnScope N_things_of ["doer"] (defScope s_things_of) := ⟨rfl, rfl, rfl, by decide +kernel, rfl, by decide +kernel, by decide +kernel⟩
theorem bi_things_of : BindAll "things_of" "things_of" s_things_of ["doer"] := fun _ _ _ _ _ _ => ar_1 (fun _ => rfl)
theorem sc_meeting_numbers : FnScope N_meeting_numbers ["things"] (defScope s_meeting_numbers) := ⟨rfl, rfl, rfl, by decide +kernel, rfl, by decide +kernel, by decide +kernel⟩
theorem bi_meeting_numbers : BindAll "meeting_numbers" "meeting_numbers" s_meeting_numbers ["things"] := fun _ _ _ _ _ _ => ar_1 (fun _ => rfl)
theorem sc_samples_of : FnScope N_samples_of ["some"] (defScope s_samples_of) := ⟨rfl, rfl, rfl, by decide +kernel, rfl, by decide +kernel, by decide +kernel⟩
theorem bi_samples_of : BindAll "samples_of" "samples_of" s_samples_of ["some"] := fun _ _ _ _ _ _ => ar_1 (fun _ => rfl)
theorem sc_answer_samples : FnScope N_answer_samples ["one", "other"] (defScope s_answer_samples) := ⟨rfl, rfl, rfl, by decide +kernel, rfl, by decide +kernel, by decide +kernel⟩
theorem bi_answer_samples : BindAll "answer_samples" "answer_samples" s_answer_samples ["one", "other"] := fun _ _ _ _ _ _ => ar_2 (fun _ _ => rfl)
theorem sc_said_at : FnScope N_said_at ["doer", "room", "last"] (defScope s_said_at) := ⟨rfl, rfl, rfl, by decide +kernel, rfl, by decide +kernel, by decide +kernel⟩
theorem bi_said_at : BindAll "said_at" "said_at" s_said_at ["doer", "room", "last"] := fun _ _ _ _ _ _ => ar_3 (fun _ _ _ => rfl)
theorem sc_is_same : FnScope N_is_same ["some", "triple"] (defScope s_is_same) := ⟨rfl, rfl, rfl, by decide +kernel, rfl, by decide +kernel, by decide +kernel⟩
theorem bi_is_same : BindAll "is_same" "is_same" s_is_same ["some", "triple"] := fun _ _ _ _ _ _ => ar_2 (fun _ _ => rfl)
theorem sc_hangs : FnScope N_hangs ["doer", "room"] (defScope s_hangs) := ⟨rfl, rfl, rfl, by decide +kernel, rfl, by decide +kernel, by decide +kernel⟩
theorem bi_hangs : BindAll "hangs" "hangs" s_hangs ["doer", "room"] := fun _ _ _ _ _ _ => ar_2 (fun _ _ => rfl)
theorem sc_settled_triple : FnScope N_settled_triple ["some", "samples", "triple"] (defScope s_settled_triple) := ⟨rfl, rfl, rfl, by decide +kernel, rfl, by decide +kernel, by decide +kernel⟩
theorem bi_settled_triple : BindAll "settled_triple" "settled_triple" s_settled_triple ["some", "samples", "triple"] := fun _ _ _ _ _ _ => ar_3 (fun _ _ _ => rfl)
theorem sc_rooms_behind : FnScope N_rooms_behind ["some", "samples", "triple"] (defScope s_rooms_behind) := ⟨rfl, rfl, rfl, by decide +kernel, rfl, by decide +kernel, by decide +kernel⟩
theorem bi_rooms_behind : BindAll "rooms_behind" "rooms_behind" s_rooms_behind ["some", "samples", "triple"] := fun _ _ _ _ _ _ => ar_3 (fun _ _ _ => rfl)
theorem sc_paired_off : FnScope N_paired_off ["one", "other"] (defScope s_paired_off) := ⟨rfl, rfl, rfl, by decide +kernel, rfl, by decide +kernel, by decide +kernel⟩
theorem bi_paired_off : BindAll "paired_off" "paired_off" s_paired_off ["one", "other"] := fun _ _ _ _ _ _ => ar_2 (fun _ _ => rfl)
theorem sc_parted : FnScope N_parted ["one", "other"] (defScope s_parted) := ⟨rfl, rfl, rfl, by decide +kernel, rfl, by decide +kernel, by decide +kernel⟩
theorem bi_parted : BindAll "parted" "parted" s_parted ["one", "other"] := fun _ _ _ _ _ _ => ar_2 (fun _ _ => rfl)
theorem sc_same_pairs : FnScope N_same_pairs ["one", "other"] (defScope s_same_pairs) := ⟨rfl, rfl, rfl, by decide +kernel, rfl, by decide +kernel, by decide +kernel⟩
theorem bi_same_pairs : BindAll "same_pairs" "same_pairs" s_same_pairs ["one", "other"] := fun _ _ _ _ _ _ => ar_2 (fun _ _ => rfl)
theorem sc_is_triple : FnScope N_is_triple ["some", "thing"] (defScope s_is_triple) := ⟨rfl, rfl, rfl, by decide +kernel, rfl, by decide +kernel, by decide +kernel⟩
theorem bi_is_triple : BindAll "is_triple" "is_triple" s_is_triple ["some", "thing"] := fun _ _ _ _ _ _ => ar_2 (fun _ _ => rfl)
theorem sc_shows_same : FnScope N_shows_same ["one", "other", "paper"] (defScope s_shows_same) := ⟨rfl, rfl, rfl, by decide +kernel, rfl, by decide +kernel, by decide +kernel⟩
theorem bi_shows_same : BindAll "shows_same" "shows_same" s_shows_same ["one", "other", "paper"] := fun _ _ _ _ _ _ => ar_3 (fun _ _ _ => rfl)
theorem sc__law_cell_at : FnScope N__law_cell_at ["_law_script", "_law_k"] (defScope s__law_cell_at) := ⟨rfl, rfl, rfl, by decide +kernel, rfl, by decide +kernel, by decide +kernel⟩
theorem bi__law_cell_at : BindAll "_law_cell_at" "_law_cell_at" s__law_cell_at ["_law_script", "_law_k"] := fun _ _ _ _ _ _ => ar_2 (fun _ _ => rfl)
theorem sc__law_well : FnScope N__law_well ["_law_cell"] (defScope s__law_well) := ⟨rfl, rfl, rfl, by decide +kernel, rfl, by decide +kernel, by decide +kernel⟩
theorem bi__law_well : BindAll "_law_well" "_law_well" s__law_well ["_law_cell"] := fun _ _ _ _ _ _ => ar_1 (fun _ => rfl)
theorem sc__law_draw : FnScope N__law_draw ["_law_well_here", "_law_many"] (defScope s__law_draw) := ⟨rfl, rfl, rfl, by decide +kernel, rfl, by decide +kernel, by decide +kernel⟩
theorem bi__law_draw : BindAll "_law_draw" "_law_draw" s__law_draw ["_law_well_here", "_law_many"] := fun _ _ _ _ _ _ => ar_2 (fun _ _ => rfl)
theorem sc__law_one : FnScope N__law_one ["_law_well_here", "_law_some"] (defScope s__law_one) := ⟨rfl, rfl, rfl, by decide +kernel, rfl, by decide +kernel, by decide +kernel⟩
theorem bi__law_one : BindAll "_law_one" "_law_one" s__law_one ["_law_well_here", "_law_some"] := fun _ _ _ _ _ _ => ar_2 (fun _ _ => rfl)
theorem sc__law_names : FnScope N__law_names ["_law_well_here", "_law_many"] (defScope s__law_names) := ⟨rfl, rfl, rfl, by decide +kernel, rfl, by decide +kernel, by decide +kernel⟩
theorem bi__law_names : BindAll "_law_names" "_law_names" s__law_names ["_law_well_here", "_law_many"] := fun _ _ _ _ _ _ => ar_2 (fun _ _ => rfl)
theorem sc__law_mids : FnScope N__law_mids ["_law_well_here"] (defScope s__law_mids) := ⟨rfl, rfl, rfl, by decide +kernel, rfl, by decide +kernel, by decide +kernel⟩
theorem bi__law_mids : BindAll "_law_mids" "_law_mids" s__law_mids ["_law_well_here"] := fun _ _ _ _ _ _ => ar_1 (fun _ => rfl)
theorem sc__law_near : FnScope N__law_near ["_law_well_here", "_law_mids_here"] (defScope s__law_near) := ⟨rfl, rfl, rfl, by decide +kernel, rfl, by decide +kernel, by decide +kernel⟩
theorem bi__law_near : BindAll "_law_near" "_law_near" s__law_near ["_law_well_here", "_law_mids_here"] := fun _ _ _ _ _ _ => ar_2 (fun _ _ => rfl)
theorem sc__law_unlike : FnScope N__law_unlike ["_law_some"] (defScope s__law_unlike) := ⟨rfl, rfl, rfl, by decide +kernel, rfl, by decide +kernel, by decide +kernel⟩
theorem bi__law_unlike : BindAll "_law_unlike" "_law_unlike" s__law_unlike ["_law_some"] := fun _ _ _ _ _ _ => ar_1 (fun _ => rfl)
theorem sc__law_look : FnScope N__law_look ["_law_well_here", "_law_mids_here"] (defScope s__law_look) := ⟨rfl, rfl, rfl, by decide +kernel, rfl, by decide +kernel, by decide +kernel⟩
theorem bi__law_look : BindAll "_law_look" "_law_look" s__law_look ["_law_well_here", "_law_mids_here"] := fun _ _ _ _ _ _ => ar_2 (fun _ _ => rfl)
theorem sc__law_fits : FnScope N__law_fits ["_law_look_here", "_law_number_here"] (defScope s__law_fits) := ⟨rfl, rfl, rfl, by decide +kernel, rfl, by decide +kernel, by decide +kernel⟩
theorem bi__law_fits : BindAll "_law_fits" "_law_fits" s__law_fits ["_law_look_here", "_law_number_here"] := fun _ _ _ _ _ _ => ar_2 (fun _ _ => rfl)
theorem sc__law_world : FnScope N__law_world ["_law_well_here"] (defScope s__law_world) := ⟨rfl, rfl, rfl, by decide +kernel, rfl, by decide +kernel, by decide +kernel⟩
theorem bi__law_world : BindAll "_law_world" "_law_world" s__law_world ["_law_well_here"] := fun _ _ _ _ _ _ => ar_1 (fun _ => rfl)
theorem sc__law_thing : FnScope N__law_thing ["_law_well_here", "_law_mids_here"] (defScope s__law_thing) := ⟨rfl, rfl, rfl, by decide +kernel, rfl, by decide +kernel, by decide +kernel⟩
theorem bi__law_thing : BindAll "_law_thing" "_law_thing" s__law_thing ["_law_well_here", "_law_mids_here"] := fun _ _ _ _ _ _ => ar_2 (fun _ _ => rfl)
theorem sc__law_room : FnScope N__law_room ["_law_well_here", "_law_world_here", "_law_many"] (defScope s__law_room) := ⟨rfl, rfl, rfl, by decide +kernel, rfl, by decide +kernel, by decide +kernel⟩
theorem bi__law_room : BindAll "_law_room" "_law_room" s__law_room ["_law_well_here", "_law_world_here", "_law_many"] := fun _ _ _ _ _ _ => ar_3 (fun _ _ _ => rfl)
theorem sc__law_rooms : FnScope N__law_rooms ["_law_well_here", "_law_world_here", "_law_most"] (defScope s__law_rooms) := ⟨rfl, rfl, rfl, by decide +kernel, rfl, by decide +kernel, by decide +kernel⟩
theorem bi__law_rooms : BindAll "_law_rooms" "_law_rooms" s__law_rooms ["_law_well_here", "_law_world_here", "_law_most"] := fun _ _ _ _ _ _ => ar_3 (fun _ _ _ => rfl)
theorem sc__law_number : FnScope N__law_number ["_law_thing_here", "_law_last"] (defScope s__law_number) := ⟨rfl, rfl, rfl, by decide +kernel, rfl, by decide +kernel, by decide +kernel⟩
theorem bi__law_number : BindAll "_law_number" "_law_number" s__law_number ["_law_thing_here", "_law_last"] := fun _ _ _ _ _ _ => ar_2 (fun _ _ => rfl)
theorem sc__law_said : FnScope N__law_said ["_law_rooms_here", "_law_state"] (defScope s__law_said) := ⟨rfl, rfl, rfl, by decide +kernel, rfl, by decide +kernel, by decide +kernel⟩
theorem bi__law_said : BindAll "_law_said" "_law_said" s__law_said ["_law_rooms_here", "_law_state"] := fun _ _ _ _ _ _ => ar_2 (fun _ _ => rfl)
theorem sc__law_goes : FnScope N__law_goes ["_law_rooms_here", "_law_state", "_law_answer"] (defScope s__law_goes) := ⟨rfl, rfl, rfl, by decide +kernel, rfl, by decide +kernel, by decide +kernel⟩
theorem bi__law_goes : BindAll "_law_goes" "_law_goes" s__law_goes ["_law_rooms_here", "_law_state", "_law_answer"] := fun _ _ _ _ _ _ => ar_3 (fun _ _ _ => rfl)
theorem sc__law_like : FnScope N__law_like ["_law_stops", "_law_number_here"] (defScope s__law_like) := ⟨rfl, rfl, rfl, by decide +kernel, rfl, by decide +kernel, by decide +kernel⟩
theorem bi__law_like : BindAll "_law_like" "_law_like" s__law_like ["_law_stops", "_law_number_here"] := fun _ _ _ _ _ _ => ar_2 (fun _ _ => rfl)
theorem sc__law_settled : FnScope N__law_settled ["_law_one_here", "_law_other", "_law_stops", "_law_triple"] (defScope s__law_settled) := ⟨rfl, rfl, rfl, by decide +kernel, rfl, by decide +kernel, by decide +kernel⟩
theorem bi__law_settled : BindAll "_law_settled" "_law_settled" s__law_settled ["_law_one_here", "_law_other", "_law_stops", "_law_triple"] := fun _ _ _ _ _ _ => ar_4 (fun _ _ _ _ => rfl)
theorem sc__law_behind : FnScope N__law_behind ["_law_one_here", "_law_other", "_law_stops", "_law_triple"] (defScope s__law_behind) := ⟨rfl, rfl, rfl, by decide +kernel, rfl, by decide +kernel, by decide +kernel⟩
theorem bi__law_behind : BindAll "_law_behind" "_law_behind" s__law_behind ["_law_one_here", "_law_other", "_law_stops", "_law_triple"] := fun _ _ _ _ _ _ => ar_4 (fun _ _ _ _ => rfl)
theorem sc__law_is_same : FnScope N__law_is_same ["_law_one_here", "_law_other", "_law_triple"] (defScope s__law_is_same) := ⟨rfl, rfl, rfl, by decide +kernel, rfl, by decide +kernel, by decide +kernel⟩
theorem bi__law_is_same : BindAll "_law_is_same" "_law_is_same" s__law_is_same ["_law_one_here", "_law_other", "_law_triple"] := fun _ _ _ _ _ _ => ar_3 (fun _ _ _ => rfl)
theorem sc__law_all : FnScope N__law_all ["_law_one_here", "_law_other", "_law_stops"] (defScope s__law_all) := ⟨rfl, rfl, rfl, by decide +kernel, rfl, by decide +kernel, by decide +kernel⟩
theorem bi__law_all : BindAll "_law_all" "_law_all" s__law_all ["_law_one_here", "_law_other", "_law_stops"] := fun _ _ _ _ _ _ => ar_3 (fun _ _ _ => rfl)
theorem sc__law_is_triple : FnScope N__law_is_triple ["_law_one_here", "_law_other", "_law_thing_here"] (defScope s__law_is_triple) := ⟨rfl, rfl, rfl, by decide +kernel, rfl, by decide +kernel, by decide +kernel⟩
theorem bi__law_is_triple : BindAll "_law_is_triple" "_law_is_triple" s__law_is_triple ["_law_one_here", "_law_other", "_law_thing_here"] := fun _ _ _ _ _ _ => ar_3 (fun _ _ _ => rfl)
theorem sc__law_due : FnScope N__law_due ["_law_one_here", "_law_other", "_law_stops", "_law_paper"] (defScope s__law_due) := ⟨rfl, rfl, rfl, by decide +kernel, rfl, by decide +kernel, by decide +kernel⟩
theorem bi__law_due : BindAll "_law_due" "_law_due" s__law_due ["_law_one_here", "_law_other", "_law_stops", "_law_paper"] := fun _ _ _ _ _ _ => ar_4 (fun _ _ _ _ => rfl)
theorem sc__law_turned : FnScope N__law_turned ["_law_well_here", "_law_paper"] (defScope s__law_turned) := ⟨rfl, rfl, rfl, by decide +kernel, rfl, by decide +kernel, by decide +kernel⟩
theorem bi__law_turned : BindAll "_law_turned" "_law_turned" s__law_turned ["_law_well_here", "_law_paper"] := fun _ _ _ _ _ _ => ar_2 (fun _ _ => rfl)
theorem sc_law : FnScope N_law ["_law_script"] (defScope s_law) := ⟨rfl, rfl, rfl, by decide +kernel, rfl, by decide +kernel, by decide +kernel⟩
theorem bi_law : BindAll "law" "law" s_law ["_law_script"] := fun _ _ _ _ _ _ => ar_1 (fun _ => rfl)
theorem bkb_Doer___init___0 : BindKw "__init__" "Doer.__init__" s_Doer___init__ ["self", "rooms"] 2 [] [0, 1] := fun _ _ _ _ _ _ => ar_2_0 (fun _ _ => rfl)
theorem kb_Doer___init___0 {K : PySem.W.Frag} : ∀ f fd, FunG K "__init__" "Doer.__init__" s_Doer___init__ [] [] f fd → KBd K fd ["self", "rooms"] 2 [] (gI [0, 1]) := fun f fd G => kbd_N0 G bkb_Doer___init___0
theorem bkb_Doer_ask_at_1 : BindKw "ask_at" "Doer.ask_at" s_Doer_ask_at ["self", "state"] 2 [] [0, 1] := fun _ _ _ _ _ _ => ar_2_0 (fun _ _ => rfl)
theorem kb_Doer_ask_at_1 {K : PySem.W.Frag} : ∀ f fd, FunG K "ask_at" "Doer.ask_at" s_Doer_ask_at [] [] f fd → KBd K fd ["self", "state"] 2 [] (gI [0, 1]) := fun f fd G => kbd_N0 G bkb_Doer_ask_at_1
theorem bkb_Doer_told_at_2 : BindKw "told_at" "Doer.told_at" s_Doer_told_at ["self", "state"] 2 [] [0, 1] := fun _ _ _ _ _ _ => ar_2_0 (fun _ _ => rfl)
theorem kb_Doer_told_at_2 {K : PySem.W.Frag} : ∀ f fd, FunG K "told_at" "Doer.told_at" s_Doer_told_at [] [] f fd → KBd K fd ["self", "state"] 2 [] (gI [0, 1]) := fun f fd G => kbd_N0 G bkb_Doer_told_at_2
theorem bkb_Doer_goes_3 : BindKw "goes" "Doer.goes" s_Doer_goes ["self", "state", "answer"] 3 [] [0, 1, 2] := fun _ _ _ _ _ _ => ar_3_0 (fun _ _ _ => rfl)
theorem kb_Doer_goes_3 {K : PySem.W.Frag} : ∀ f fd, FunG K "goes" "Doer.goes" s_Doer_goes [] [] f fd → KBd K fd ["self", "state", "answer"] 3 [] (gI [0, 1, 2]) := fun f fd G => kbd_N0 G bkb_Doer_goes_3
theorem sc_TE : FnScope ["self", "why"] ["self", "why"] (defScope s_TrialError___init__) := ⟨rfl, rfl, rfl, by decide +kernel, rfl, by decide +kernel, by decide +kernel⟩
theorem bt_TE : BindT0 "__init__" "TrialError.__init__" s_TrialError___init__ ["self", "why"] 2 [] 1 [0, 1] := fun _ _ _ _ _ _ _ => ar_2_1_0 (fun _ _ _ => ⟨_, rfl, rfl⟩)
theorem hb_TE {K : PySem.W.Frag} : ∀ fd, (∃ fI, FunG K "__init__" "TrialError.__init__" s_TrialError___init__ [.str "refused"] [] fI fd) → Binds K fd ["self", "why"] [] := fun fd ⟨_, G⟩ => te_binds G bt_TE
-- tails
theorem ln_law : ∀ ds m Q PX, spLaw ds m Q PX → ds.length = 1 := by rintro ds m Q PX ⟨d, rfl, _⟩; rfl
theorem pu_law : ∀ ds m Q PX, spLaw ds m Q PX → rd_law (dEnds Q PX) (dstart N_law ds) m := by
  rintro ds m Q PX ⟨ns, rfl, hn, h⟩
  walk_at "go"
  refine ⟨ns, 0, rfl, fun c0 => ?_⟩
  have hcut := cut_le ns (some 1) (some 3)
  walk_at "go"
  refine loop_inv (fun i δ m' => ∃ a1 a2 a3 a4 a5 a6 a7 a8 a9 a10 a11 a12 a13 a14, δ = [some (.lst (ns.map .int)), a1, a2, a3, a4, a5, a6, a7, a8, a9, a10, a11, a12, a13, a14]) (fun i d δ m' e hh => ?_) (fun δ m' hh => ⟨trivial, h _⟩) ⟨_, _, _, _, _, _, _, _, _, _, _, _, _, _, rfl⟩
  obtain ⟨a1, a2, a3, a4, a5, a6, a7, a8, a9, a10, a11, a12, a13, a14, rfl⟩ := hh
  obtain ⟨c, rfl⟩ := cells d (List.mem_of_getElem? e)
  refine ⟨trivial, fun Nx k1 => ?_⟩
  walk_at "go"
  refine ⟨c, rfl, fun w m1 hw kp1 w1 => ?_⟩
  walk_at "go"
  refine ⟨w, rfl, _, w1, by decide, fun wd m2 hwd kp2 w2 => ?_⟩
  walk_at "go"
  refine ⟨w, wd, 4, rfl, hwd, by decide, by decide, _, w2, by decide, fun d m3 hd kp3 w3 => ?_⟩
  obtain ⟨a, rfl, oa, ha4, _⟩ := hd
  have lR : (a.map Rm.d).length = a.length := List.length_map _
  have one := oa.one
  -- behind the two programs
  have fin : ∀ (b : List Rm) (m5 : Mu), RsOk b → b.length ≤ 4 → Wl m5 w 900 → T_law_5 { nx := Nx, rt := Q, bk := sRet (rC (.bl true)) (dEnds Q PX), ct := Nx, xx := fun c fs _ m => PX c fs m } [some (.lst (ns.map .int)), some (.int c), some (.adr w), some wd, some (rmsD a), some (rmsD b), a6, a7, a8, a9, a10, a11, a12, a13, a14] m5 := by
    intro b m5 ob hb4 w5
    have hab : a.length + b.length ≤ 12 := by omega
    walk_at "go"
    refine ⟨_, _, rfl, thg_of oa.th, thg_of ob.th, .inl ⟨a, b, rfl, rfl, oa, ob, hab, ?_⟩⟩
    walk_at "go"
    refine ⟨a, b, rfl, oa, ob, ha4, hb4, fun m6 ls kp6 cls => ?_⟩
    have w6 := w5.keep kp6 (by simp)
    have lls := clo_few oa ob ha4 hb4 cls.1
    have itm := clo_itm oa ob cls.1
    have lm : (ls.map triD).length = ls.length := List.length_map _
    walk_at "go"
    refine ⟨a, b, rfl, oa, ob, hab, fun m7 ks q kp7 hq7 hm7 clk => ?_⟩
    cases clo_uni oa ob clk cls
    have w7 := w6.keep kp7 (by simp)
    have hqw : q ≠ w := fun z => by
      have := w6.some
      rw [← z] at this
      exact this hq7
    show T_law_8 { nx := Nx, rt := Q, bk := sRet (rC (.bl true)) (dEnds Q PX), ct := Nx, xx := fun c fs _ m => PX c fs m } [some (.lst (ns.map .int)), some (.int c), some (.adr w), some wd, some (rmsD a), some (rmsD b), some (.lst ((smpR a b).map .int)), some (.lst (ls.map triD)), some (.adr q), a9, a10, a11, a12, a13, a14] m7
    walk_at "go"
    rw [show tyN m7 (.adr q) = some "list" from by unfold tyN; dsimp only; rw [hm7]]
    walk_at "go"
    refine ⟨by rw [dat_adr73 hm7]; exact shp_tris ls, shp_tris ls, ?_⟩
    rw [if_pos rfl, dat_adr73 hm7, show dat m7 (.lst (ls.map triD)) = .lst (ls.map triD) from rfl, deq_shp73 (shp_tris ls)]
    walk_at "go"
    have papL : PapT 31000 (.lst (ls.map triD)) := .inl ⟨_, .inl rfl, by omega, itm⟩
    refine ⟨a, b, .adr q, .lst (ls.map triD), rfl, oa, ob, ha4, hb4, papL, .inr ⟨q, _, rfl, rfl, hm7⟩, fun m8 t kp8 ht => ?_⟩
    have hm8 := kp8 q _ (by simp) hm7
    have w8 := w7.keep kp8 (by simp)
    have sh : ShowD a b (.lst (ls.map triD)) ↔ ∀ ns : List Int, runR a ns 0 0 = runR b ns 0 0 := Iff.trans ⟨fun ⟨ds, e, s⟩ => by injection e with e; rw [tris_inj e]; exact s, fun s => ⟨ls, rfl, s⟩⟩ (clo_show oa ob cls.1)
    walk_at "go"
    refine ⟨a, b, rfl, oa, ob, hab, fun m9 R kp9 sR _ => ?_⟩
    have hm9 := kp9 q _ (by simp) hm8
    have w9 := w8.keep kp9 (by simp)
    have tR : t = true ↔ R = none := ht.trans (sh.trans (spc_iff sR).symm)
    have et : t = isNone (oRw R) := by
      cases R with
      | none => rw [tR.mpr rfl]; rfl
      | some r => cases t with
        | true => cases tR.mp rfl
        | false => rfl
    rw [et]
    walk_at "go"
    rw [if_pos rfl, if_neg (by simp), decide_eq_true rfl]
    walk_at "go"
    refine loop_inv (fun i δ m' => m' q = some (.lst (ls.map triD)) ∧ Wl m' w (1000 + 13 * i) ∧ ∃ a9 a10 a11 a12 a13 a14, δ = [some (.lst (ns.map .int)), some (.int c), some (.adr w), some wd, some (rmsD a), some (rmsD b), some (.lst ((smpR a b).map .int)), some (.lst (ls.map triD)), some (.adr q), a9, a10, a11, a12, a13, a14]) (fun i d δ m' e hh => ?_) (fun δ m' hh => ?_) ⟨hm9, w9.mono (by omega), _, _, _, _, _, _, rfl⟩
    · obtain ⟨hq, wl, b9, b10, b11, b12, b13, b14, rfl⟩ := hh
      obtain ⟨hi, rfl⟩ := rg_get e
      have hi2 : i < 3 := by have : ((3 : Int) - 0).toNat = 3 := rfl; omega
      refine ⟨trivial, fun Nx' k2 => ?_⟩
      walk_at "go"
      refine ⟨w, 3, rfl, by decide, by decide, _, wl, by omega, fun d m10 hd kp10 w10 => ?_⟩
      obtain ⟨r, r0, r1, rfl⟩ := hd
      have hq10 := kp10 q _ (by simpa using hqw) hq
      walk_at "go"
      refine loop_inv (fun j δ m' => m' q = some (.lst (ls.map triD)) ∧ Wl m' w (1000 + 13 * i + 1 + 6 * j) ∧ ∃ f a11, PapT (7712 * 2 ^ j + (2 ^ j - 1)) f ∧ δ = [some (.lst (ns.map .int)), some (.int c), some (.adr w), some wd, some (rmsD a), some (rmsD b), some (.lst ((smpR a b).map .int)), some (.lst (ls.map triD)), some (.adr q), some (.int (0 + (i : Int))), some f, a11, b12, b13, b14]) (fun j d δ m' e hh => ?_) (fun δ m' hh => ?_) ⟨hq10, w10.mono (by omega), _, _, .inl ⟨_, .inl rfl, by omega, itm⟩, rfl⟩
      · obtain ⟨hq, wl, f, a11, pf, rfl⟩ := hh
        obtain ⟨hj, rfl⟩ := rg_get e
        have hj2 : j < 2 := by omega
        refine ⟨trivial, fun Nx'' k3 => ?_⟩
        have stay : ∀ a11, Nx'' [some (.lst (ns.map .int)), some (.int c), some (.adr w), some wd, some (rmsD a), some (rmsD b), some (.lst ((smpR a b).map .int)), some (.lst (ls.map triD)), some (.adr q), some (.int (0 + (i : Int))), some f, a11, b12, b13, b14] m' := fun a11 => by
          refine k3 _ _ ⟨hq, wl.mono (by omega), f, a11, pap_mono pf ?_, rfl⟩
          have h1 : 2 ^ (j + 1) = 2 * 2 ^ j := by rw [Nat.pow_succ, Nat.mul_comm]
          omega
        have pf' := pf
        rcases pf' with ⟨xs, rfl | rfl, lx, hx⟩ | rfl | rfl
        rotate_left
        · walk_at "go"
          exact stay _
        · walk_at "go"
          exact stay _
        · walk_at "go"
          exact stay _
        walk_at "go"
        refine ⟨shp_itms hx, shpN, ?_⟩
        rw [if_pos rfl, ne_nil73]
        cases en : xs.isEmpty with
        | true =>
          walk_at "go"
          exact stay _
        | false =>
        have l0 : 0 < xs.length := by
          cases xs with
          | nil => cases en
          | cons x xs => exact Nat.succ_pos _
        have h2 : 2 ^ j ≤ 2 := by
          have : j = 0 ∨ j = 1 := by omega
          rcases this with rfl | rfl <;> decide
        have h3 : 1 ≤ 2 ^ j := Nat.one_le_two_pow
        walk_at "go"
        refine ⟨w, xs, 7712 * 2 ^ j + (2 ^ j - 1), rfl, l0, lx, by omega, hx, _, wl, by omega, fun d m11 hd kp11 w11 => ?_⟩
        walk_at "go"
        refine k3 _ _ ⟨kp11 q _ (by simpa using hqw) hq, w11.mono (by omega), d, _, pap_mono hd ?_, rfl⟩
        have h1 : 2 ^ (j + 1) = 2 * 2 ^ j := by rw [Nat.pow_succ, Nat.mul_comm]
        omega
      · obtain ⟨hq, wl, f, a11, pf, rfl⟩ := hh
        have hr2 : (rangeD 0 r.toNat).length ≤ 2 := by rw [rg_len]; omega
        refine ⟨trivial, ?_⟩
        have h2 : 2 ^ (rangeD 0 r.toNat).length ≤ 4 := by
          generalize (rangeD 0 r.toNat).length = n at hr2
          have : n = 0 ∨ n = 1 ∨ n = 2 := by omega
          rcases this with rfl | rfl | rfl <;> decide
        have pf : PapT 31000 f := pap_mono pf (by omega)
        have wl := wl.mono (j := 1000 + 13 * (i + 1)) (by omega)
        walk_at "go"
        refine ⟨by rw [pap_dat pf]; exact rep_pap pf, ?_⟩
        rw [pap_dat pf]
        walk_at "go"
        refine ⟨a, b, f, f, rfl, oa, ob, ha4, hb4, pf, .inl rfl, fun m12 t1 kp12 ht1 => ?_⟩
        have hq12 := kp12 q _ (by simp) hq
        have w12 := wl.keep kp12 (by simp)
        walk_at "go"
        refine ⟨a, b, f, rfl, oa, ob, ha4, hb4, pf, fun m13 t2 kp13 ht2 => ?_⟩
        have hq13 := kp13 q _ (by simp) hq12
        have w13 := w12.keep kp13 (by simp)
        have e12 : t1 = t2 := by
          cases t1 with
          | true => exact (ht2.mpr (ht1.mp rfl)).symm
          | false => cases t2 with
            | true => cases ht1.mpr (ht2.mp rfl)
            | false => rfl
        subst e12
        walk_at "go"
        rw [if_pos rfl, decide_eq_true rfl]
        walk_at "go"
        refine ⟨by rw [pap_dat pf]; exact rep_pap pf, ?_⟩
        rw [pap_dat pf]
        walk_at "go"
        rw [if_pos rfl, decide_eq_true rfl]
        walk_at "go"
        exact k2 _ _ ⟨hq13, w13, _, _, _, _, _, _, rfl⟩
    · obtain ⟨hq, wl, b9, b10, b11, b12, b13, b14, rfl⟩ := hh
      refine ⟨trivial, ?_⟩
      walk_at "go"
      rw [hq]
      walk_at "go"
      refine ⟨a, b, rfl, oa, ob, hab, fun m11 ks q2 kp11 hq11 hm11 clk => ?_⟩
      cases clo_uni oa ob clk cls
      walk_at "go"
      refine ⟨by rw [dat_adr73 hm11]; exact shp_tris ls, shp_tris ls, ?_⟩
      rw [if_pos rfl, dat_adr73 hm11, show dat m11 (.lst (ls.map triD)) = .lst (ls.map triD) from rfl, deq_shp73 (shp_tris ls)]
      walk_at "go"
      exact k1 _ _ ⟨_, _, _, _, _, _, _, _, _, _, _, _, _, _, rfl⟩
  walk_at "go"
  refine ⟨w, wd, 4, rfl, hwd, by decide, by decide, _, w3, by decide, fun d m4 hd kp4 w4 => ?_⟩
  obtain ⟨b, rfl, ob, hb4, _⟩ := hd
  have cl := cut_m1d Rm.d a ha4
  have lD : (a.dropLast.map Rm.d).length ≤ 4 := by rw [List.length_map, List.length_dropLast]; omega
  obtain ⟨N, hN⟩ : ∃ N : Int, N = (a.length : Int) := ⟨_, rfl⟩
  walk_at "go"
  rw [cl, lR, ← hN]
  walk_at "go"
  refine ⟨w, wd, N, rfl, hwd, by omega, by omega, _, w4, by decide, fun d m5 hd kp5 w5 => ?_⟩
  obtain ⟨r, rfl, hr, _⟩ := hd
  have hr : r.Ok a.length := by rw [hN] at hr; exact hr
  obtain ⟨od, ld⟩ := rs_lastT oa hr
  have ee : D.tup (a.dropLast.map Rm.d ++ [r.d]) = rmsD (a.dropLast ++ [r]) := by unfold rmsD; rw [List.map_append]; rfl
  walk_at "go"
  refine ⟨w, _, _, rfl, .inl rfl, by simp, by simp, _, w5, by decide, fun d m6 hd kp6 w6 => ?_⟩
  simp only [List.mem_cons, List.not_mem_nil, or_false] at hd
  rw [ee] at hd
  have w6 := w6.mono (j := 900) (by decide)
  rcases hd with rfl | rfl | rfl | rfl
  · exact fin b m6 ob hb4 w6
  · exact fin a m6 oa ha4 w6
  · exact fin a m6 oa ha4 w6
  · exact fin _ m6 od (by omega) w6
section
variable {P : Program} {w : World} {K : PySem.W.Frag} {mg : Str → Option Value} {base : Heap}
theorem ok_is_whole (T : Tx w K mg) : DefOk P w K mg base 1 "is_whole" "is_whole" s_is_whole ["thing"] sp_is_whole := by
  refine def_ok (r := rd_is_whole) T.f_is_whole sc_is_whole ln_is_whole (fun f cdv A outer s H E hr => ?_) pu_is_whole
  have tk : Takes (cxOf (L2.CX P w) P w K mg base N_is_whole "is_whole" (defScope s_is_whole) f cdv A outer s H E) (fun c d _ H => E c d H) := takes_of rfl rfl rfl rfl
  exact dss_one (ds_ret (pd_and (pd_isi T.b_isinstance bb_isinstance (da_cons (pd_v 0) (da_cons (pd_ty T.b_int bb_int) (da_nil)))) (pd_one (pd_not (pd_isi T.b_isinstance bb_isinstance (da_cons (pd_v 0) (da_cons (pd_ty T.b_bool bb_bool) (da_nil))))))))
theorem ok_is_name (T : Tx w K mg) : DefOk P w K mg base 1 "is_name" "is_name" s_is_name ["thing"] sp_is_name := by
  obtain ⟨t_LETTERS, c_LETTERS⟩ := T.c0_LETTERS
  obtain ⟨t_MOST_LETTERS, c_MOST_LETTERS⟩ := T.c0_MOST_LETTERS
  refine def_ok (r := rd_is_name) T.f_is_name sc_is_name ln_is_name (fun f cdv A outer s H E hr => ?_) pu_is_name
  have tk : Takes (cxOf (L2.CX P w) P w K mg base N_is_name "is_name" (defScope s_is_name) f cdv A outer s H E) (fun c d _ H => E c d H) := takes_of rfl rfl rfl rfl
  exact dss_cons (ds_if (PW.pt (dw_or (dt_not (dt_tru (pd_isi T.b_isinstance bb_isinstance (da_cons (pd_v 0) (da_cons (pd_ty T.b_str bb_str) (da_nil)))))) (dw_or1 (dt_not (dt_chain op_le op_le le_ok le_ok (pd_int) (pd_len T.b_len bb_len (da_cons (pd_v 0) (da_nil))) (pd_gint c_MOST_LETTERS)))))) (dss_one (ds_ret (pd_bl))) (dss_nil))
    (dss_one (ds_ret (pd_all rfl T.b_all bb_all (da_cons (pd_lc rfl sc_is_name.nd (di_any (pd_v 0)) (blkOk_by (own := [("sign", 1)]) (N := N_is_name) (sc := defScope s_is_name) (by decide +kernel)) (gN_ok) rfl (fun _ _ _ _ _ => pg_name (i := 1) sc_is_name.nd rfl (by first | exact Or.inl rfl | exact Or.inr rfl)) (fun _ _ _ _ _ => dts_nil) (fun _ _ _ _ _ => pd_in (units65 hr) (pd_v 1) (pd_gstr c_LETTERS))) (da_nil)))))
theorem ok_are_unlike (T : Tx w K mg) : DefOk P w K mg base 1 "are_unlike" "are_unlike" s_are_unlike ["some"] sp_are_unlike := by
  refine def_ok (r := rd_are_unlike) T.f_are_unlike sc_are_unlike ln_are_unlike (fun f cdv A outer s H E hr => ?_) pu_are_unlike
  have tk : Takes (cxOf (L2.CX P w) P w K mg base N_are_unlike "are_unlike" (defScope s_are_unlike) f cdv A outer s H E) (fun c d _ H => E c d H) := takes_of rfl rfl rfl rfl
  exact dss_one (ds_ret (pd_all rfl T.b_all bb_all (da_cons (pd_lc rfl sc_are_unlike.nd (di_enum T.b_enumerate (da_cons (pd_v 0) (da_nil))) (blkOk_by (own := [("at", 1), ("one", 2)]) (N := N_are_unlike) (sc := defScope s_are_unlike) (by decide +kernel)) (gT_ok (js := [1, 2])) rfl (fun _ _ _ _ _ => pg_tup rfl (dgs_cons (pg_name (i := 1) sc_are_unlike.nd rfl (by first | exact Or.inl rfl | exact Or.inr rfl)) (dgs_cons (pg_name (i := 2) sc_are_unlike.nd rfl (by first | exact Or.inl rfl | exact Or.inr rfl)) (dgs_nil)))) (fun _ _ _ _ _ => dts_nil) (fun _ _ _ _ _ => pd_notIn (units65 hr) (pd_v 2) (pd_sl (pd_v 0) dp_none (dp_some (pd_v 1))))) (da_nil))))
theorem ok_is_one (T : Tx w K mg) (G_is_whole : DefOk P w K mg base 1 "is_whole" "is_whole" s_is_whole ["thing"] sp_is_whole) (G_are_unlike : DefOk P w K mg base 1 "are_unlike" "are_unlike" s_are_unlike ["some"] sp_are_unlike) : DefOk P w K mg base 2 "is_one" "is_one" s_is_one ["numbers"] sp_is_one := by
  obtain ⟨t_MOST_ONE, c_MOST_ONE⟩ := T.c0_MOST_ONE
  refine def_ok (r := rd_is_one) T.f_is_one sc_is_one ln_is_one (fun f cdv A outer s H E hr => ?_) pu_is_one
  have tk : Takes (cxOf (L2.CX P w) P w K mg base N_is_one "is_one" (defScope s_is_one) f cdv A outer s H E) (fun c d _ H => E c d H) := takes_of rfl rfl rfl rfl
  exact dss_cons (ds_if (PW.pt (dw_or (dt_not (dt_tru (pd_isi T.b_isinstance bb_isinstance (da_cons (pd_v 0) (da_cons (pd_ty T.b_tuple bb_tuple) (da_nil)))))) (dw_or1 (dt_gt (pd_len T.b_len bb_len (da_cons (pd_v 0) (da_nil))) (pd_gint c_MOST_ONE))))) (dss_one (ds_ret (pd_bl))) (dss_nil))
    (dss_one (ds_ret (pd_and (pd_all rfl T.b_all bb_all (da_cons (pd_lc rfl sc_is_one.nd (di_any (pd_v 0)) (blkOk_by (own := [("number", 1)]) (N := N_is_one) (sc := defScope s_is_one) (by decide +kernel)) (gN_ok) rfl (fun _ _ _ _ _ => pg_name (i := 1) sc_is_one.nd rfl (by first | exact Or.inl rfl | exact Or.inr rfl)) (fun _ _ _ _ _ => dts_nil) (fun _ _ _ _ _ => pd_callD G_is_whole bi_is_whole (hr.mono (by decide)) takes0 (da_cons (pd_v 1) (da_nil)))) (da_nil))) (pd_one (pd_callD G_are_unlike bi_are_unlike (hr.mono (by decide)) tk (da_cons (pd_listOf T.b_list bb_list (da_cons (pd_v 0) (da_nil))) (da_nil)))))))
theorem ok_is_plain (T : Tx w K mg) (G_is_whole : DefOk P w K mg base 1 "is_whole" "is_whole" s_is_whole ["thing"] sp_is_whole) (G_is_one : DefOk P w K mg base 2 "is_one" "is_one" s_is_one ["numbers"] sp_is_one) : DefOk P w K mg base 3 "is_plain" "is_plain" s_is_plain ["look"] sp_is_plain := by
  refine def_ok (r := rd_is_plain) T.f_is_plain sc_is_plain ln_is_plain (fun f cdv A outer s H E hr => ?_) pu_is_plain
  have tk : Takes (cxOf (L2.CX P w) P w K mg base N_is_plain "is_plain" (defScope s_is_plain) f cdv A outer s H E) (fun c d _ H => E c d H) := takes_of rfl rfl rfl rfl
  exact dss_cons (ds_if (PW.pt (dw_or (dt_not (dt_tru (pd_isi T.b_isinstance bb_isinstance (da_cons (pd_v 0) (da_cons (pd_ty T.b_tuple bb_tuple) (da_nil)))))) (dw_or (dt_eq hr.units (pd_v 0) (pd_tup (da_nil))) (dw_or1 (dt_not (dt_tru (pd_isi T.b_isinstance bb_isinstance (da_cons (pd_ix (pd_v 0) (pd_int)) (da_cons (pd_ty T.b_str bb_str) (da_nil)))))))))) (dss_one (ds_ret (pd_bl))) (dss_nil))
    (dss_cons (ds_star rfl (pd_v 0) (pg_name (i := 1) sc_is_plain.nd rfl (by first | exact Or.inl rfl | exact Or.inr rfl)) (pg_name (i := 2) sc_is_plain.nd rfl (by first | exact Or.inl rfl | exact Or.inr rfl)))
    (dss_cons (ds_if (PW.pt (dw_or (dt_notInK T.d_SIZES (pd_v 1)) (dw_or1 (dt_ne hr.units (pd_len T.b_len bb_len (da_cons (pd_v 0) (da_nil))) (pd_ixK T.d_SIZES (pd_v 1)))))) (dss_one (ds_ret (pd_bl))) (dss_nil))
    (dss_cons (ds_if (dt_eq hr.units (pd_v 1) (pd_str)) (dss_one (ds_ret (pd_callD G_is_one bi_is_one (hr.mono (by decide)) tk (da_cons (pd_ix (pd_v 0) (pd_int)) (da_nil))))) (dss_nil))
    (dss_one (ds_ret (pd_all rfl T.b_all bb_all (da_cons (pd_lc rfl sc_is_plain.nd (di_any (pd_v 2)) (blkOk_by (own := [("number", 3)]) (N := N_is_plain) (sc := defScope s_is_plain) (by decide +kernel)) (gN_ok) rfl (fun _ _ _ _ _ => pg_name (i := 3) sc_is_plain.nd rfl (by first | exact Or.inl rfl | exact Or.inr rfl)) (fun _ _ _ _ _ => dts_nil) (fun _ _ _ _ _ => pd_callD G_is_whole bi_is_whole (hr.mono (by decide)) takes0 (da_cons (pd_v 3) (da_nil)))) (da_nil))))))))
theorem ok_is_look (T : Tx w K mg) (G_is_plain : DefOk P w K mg base 3 "is_plain" "is_plain" s_is_plain ["look"] sp_is_plain) : DefOk P w K mg base 4 "is_look" "is_look" s_is_look ["look"] sp_is_look := by
  refine def_ok (r := rd_is_look) T.f_is_look sc_is_look ln_is_look (fun f cdv A outer s H E hr => ?_) pu_is_look
  have tk : Takes (cxOf (L2.CX P w) P w K mg base N_is_look "is_look" (defScope s_is_look) f cdv A outer s H E) (fun c d _ H => E c d H) := takes_of rfl rfl rfl rfl
  exact dss_cons (ds_if (PW.pt (dw_and (dt_tru (pd_isi T.b_isinstance bb_isinstance (da_cons (pd_v 0) (da_cons (pd_ty T.b_tuple bb_tuple) (da_nil))))) (dw_and (dt_eq hr.units (pd_len T.b_len bb_len (da_cons (pd_v 0) (da_nil))) (pd_int)) (dw_and (dt_tru (pd_isi T.b_isinstance bb_isinstance (da_cons (pd_ix (pd_v 0) (pd_int)) (da_cons (pd_ty T.b_str bb_str) (da_nil))))) (dw_and1 (dt_eq hr.units (pd_ix (pd_v 0) (pd_int)) (pd_str))))))) (dss_one (ds_ret (pd_callD G_is_plain bi_is_plain (hr.mono (by decide)) tk (da_cons (pd_ix (pd_v 0) (pd_int)) (da_nil))))) (dss_nil))
    (dss_one (ds_ret (pd_callD G_is_plain bi_is_plain (hr.mono (by decide)) tk (da_cons (pd_v 0) (da_nil)))))
theorem ok_fits (T : Tx w K mg) : ∀ kk : Nat, DefOk P w K mg base (0 + kk) "fits" "fits" s_fits ["look", "number"] (sp_fits kk)
  | 0 => def_no _ T.f_fits (fun _ _ _ _ h => h)
  | kk + 1 => by
    have G_fits := ok_fits T kk
    refine def_ok (k := 0 + kk) (r := rd_fits (sp_fits kk)) T.f_fits sc_fits (ln_fits (kk + 1)) (fun f cdv A outer s H E hr => ?_) (pu_fits kk)
    have tk : Takes (cxOf (L2.CX P w) P w K mg base N_fits "fits" (defScope s_fits) f cdv A outer s H E) (fun c d _ H => E c d H) := takes_of rfl rfl rfl rfl
    exact dss_cons (ds_star rfl (pd_v 0) (pg_name (i := 4) sc_fits.nd rfl (by first | exact Or.inl rfl | exact Or.inr rfl)) (pg_name (i := 5) sc_fits.nd rfl (by first | exact Or.inl rfl | exact Or.inr rfl)))
      (dss_cons (ds_if (dt_eq hr.units (pd_v 4) (pd_str)) (dss_one (ds_ret (pd_not (pd_callD G_fits bi_fits (hr.mono (by omega)) tk (da_cons (pd_ix (pd_v 5) (pd_int)) (da_cons (pd_v 1) (da_nil))))))) (dss_nil))
      (dss_cons (ds_if (dt_eq hr.units (pd_v 4) (pd_str)) (dss_one (ds_ret (pd_eq hr.units (pd_v 1) (pd_ix (pd_v 5) (pd_int))))) (dss_nil))
      (dss_cons (ds_if (dt_eq hr.units (pd_v 4) (pd_str)) (dss_one (ds_ret (pd_in (units65 hr) (pd_v 1) (pd_ix (pd_v 5) (pd_int))))) (dss_nil))
      (dss_cons (ds_set (i := 2) sc_fits.nd (pd_if (dt_in (units65 hr) (pd_v 4) (pd_tup (da_cons (pd_str) (da_cons (pd_str) (da_nil))))) (pd_ix (pd_v 5) (pd_int)) (pd_v 1)))
      (dss_cons (ds_set (i := 3) sc_fits.nd (pd_if (dt_in (units65 hr) (pd_v 4) (pd_tup (da_cons (pd_str) (da_cons (pd_str) (da_nil))))) (pd_ix (pd_v 5) (pd_neg (pd_int))) (pd_v 1)))
      (dss_one (ds_ret (pd_chain op_le op_le le_ok le_ok (pd_v 2) (pd_v 1) (pd_v 3)))))))))
theorem ok_edges (T : Tx w K mg) : ∀ kk : Nat, DefOk P w K mg base (0 + kk) "edges" "edges" s_edges ["look"] (sp_edges kk)
  | 0 => def_no _ T.f_edges (fun _ _ _ _ h => h)
  | kk + 1 => by
    have G_edges := ok_edges T kk
    refine def_ok (k := 0 + kk) (r := rd_edges (sp_edges kk)) T.f_edges sc_edges (ln_edges (kk + 1)) (fun f cdv A outer s H E hr => ?_) (pu_edges kk)
    have tk : Takes (cxOf (L2.CX P w) P w K mg base N_edges "edges" (defScope s_edges) f cdv A outer s H E) (fun c d _ H => E c d H) := takes_of rfl rfl rfl rfl
    exact dss_cons (ds_star rfl (pd_v 0) (pg_name (i := 1) sc_edges.nd rfl (by first | exact Or.inl rfl | exact Or.inr rfl)) (pg_name (i := 2) sc_edges.nd rfl (by first | exact Or.inl rfl | exact Or.inr rfl)))
      (dss_cons (ds_if (dt_eq hr.units (pd_v 1) (pd_str)) (dss_one (ds_ret (pd_callD G_edges bi_edges (hr.mono (by omega)) tk (da_cons (pd_ix (pd_v 2) (pd_int)) (da_nil))))) (dss_nil))
      (dss_cons (ds_if (dt_eq hr.units (pd_v 1) (pd_str)) (dss_one (ds_ret (pd_lc2 rfl sc_edges.nd (di_any (pd_ix (pd_v 2) (pd_int))) (blkOk_by (own := [("number", 3), ("more", 4)]) (N := N_edges) (sc := defScope s_edges) (by decide +kernel)) (gN_ok) (gN_ok) rfl (fun _ _ _ _ _ => pg_name (i := 3) sc_edges.nd rfl (by first | exact Or.inl rfl | exact Or.inr rfl)) (fun _ _ _ _ _ => dts_nil) (fun _ _ _ _ _ => di_any (pd_tup (da_cons (pd_int) (da_cons (pd_int) (da_nil))))) (fun _ _ _ _ _ => pg_name (i := 4) sc_edges.nd rfl (by first | exact Or.inl rfl | exact Or.inr rfl)) (fun _ _ _ _ _ => dts_nil) (fun _ _ _ _ _ => pd_add (pd_v 3) (pd_v 4))))) (dss_nil))
      (dss_one (ds_ret (pd_lc2 rfl sc_edges.nd (di_any (pd_v 2)) (blkOk_by (own := [("number", 3), ("more", 4)]) (N := N_edges) (sc := defScope s_edges) (by decide +kernel)) (gN_ok) (gN_ok) rfl (fun _ _ _ _ _ => pg_name (i := 3) sc_edges.nd rfl (by first | exact Or.inl rfl | exact Or.inr rfl)) (fun _ _ _ _ _ => dts_nil) (fun _ _ _ _ _ => di_any (pd_tup (da_cons (pd_int) (da_cons (pd_int) (da_nil))))) (fun _ _ _ _ _ => pg_name (i := 4) sc_edges.nd rfl (by first | exact Or.inl rfl | exact Or.inr rfl)) (fun _ _ _ _ _ => dts_nil) (fun _ _ _ _ _ => pd_add (pd_v 3) (pd_v 4)))))))
theorem ok_turns (T : Tx w K mg) (G_fits : DefOk P w K mg base 2 "fits" "fits" s_fits ["look", "number"] (sp_fits 2)) (G_edges : DefOk P w K mg base 2 "edges" "edges" s_edges ["look"] (sp_edges 2)) : DefOk P w K mg base 3 "turns" "turns" s_turns ["look"] sp_turns := by
  refine def_ok (r := rd_turns) T.f_turns sc_turns ln_turns (fun f cdv A outer s H E hr => ?_) pu_turns
  have tk : Takes (cxOf (L2.CX P w) P w K mg base N_turns "turns" (defScope s_turns) f cdv A outer s H E) (fun c d _ H => E c d H) := takes_of rfl rfl rfl rfl
  exact dss_one (ds_ret (pd_lc rfl sc_turns.nd (di_any (pd_srtS rfl T.b_sorted T.b_set bb_sorted bb_set (da_cons (pd_callD G_edges bi_edges (hr.mono (by decide)) tk (da_cons (pd_v 0) (da_nil))) (da_nil)))) (blkOk_by (own := [("number", 1)]) (N := N_turns) (sc := defScope s_turns) (by decide +kernel)) (gN_ok) rfl (fun _ _ _ _ _ => pg_name (i := 1) sc_turns.nd rfl (by first | exact Or.inl rfl | exact Or.inr rfl)) (fun _ _ _ _ _ => dts_one (dt_ne hr.units (pd_callD G_fits bi_fits (hr.mono (by decide)) takes0 (da_cons (pd_v 0) (da_cons (pd_v 1) (da_nil)))) (pd_callD G_fits bi_fits (hr.mono (by decide)) takes0 (da_cons (pd_v 0) (da_cons (pd_sub (pd_v 1) (pd_int)) (da_nil)))))) (fun _ _ _ _ _ => pd_v 1)))
theorem ok_with_first (T : Tx w K mg) : DefOk P w K mg base 1 "with_first" "with_first" s_with_first ["some"] sp_with_first := by
  refine def_ok (r := rd_with_first) T.f_with_first sc_with_first ln_with_first (fun f cdv A outer s H E hr => ?_) pu_with_first
  have tk : Takes (cxOf (L2.CX P w) P w K mg base N_with_first "with_first" (defScope s_with_first) f cdv A outer s H E) (fun c d _ H => E c d H) := takes_of rfl rfl rfl rfl
  exact dss_cons (ds_set (i := 1) sc_with_first.nd (pd_srtS rfl T.b_sorted T.b_set bb_sorted bb_set (da_cons (pd_v 0) (da_nil))))
    (dss_cons (ds_if (dt_eq hr.units (pd_v 1) (pd_lst (da_nil))) (dss_one (ds_ret (pd_lst (da_cons (pd_int) (da_nil))))) (dss_nil))
    (dss_one (ds_ret (pd_add (pd_lst (da_cons (pd_sub (pd_ix (pd_v 1) (pd_int)) (pd_int)) (da_nil))) (pd_v 1)))))
theorem ok_is_thing (T : Tx w K mg) (G_is_whole : DefOk P w K mg base 1 "is_whole" "is_whole" s_is_whole ["thing"] sp_is_whole) : DefOk P w K mg base 2 "is_thing" "is_thing" s_is_thing ["thing"] sp_is_thing := by
  refine def_ok (r := rd_is_thing) T.f_is_thing sc_is_thing ln_is_thing (fun f cdv A outer s H E hr => ?_) pu_is_thing
  have tk : Takes (cxOf (L2.CX P w) P w K mg base N_is_thing "is_thing" (defScope s_is_thing) f cdv A outer s H E) (fun c d _ H => E c d H) := takes_of rfl rfl rfl rfl
  exact dss_cons (ds_if (dt_tru (pd_callD G_is_whole bi_is_whole (hr.mono (by decide)) tk (da_cons (pd_v 0) (da_nil)))) (dss_one (ds_ret (pd_bl))) (dss_nil))
    (dss_one (ds_ret (pd_and (pd_isi T.b_isinstance bb_isinstance (da_cons (pd_v 0) (da_cons (pd_ty T.b_tuple bb_tuple) (da_nil)))) (pd_and (pd_eq hr.units (pd_len T.b_len bb_len (da_cons (pd_v 0) (da_nil))) (pd_int)) (pd_and (pd_eq hr.units (pd_ix (pd_v 0) (pd_int)) (pd_str)) (pd_one (pd_callD G_is_whole bi_is_whole (hr.mono (by decide)) tk (da_cons (pd_ix (pd_v 0) (pd_int)) (da_nil)))))))))
theorem ok_is_place (T : Tx w K mg) (G_is_whole : DefOk P w K mg base 1 "is_whole" "is_whole" s_is_whole ["thing"] sp_is_whole) : DefOk P w K mg base 2 "is_place" "is_place" s_is_place ["thing", "many"] sp_is_place := by
  refine def_ok (r := rd_is_place) T.f_is_place sc_is_place ln_is_place (fun f cdv A outer s H E hr => ?_) pu_is_place
  have tk : Takes (cxOf (L2.CX P w) P w K mg base N_is_place "is_place" (defScope s_is_place) f cdv A outer s H E) (fun c d _ H => E c d H) := takes_of rfl rfl rfl rfl
  exact dss_one (ds_ret (pd_and (pd_callD G_is_whole bi_is_whole (hr.mono (by decide)) tk (da_cons (pd_v 0) (da_nil))) (pd_one (pd_chain op_le op_lt le_ok lt_ok (pd_int) (pd_v 0) (pd_v 1)))))
theorem ok_is_way (T : Tx w K mg) (G_is_look : DefOk P w K mg base 4 "is_look" "is_look" s_is_look ["look"] sp_is_look) (G_is_place : DefOk P w K mg base 2 "is_place" "is_place" s_is_place ["thing", "many"] sp_is_place) : DefOk P w K mg base 5 "is_way" "is_way" s_is_way ["way", "many"] sp_is_way := by
  refine def_ok (r := rd_is_way) T.f_is_way sc_is_way ln_is_way (fun f cdv A outer s H E hr => ?_) pu_is_way
  have tk : Takes (cxOf (L2.CX P w) P w K mg base N_is_way "is_way" (defScope s_is_way) f cdv A outer s H E) (fun c d _ H => E c d H) := takes_of rfl rfl rfl rfl
  exact dss_one (ds_ret (pd_and (pd_isi T.b_isinstance bb_isinstance (da_cons (pd_v 0) (da_cons (pd_ty T.b_tuple bb_tuple) (da_nil)))) (pd_and (pd_eq hr.units (pd_len T.b_len bb_len (da_cons (pd_v 0) (da_nil))) (pd_int)) (pd_and (pd_callD G_is_look bi_is_look (hr.mono (by decide)) tk (da_cons (pd_ix (pd_v 0) (pd_int)) (da_nil))) (pd_one (pd_callD G_is_place bi_is_place (hr.mono (by decide)) tk (da_cons (pd_ix (pd_v 0) (pd_int)) (da_cons (pd_v 1) (da_nil)))))))))
theorem ok_is_asking (T : Tx w K mg) (G_is_name : DefOk P w K mg base 1 "is_name" "is_name" s_is_name ["thing"] sp_is_name) (G_is_thing : DefOk P w K mg base 2 "is_thing" "is_thing" s_is_thing ["thing"] sp_is_thing) (G_is_place : DefOk P w K mg base 2 "is_place" "is_place" s_is_place ["thing", "many"] sp_is_place) (G_is_way : DefOk P w K mg base 5 "is_way" "is_way" s_is_way ["way", "many"] sp_is_way) : DefOk P w K mg base 6 "is_asking" "is_asking" s_is_asking ["rest", "many"] sp_is_asking := by
  obtain ⟨t_MOST_THINGS, c_MOST_THINGS⟩ := T.c0_MOST_THINGS
  obtain ⟨t_MOST_WAYS, c_MOST_WAYS⟩ := T.c0_MOST_WAYS
  refine def_ok (r := rd_is_asking) T.f_is_asking sc_is_asking ln_is_asking (fun f cdv A outer s H E hr => ?_) pu_is_asking
  have tk : Takes (cxOf (L2.CX P w) P w K mg base N_is_asking "is_asking" (defScope s_is_asking) f cdv A outer s H E) (fun c d _ H => E c d H) := takes_of rfl rfl rfl rfl
  exact dss_cons (ds_if (PW.pt (dw_or (dt_ne hr.units (pd_len T.b_len bb_len (da_cons (pd_v 0) (da_nil))) (pd_int)) (dw_or (dt_not (dt_tru (pd_callD G_is_name bi_is_name (hr.mono (by decide)) tk (da_cons (pd_ix (pd_v 0) (pd_int)) (da_nil))))) (dw_or1 (dt_not (dt_tru (pd_callD G_is_name bi_is_name (hr.mono (by decide)) tk (da_cons (pd_ix (pd_v 0) (pd_int)) (da_nil))))))))) (dss_one (ds_ret (pd_bl))) (dss_nil))
    (dss_cons (ds_tupL (pd_sl (pd_v 0) (dp_some (pd_int)) dp_none) (pg_ei (pg_tup rfl (dgs_cons (pg_name (i := 2) sc_is_asking.nd rfl (by first | exact Or.inl rfl | exact Or.inr rfl)) (dgs_cons (pg_name (i := 3) sc_is_asking.nd rfl (by first | exact Or.inl rfl | exact Or.inr rfl)) (dgs_cons (pg_name (i := 4) sc_is_asking.nd rfl (by first | exact Or.inl rfl | exact Or.inr rfl)) (dgs_nil))))) (pg_lst rfl (dgs_cons (pg_name (i := 2) sc_is_asking.nd rfl (by first | exact Or.inl rfl | exact Or.inr rfl)) (dgs_cons (pg_name (i := 3) sc_is_asking.nd rfl (by first | exact Or.inl rfl | exact Or.inr rfl)) (dgs_cons (pg_name (i := 4) sc_is_asking.nd rfl (by first | exact Or.inl rfl | exact Or.inr rfl)) (dgs_nil)))))) (gTL_ok (js := [2, 3, 4])))
    (dss_cons (ds_if (PW.pt (dw_or (dt_not (dt_tru (pd_isi T.b_isinstance bb_isinstance (da_cons (pd_v 2) (da_cons (pd_ty T.b_tuple bb_tuple) (da_nil)))))) (dw_or (dt_gt (pd_len T.b_len bb_len (da_cons (pd_v 2) (da_nil))) (pd_gint c_MOST_THINGS)) (dw_or1 (dt_not (dt_tru (pd_all rfl T.b_all bb_all (da_cons (pd_lc rfl sc_is_asking.nd (di_any (pd_v 2)) (blkOk_by (own := [("thing", 6)]) (N := N_is_asking) (sc := defScope s_is_asking) (by decide +kernel)) (gN_ok) rfl (fun _ _ _ _ _ => pg_name (i := 6) sc_is_asking.nd rfl (by first | exact Or.inl rfl | exact Or.inr rfl)) (fun _ _ _ _ _ => dts_nil) (fun _ _ _ _ _ => pd_callD G_is_thing bi_is_thing (hr.mono (by decide)) takes0 (da_cons (pd_v 6) (da_nil)))) (da_nil))))))))) (dss_one (ds_ret (pd_bl))) (dss_nil))
    (dss_cons (ds_if (PW.pt (dw_or (dt_not (dt_tru (pd_isi T.b_isinstance bb_isinstance (da_cons (pd_v 3) (da_cons (pd_ty T.b_tuple bb_tuple) (da_nil)))))) (dw_or1 (dt_gt (pd_len T.b_len bb_len (da_cons (pd_v 3) (da_nil))) (pd_gint c_MOST_WAYS))))) (dss_one (ds_ret (pd_bl))) (dss_nil))
    (dss_one (ds_ret (pd_and (pd_all rfl T.b_all bb_all (da_cons (pd_lc rfl sc_is_asking.nd (di_any (pd_v 3)) (blkOk_by (own := [("way", 5)]) (N := N_is_asking) (sc := defScope s_is_asking) (by decide +kernel)) (gN_ok) rfl (fun _ _ _ _ _ => pg_name (i := 5) sc_is_asking.nd rfl (by first | exact Or.inl rfl | exact Or.inr rfl)) (fun _ _ _ _ _ => dts_nil) (fun _ _ _ _ _ => pd_callD G_is_way bi_is_way (hr.mono (by decide)) takes0 (da_cons (pd_v 5) (da_cons (pd_v 1) (da_nil))))) (da_nil))) (pd_one (pd_callD G_is_place bi_is_place (hr.mono (by decide)) tk (da_cons (pd_v 4) (da_cons (pd_v 1) (da_nil)))))))))))
theorem ok_is_room (T : Tx w K mg) (G_is_thing : DefOk P w K mg base 2 "is_thing" "is_thing" s_is_thing ["thing"] sp_is_thing) (G_is_asking : DefOk P w K mg base 6 "is_asking" "is_asking" s_is_asking ["rest", "many"] sp_is_asking) : DefOk P w K mg base 7 "is_room" "is_room" s_is_room ["room", "many"] sp_is_room := by
  refine def_ok (r := rd_is_room) T.f_is_room sc_is_room ln_is_room (fun f cdv A outer s H E hr => ?_) pu_is_room
  have tk : Takes (cxOf (L2.CX P w) P w K mg base N_is_room "is_room" (defScope s_is_room) f cdv A outer s H E) (fun c d _ H => E c d H) := takes_of rfl rfl rfl rfl
  exact dss_cons (ds_if (PW.pt (dw_or (dt_not (dt_tru (pd_isi T.b_isinstance bb_isinstance (da_cons (pd_v 0) (da_cons (pd_ty T.b_tuple bb_tuple) (da_nil)))))) (dw_or1 (dt_eq hr.units (pd_v 0) (pd_tup (da_nil)))))) (dss_one (ds_ret (pd_bl))) (dss_nil))
    (dss_cons (ds_star rfl (pd_v 0) (pg_name (i := 2) sc_is_room.nd rfl (by first | exact Or.inl rfl | exact Or.inr rfl)) (pg_name (i := 3) sc_is_room.nd rfl (by first | exact Or.inl rfl | exact Or.inr rfl)))
    (dss_cons (ds_if (dt_eq hr.units (pd_v 2) (pd_str)) (dss_one (ds_ret (pd_and (pd_eq hr.units (pd_len T.b_len bb_len (da_cons (pd_v 3) (da_nil))) (pd_int)) (pd_one (pd_callD G_is_thing bi_is_thing (hr.mono (by decide)) tk (da_cons (pd_ix (pd_v 3) (pd_int)) (da_nil))))))) (dss_nil))
    (dss_one (ds_ret (pd_and (pd_eq hr.units (pd_v 2) (pd_str)) (pd_one (pd_callD G_is_asking bi_is_asking (hr.mono (by decide)) tk (da_cons (pd_v 3) (da_cons (pd_v 1) (da_nil))))))))))
theorem ok_are_rooms (T : Tx w K mg) (G_is_room : DefOk P w K mg base 7 "is_room" "is_room" s_is_room ["room", "many"] sp_is_room) : DefOk P w K mg base 8 "are_rooms" "are_rooms" s_are_rooms ["rooms"] sp_are_rooms := by
  obtain ⟨t_MOST_ROOMS, c_MOST_ROOMS⟩ := T.c0_MOST_ROOMS
  refine def_ok (r := rd_are_rooms) T.f_are_rooms sc_are_rooms ln_are_rooms (fun f cdv A outer s H E hr => ?_) pu_are_rooms
  have tk : Takes (cxOf (L2.CX P w) P w K mg base N_are_rooms "are_rooms" (defScope s_are_rooms) f cdv A outer s H E) (fun c d _ H => E c d H) := takes_of rfl rfl rfl rfl
  exact dss_cons (ds_if (PW.pt (dw_or (dt_not (dt_tru (pd_isi T.b_isinstance bb_isinstance (da_cons (pd_v 0) (da_cons (pd_ty T.b_tuple bb_tuple) (da_nil)))))) (dw_or1 (dt_not (dt_chain op_le op_le le_ok le_ok (pd_int) (pd_len T.b_len bb_len (da_cons (pd_v 0) (da_nil))) (pd_gint c_MOST_ROOMS)))))) (dss_one (ds_ret (pd_bl))) (dss_nil))
    (dss_one (ds_ret (pd_all rfl T.b_all bb_all (da_cons (pd_lc rfl sc_are_rooms.nd (di_any (pd_v 0)) (blkOk_by (own := [("room", 1)]) (N := N_are_rooms) (sc := defScope s_are_rooms) (by decide +kernel)) (gN_ok) rfl (fun _ _ _ _ _ => pg_name (i := 1) sc_are_rooms.nd rfl (by first | exact Or.inl rfl | exact Or.inr rfl)) (fun _ _ _ _ _ => dts_nil) (fun _ _ _ _ _ => pd_callD G_is_room bi_is_room (hr.mono (by decide)) takes0 (da_cons (pd_v 1) (da_cons (pd_len T.b_len bb_len (da_cons (pd_v 0) (da_nil))) (da_nil))))) (da_nil)))))
theorem ok_thing_at (T : Tx w K mg) (G_is_whole : DefOk P w K mg base 1 "is_whole" "is_whole" s_is_whole ["thing"] sp_is_whole) : DefOk P w K mg base 2 "thing_at" "thing_at" s_thing_at ["thing", "last"] sp_thing_at := by
  refine def_ok (r := rd_thing_at) T.f_thing_at sc_thing_at ln_thing_at (fun f cdv A outer s H E hr => ?_) pu_thing_at
  have tk : Takes (cxOf (L2.CX P w) P w K mg base N_thing_at "thing_at" (defScope s_thing_at) f cdv A outer s H E) (fun c d _ H => E c d H) := takes_of rfl rfl rfl rfl
  exact dss_cons (ds_if (dt_tru (pd_callD G_is_whole bi_is_whole (hr.mono (by decide)) tk (da_cons (pd_v 0) (da_nil)))) (dss_one (ds_ret (pd_v 0))) (dss_nil))
    (dss_one (ds_ret (pd_add (pd_v 1) (pd_ix (pd_v 0) (pd_int)))))
theorem ok_Doer___init__ (T : Tx w K mg) (G_are_rooms : DefOk P w K mg base 8 "are_rooms" "are_rooms" s_are_rooms ["rooms"] sp_are_rooms) (X_BadRooms : XMk P w K mg base 1 "BadRooms" ["self", "why"] spTE (fun fd => ∃ fI, FunG K "__init__" "TrialError.__init__" s_TrialError___init__ [.str "refused"] [] fI fd)) : MkG P w K mg base 9 "Doer" "Doer.__init__" s_Doer___init__ ["self", "rooms"] [] [] sp_Doer___init__ := by
  refine mk_ok (r := rd_Doer___init__) T.f_Doer___init__ sc_Doer___init__ ln_Doer___init__ (fun f cdv A outer s H E hr => ?_) pu_Doer___init__
  have tk : Takes (cxOf (L2.CX P w) P w K mg base N_Doer___init__ "Doer.__init__" (defScope s_Doer___init__) f cdv A outer s H E) (fun c d _ H => E c d H) := takes_of rfl rfl rfl rfl
  exact dss_cons (ds_if (dt_not (dt_tru (pd_callD G_are_rooms bi_are_rooms (hr.mono (by decide)) tk (da_cons (pd_v 1) (da_nil))))) (dss_one (ds_raise rfl X_BadRooms hb_TE (hr.mono (by decide)) tk (da_cons (pd_str) (da_nil)))) (dss_nil))
    (dss_one (ds_setF T.fl_Doer_rooms (pd_v 0) (pd_v 1)))
theorem ok_Doer_ask_at (T : Tx w K mg) (G_thing_at : DefOk P w K mg base 2 "thing_at" "thing_at" s_thing_at ["thing", "last"] sp_thing_at) : MetG P w K mg base 3 "Doer" "ask_at" "Doer.ask_at" s_Doer_ask_at ["self", "state"] [] [] sp_Doer_ask_at := by
  refine met_ok (r := rd_Doer_ask_at) T.f_Doer_ask_at sc_Doer_ask_at ln_Doer_ask_at (fun f cdv A outer s H E hr => ?_) pu_Doer_ask_at
  have tk : Takes (cxOf (L2.CX P w) P w K mg base N_Doer_ask_at "Doer.ask_at" (defScope s_Doer_ask_at) f cdv A outer s H E) (fun c d _ H => E c d H) := takes_of rfl rfl rfl rfl
  exact dss_cons (ds_tup (pd_v 1) (pg_tup rfl (dgs_cons (pg_name (i := 2) sc_Doer_ask_at.nd rfl (by first | exact Or.inl rfl | exact Or.inr rfl)) (dgs_cons (pg_name (i := 3) sc_Doer_ask_at.nd rfl (by first | exact Or.inl rfl | exact Or.inr rfl)) (dgs_nil)))) (gT_ok (js := [2, 3])))
    (dss_cons (ds_star rfl (pd_ix (pd_fld T.fl_Doer_rooms (pd_v 0)) (pd_v 2)) (pg_name (i := 4) sc_Doer_ask_at.nd rfl (by first | exact Or.inl rfl | exact Or.inr rfl)) (pg_name (i := 5) sc_Doer_ask_at.nd rfl (by first | exact Or.inl rfl | exact Or.inr rfl)))
    (dss_cons (ds_if (dt_ne hr.units (pd_v 4) (pd_str)) (dss_one (ds_ret (pd_non))) (dss_nil))
    (dss_one (ds_ret (pd_tup (da_cons (pd_ix (pd_v 5) (pd_int)) (da_cons (pd_ix (pd_v 5) (pd_int)) (da_cons (pd_tupleOf T.b_tuple bb_tuple (da_cons (pd_lc rfl sc_Doer_ask_at.nd (di_any (pd_ix (pd_v 5) (pd_int))) (blkOk_by (own := [("thing", 6)]) (N := N_Doer_ask_at) (sc := defScope s_Doer_ask_at) (by decide +kernel)) (gN_ok) rfl (fun _ _ _ _ _ => pg_name (i := 6) sc_Doer_ask_at.nd rfl (by first | exact Or.inl rfl | exact Or.inr rfl)) (fun _ _ _ _ _ => dts_nil) (fun _ _ _ _ _ => pd_callD G_thing_at bi_thing_at (hr.mono (by decide)) takes0 (da_cons (pd_v 6) (da_cons (pd_v 3) (da_nil))))) (da_nil))) (da_nil)))))))))
theorem ok_Doer_told_at (T : Tx w K mg) (G_thing_at : DefOk P w K mg base 2 "thing_at" "thing_at" s_thing_at ["thing", "last"] sp_thing_at) : MetG P w K mg base 3 "Doer" "told_at" "Doer.told_at" s_Doer_told_at ["self", "state"] [] [] sp_Doer_told_at := by
  refine met_ok (r := rd_Doer_told_at) T.f_Doer_told_at sc_Doer_told_at ln_Doer_told_at (fun f cdv A outer s H E hr => ?_) pu_Doer_told_at
  have tk : Takes (cxOf (L2.CX P w) P w K mg base N_Doer_told_at "Doer.told_at" (defScope s_Doer_told_at) f cdv A outer s H E) (fun c d _ H => E c d H) := takes_of rfl rfl rfl rfl
  exact dss_cons (ds_tup (pd_v 1) (pg_tup rfl (dgs_cons (pg_name (i := 2) sc_Doer_told_at.nd rfl (by first | exact Or.inl rfl | exact Or.inr rfl)) (dgs_cons (pg_name (i := 3) sc_Doer_told_at.nd rfl (by first | exact Or.inl rfl | exact Or.inr rfl)) (dgs_nil)))) (gT_ok (js := [2, 3])))
    (dss_cons (ds_star rfl (pd_ix (pd_fld T.fl_Doer_rooms (pd_v 0)) (pd_v 2)) (pg_name (i := 4) sc_Doer_told_at.nd rfl (by first | exact Or.inl rfl | exact Or.inr rfl)) (pg_name (i := 5) sc_Doer_told_at.nd rfl (by first | exact Or.inl rfl | exact Or.inr rfl)))
    (dss_cons (ds_if (dt_ne hr.units (pd_v 4) (pd_str)) (dss_one (ds_ret (pd_non))) (dss_nil))
    (dss_one (ds_ret (pd_callD G_thing_at bi_thing_at (hr.mono (by decide)) tk (da_cons (pd_ix (pd_v 5) (pd_int)) (da_cons (pd_v 3) (da_nil))))))))
theorem ok_Doer_goes (T : Tx w K mg) (G_is_whole : DefOk P w K mg base 1 "is_whole" "is_whole" s_is_whole ["thing"] sp_is_whole) (G_fits : DefOk P w K mg base 2 "fits" "fits" s_fits ["look", "number"] (sp_fits 2)) (X_BadTrial : XMk P w K mg base 1 "BadTrial" ["self", "why"] spTE (fun fd => ∃ fI, FunG K "__init__" "TrialError.__init__" s_TrialError___init__ [.str "refused"] [] fI fd)) : MetG P w K mg base 3 "Doer" "goes" "Doer.goes" s_Doer_goes ["self", "state", "answer"] [] [] sp_Doer_goes := by
  refine met_ok (r := rd_Doer_goes) T.f_Doer_goes sc_Doer_goes ln_Doer_goes (fun f cdv A outer s H E hr => ?_) pu_Doer_goes
  have tk : Takes (cxOf (L2.CX P w) P w K mg base N_Doer_goes "Doer.goes" (defScope s_Doer_goes) f cdv A outer s H E) (fun c d _ H => E c d H) := takes_of rfl rfl rfl rfl
  exact dss_cons (ds_star rfl (pd_ix (pd_fld T.fl_Doer_rooms (pd_v 0)) (pd_ix (pd_v 1) (pd_int))) (pg_name (i := 3) sc_Doer_goes.nd rfl (by first | exact Or.inl rfl | exact Or.inr rfl)) (pg_name (i := 6) sc_Doer_goes.nd rfl (by first | exact Or.inl rfl | exact Or.inr rfl)))
    (dss_cons (ds_if (PW.pt (dw_or (dt_ne hr.units (pd_v 3) (pd_str)) (dw_or1 (dt_not (dt_tru (pd_callD G_is_whole bi_is_whole (hr.mono (by decide)) tk (da_cons (pd_v 2) (da_nil)))))))) (dss_one (ds_raise rfl X_BadTrial hb_TE (hr.mono (by decide)) tk (da_cons (pd_str) (da_nil)))) (dss_nil))
    (dss_cons (ds_for (passes_of rfl) rfl (di_any (pd_ix (pd_v 6) (pd_int))) (pg_tup rfl (dgs_cons (pg_name (i := 4) sc_Doer_goes.nd rfl (by first | exact Or.inl rfl | exact Or.inr rfl)) (dgs_cons (pg_name (i := 5) sc_Doer_goes.nd rfl (by first | exact Or.inl rfl | exact Or.inr rfl)) (dgs_nil)))) (gT_ok (js := [4, 5])) (dss_one (ds_if (dt_tru (pd_callD G_fits bi_fits (hr.mono (by decide)) tk (da_cons (pd_v 4) (da_cons (pd_v 2) (da_nil))))) (dss_one (ds_ret (pd_tup (da_cons (pd_v 5) (da_cons (pd_v 2) (da_nil)))))) (dss_nil))))
    (dss_one (ds_ret (pd_tup (da_cons (pd_ix (pd_v 6) (pd_int)) (da_cons (pd_v 2) (da_nil))))))))
theorem ok_like (T : Tx w K mg) : DefOk P w K mg base 1 "like" "like" s_like ["samples", "number"] sp_like := by
  refine def_ok (r := rd_like) T.f_like sc_like ln_like (fun f cdv A outer s H E hr => ?_) pu_like
  have tk : Takes (cxOf (L2.CX P w) P w K mg base N_like "like" (defScope s_like) f cdv A outer s H E) (fun c d _ H => E c d H) := takes_of rfl rfl rfl rfl
  exact dss_one (ds_ret (pd_maxD rfl T.b_max bb_max (da_cons (pd_lc rfl sc_like.nd (di_any (pd_v 0)) (blkOk_by (own := [("sample", 2)]) (N := N_like) (sc := defScope s_like) (by decide +kernel)) (gN_ok) rfl (fun _ _ _ _ _ => pg_name (i := 2) sc_like.nd rfl (by first | exact Or.inl rfl | exact Or.inr rfl)) (fun _ _ _ _ _ => dts_one (dt_le (pd_v 2) (pd_v 1))) (fun _ _ _ _ _ => pd_v 2)) (da_nil)) (dk_cons (pd_ix (pd_v 0) (pd_int)) (dk_nil))))
theorem ok_things_of (T : Tx w K mg) : DefOk P w K mg base 1 "things_of" "things_of" s_things_of ["doer"] sp_things_of := by
  refine def_ok (r := rd_things_of) T.f_things_of sc_things_of ln_things_of (fun f cdv A outer s H E hr => ?_) pu_things_of
  have tk : Takes (cxOf (L2.CX P w) P w K mg base N_things_of "things_of" (defScope s_things_of) f cdv A outer s H E) (fun c d _ H => E c d H) := takes_of rfl rfl rfl rfl
  exact dss_one (ds_ret (pd_lc2S rfl sc_things_of.nd (di_any (pd_fld T.fl_Doer_rooms (pd_v 0))) (blkOk_by (own := [("word", 2), ("rest", 3), ("thing", 1)]) (N := N_things_of) (sc := defScope s_things_of) (by decide +kernel)) (gStar_ok) ((gN_ok).gs) rfl (fun _ _ _ _ _ => pg_star rfl (pg_name (i := 2) sc_things_of.nd rfl (by first | exact Or.inl rfl | exact Or.inr rfl)) (pg_name (i := 3) sc_things_of.nd rfl (by first | exact Or.inl rfl | exact Or.inr rfl))) (fun _ _ _ _ _ => dts_nil) (fun _ _ _ _ _ => di_any (pd_if (dt_eq hr.units (pd_v 2) (pd_str)) (pd_ix (pd_v 3) (pd_int)) (pd_sl (pd_v 3) dp_none (dp_some (pd_int))))) (fun _ _ _ _ _ => pg_name (i := 1) sc_things_of.nd rfl (by first | exact Or.inl rfl | exact Or.inr rfl)) (fun _ _ _ _ _ => dts_nil) (fun _ _ _ _ _ => pd_v 1)))
theorem ok_meeting_numbers (T : Tx w K mg) (G_is_whole : DefOk P w K mg base 1 "is_whole" "is_whole" s_is_whole ["thing"] sp_is_whole) : DefOk P w K mg base 2 "meeting_numbers" "meeting_numbers" s_meeting_numbers ["things"] sp_meeting_numbers := by
  refine def_ok (r := rd_meeting_numbers) T.f_meeting_numbers sc_meeting_numbers ln_meeting_numbers (fun f cdv A outer s H E hr => ?_) pu_meeting_numbers
  have tk : Takes (cxOf (L2.CX P w) P w K mg base N_meeting_numbers "meeting_numbers" (defScope s_meeting_numbers) f cdv A outer s H E) (fun c d _ H => E c d H) := takes_of rfl rfl rfl rfl
  exact dss_cons (ds_setLc (i := 1) rfl sc_meeting_numbers.nd (sw_true rfl rfl rfl (by decide +kernel)) (di_any (pd_v 0)) (blkOk_by (own := [("thing", 3)]) (N := N_meeting_numbers) (sc := defScope s_meeting_numbers) (by decide +kernel)) (gN_ok) rfl (fun _ _ _ _ _ => pg_name (i := 3) sc_meeting_numbers.nd rfl (by first | exact Or.inl rfl | exact Or.inr rfl)) (fun _ _ _ _ _ => dts_one (dt_tru (pd_callD G_is_whole bi_is_whole (hr.mono (by decide)) takes0 (da_cons (pd_v 3) (da_nil))))) (fun _ _ _ _ _ => pd_v 3))
    (dss_cons (ds_set (i := 2) sc_meeting_numbers.nd (pd_lc rfl sc_meeting_numbers.nd (di_any (pd_v 0)) (blkOk_by (own := [("thing", 3)]) (N := N_meeting_numbers) (sc := defScope s_meeting_numbers) (by decide +kernel)) (gN_ok) rfl (fun _ _ _ _ _ => pg_name (i := 3) sc_meeting_numbers.nd rfl (by first | exact Or.inl rfl | exact Or.inr rfl)) (fun _ _ _ _ _ => dts_one (dt_not (dt_tru (pd_callD G_is_whole bi_is_whole (hr.mono (by decide)) takes0 (da_cons (pd_v 3) (da_nil)))))) (fun _ _ _ _ _ => pd_ix (pd_v 3) (pd_int))))
    (dss_one (ds_ret (pd_lc3 rfl sc_meeting_numbers.nd (di_any (pd_v 1)) (blkOk_by (own := [("number", 4), ("more", 5), ("step", 6)]) (N := N_meeting_numbers) (sc := defScope s_meeting_numbers) (by decide +kernel)) ((gN_ok).gs) ((gN_ok).gs) ((gN_ok).gs) rfl (fun _ _ _ _ _ => pg_name (i := 4) sc_meeting_numbers.nd rfl (by first | exact Or.inl rfl | exact Or.inr rfl)) (fun _ _ _ _ _ => dts_nil) (fun _ _ _ _ _ => di_any (pd_v 2)) (fun _ _ _ _ _ => pg_name (i := 5) sc_meeting_numbers.nd rfl (by first | exact Or.inl rfl | exact Or.inr rfl)) (fun _ _ _ _ _ => dts_nil) (fun _ _ _ _ _ => di_any (pd_tup (da_cons (pd_int) (da_cons (pd_int) (da_nil))))) (fun _ _ _ _ _ => pg_name (i := 6) sc_meeting_numbers.nd rfl (by first | exact Or.inl rfl | exact Or.inr rfl)) (fun _ _ _ _ _ => dts_nil) (fun _ _ _ _ _ => pd_add (pd_sub (pd_v 4) (pd_v 5)) (pd_v 6))))))
theorem ok_samples_of (T : Tx w K mg) (G_turns : DefOk P w K mg base 3 "turns" "turns" s_turns ["look"] sp_turns) (G_with_first : DefOk P w K mg base 1 "with_first" "with_first" s_with_first ["some"] sp_with_first) (G_things_of : DefOk P w K mg base 1 "things_of" "things_of" s_things_of ["doer"] sp_things_of) (G_meeting_numbers : DefOk P w K mg base 2 "meeting_numbers" "meeting_numbers" s_meeting_numbers ["things"] sp_meeting_numbers) : DefOk P w K mg base 4 "samples_of" "samples_of" s_samples_of ["some"] sp_samples_of := by
  refine def_ok (r := rd_samples_of) T.f_samples_of sc_samples_of ln_samples_of (fun f cdv A outer s H E hr => ?_) pu_samples_of
  have tk : Takes (cxOf (L2.CX P w) P w K mg base N_samples_of "samples_of" (defScope s_samples_of) f cdv A outer s H E) (fun c d _ H => E c d H) := takes_of rfl rfl rfl rfl
  exact dss_cons (ds_setLc2 (i := 1) rfl sc_samples_of.nd (sw_true rfl rfl rfl (by decide +kernel)) (di_any (pd_v 0)) (blkOk_by (own := [("doer", 3), ("room", 4)]) (N := N_samples_of) (sc := defScope s_samples_of) (by decide +kernel)) (gN_ok) (gN_ok) rfl (fun _ _ _ _ _ => pg_name (i := 3) sc_samples_of.nd rfl (by first | exact Or.inl rfl | exact Or.inr rfl)) (fun _ _ _ _ _ => dts_nil) (fun _ _ _ _ _ => di_any (pd_fld T.fl_Doer_rooms (pd_v 3))) (fun _ _ _ _ _ => pg_name (i := 4) sc_samples_of.nd rfl (by first | exact Or.inl rfl | exact Or.inr rfl)) (fun _ _ _ _ _ => dts_one (dt_eq hr.units (pd_ix (pd_v 4) (pd_int)) (pd_str))) (fun _ _ _ _ _ => pd_v 4))
    (dss_cons (ds_setLc3 (i := 2) rfl sc_samples_of.nd (sw_true rfl rfl rfl (by decide +kernel)) (di_any (pd_v 1)) (blkOk_by (own := [("room", 4), ("look", 6), ("to", 7), ("turn", 5)]) (N := N_samples_of) (sc := defScope s_samples_of) (by decide +kernel)) ((gN_ok).gs) ((gT_ok (js := [6, 7])).gs) ((gN_ok).gs) rfl (fun _ _ _ _ _ => pg_name (i := 4) sc_samples_of.nd rfl (by first | exact Or.inl rfl | exact Or.inr rfl)) (fun _ _ _ _ _ => dts_nil) (fun _ _ _ _ _ => di_any (pd_ix (pd_v 4) (pd_int))) (fun _ _ _ _ _ => pg_tup rfl (dgs_cons (pg_name (i := 6) sc_samples_of.nd rfl (by first | exact Or.inl rfl | exact Or.inr rfl)) (dgs_cons (pg_name (i := 7) sc_samples_of.nd rfl (by first | exact Or.inl rfl | exact Or.inr rfl)) (dgs_nil)))) (fun _ _ _ _ _ => dts_nil) (fun _ _ _ _ _ => di_any (pd_callD G_turns bi_turns (hr.mono (by decide)) takes0 (da_cons (pd_v 6) (da_nil)))) (fun _ _ _ _ _ => pg_name (i := 5) sc_samples_of.nd rfl (by first | exact Or.inl rfl | exact Or.inr rfl)) (fun _ _ _ _ _ => dts_nil) (fun _ _ _ _ _ => pd_v 5))
    (dss_one (ds_ret (pd_callD G_with_first bi_with_first (hr.mono (by decide)) tk (da_cons (pd_add (pd_v 2) (pd_callD G_meeting_numbers bi_meeting_numbers (hr.mono (by decide)) tk (da_cons (pd_lc2 rfl sc_samples_of.nd (di_any (pd_v 0)) (blkOk_by (own := [("doer", 3), ("thing", 8)]) (N := N_samples_of) (sc := defScope s_samples_of) (by decide +kernel)) (gN_ok) (gN_ok) rfl (fun _ _ _ _ _ => pg_name (i := 3) sc_samples_of.nd rfl (by first | exact Or.inl rfl | exact Or.inr rfl)) (fun _ _ _ _ _ => dts_nil) (fun _ _ _ _ _ => di_any (pd_callD G_things_of bi_things_of (hr.mono (by decide)) takes0 (da_cons (pd_v 3) (da_nil)))) (fun _ _ _ _ _ => pg_name (i := 8) sc_samples_of.nd rfl (by first | exact Or.inl rfl | exact Or.inr rfl)) (fun _ _ _ _ _ => dts_nil) (fun _ _ _ _ _ => pd_v 8)) (da_nil)))) (da_nil))))))
theorem ok_answer_samples (T : Tx w K mg) (G_Doer___init__ : MkG P w K mg base 9 "Doer" "Doer.__init__" s_Doer___init__ ["self", "rooms"] [] [] sp_Doer___init__) (G_samples_of : DefOk P w K mg base 4 "samples_of" "samples_of" s_samples_of ["some"] sp_samples_of) : DefOk P w K mg base 11 "answer_samples" "answer_samples" s_answer_samples ["one", "other"] sp_answer_samples := by
  refine def_ok (r := rd_answer_samples) T.f_answer_samples sc_answer_samples ln_answer_samples (fun f cdv A outer s H E hr => ?_) pu_answer_samples
  have tk : Takes (cxOf (L2.CX P w) P w K mg base N_answer_samples "answer_samples" (defScope s_answer_samples) f cdv A outer s H E) (fun c d _ H => E c d H) := takes_of rfl rfl rfl rfl
  exact dss_one (ds_ret (pd_callD G_samples_of bi_samples_of (hr.mono (by decide)) tk (da_cons (pd_lst (da_cons (pd_mk G_Doer___init__ kb_Doer___init___0 (hr.mono (by decide)) tk (cal_cons (da_cons (pd_v 0) (da_nil)) (dk_nil))) (da_cons (pd_mk G_Doer___init__ kb_Doer___init___0 (hr.mono (by decide)) tk (cal_cons (da_cons (pd_v 1) (da_nil)) (dk_nil))) (da_nil)))) (da_nil))))
theorem ok_said_at (T : Tx w K mg) (G_Doer_ask_at : MetG P w K mg base 3 "Doer" "ask_at" "Doer.ask_at" s_Doer_ask_at ["self", "state"] [] [] sp_Doer_ask_at) (G_Doer_told_at : MetG P w K mg base 3 "Doer" "told_at" "Doer.told_at" s_Doer_told_at ["self", "state"] [] [] sp_Doer_told_at) : DefOk P w K mg base 4 "said_at" "said_at" s_said_at ["doer", "room", "last"] sp_said_at := by
  refine def_ok (r := rd_said_at) T.f_said_at sc_said_at ln_said_at (fun f cdv A outer s H E hr => ?_) pu_said_at
  have tk : Takes (cxOf (L2.CX P w) P w K mg base N_said_at "said_at" (defScope s_said_at) f cdv A outer s H E) (fun c d _ H => E c d H) := takes_of rfl rfl rfl rfl
  exact dss_one (ds_ret (pd_tup (da_cons (pd_met G_Doer_ask_at kb_Doer_ask_at_1 (hr.mono (by decide)) tk (pd_v 0) (cal_cons (da_cons (pd_tup (da_cons (pd_v 1) (da_cons (pd_v 2) (da_nil)))) (da_nil)) (dk_nil))) (da_cons (pd_met G_Doer_told_at kb_Doer_told_at_2 (hr.mono (by decide)) tk (pd_v 0) (cal_cons (da_cons (pd_tup (da_cons (pd_v 1) (da_cons (pd_v 2) (da_nil)))) (da_nil)) (dk_nil))) (da_nil)))))
theorem ok_is_same (T : Tx w K mg) (G_said_at : DefOk P w K mg base 4 "said_at" "said_at" s_said_at ["doer", "room", "last"] sp_said_at) : DefOk P w K mg base 5 "is_same" "is_same" s_is_same ["some", "triple"] sp_is_same := by
  refine def_ok (r := rd_is_same) T.f_is_same sc_is_same ln_is_same (fun f cdv A outer s H E hr => ?_) pu_is_same
  have tk : Takes (cxOf (L2.CX P w) P w K mg base N_is_same "is_same" (defScope s_is_same) f cdv A outer s H E) (fun c d _ H => E c d H) := takes_of rfl rfl rfl rfl
  exact dss_cons (ds_tup (pd_v 1) (pg_tup rfl (dgs_cons (pg_name (i := 2) sc_is_same.nd rfl (by first | exact Or.inl rfl | exact Or.inr rfl)) (dgs_cons (pg_name (i := 3) sc_is_same.nd rfl (by first | exact Or.inl rfl | exact Or.inr rfl)) (dgs_cons (pg_name (i := 4) sc_is_same.nd rfl (by first | exact Or.inl rfl | exact Or.inr rfl)) (dgs_nil))))) (gT_ok (js := [2, 3, 4])))
    (dss_one (ds_ret (pd_eq hr.units (pd_callD G_said_at bi_said_at (hr.mono (by decide)) tk (da_cons (pd_ix (pd_v 0) (pd_int)) (da_cons (pd_v 2) (da_cons (pd_v 4) (da_nil))))) (pd_callD G_said_at bi_said_at (hr.mono (by decide)) tk (da_cons (pd_ix (pd_v 0) (pd_int)) (da_cons (pd_v 3) (da_cons (pd_v 4) (da_nil))))))))
theorem ok_hangs (T : Tx w K mg) (G_is_whole : DefOk P w K mg base 1 "is_whole" "is_whole" s_is_whole ["thing"] sp_is_whole) : DefOk P w K mg base 2 "hangs" "hangs" s_hangs ["doer", "room"] sp_hangs := by
  refine def_ok (r := rd_hangs) T.f_hangs sc_hangs ln_hangs (fun f cdv A outer s H E hr => ?_) pu_hangs
  have tk : Takes (cxOf (L2.CX P w) P w K mg base N_hangs "hangs" (defScope s_hangs) f cdv A outer s H E) (fun c d _ H => E c d H) := takes_of rfl rfl rfl rfl
  exact dss_cons (ds_star rfl (pd_ix (pd_fld T.fl_Doer_rooms (pd_v 0)) (pd_v 1)) (pg_name (i := 2) sc_hangs.nd rfl (by first | exact Or.inl rfl | exact Or.inr rfl)) (pg_name (i := 3) sc_hangs.nd rfl (by first | exact Or.inl rfl | exact Or.inr rfl)))
    (dss_one (ds_ret (pd_any rfl T.b_any bb_any (da_cons (pd_lc rfl sc_hangs.nd (di_any (pd_if (dt_eq hr.units (pd_v 2) (pd_str)) (pd_ix (pd_v 3) (pd_int)) (pd_sl (pd_v 3) dp_none (dp_some (pd_int))))) (blkOk_by (own := [("thing", 4)]) (N := N_hangs) (sc := defScope s_hangs) (by decide +kernel)) (gN_ok) rfl (fun _ _ _ _ _ => pg_name (i := 4) sc_hangs.nd rfl (by first | exact Or.inl rfl | exact Or.inr rfl)) (fun _ _ _ _ _ => dts_nil) (fun _ _ _ _ _ => pd_not (pd_callD G_is_whole bi_is_whole (hr.mono (by decide)) takes0 (da_cons (pd_v 4) (da_nil))))) (da_nil)))))
theorem ok_settled_triple (T : Tx w K mg) (G_like : DefOk P w K mg base 1 "like" "like" s_like ["samples", "number"] sp_like) (G_hangs : DefOk P w K mg base 2 "hangs" "hangs" s_hangs ["doer", "room"] sp_hangs) : DefOk P w K mg base 3 "settled_triple" "settled_triple" s_settled_triple ["some", "samples", "triple"] sp_settled_triple := by
  refine def_ok (r := rd_settled_triple) T.f_settled_triple sc_settled_triple ln_settled_triple (fun f cdv A outer s H E hr => ?_) pu_settled_triple
  have tk : Takes (cxOf (L2.CX P w) P w K mg base N_settled_triple "settled_triple" (defScope s_settled_triple) f cdv A outer s H E) (fun c d _ H => E c d H) := takes_of rfl rfl rfl rfl
  exact dss_cons (ds_tup (pd_v 2) (pg_tup rfl (dgs_cons (pg_name (i := 3) sc_settled_triple.nd rfl (by first | exact Or.inl rfl | exact Or.inr rfl)) (dgs_cons (pg_name (i := 4) sc_settled_triple.nd rfl (by first | exact Or.inl rfl | exact Or.inr rfl)) (dgs_cons (pg_name (i := 5) sc_settled_triple.nd rfl (by first | exact Or.inl rfl | exact Or.inr rfl)) (dgs_nil))))) (gT_ok (js := [3, 4, 5])))
    (dss_cons (ds_if (PW.pt (dw_or (dt_tru (pd_callD G_hangs bi_hangs (hr.mono (by decide)) tk (da_cons (pd_ix (pd_v 0) (pd_int)) (da_cons (pd_v 3) (da_nil))))) (dw_or1 (dt_tru (pd_callD G_hangs bi_hangs (hr.mono (by decide)) tk (da_cons (pd_ix (pd_v 0) (pd_int)) (da_cons (pd_v 4) (da_nil)))))))) (dss_one (ds_ret (pd_tup (da_cons (pd_v 3) (da_cons (pd_v 4) (da_cons (pd_callD G_like bi_like (hr.mono (by decide)) tk (da_cons (pd_v 1) (da_cons (pd_v 5) (da_nil)))) (da_nil))))))) (dss_nil))
    (dss_one (ds_ret (pd_tup (da_cons (pd_v 3) (da_cons (pd_v 4) (da_cons (pd_int) (da_nil))))))))
theorem ok_rooms_behind (T : Tx w K mg) (G_Doer_ask_at : MetG P w K mg base 3 "Doer" "ask_at" "Doer.ask_at" s_Doer_ask_at ["self", "state"] [] [] sp_Doer_ask_at) (G_Doer_goes : MetG P w K mg base 3 "Doer" "goes" "Doer.goes" s_Doer_goes ["self", "state", "answer"] [] [] sp_Doer_goes) (G_settled_triple : DefOk P w K mg base 3 "settled_triple" "settled_triple" s_settled_triple ["some", "samples", "triple"] sp_settled_triple) : DefOk P w K mg base 4 "rooms_behind" "rooms_behind" s_rooms_behind ["some", "samples", "triple"] sp_rooms_behind := by
  refine def_ok (r := rd_rooms_behind) T.f_rooms_behind sc_rooms_behind ln_rooms_behind (fun f cdv A outer s H E hr => ?_) pu_rooms_behind
  have tk : Takes (cxOf (L2.CX P w) P w K mg base N_rooms_behind "rooms_behind" (defScope s_rooms_behind) f cdv A outer s H E) (fun c d _ H => E c d H) := takes_of rfl rfl rfl rfl
  exact dss_cons (ds_tup (pd_v 2) (pg_tup rfl (dgs_cons (pg_name (i := 5) sc_rooms_behind.nd rfl (by first | exact Or.inl rfl | exact Or.inr rfl)) (dgs_cons (pg_name (i := 6) sc_rooms_behind.nd rfl (by first | exact Or.inl rfl | exact Or.inr rfl)) (dgs_cons (pg_name (i := 7) sc_rooms_behind.nd rfl (by first | exact Or.inl rfl | exact Or.inr rfl)) (dgs_nil))))) (gT_ok (js := [5, 6, 7])))
    (dss_cons (ds_if (dt_isN (pd_met G_Doer_ask_at kb_Doer_ask_at_1 (hr.mono (by decide)) tk (pd_ix (pd_v 0) (pd_int)) (cal_cons (da_cons (pd_tup (da_cons (pd_v 5) (da_cons (pd_v 7) (da_nil)))) (da_nil)) (dk_nil))) (pd_non)) (dss_one (ds_ret (pd_lst (da_nil)))) (dss_nil))
    (dss_cons (ds_set (i := 3) sc_rooms_behind.nd (pd_lstM (da_nil)))
    (dss_cons (ds_for (passes_of rfl) rfl (di_any (pd_v 1)) (pg_name (i := 4) sc_rooms_behind.nd rfl (by first | exact Or.inl rfl | exact Or.inr rfl)) (gN_ok) (dss_cons (ds_set (i := 8) sc_rooms_behind.nd (pd_add (pd_sl (pd_met G_Doer_goes kb_Doer_goes_3 (hr.mono (by decide)) tk (pd_ix (pd_v 0) (pd_int)) (cal_cons (da_cons (pd_tup (da_cons (pd_v 5) (da_cons (pd_v 7) (da_nil)))) (da_cons (pd_v 4) (da_nil))) (dk_nil))) dp_none (dp_some (pd_int))) (pd_met G_Doer_goes kb_Doer_goes_3 (hr.mono (by decide)) tk (pd_ix (pd_v 0) (pd_int)) (cal_cons (da_cons (pd_tup (da_cons (pd_v 6) (da_cons (pd_v 7) (da_nil)))) (da_cons (pd_v 4) (da_nil))) (dk_nil)))))
    (dss_one (ds_expr (pd_app (pd_v 3) (pd_tup (da_cons (pd_v 4) (da_cons (pd_callD G_settled_triple bi_settled_triple (hr.mono (by decide)) tk (da_cons (pd_v 0) (da_cons (pd_v 1) (da_cons (pd_v 8) (da_nil))))) (da_nil)))))))))
    (dss_one (ds_ret (pd_seal (pd_v 3)))))))
theorem ok_paired_off (T : Tx w K mg) (G_Doer___init__ : MkG P w K mg base 9 "Doer" "Doer.__init__" s_Doer___init__ ["self", "rooms"] [] [] sp_Doer___init__) (G_samples_of : DefOk P w K mg base 4 "samples_of" "samples_of" s_samples_of ["some"] sp_samples_of) (G_is_same : DefOk P w K mg base 5 "is_same" "is_same" s_is_same ["some", "triple"] sp_is_same) (G_settled_triple : DefOk P w K mg base 3 "settled_triple" "settled_triple" s_settled_triple ["some", "samples", "triple"] sp_settled_triple) (G_rooms_behind : DefOk P w K mg base 4 "rooms_behind" "rooms_behind" s_rooms_behind ["some", "samples", "triple"] sp_rooms_behind) : DefOk P w K mg base 11 "paired_off" "paired_off" s_paired_off ["one", "other"] sp_paired_off_v3 := by
  refine def_ok (r := rd_paired_off_v3) T.f_paired_off sc_paired_off ln_paired_off_v3 (fun f cdv A outer s H E hr => ?_) pu_paired_off_v3
  have tk : Takes (cxOf (L2.CX P w) P w K mg base N_paired_off "paired_off" (defScope s_paired_off) f cdv A outer s H E) (fun c d _ H => E c d H) := takes_of rfl rfl rfl rfl
  exact dss_cons (ds_set (i := 2) sc_paired_off.nd (pd_lst (da_cons (pd_mk G_Doer___init__ kb_Doer___init___0 (hr.mono (by decide)) tk (cal_cons (da_cons (pd_v 0) (da_nil)) (dk_nil))) (da_cons (pd_mk G_Doer___init__ kb_Doer___init___0 (hr.mono (by decide)) tk (cal_cons (da_cons (pd_v 1) (da_nil)) (dk_nil))) (da_nil)))))
    (dss_cons (ds_set (i := 3) sc_paired_off.nd (pd_callD G_samples_of bi_samples_of (hr.mono (by decide)) tk (da_cons (pd_v 2) (da_nil))))
    (dss_cons (ds_set (i := 4) sc_paired_off.nd (pd_callD G_settled_triple bi_settled_triple (hr.mono (by decide)) tk (da_cons (pd_v 2) (da_cons (pd_v 3) (da_cons (pd_tup (da_cons (pd_int) (da_cons (pd_int) (da_cons (pd_int) (da_nil))))) (da_nil))))))
    (dss_cons (ds_set (i := 5) sc_paired_off.nd (pd_dgt1 (room8 hr) (pd_v 4) (pd_tup (da_nil))))
    (dss_cons (ds_set (i := 6) sc_paired_off.nd (pd_lstM (da_cons (pd_v 4) (da_nil))))
    (dss_cons (ds_set (i := 7) sc_paired_off.nd (pd_int))
    (dss_cons (ds_while (passes_of rfl) (dt_lt (pd_v 7) (pd_len T.b_len bb_len (da_cons (pd_v 6) (da_nil)))) (dss_cons (ds_if (dt_tru (pd_callD G_is_same bi_is_same (hr.mono (by decide)) tk (da_cons (pd_v 2) (da_cons (pd_ix (pd_v 6) (pd_v 7)) (da_nil))))) (dss_one (ds_for (passes_of rfl) rfl (di_any (pd_callD G_rooms_behind bi_rooms_behind (hr.mono (by decide)) tk (da_cons (pd_v 2) (da_cons (pd_v 3) (da_cons (pd_ix (pd_v 6) (pd_v 7)) (da_nil)))))) (pg_tup rfl (dgs_cons (pg_name (i := 8) sc_paired_off.nd rfl (by first | exact Or.inl rfl | exact Or.inr rfl)) (dgs_cons (pg_name (i := 9) sc_paired_off.nd rfl (by first | exact Or.inl rfl | exact Or.inr rfl)) (dgs_nil)))) (gT_ok (js := [8, 9])) (dss_one (ds_if (dt_notInG (room8 hr) (pd_v 9) (pd_v 5)) (dss_cons (ds_setG (room8 hr) (pd_add (pd_getG (room8 hr) (pd_v 5) (pd_ix (pd_v 6) (pd_v 7))) (pd_tup (da_cons (pd_v 8) (da_nil)))) (pd_v 5) (pd_v 9))
    (dss_one (ds_expr (pd_app (pd_v 6) (pd_v 9))))) (dss_nil))))) (dss_nil))
    (dss_one (ds_aug (i := 7) sc_paired_off.nd (pd_int)))))
    (dss_one (ds_ret (pd_v 5)))))))))
theorem ok_parted (T : Tx w K mg) (G_Doer___init__ : MkG P w K mg base 9 "Doer" "Doer.__init__" s_Doer___init__ ["self", "rooms"] [] [] sp_Doer___init__) (G_is_same : DefOk P w K mg base 5 "is_same" "is_same" s_is_same ["some", "triple"] sp_is_same) (G_paired_off : DefOk P w K mg base 11 "paired_off" "paired_off" s_paired_off ["one", "other"] sp_paired_off_v3) : DefOk P w K mg base 12 "parted" "parted" s_parted ["one", "other"] sp_parted_v3 := by
  refine def_ok (r := rd_parted_v3) T.f_parted sc_parted ln_parted_v3 (fun f cdv A outer s H E hr => ?_) pu_parted_v3
  have tk : Takes (cxOf (L2.CX P w) P w K mg base N_parted "parted" (defScope s_parted) f cdv A outer s H E) (fun c d _ H => E c d H) := takes_of rfl rfl rfl rfl
  exact dss_cons (ds_set (i := 2) sc_parted.nd (pd_lst (da_cons (pd_mk G_Doer___init__ kb_Doer___init___0 (hr.mono (by decide)) tk (cal_cons (da_cons (pd_v 0) (da_nil)) (dk_nil))) (da_cons (pd_mk G_Doer___init__ kb_Doer___init___0 (hr.mono (by decide)) tk (cal_cons (da_cons (pd_v 1) (da_nil)) (dk_nil))) (da_nil)))))
    (dss_cons (ds_for (passes_of rfl) rfl (di_itG (pd_callD G_paired_off bi_paired_off (hr.mono (by decide)) tk (da_cons (pd_v 0) (da_cons (pd_v 1) (da_nil))))) (pg_tup rfl (dgs_cons (pg_name (i := 3) sc_parted.nd rfl (by first | exact Or.inl rfl | exact Or.inr rfl)) (dgs_cons (pg_name (i := 4) sc_parted.nd rfl (by first | exact Or.inl rfl | exact Or.inr rfl)) (dgs_nil)))) (gT_ok (js := [3, 4])) (dss_one (ds_if (dt_not (dt_tru (pd_callD G_is_same bi_is_same (hr.mono (by decide)) tk (da_cons (pd_v 2) (da_cons (pd_v 3) (da_nil)))))) (dss_one (ds_ret (pd_listOf T.b_list bb_list (da_cons (pd_v 4) (da_nil))))) (dss_nil))))
    (dss_one (ds_ret (pd_non))))
theorem ok_same_pairs (T : Tx w K mg) (G_paired_off : DefOk P w K mg base 11 "paired_off" "paired_off" s_paired_off ["one", "other"] sp_paired_off_v3) : DefOk P w K mg base 12 "same_pairs" "same_pairs" s_same_pairs ["one", "other"] sp_same_pairs_v3 := by
  refine def_ok (r := rd_same_pairs_v3) T.f_same_pairs sc_same_pairs ln_same_pairs_v3 (fun f cdv A outer s H E hr => ?_) pu_same_pairs_v3
  have tk : Takes (cxOf (L2.CX P w) P w K mg base N_same_pairs "same_pairs" (defScope s_same_pairs) f cdv A outer s H E) (fun c d _ H => E c d H) := takes_of rfl rfl rfl rfl
  exact dss_one (ds_ret (pd_srtKGM rfl T.b_sorted bb_sorted (pd_callD G_paired_off bi_paired_off (hr.mono (by decide)) tk (da_cons (pd_v 0) (da_cons (pd_v 1) (da_nil))))))
theorem ok_is_triple (T : Tx w K mg) (G_is_whole : DefOk P w K mg base 1 "is_whole" "is_whole" s_is_whole ["thing"] sp_is_whole) (G_is_place : DefOk P w K mg base 2 "is_place" "is_place" s_is_place ["thing", "many"] sp_is_place) : DefOk P w K mg base 3 "is_triple" "is_triple" s_is_triple ["some", "thing"] sp_is_triple_v3 := by
  refine def_ok (r := rd_is_triple_v3) T.f_is_triple sc_is_triple ln_is_triple_v3 (fun f cdv A outer s H E hr => ?_) pu_is_triple_v3
  have tk : Takes (cxOf (L2.CX P w) P w K mg base N_is_triple "is_triple" (defScope s_is_triple) f cdv A outer s H E) (fun c d _ H => E c d H) := takes_of rfl rfl rfl rfl
  exact dss_cons (ds_if (PW.pt (dw_or (dt_not (dt_tru (pd_isi T.b_isinstance bb_isinstance (da_cons (pd_v 1) (da_cons (pd_ty T.b_tuple bb_tuple) (da_nil)))))) (dw_or (dt_ne hr.units (pd_len T.b_len bb_len (da_cons (pd_v 1) (da_nil))) (pd_int)) (dw_or1 (dt_not (dt_tru (pd_callD G_is_whole bi_is_whole (hr.mono (by decide)) tk (da_cons (pd_ix (pd_v 1) (pd_int)) (da_nil))))))))) (dss_one (ds_ret (pd_bl))) (dss_nil))
    (dss_one (ds_ret (pd_and (pd_callD G_is_place bi_is_place (hr.mono (by decide)) tk (da_cons (pd_ix (pd_v 1) (pd_int)) (da_cons (pd_len T.b_len bb_len (da_cons (pd_fld T.fl_Doer_rooms (pd_ix (pd_v 0) (pd_int))) (da_nil))) (da_nil)))) (pd_one (pd_callD G_is_place bi_is_place (hr.mono (by decide)) tk (da_cons (pd_ix (pd_v 1) (pd_int)) (da_cons (pd_len T.b_len bb_len (da_cons (pd_fld T.fl_Doer_rooms (pd_ix (pd_v 0) (pd_int))) (da_nil))) (da_nil))))))))
theorem ok_shows_same (T : Tx w K mg) (G_Doer___init__ : MkG P w K mg base 9 "Doer" "Doer.__init__" s_Doer___init__ ["self", "rooms"] [] [] sp_Doer___init__) (G_samples_of : DefOk P w K mg base 4 "samples_of" "samples_of" s_samples_of ["some"] sp_samples_of) (G_is_same : DefOk P w K mg base 5 "is_same" "is_same" s_is_same ["some", "triple"] sp_is_same) (G_settled_triple : DefOk P w K mg base 3 "settled_triple" "settled_triple" s_settled_triple ["some", "samples", "triple"] sp_settled_triple) (G_rooms_behind : DefOk P w K mg base 4 "rooms_behind" "rooms_behind" s_rooms_behind ["some", "samples", "triple"] sp_rooms_behind) (G_is_triple : DefOk P w K mg base 3 "is_triple" "is_triple" s_is_triple ["some", "thing"] sp_is_triple_v3) : DefOk P w K mg base 11 "shows_same" "shows_same" s_shows_same ["one", "other", "paper"] sp_shows_same_v3 := by
  refine def_ok (r := rd_shows_same_v3) T.f_shows_same sc_shows_same ln_shows_same_v3 (fun f cdv A outer s H E hr => ?_) pu_shows_same_v3
  have tk : Takes (cxOf (L2.CX P w) P w K mg base N_shows_same "shows_same" (defScope s_shows_same) f cdv A outer s H E) (fun c d _ H => E c d H) := takes_of rfl rfl rfl rfl
  exact dss_cons (ds_set (i := 3) sc_shows_same.nd (pd_lst (da_cons (pd_mk G_Doer___init__ kb_Doer___init___0 (hr.mono (by decide)) tk (cal_cons (da_cons (pd_v 0) (da_nil)) (dk_nil))) (da_cons (pd_mk G_Doer___init__ kb_Doer___init___0 (hr.mono (by decide)) tk (cal_cons (da_cons (pd_v 1) (da_nil)) (dk_nil))) (da_nil)))))
    (dss_cons (ds_if (PW.pt (dw_or (dt_not (dt_tru (pd_isi T.b_isinstance bb_isinstance (da_cons (pd_v 2) (da_cons (pd_ty T.b_list bb_list) (da_nil)))))) (dw_or1 (dt_not (dt_tru (pd_all rfl T.b_all bb_all (da_cons (pd_lc rfl sc_shows_same.nd (di_any (pd_v 2)) (blkOk_by (own := [("thing", 9)]) (N := N_shows_same) (sc := defScope s_shows_same) (by decide +kernel)) (gN_ok) rfl (fun _ _ _ _ _ => pg_name (i := 9) sc_shows_same.nd rfl (by first | exact Or.inl rfl | exact Or.inr rfl)) (fun _ _ _ _ _ => dts_nil) (fun _ _ _ _ _ => pd_callD G_is_triple bi_is_triple (hr.mono (by decide)) takes0 (da_cons (pd_v 3) (da_cons (pd_v 9) (da_nil))))) (da_nil)))))))) (dss_one (ds_ret (pd_bl))) (dss_nil))
    (dss_cons (ds_set (i := 4) sc_shows_same.nd (pd_callD G_samples_of bi_samples_of (hr.mono (by decide)) tk (da_cons (pd_v 3) (da_nil))))
    (dss_cons (ds_set (i := 5) sc_shows_same.nd (pd_dcG (room8 hr) rfl sc_shows_same.nd (di_any (pd_v 2)) (blkOk_by (own := [("triple", 6)]) (N := N_shows_same) (sc := defScope s_shows_same) (by decide +kernel)) (gN_ok) rfl (fun _ _ _ _ _ => pg_name (i := 6) sc_shows_same.nd rfl (by first | exact Or.inl rfl | exact Or.inr rfl)) (fun _ _ _ _ _ => dts_nil) (fun _ _ _ _ _ => pd_v 6) (fun _ _ _ _ _ => pd_bl)))
    (dss_cons (ds_if (PW.pt (dw_or (dt_notInG (room8 hr) (pd_callD G_settled_triple bi_settled_triple (hr.mono (by decide)) tk (da_cons (pd_v 3) (da_cons (pd_v 4) (da_cons (pd_tup (da_cons (pd_int) (da_cons (pd_int) (da_cons (pd_int) (da_nil))))) (da_nil))))) (pd_v 5)) (dw_or1 (dt_not (dt_tru (pd_all rfl T.b_all bb_all (da_cons (pd_lc rfl sc_shows_same.nd (di_any (pd_v 2)) (blkOk_by (own := [("triple", 6)]) (N := N_shows_same) (sc := defScope s_shows_same) (by decide +kernel)) (gN_ok) rfl (fun _ _ _ _ _ => pg_name (i := 6) sc_shows_same.nd rfl (by first | exact Or.inl rfl | exact Or.inr rfl)) (fun _ _ _ _ _ => dts_nil) (fun _ _ _ _ _ => pd_callD G_is_same bi_is_same (hr.mono (by decide)) takes0 (da_cons (pd_v 3) (da_cons (pd_v 6) (da_nil))))) (da_nil)))))))) (dss_one (ds_ret (pd_bl))) (dss_nil))
    (dss_one (ds_ret (pd_all rfl T.b_all bb_all (da_cons (pd_lc2 rfl sc_shows_same.nd (di_any (pd_v 2)) (blkOk_by (own := [("triple", 6), ("answer", 7), ("later", 8)]) (N := N_shows_same) (sc := defScope s_shows_same) (by decide +kernel)) (gN_ok) (gT_ok (js := [7, 8])) rfl (fun _ _ _ _ _ => pg_name (i := 6) sc_shows_same.nd rfl (by first | exact Or.inl rfl | exact Or.inr rfl)) (fun _ _ _ _ _ => dts_nil) (fun _ _ _ _ _ => di_any (pd_callD G_rooms_behind bi_rooms_behind (hr.mono (by decide)) takes0 (da_cons (pd_v 3) (da_cons (pd_v 4) (da_cons (pd_v 6) (da_nil)))))) (fun _ _ _ _ _ => pg_tup rfl (dgs_cons (pg_name (i := 7) sc_shows_same.nd rfl (by first | exact Or.inl rfl | exact Or.inr rfl)) (dgs_cons (pg_name (i := 8) sc_shows_same.nd rfl (by first | exact Or.inl rfl | exact Or.inr rfl)) (dgs_nil)))) (fun _ _ _ _ _ => dts_nil) (fun _ _ _ _ _ => pd_inG (room8 hr) (pd_v 8) (pd_v 5))) (da_nil)))))))))
theorem ok__law_cell_at (T : Tx w K mg) : DefOk P w K mg base 1 "_law_cell_at" "_law_cell_at" s__law_cell_at ["_law_script", "_law_k"] sp__law_cell_at := by
  refine def_ok (r := rd__law_cell_at) T.f__law_cell_at sc__law_cell_at ln__law_cell_at (fun f cdv A outer s H E hr => ?_) pu__law_cell_at
  have tk : Takes (cxOf (L2.CX P w) P w K mg base N__law_cell_at "_law_cell_at" (defScope s__law_cell_at) f cdv A outer s H E) (fun c d _ H => E c d H) := takes_of rfl rfl rfl rfl
  exact dss_cons (ds_if (dt_lt (pd_v 1) (pd_len T.b_len bb_len (da_cons (pd_v 0) (da_nil)))) (dss_one (ds_ret (pd_ix (pd_v 0) (pd_v 1)))) (dss_nil))
    (dss_one (ds_ret (pd_int)))
theorem ok__law_well (T : Tx w K mg) : DefOk P w K mg base 1 "_law_well" "_law_well" s__law_well ["_law_cell"] sp__law_well := by
  refine def_ok (r := rd__law_well) T.f__law_well sc__law_well ln__law_well (fun f cdv A outer s H E hr => ?_) pu__law_well
  have tk : Takes (cxOf (L2.CX P w) P w K mg base N__law_well "_law_well" (defScope s__law_well) f cdv A outer s H E) (fun c d _ H => E c d H) := takes_of rfl rfl rfl rfl
  exact dss_one (ds_ret (pd_lstM (da_cons (pd_ix (pd_lst (da_cons (pd_int) (da_cons (pd_v 0) (da_nil)))) (pd_intOf T.b_int bb_int (da_cons (pd_ge (pd_v 0) (pd_pow (pd_int) (pd_int))) (da_nil)))) (da_cons (pd_mod (pd_intOf T.b_int bb_int (da_cons (pd_v 0) (da_nil))) (pd_int)) (da_cons (pd_int) (da_nil))))))
theorem ok__law_draw (T : Tx w K mg) : DefOk P w K mg base 1 "_law_draw" "_law_draw" s__law_draw ["_law_well_here", "_law_many"] sp__law_draw := by
  refine def_ok (r := rd__law_draw) T.f__law_draw sc__law_draw ln__law_draw (fun f cdv A outer s H E hr => ?_) pu__law_draw
  have tk : Takes (cxOf (L2.CX P w) P w K mg base N__law_draw "_law_draw" (defScope s__law_draw) f cdv A outer s H E) (fun c d _ H => E c d H) := takes_of rfl rfl rfl rfl
  exact dss_cons (ds_if (dt_gt (pd_ix (pd_v 0) (pd_int)) (pd_int)) (dss_cons (ds_set (i := 3) sc__law_draw.nd (pd_mod (pd_intOf T.b_int bb_int (da_cons (pd_ix (pd_v 0) (pd_int)) (da_nil))) (pd_v 1)))
    (dss_cons (ds_setIx (pd_div (pd_ix (pd_v 0) (pd_int)) (pd_v 1)) (pd_v 0) (pd_int))
    (dss_one (ds_ret (pd_v 3))))) (dss_nil))
    (dss_cons (ds_setIx (pd_add (pd_ix (pd_v 0) (pd_int)) (pd_int)) (pd_v 0) (pd_int))
    (dss_cons (ds_set (i := 2) sc__law_draw.nd (pd_mod (pd_intOf T.b_int bb_int (da_cons (pd_pow (pd_add (pd_add (pd_ix (pd_v 0) (pd_int)) (pd_mul (pd_int) (pd_ix (pd_v 0) (pd_int)))) (pd_int)) (pd_int)) (da_nil))) (pd_int)))
    (dss_cons (ds_set (i := 2) sc__law_draw.nd (pd_mod (pd_intOf T.b_int bb_int (da_cons (pd_mul (pd_v 2) (pd_add (pd_add (pd_div (pd_v 2) (pd_int)) (pd_int)) (pd_ix (pd_v 0) (pd_int)))) (da_nil))) (pd_int)))
    (dss_one (ds_ret (pd_mod (pd_intOf T.b_int bb_int (da_cons (pd_mod (pd_intOf T.b_int bb_int (da_cons (pd_mul (pd_v 2) (pd_add (pd_div (pd_v 2) (pd_int)) (pd_int))) (da_nil))) (pd_int)) (da_nil))) (pd_v 1)))))))
theorem ok__law_one (T : Tx w K mg) (G__law_draw : DefOk P w K mg base 1 "_law_draw" "_law_draw" s__law_draw ["_law_well_here", "_law_many"] sp__law_draw) : DefOk P w K mg base 2 "_law_one" "_law_one" s__law_one ["_law_well_here", "_law_some"] sp__law_one := by
  refine def_ok (r := rd__law_one) T.f__law_one sc__law_one ln__law_one (fun f cdv A outer s H E hr => ?_) pu__law_one
  have tk : Takes (cxOf (L2.CX P w) P w K mg base N__law_one "_law_one" (defScope s__law_one) f cdv A outer s H E) (fun c d _ H => E c d H) := takes_of rfl rfl rfl rfl
  exact dss_one (ds_ret (pd_ix (pd_v 1) (pd_callD G__law_draw bi__law_draw (hr.mono (by decide)) tk (da_cons (pd_v 0) (da_cons (pd_len T.b_len bb_len (da_cons (pd_v 1) (da_nil))) (da_nil))))))
theorem ok__law_names (T : Tx w K mg) (G__law_draw : DefOk P w K mg base 1 "_law_draw" "_law_draw" s__law_draw ["_law_well_here", "_law_many"] sp__law_draw) : DefOk P w K mg base 2 "_law_names" "_law_names" s__law_names ["_law_well_here", "_law_many"] sp__law_names := by
  refine def_ok (r := rd__law_names) T.f__law_names sc__law_names ln__law_names (fun f cdv A outer s H E hr => ?_) pu__law_names
  have tk : Takes (cxOf (L2.CX P w) P w K mg base N__law_names "_law_names" (defScope s__law_names) f cdv A outer s H E) (fun c d _ H => E c d H) := takes_of rfl rfl rfl rfl
  exact dss_cons (ds_set (i := 2) sc__law_names.nd (pd_str))
    (dss_cons (ds_set (i := 3) sc__law_names.nd (pd_callD G__law_draw bi__law_draw (hr.mono (by decide)) tk (da_cons (pd_v 0) (da_cons (pd_int) (da_nil)))))
    (dss_cons (ds_set (i := 4) sc__law_names.nd (pd_lstM (da_nil)))
    (dss_cons (ds_for (passes_of rfl) rfl (di_range T.b_range (da_cons (pd_v 1) (da_nil))) (pg_name (i := 5) sc__law_names.nd rfl (by first | exact Or.inl rfl | exact Or.inr rfl)) (gN_ok) (dss_cons (ds_set (i := 6) sc__law_names.nd (pd_str))
    (dss_cons (ds_for (passes_of rfl) rfl (di_range T.b_range (da_cons (pd_callD G__law_draw bi__law_draw (hr.mono (by decide)) tk (da_cons (pd_v 0) (da_cons (pd_int) (da_nil)))) (da_nil))) (pg_name (i := 7) sc__law_names.nd rfl (by first | exact Or.inl rfl | exact Or.inr rfl)) (gN_ok) (dss_one (ds_set (i := 6) sc__law_names.nd (pd_add (pd_v 6) (pd_ix (pd_v 2) (pd_callD G__law_draw bi__law_draw (hr.mono (by decide)) tk (da_cons (pd_v 0) (da_cons (pd_int) (da_nil)))))))))
    (dss_one (ds_expr (pd_app (pd_v 4) (pd_add (pd_v 6) (pd_ix (pd_v 2) (pd_mod (pd_intOf T.b_int bb_int (da_cons (pd_add (pd_v 3) (pd_mul (pd_int) (pd_v 5))) (da_nil))) (pd_int))))))))))
    (dss_one (ds_ret (pd_seal (pd_v 4)))))))
theorem ok__law_mids (T : Tx w K mg) (G__law_draw : DefOk P w K mg base 1 "_law_draw" "_law_draw" s__law_draw ["_law_well_here", "_law_many"] sp__law_draw) : DefOk P w K mg base 2 "_law_mids" "_law_mids" s__law_mids ["_law_well_here"] sp__law_mids := by
  refine def_ok (r := rd__law_mids) T.f__law_mids sc__law_mids ln__law_mids (fun f cdv A outer s H E hr => ?_) pu__law_mids
  have tk : Takes (cxOf (L2.CX P w) P w K mg base N__law_mids "_law_mids" (defScope s__law_mids) f cdv A outer s H E) (fun c d _ H => E c d H) := takes_of rfl rfl rfl rfl
  exact dss_cons (ds_set (i := 1) sc__law_mids.nd (pd_ix (pd_lst (da_cons (pd_sub (pd_callD G__law_draw bi__law_draw (hr.mono (by decide)) tk (da_cons (pd_v 0) (da_cons (pd_int) (da_nil)))) (pd_int)) (da_cons (pd_sub (pd_callD G__law_draw bi__law_draw (hr.mono (by decide)) tk (da_cons (pd_v 0) (da_cons (pd_mul (pd_int) (pd_pow (pd_int) (pd_int))) (da_nil)))) (pd_pow (pd_int) (pd_int))) (da_nil)))) (pd_callD G__law_draw bi__law_draw (hr.mono (by decide)) tk (da_cons (pd_v 0) (da_cons (pd_int) (da_nil))))))
    (dss_one (ds_ret (pd_lc rfl sc__law_mids.nd (di_range T.b_range (da_cons (pd_int) (da_nil))) (blkOk_by (own := [("_law_k", 2)]) (N := N__law_mids) (sc := defScope s__law_mids) (by decide +kernel)) (gN_ok) rfl (fun _ _ _ _ _ => pg_name (i := 2) sc__law_mids.nd rfl (by first | exact Or.inl rfl | exact Or.inr rfl)) (fun _ _ _ _ _ => dts_nil) (fun _ _ _ _ _ => pd_add (pd_v 1) (pd_callD G__law_draw bi__law_draw (hr.mono (by decide)) takes0 (da_cons (pd_v 0) (da_cons (pd_int) (da_nil))))))))
theorem ok__law_near (T : Tx w K mg) (G__law_draw : DefOk P w K mg base 1 "_law_draw" "_law_draw" s__law_draw ["_law_well_here", "_law_many"] sp__law_draw) (G__law_one : DefOk P w K mg base 2 "_law_one" "_law_one" s__law_one ["_law_well_here", "_law_some"] sp__law_one) : DefOk P w K mg base 3 "_law_near" "_law_near" s__law_near ["_law_well_here", "_law_mids_here"] sp__law_near := by
  refine def_ok (r := rd__law_near) T.f__law_near sc__law_near ln__law_near (fun f cdv A outer s H E hr => ?_) pu__law_near
  have tk : Takes (cxOf (L2.CX P w) P w K mg base N__law_near "_law_near" (defScope s__law_near) f cdv A outer s H E) (fun c d _ H => E c d H) := takes_of rfl rfl rfl rfl
  exact dss_one (ds_ret (pd_sub (pd_add (pd_callD G__law_one bi__law_one (hr.mono (by decide)) tk (da_cons (pd_v 0) (da_cons (pd_v 1) (da_nil)))) (pd_callD G__law_draw bi__law_draw (hr.mono (by decide)) tk (da_cons (pd_v 0) (da_cons (pd_int) (da_nil))))) (pd_int)))
theorem ok__law_unlike (T : Tx w K mg) : DefOk P w K mg base 1 "_law_unlike" "_law_unlike" s__law_unlike ["_law_some"] sp__law_unlike := by
  refine def_ok (r := rd__law_unlike) T.f__law_unlike sc__law_unlike ln__law_unlike (fun f cdv A outer s H E hr => ?_) pu__law_unlike
  have tk : Takes (cxOf (L2.CX P w) P w K mg base N__law_unlike "_law_unlike" (defScope s__law_unlike) f cdv A outer s H E) (fun c d _ H => E c d H) := takes_of rfl rfl rfl rfl
  exact dss_one (ds_ret (pd_lc rfl sc__law_unlike.nd (di_enum T.b_enumerate (da_cons (pd_v 0) (da_nil))) (blkOk_by (own := [("_law_k", 1), ("_law_one_here", 2)]) (N := N__law_unlike) (sc := defScope s__law_unlike) (by decide +kernel)) (gT_ok (js := [1, 2])) rfl (fun _ _ _ _ _ => pg_tup rfl (dgs_cons (pg_name (i := 1) sc__law_unlike.nd rfl (by first | exact Or.inl rfl | exact Or.inr rfl)) (dgs_cons (pg_name (i := 2) sc__law_unlike.nd rfl (by first | exact Or.inl rfl | exact Or.inr rfl)) (dgs_nil)))) (fun _ _ _ _ _ => dts_one (dt_notIn (units65 hr) (pd_v 2) (pd_sl (pd_v 0) dp_none (dp_some (pd_v 1))))) (fun _ _ _ _ _ => pd_v 2)))
theorem ok__law_look (T : Tx w K mg) (G__law_draw : DefOk P w K mg base 1 "_law_draw" "_law_draw" s__law_draw ["_law_well_here", "_law_many"] sp__law_draw) (G__law_near : DefOk P w K mg base 3 "_law_near" "_law_near" s__law_near ["_law_well_here", "_law_mids_here"] sp__law_near) (G__law_unlike : DefOk P w K mg base 1 "_law_unlike" "_law_unlike" s__law_unlike ["_law_some"] sp__law_unlike) : DefOk P w K mg base 4 "_law_look" "_law_look" s__law_look ["_law_well_here", "_law_mids_here"] sp__law_look := by
  refine def_ok (r := rd__law_look) T.f__law_look sc__law_look ln__law_look (fun f cdv A outer s H E hr => ?_) pu__law_look
  have tk : Takes (cxOf (L2.CX P w) P w K mg base N__law_look "_law_look" (defScope s__law_look) f cdv A outer s H E) (fun c d _ H => E c d H) := takes_of rfl rfl rfl rfl
  exact dss_cons (ds_set (i := 2) sc__law_look.nd (pd_callD G__law_draw bi__law_draw (hr.mono (by decide)) tk (da_cons (pd_v 0) (da_cons (pd_int) (da_nil)))))
    (dss_cons (ds_set (i := 3) sc__law_look.nd (pd_callD G__law_near bi__law_near (hr.mono (by decide)) tk (da_cons (pd_v 0) (da_cons (pd_v 1) (da_nil)))))
    (dss_cons (ds_set (i := 4) sc__law_look.nd (pd_lstM (da_cons (pd_tup (da_cons (pd_str) (da_nil))) (da_cons (pd_tup (da_cons (pd_str) (da_cons (pd_v 3) (da_nil)))) (da_cons (pd_tup (da_cons (pd_str) (da_cons (pd_v 3) (da_nil)))) (da_cons (pd_tup (da_cons (pd_str) (da_cons (pd_v 3) (da_nil)))) (da_cons (pd_tup (da_cons (pd_str) (da_cons (pd_v 3) (da_cons (pd_sub (pd_add (pd_v 3) (pd_callD G__law_draw bi__law_draw (hr.mono (by decide)) tk (da_cons (pd_v 0) (da_cons (pd_int) (da_nil))))) (pd_int)) (da_nil))))) (da_nil))))))))
    (dss_cons (ds_expr (pd_app (pd_v 4) (pd_tup (da_cons (pd_str) (da_cons (pd_tupleOf T.b_tuple bb_tuple (da_cons (pd_callD G__law_unlike bi__law_unlike (hr.mono (by decide)) tk (da_cons (pd_lc rfl sc__law_look.nd (di_range T.b_range (da_cons (pd_callD G__law_draw bi__law_draw (hr.mono (by decide)) tk (da_cons (pd_v 0) (da_cons (pd_int) (da_nil)))) (da_nil))) (blkOk_by (own := [("_law_k", 5)]) (N := N__law_look) (sc := defScope s__law_look) (by decide +kernel)) (gN_ok) rfl (fun _ _ _ _ _ => pg_name (i := 5) sc__law_look.nd rfl (by first | exact Or.inl rfl | exact Or.inr rfl)) (fun _ _ _ _ _ => dts_nil) (fun _ _ _ _ _ => pd_callD G__law_near bi__law_near (hr.mono (by decide)) takes0 (da_cons (pd_v 0) (da_cons (pd_v 1) (da_nil))))) (da_nil))) (da_nil))) (da_nil))))))
    (dss_cons (ds_if (dt_lt (pd_v 2) (pd_int)) (dss_one (ds_ret (pd_ix (pd_v 4) (pd_v 2)))) (dss_nil))
    (dss_one (ds_ret (pd_tup (da_cons (pd_str) (da_cons (pd_ix (pd_v 4) (pd_callD G__law_draw bi__law_draw (hr.mono (by decide)) tk (da_cons (pd_v 0) (da_cons (pd_int) (da_nil))))) (da_nil))))))))))
theorem ok__law_fits (T : Tx w K mg) : ∀ kk : Nat, DefOk P w K mg base (0 + kk) "_law_fits" "_law_fits" s__law_fits ["_law_look_here", "_law_number_here"] (sp__law_fits kk)
  | 0 => def_no _ T.f__law_fits (fun _ _ _ _ h => h)
  | kk + 1 => by
    have G__law_fits := ok__law_fits T kk
    refine def_ok (k := 0 + kk) (r := rd__law_fits (sp__law_fits kk)) T.f__law_fits sc__law_fits (ln__law_fits (kk + 1)) (fun f cdv A outer s H E hr => ?_) (pu__law_fits kk)
    have tk : Takes (cxOf (L2.CX P w) P w K mg base N__law_fits "_law_fits" (defScope s__law_fits) f cdv A outer s H E) (fun c d _ H => E c d H) := takes_of rfl rfl rfl rfl
    exact dss_cons (ds_set (i := 2) sc__law_fits.nd (pd_ix (pd_v 0) (pd_int)))
      (dss_cons (ds_if (dt_eq hr.units (pd_v 2) (pd_str)) (dss_one (ds_ret (pd_not (pd_callD G__law_fits bi__law_fits (hr.mono (by omega)) tk (da_cons (pd_ix (pd_v 0) (pd_int)) (da_cons (pd_v 1) (da_nil))))))) (dss_nil))
      (dss_cons (ds_if (dt_eq hr.units (pd_v 2) (pd_str)) (dss_one (ds_ret (pd_bl))) (dss_nil))
      (dss_cons (ds_if (dt_eq hr.units (pd_v 2) (pd_str)) (dss_one (ds_ret (pd_in (units65 hr) (pd_v 1) (pd_ix (pd_v 0) (pd_int))))) (dss_nil))
      (dss_cons (ds_if (dt_eq hr.units (pd_v 2) (pd_str)) (dss_one (ds_ret (pd_eq hr.units (pd_v 1) (pd_ix (pd_v 0) (pd_int))))) (dss_nil))
      (dss_cons (ds_if (dt_eq hr.units (pd_v 2) (pd_str)) (dss_one (ds_ret (pd_ge (pd_v 1) (pd_ix (pd_v 0) (pd_int))))) (dss_nil))
      (dss_cons (ds_if (dt_eq hr.units (pd_v 2) (pd_str)) (dss_one (ds_ret (pd_le (pd_v 1) (pd_ix (pd_v 0) (pd_int))))) (dss_nil))
      (dss_one (ds_ret (pd_and (pd_le (pd_ix (pd_v 0) (pd_int)) (pd_v 1)) (pd_one (pd_le (pd_v 1) (pd_ix (pd_v 0) (pd_int)))))))))))))
theorem ok__law_world (T : Tx w K mg) (G__law_draw : DefOk P w K mg base 1 "_law_draw" "_law_draw" s__law_draw ["_law_well_here", "_law_many"] sp__law_draw) (G__law_names : DefOk P w K mg base 2 "_law_names" "_law_names" s__law_names ["_law_well_here", "_law_many"] sp__law_names) (G__law_mids : DefOk P w K mg base 2 "_law_mids" "_law_mids" s__law_mids ["_law_well_here"] sp__law_mids) : DefOk P w K mg base 3 "_law_world" "_law_world" s__law_world ["_law_well_here"] sp__law_world_v2 := by
  refine def_ok (r := rd__law_world_v2) T.f__law_world sc__law_world ln__law_world_v2 (fun f cdv A outer s H E hr => ?_) pu__law_world_v2
  have tk : Takes (cxOf (L2.CX P w) P w K mg base N__law_world "_law_world" (defScope s__law_world) f cdv A outer s H E) (fun c d _ H => E c d H) := takes_of rfl rfl rfl rfl
  exact dss_cons (ds_set (i := 1) sc__law_world.nd (pd_callD G__law_names bi__law_names (hr.mono (by decide)) tk (da_cons (pd_v 0) (da_cons (pd_int) (da_nil)))))
    (dss_cons (ds_set (i := 2) sc__law_world.nd (pd_sl (pd_v 1) dp_none (dp_some (pd_add (pd_int) (pd_callD G__law_draw bi__law_draw (hr.mono (by decide)) tk (da_cons (pd_v 0) (da_cons (pd_int) (da_nil))))))))
    (dss_one (ds_ret (pd_dctN (dps_cons (pd_str) (pd_v 2) (dps_cons (pd_str) (pd_sl (pd_v 1) (dp_some (pd_int)) (dp_some (pd_add (pd_int) (pd_callD G__law_draw bi__law_draw (hr.mono (by decide)) tk (da_cons (pd_v 0) (da_cons (pd_int) (da_nil))))))) (dps_cons (pd_str) (pd_callD G__law_mids bi__law_mids (hr.mono (by decide)) tk (da_cons (pd_v 0) (da_nil))) (dps_nil))))))))
theorem ok__law_thing (T : Tx w K mg) (G__law_draw : DefOk P w K mg base 1 "_law_draw" "_law_draw" s__law_draw ["_law_well_here", "_law_many"] sp__law_draw) (G__law_near : DefOk P w K mg base 3 "_law_near" "_law_near" s__law_near ["_law_well_here", "_law_mids_here"] sp__law_near) : DefOk P w K mg base 4 "_law_thing" "_law_thing" s__law_thing ["_law_well_here", "_law_mids_here"] sp__law_thing_v2 := by
  refine def_ok (r := rd__law_thing_v2) T.f__law_thing sc__law_thing ln__law_thing_v2 (fun f cdv A outer s H E hr => ?_) pu__law_thing_v2
  have tk : Takes (cxOf (L2.CX P w) P w K mg base N__law_thing "_law_thing" (defScope s__law_thing) f cdv A outer s H E) (fun c d _ H => E c d H) := takes_of rfl rfl rfl rfl
  exact dss_one (ds_ret (pd_ix (pd_lst (da_cons (pd_tup (da_cons (pd_str) (da_cons (pd_sub (pd_callD G__law_draw bi__law_draw (hr.mono (by decide)) tk (da_cons (pd_v 0) (da_cons (pd_int) (da_nil)))) (pd_int)) (da_nil)))) (da_cons (pd_callD G__law_near bi__law_near (hr.mono (by decide)) tk (da_cons (pd_v 0) (da_cons (pd_v 1) (da_nil)))) (da_cons (pd_int) (da_nil))))) (pd_callD G__law_draw bi__law_draw (hr.mono (by decide)) tk (da_cons (pd_v 0) (da_cons (pd_int) (da_nil))))))
theorem ok__law_room (T : Tx w K mg) (G__law_draw : DefOk P w K mg base 1 "_law_draw" "_law_draw" s__law_draw ["_law_well_here", "_law_many"] sp__law_draw) (G__law_one : DefOk P w K mg base 2 "_law_one" "_law_one" s__law_one ["_law_well_here", "_law_some"] sp__law_one) (G__law_look : DefOk P w K mg base 4 "_law_look" "_law_look" s__law_look ["_law_well_here", "_law_mids_here"] sp__law_look) (G__law_thing : DefOk P w K mg base 4 "_law_thing" "_law_thing" s__law_thing ["_law_well_here", "_law_mids_here"] sp__law_thing_v2) : DefOk P w K mg base 5 "_law_room" "_law_room" s__law_room ["_law_well_here", "_law_world_here", "_law_many"] sp__law_room_v2 := by
  refine def_ok (r := rd__law_room_v2) T.f__law_room sc__law_room ln__law_room_v2 (fun f cdv A outer s H E hr => ?_) pu__law_room_v2
  have tk : Takes (cxOf (L2.CX P w) P w K mg base N__law_room "_law_room" (defScope s__law_room) f cdv A outer s H E) (fun c d _ H => E c d H) := takes_of rfl rfl rfl rfl
  exact dss_cons (ds_if (dt_eq hr.units (pd_callD G__law_draw bi__law_draw (hr.mono (by decide)) tk (da_cons (pd_v 0) (da_cons (pd_int) (da_nil)))) (pd_int)) (dss_one (ds_ret (pd_tup (da_cons (pd_str) (da_cons (pd_callD G__law_thing bi__law_thing (hr.mono (by decide)) tk (da_cons (pd_v 0) (da_cons (pd_dget (units1 hr) (pd_v 1) (pd_str)) (da_nil)))) (da_nil)))))) (dss_nil))
    (dss_cons (ds_set (i := 3) sc__law_room.nd (pd_tupleOf T.b_tuple bb_tuple (da_cons (pd_lc rfl sc__law_room.nd (di_range T.b_range (da_cons (pd_ix (pd_lst (da_cons (pd_int) (da_cons (pd_int) (da_cons (pd_int) (da_cons (pd_int) (da_nil)))))) (pd_callD G__law_draw bi__law_draw (hr.mono (by decide)) tk (da_cons (pd_v 0) (da_cons (pd_int) (da_nil))))) (da_nil))) (blkOk_by (own := [("_law_k", 6)]) (N := N__law_room) (sc := defScope s__law_room) (by decide +kernel)) (gN_ok) rfl (fun _ _ _ _ _ => pg_name (i := 6) sc__law_room.nd rfl (by first | exact Or.inl rfl | exact Or.inr rfl)) (fun _ _ _ _ _ => dts_nil) (fun _ _ _ _ _ => pd_callD G__law_thing bi__law_thing (hr.mono (by decide)) takes0 (da_cons (pd_v 0) (da_cons (pd_dget (units1 hr) (pd_v 1) (pd_str)) (da_nil))))) (da_nil))))
    (dss_cons (ds_set (i := 4) sc__law_room.nd (pd_tupleOf T.b_tuple bb_tuple (da_cons (pd_lc rfl sc__law_room.nd (di_range T.b_range (da_cons (pd_callD G__law_draw bi__law_draw (hr.mono (by decide)) tk (da_cons (pd_v 0) (da_cons (pd_int) (da_nil)))) (da_nil))) (blkOk_by (own := [("_law_k", 6)]) (N := N__law_room) (sc := defScope s__law_room) (by decide +kernel)) (gN_ok) rfl (fun _ _ _ _ _ => pg_name (i := 6) sc__law_room.nd rfl (by first | exact Or.inl rfl | exact Or.inr rfl)) (fun _ _ _ _ _ => dts_nil) (fun _ _ _ _ _ => pd_tup (da_cons (pd_callD G__law_look bi__law_look (hr.mono (by decide)) takes0 (da_cons (pd_v 0) (da_cons (pd_dget (units1 hr) (pd_v 1) (pd_str)) (da_nil)))) (da_cons (pd_callD G__law_draw bi__law_draw (hr.mono (by decide)) takes0 (da_cons (pd_v 0) (da_cons (pd_v 2) (da_nil)))) (da_nil))))) (da_nil))))
    (dss_cons (ds_set (i := 5) sc__law_room.nd (pd_tup (da_cons (pd_callD G__law_one bi__law_one (hr.mono (by decide)) tk (da_cons (pd_v 0) (da_cons (pd_dget (units1 hr) (pd_v 1) (pd_str)) (da_nil)))) (da_cons (pd_callD G__law_one bi__law_one (hr.mono (by decide)) tk (da_cons (pd_v 0) (da_cons (pd_dget (units1 hr) (pd_v 1) (pd_str)) (da_nil)))) (da_nil)))))
    (dss_one (ds_ret (pd_add (pd_add (pd_tup (da_cons (pd_str) (da_nil))) (pd_v 5)) (pd_tup (da_cons (pd_v 3) (da_cons (pd_v 4) (da_cons (pd_callD G__law_draw bi__law_draw (hr.mono (by decide)) tk (da_cons (pd_v 0) (da_cons (pd_v 2) (da_nil)))) (da_nil)))))))))))
theorem ok__law_rooms (T : Tx w K mg) (G__law_draw : DefOk P w K mg base 1 "_law_draw" "_law_draw" s__law_draw ["_law_well_here", "_law_many"] sp__law_draw) (G__law_thing : DefOk P w K mg base 4 "_law_thing" "_law_thing" s__law_thing ["_law_well_here", "_law_mids_here"] sp__law_thing_v2) (G__law_room : DefOk P w K mg base 5 "_law_room" "_law_room" s__law_room ["_law_well_here", "_law_world_here", "_law_many"] sp__law_room_v2) : DefOk P w K mg base 6 "_law_rooms" "_law_rooms" s__law_rooms ["_law_well_here", "_law_world_here", "_law_most"] sp__law_rooms_v2 := by
  refine def_ok (r := rd__law_rooms_v2) T.f__law_rooms sc__law_rooms ln__law_rooms_v2 (fun f cdv A outer s H E hr => ?_) pu__law_rooms_v2
  have tk : Takes (cxOf (L2.CX P w) P w K mg base N__law_rooms "_law_rooms" (defScope s__law_rooms) f cdv A outer s H E) (fun c d _ H => E c d H) := takes_of rfl rfl rfl rfl
  exact dss_cons (ds_set (i := 3) sc__law_rooms.nd (pd_add (pd_int) (pd_callD G__law_draw bi__law_draw (hr.mono (by decide)) tk (da_cons (pd_v 0) (da_cons (pd_v 2) (da_nil))))))
    (dss_cons (ds_setLcM (i := 4) rfl sc__law_rooms.nd (sw_true rfl rfl rfl (by decide +kernel)) (di_range T.b_range (da_cons (pd_v 3) (da_nil))) (blkOk_by (own := [("_law_k", 5)]) (N := N__law_rooms) (sc := defScope s__law_rooms) (by decide +kernel)) (gN_ok) rfl (fun _ _ _ _ _ => pg_name (i := 5) sc__law_rooms.nd rfl (by first | exact Or.inl rfl | exact Or.inr rfl)) (fun _ _ _ _ _ => dts_nil) (fun _ _ _ _ _ => pd_callD G__law_room bi__law_room (hr.mono (by decide)) takes0 (da_cons (pd_v 0) (da_cons (pd_v 1) (da_cons (pd_v 3) (da_nil))))))
    (dss_cons (ds_if (dt_gt (pd_v 3) (pd_int)) (dss_one (ds_setIx (pd_tup (da_cons (pd_str) (da_cons (pd_callD G__law_thing bi__law_thing (hr.mono (by decide)) tk (da_cons (pd_v 0) (da_cons (pd_dget (units1 hr) (pd_v 1) (pd_str)) (da_nil)))) (da_nil)))) (pd_v 4) (pd_neg (pd_int)))) (dss_nil))
    (dss_one (ds_ret (pd_tupleOf T.b_tuple bb_tuple (da_cons (pd_v 4) (da_nil)))))))
theorem ok__law_number (T : Tx w K mg) : DefOk P w K mg base 1 "_law_number" "_law_number" s__law_number ["_law_thing_here", "_law_last"] sp__law_number := by
  refine def_ok (r := rd__law_number) T.f__law_number sc__law_number ln__law_number (fun f cdv A outer s H E hr => ?_) pu__law_number
  have tk : Takes (cxOf (L2.CX P w) P w K mg base N__law_number "_law_number" (defScope s__law_number) f cdv A outer s H E) (fun c d _ H => E c d H) := takes_of rfl rfl rfl rfl
  exact dss_cons (ds_if (dt_tru (pd_isi T.b_isinstance bb_isinstance (da_cons (pd_v 0) (da_cons (pd_ty T.b_tuple bb_tuple) (da_nil))))) (dss_one (ds_ret (pd_add (pd_v 1) (pd_ix (pd_v 0) (pd_int))))) (dss_nil))
    (dss_one (ds_ret (pd_v 0)))
theorem ok__law_said (T : Tx w K mg) (G__law_number : DefOk P w K mg base 1 "_law_number" "_law_number" s__law_number ["_law_thing_here", "_law_last"] sp__law_number) : DefOk P w K mg base 2 "_law_said" "_law_said" s__law_said ["_law_rooms_here", "_law_state"] sp__law_said := by
  refine def_ok (r := rd__law_said) T.f__law_said sc__law_said ln__law_said (fun f cdv A outer s H E hr => ?_) pu__law_said
  have tk : Takes (cxOf (L2.CX P w) P w K mg base N__law_said "_law_said" (defScope s__law_said) f cdv A outer s H E) (fun c d _ H => E c d H) := takes_of rfl rfl rfl rfl
  exact dss_cons (ds_set (i := 2) sc__law_said.nd (pd_ix (pd_v 0) (pd_ix (pd_v 1) (pd_int))))
    (dss_cons (ds_if (dt_eq hr.units (pd_ix (pd_v 2) (pd_int)) (pd_str)) (dss_one (ds_ret (pd_tup (da_cons (pd_non) (da_cons (pd_callD G__law_number bi__law_number (hr.mono (by decide)) tk (da_cons (pd_ix (pd_v 2) (pd_int)) (da_cons (pd_ix (pd_v 1) (pd_int)) (da_nil)))) (da_nil)))))) (dss_nil))
    (dss_one (ds_ret (pd_tup (da_cons (pd_tup (da_cons (pd_ix (pd_v 2) (pd_int)) (da_cons (pd_ix (pd_v 2) (pd_int)) (da_cons (pd_tupleOf T.b_tuple bb_tuple (da_cons (pd_lc rfl sc__law_said.nd (di_any (pd_ix (pd_v 2) (pd_int))) (blkOk_by (own := [("_law_thing_here", 3)]) (N := N__law_said) (sc := defScope s__law_said) (by decide +kernel)) (gN_ok) rfl (fun _ _ _ _ _ => pg_name (i := 3) sc__law_said.nd rfl (by first | exact Or.inl rfl | exact Or.inr rfl)) (fun _ _ _ _ _ => dts_nil) (fun _ _ _ _ _ => pd_callD G__law_number bi__law_number (hr.mono (by decide)) takes0 (da_cons (pd_v 3) (da_cons (pd_ix (pd_v 1) (pd_int)) (da_nil))))) (da_nil))) (da_nil))))) (da_cons (pd_non) (da_nil)))))))
theorem ok__law_goes (T : Tx w K mg) (G__law_fits : DefOk P w K mg base 2 "_law_fits" "_law_fits" s__law_fits ["_law_look_here", "_law_number_here"] (sp__law_fits 2)) : DefOk P w K mg base 3 "_law_goes" "_law_goes" s__law_goes ["_law_rooms_here", "_law_state", "_law_answer"] sp__law_goes_v2 := by
  refine def_ok (r := rd__law_goes_v2) T.f__law_goes sc__law_goes ln__law_goes_v2 (fun f cdv A outer s H E hr => ?_) pu__law_goes_v2
  have tk : Takes (cxOf (L2.CX P w) P w K mg base N__law_goes "_law_goes" (defScope s__law_goes) f cdv A outer s H E) (fun c d _ H => E c d H) := takes_of rfl rfl rfl rfl
  exact dss_cons (ds_for (passes_of rfl) rfl (di_any (pd_ix (pd_ix (pd_v 0) (pd_ix (pd_v 1) (pd_int))) (pd_int))) (pg_tup rfl (dgs_cons (pg_name (i := 3) sc__law_goes.nd rfl (by first | exact Or.inl rfl | exact Or.inr rfl)) (dgs_cons (pg_name (i := 4) sc__law_goes.nd rfl (by first | exact Or.inl rfl | exact Or.inr rfl)) (dgs_nil)))) (gT_ok (js := [3, 4])) (dss_one (ds_if (dt_tru (pd_callD G__law_fits bi__law_fits (hr.mono (by decide)) tk (da_cons (pd_v 3) (da_cons (pd_v 2) (da_nil))))) (dss_one (ds_ret (pd_tup (da_cons (pd_v 4) (da_cons (pd_v 2) (da_nil)))))) (dss_nil))))
    (dss_one (ds_ret (pd_tup (da_cons (pd_ix (pd_ix (pd_v 0) (pd_ix (pd_v 1) (pd_int))) (pd_int)) (da_cons (pd_v 2) (da_nil))))))
theorem ok__law_like (T : Tx w K mg) : DefOk P w K mg base 1 "_law_like" "_law_like" s__law_like ["_law_stops", "_law_number_here"] sp__law_like := by
  refine def_ok (r := rd__law_like) T.f__law_like sc__law_like ln__law_like (fun f cdv A outer s H E hr => ?_) pu__law_like
  have tk : Takes (cxOf (L2.CX P w) P w K mg base N__law_like "_law_like" (defScope s__law_like) f cdv A outer s H E) (fun c d _ H => E c d H) := takes_of rfl rfl rfl rfl
  exact dss_one (ds_ret (pd_ix (pd_add (pd_lst (da_cons (pd_ix (pd_v 0) (pd_int)) (da_nil))) (pd_lc rfl sc__law_like.nd (di_any (pd_v 0)) (blkOk_by (own := [("_law_sample", 2)]) (N := N__law_like) (sc := defScope s__law_like) (by decide +kernel)) (gN_ok) rfl (fun _ _ _ _ _ => pg_name (i := 2) sc__law_like.nd rfl (by first | exact Or.inl rfl | exact Or.inr rfl)) (fun _ _ _ _ _ => dts_one (dt_le (pd_v 2) (pd_v 1))) (fun _ _ _ _ _ => pd_v 2))) (pd_neg (pd_int))))
theorem ok__law_settled (T : Tx w K mg) (G__law_like : DefOk P w K mg base 1 "_law_like" "_law_like" s__law_like ["_law_stops", "_law_number_here"] sp__law_like) : DefOk P w K mg base 2 "_law_settled" "_law_settled" s__law_settled ["_law_one_here", "_law_other", "_law_stops", "_law_triple"] sp__law_settled_v2 := by
  refine def_ok (r := rd__law_settled_v2) T.f__law_settled sc__law_settled ln__law_settled_v2 (fun f cdv A outer s H E hr => ?_) pu__law_settled_v2
  have tk : Takes (cxOf (L2.CX P w) P w K mg base N__law_settled "_law_settled" (defScope s__law_settled) f cdv A outer s H E) (fun c d _ H => E c d H) := takes_of rfl rfl rfl rfl
  exact dss_cons (ds_set (i := 4) sc__law_settled.nd (pd_lstM (da_nil)))
    (dss_cons (ds_for (passes_of rfl) rfl (di_any (pd_tup (da_cons (pd_ix (pd_v 0) (pd_ix (pd_v 3) (pd_int))) (da_cons (pd_ix (pd_v 1) (pd_ix (pd_v 3) (pd_int))) (da_nil))))) (pg_name (i := 5) sc__law_settled.nd rfl (by first | exact Or.inl rfl | exact Or.inr rfl)) (gN_ok) (dss_one (ds_if (dt_eq hr.units (pd_ix (pd_v 5) (pd_int)) (pd_str)) (dss_one (ds_set (i := 4) sc__law_settled.nd (pd_addM (pd_v 4) (pd_listOf T.b_list bb_list (da_cons (pd_ix (pd_v 5) (pd_int)) (da_nil)))))) (dss_one (ds_expr (pd_app (pd_v 4) (pd_ix (pd_v 5) (pd_int))))))))
    (dss_cons (ds_if (dt_eq hr.units (pd_lc rfl sc__law_settled.nd (di_any (pd_v 4)) (blkOk_by (own := [("_law_thing_here", 6)]) (N := N__law_settled) (sc := defScope s__law_settled) (by decide +kernel)) (gN_ok) rfl (fun _ _ _ _ _ => pg_name (i := 6) sc__law_settled.nd rfl (by first | exact Or.inl rfl | exact Or.inr rfl)) (fun _ _ _ _ _ => dts_one (dt_tru (pd_isi T.b_isinstance bb_isinstance (da_cons (pd_v 6) (da_cons (pd_ty T.b_tuple bb_tuple) (da_nil)))))) (fun _ _ _ _ _ => pd_v 6)) (pd_lst (da_nil))) (dss_one (ds_ret (pd_add (pd_sl (pd_v 3) dp_none (dp_some (pd_int))) (pd_tup (da_cons (pd_int) (da_nil)))))) (dss_nil))
    (dss_one (ds_ret (pd_add (pd_sl (pd_v 3) dp_none (dp_some (pd_int))) (pd_tup (da_cons (pd_callD G__law_like bi__law_like (hr.mono (by decide)) tk (da_cons (pd_v 2) (da_cons (pd_ix (pd_v 3) (pd_int)) (da_nil)))) (da_nil))))))))
theorem ok__law_behind (T : Tx w K mg) (G__law_said : DefOk P w K mg base 2 "_law_said" "_law_said" s__law_said ["_law_rooms_here", "_law_state"] sp__law_said) (G__law_goes : DefOk P w K mg base 3 "_law_goes" "_law_goes" s__law_goes ["_law_rooms_here", "_law_state", "_law_answer"] sp__law_goes_v2) (G__law_settled : DefOk P w K mg base 2 "_law_settled" "_law_settled" s__law_settled ["_law_one_here", "_law_other", "_law_stops", "_law_triple"] sp__law_settled_v2) : DefOk P w K mg base 4 "_law_behind" "_law_behind" s__law_behind ["_law_one_here", "_law_other", "_law_stops", "_law_triple"] sp__law_behind_v4 := by
  refine def_ok (r := rd__law_behind_v4) T.f__law_behind sc__law_behind ln__law_behind_v4 (fun f cdv A outer s H E hr => ?_) pu__law_behind_v4
  have tk : Takes (cxOf (L2.CX P w) P w K mg base N__law_behind "_law_behind" (defScope s__law_behind) f cdv A outer s H E) (fun c d _ H => E c d H) := takes_of rfl rfl rfl rfl
  exact dss_cons (ds_tup (pd_v 3) (pg_tup rfl (dgs_cons (pg_name (i := 6) sc__law_behind.nd rfl (by first | exact Or.inl rfl | exact Or.inr rfl)) (dgs_cons (pg_name (i := 7) sc__law_behind.nd rfl (by first | exact Or.inl rfl | exact Or.inr rfl)) (dgs_cons (pg_name (i := 8) sc__law_behind.nd rfl (by first | exact Or.inl rfl | exact Or.inr rfl)) (dgs_nil))))) (gT_ok (js := [6, 7, 8])))
    (dss_cons (ds_if (PW.pt (dw_or (dt_isN (pd_ix (pd_callD G__law_said bi__law_said (hr.mono (by decide)) tk (da_cons (pd_v 0) (da_cons (pd_tup (da_cons (pd_v 6) (da_cons (pd_v 8) (da_nil)))) (da_nil)))) (pd_int)) (pd_non)) (dw_or1 (dt_isN (pd_ix (pd_callD G__law_said bi__law_said (hr.mono (by decide)) tk (da_cons (pd_v 1) (da_cons (pd_tup (da_cons (pd_v 7) (da_cons (pd_v 8) (da_nil)))) (da_nil)))) (pd_int)) (pd_non))))) (dss_one (ds_ret (pd_lst (da_nil)))) (dss_nil))
    (dss_cons (ds_set (i := 4) sc__law_behind.nd (pd_lstM (da_nil)))
    (dss_cons (ds_for (passes_of rfl) rfl (di_any (pd_v 2)) (pg_name (i := 5) sc__law_behind.nd rfl (by first | exact Or.inl rfl | exact Or.inr rfl)) (gN_ok) (dss_cons (ds_set (i := 9) sc__law_behind.nd (pd_tup (da_cons (pd_ix (pd_callD G__law_goes bi__law_goes (hr.mono (by decide)) tk (da_cons (pd_v 0) (da_cons (pd_tup (da_cons (pd_v 6) (da_cons (pd_v 8) (da_nil)))) (da_cons (pd_v 5) (da_nil))))) (pd_int)) (da_cons (pd_ix (pd_callD G__law_goes bi__law_goes (hr.mono (by decide)) tk (da_cons (pd_v 1) (da_cons (pd_tup (da_cons (pd_v 7) (da_cons (pd_v 8) (da_nil)))) (da_cons (pd_v 5) (da_nil))))) (pd_int)) (da_cons (pd_v 5) (da_nil))))))
    (dss_one (ds_expr (pd_app (pd_v 4) (pd_callD G__law_settled bi__law_settled (hr.mono (by decide)) tk (da_cons (pd_v 0) (da_cons (pd_v 1) (da_cons (pd_v 2) (da_cons (pd_v 9) (da_nil)))))))))))
    (dss_one (ds_ret (pd_seal (pd_v 4)))))))
theorem ok__law_is_same (T : Tx w K mg) (G__law_said : DefOk P w K mg base 2 "_law_said" "_law_said" s__law_said ["_law_rooms_here", "_law_state"] sp__law_said) : DefOk P w K mg base 3 "_law_is_same" "_law_is_same" s__law_is_same ["_law_one_here", "_law_other", "_law_triple"] sp__law_is_same := by
  refine def_ok (r := rd__law_is_same) T.f__law_is_same sc__law_is_same ln__law_is_same (fun f cdv A outer s H E hr => ?_) pu__law_is_same
  have tk : Takes (cxOf (L2.CX P w) P w K mg base N__law_is_same "_law_is_same" (defScope s__law_is_same) f cdv A outer s H E) (fun c d _ H => E c d H) := takes_of rfl rfl rfl rfl
  exact dss_one (ds_ret (pd_eq hr.units (pd_callD G__law_said bi__law_said (hr.mono (by decide)) tk (da_cons (pd_v 0) (da_cons (pd_tup (da_cons (pd_ix (pd_v 2) (pd_int)) (da_cons (pd_ix (pd_v 2) (pd_int)) (da_nil)))) (da_nil)))) (pd_callD G__law_said bi__law_said (hr.mono (by decide)) tk (da_cons (pd_v 1) (da_cons (pd_tup (da_cons (pd_ix (pd_v 2) (pd_int)) (da_cons (pd_ix (pd_v 2) (pd_int)) (da_nil)))) (da_nil))))))
theorem ok__law_all (T : Tx w K mg) (G__law_unlike : DefOk P w K mg base 1 "_law_unlike" "_law_unlike" s__law_unlike ["_law_some"] sp__law_unlike) (G__law_settled : DefOk P w K mg base 2 "_law_settled" "_law_settled" s__law_settled ["_law_one_here", "_law_other", "_law_stops", "_law_triple"] sp__law_settled_v2) (G__law_behind : DefOk P w K mg base 4 "_law_behind" "_law_behind" s__law_behind ["_law_one_here", "_law_other", "_law_stops", "_law_triple"] sp__law_behind_v4) (G__law_is_same : DefOk P w K mg base 3 "_law_is_same" "_law_is_same" s__law_is_same ["_law_one_here", "_law_other", "_law_triple"] sp__law_is_same) : DefOk P w K mg base 5 "_law_all" "_law_all" s__law_all ["_law_one_here", "_law_other", "_law_stops"] sp__law_all_v2 := by
  refine def_ok (r := rd__law_all_v2) T.f__law_all sc__law_all ln__law_all_v2 (fun f cdv A outer s H E hr => ?_) pu__law_all_v2
  have tk : Takes (cxOf (L2.CX P w) P w K mg base N__law_all "_law_all" (defScope s__law_all) f cdv A outer s H E) (fun c d _ H => E c d H) := takes_of rfl rfl rfl rfl
  exact dss_cons (ds_set (i := 3) sc__law_all.nd (pd_lstM (da_cons (pd_callD G__law_settled bi__law_settled (hr.mono (by decide)) tk (da_cons (pd_v 0) (da_cons (pd_v 1) (da_cons (pd_v 2) (da_cons (pd_tup (da_cons (pd_int) (da_cons (pd_int) (da_cons (pd_int) (da_nil))))) (da_nil)))))) (da_nil))))
    (dss_cons (ds_set (i := 4) sc__law_all.nd (pd_int))
    (dss_cons (ds_while (passes_of rfl) (dt_lt (pd_v 4) (pd_len T.b_len bb_len (da_cons (pd_v 3) (da_nil)))) (dss_cons (ds_if (dt_tru (pd_callD G__law_is_same bi__law_is_same (hr.mono (by decide)) tk (da_cons (pd_v 0) (da_cons (pd_v 1) (da_cons (pd_ix (pd_v 3) (pd_v 4)) (da_nil)))))) (dss_one (ds_for (passes_of rfl) rfl (di_any (pd_callD G__law_unlike bi__law_unlike (hr.mono (by decide)) tk (da_cons (pd_callD G__law_behind bi__law_behind (hr.mono (by decide)) tk (da_cons (pd_v 0) (da_cons (pd_v 1) (da_cons (pd_v 2) (da_cons (pd_ix (pd_v 3) (pd_v 4)) (da_nil)))))) (da_nil)))) (pg_name (i := 5) sc__law_all.nd rfl (by first | exact Or.inl rfl | exact Or.inr rfl)) (gN_ok) (dss_one (ds_if (dt_notIn (units65 hr) (pd_v 5) (pd_v 3)) (dss_one (ds_expr (pd_app (pd_v 3) (pd_v 5)))) (dss_nil))))) (dss_nil))
    (dss_one (ds_set (i := 4) sc__law_all.nd (pd_add (pd_v 4) (pd_int))))))
    (dss_one (ds_ret (pd_srtL T.b_sorted bb_sorted (da_cons (pd_v 3) (da_nil)))))))
theorem ok__law_is_triple (T : Tx w K mg) : DefOk P w K mg base 1 "_law_is_triple" "_law_is_triple" s__law_is_triple ["_law_one_here", "_law_other", "_law_thing_here"] sp__law_is_triple := by
  refine def_ok (r := rd__law_is_triple) T.f__law_is_triple sc__law_is_triple ln__law_is_triple (fun f cdv A outer s H E hr => ?_) pu__law_is_triple
  have tk : Takes (cxOf (L2.CX P w) P w K mg base N__law_is_triple "_law_is_triple" (defScope s__law_is_triple) f cdv A outer s H E) (fun c d _ H => E c d H) := takes_of rfl rfl rfl rfl
  exact dss_cons (ds_if (PW.pt (dw_or (dt_not (dt_tru (pd_isi T.b_isinstance bb_isinstance (da_cons (pd_v 2) (da_cons (pd_ty T.b_tuple bb_tuple) (da_nil)))))) (dw_or1 (dt_ne hr.units (pd_len T.b_len bb_len (da_cons (pd_v 2) (da_nil))) (pd_int))))) (dss_one (ds_ret (pd_bl))) (dss_nil))
    (dss_cons (ds_if (dt_ne hr.units (pd_lc rfl sc__law_is_triple.nd (di_any (pd_v 2)) (blkOk_by (own := [("_law_number_here", 3)]) (N := N__law_is_triple) (sc := defScope s__law_is_triple) (by decide +kernel)) (gN_ok) rfl (fun _ _ _ _ _ => pg_name (i := 3) sc__law_is_triple.nd rfl (by first | exact Or.inl rfl | exact Or.inr rfl)) (fun _ _ _ _ _ => dts_one (PW.pt (dw_or (dt_tru (pd_isi T.b_isinstance bb_isinstance (da_cons (pd_v 3) (da_cons (pd_ty T.b_bool bb_bool) (da_nil))))) (dw_or1 (dt_not (dt_tru (pd_isi T.b_isinstance bb_isinstance (da_cons (pd_v 3) (da_cons (pd_ty T.b_int bb_int) (da_nil)))))))))) (fun _ _ _ _ _ => pd_v 3)) (pd_lst (da_nil))) (dss_one (ds_ret (pd_bl))) (dss_nil))
    (dss_one (ds_ret (pd_and (pd_chain op_le op_lt le_ok lt_ok (pd_int) (pd_ix (pd_v 2) (pd_int)) (pd_len T.b_len bb_len (da_cons (pd_v 0) (da_nil)))) (pd_one (pd_chain op_le op_lt le_ok lt_ok (pd_int) (pd_ix (pd_v 2) (pd_int)) (pd_len T.b_len bb_len (da_cons (pd_v 1) (da_nil)))))))))
theorem ok__law_due (T : Tx w K mg) (G__law_settled : DefOk P w K mg base 2 "_law_settled" "_law_settled" s__law_settled ["_law_one_here", "_law_other", "_law_stops", "_law_triple"] sp__law_settled_v2) (G__law_behind : DefOk P w K mg base 4 "_law_behind" "_law_behind" s__law_behind ["_law_one_here", "_law_other", "_law_stops", "_law_triple"] sp__law_behind_v4) (G__law_is_same : DefOk P w K mg base 3 "_law_is_same" "_law_is_same" s__law_is_same ["_law_one_here", "_law_other", "_law_triple"] sp__law_is_same) (G__law_is_triple : DefOk P w K mg base 1 "_law_is_triple" "_law_is_triple" s__law_is_triple ["_law_one_here", "_law_other", "_law_thing_here"] sp__law_is_triple) : DefOk P w K mg base 5 "_law_due" "_law_due" s__law_due ["_law_one_here", "_law_other", "_law_stops", "_law_paper"] sp__law_due_v7 := by
  refine def_ok (r := rd__law_due_v7) T.f__law_due sc__law_due ln__law_due_v7 (fun f cdv A outer s H E hr => ?_) pu__law_due_v7
  have tk : Takes (cxOf (L2.CX P w) P w K mg base N__law_due "_law_due" (defScope s__law_due) f cdv A outer s H E) (fun c d _ H => E c d H) := takes_of rfl rfl rfl rfl
  exact dss_cons (ds_if (dt_not (dt_tru (pd_isi T.b_isinstance bb_isinstance (da_cons (pd_v 3) (da_cons (pd_ty T.b_list bb_list) (da_nil)))))) (dss_one (ds_ret (pd_bl))) (dss_nil))
    (dss_cons (ds_if (dt_ne hr.units (pd_lc rfl sc__law_due.nd (di_any (pd_v 3)) (blkOk_by (own := [("_law_thing_here", 6)]) (N := N__law_due) (sc := defScope s__law_due) (by decide +kernel)) (gN_ok) rfl (fun _ _ _ _ _ => pg_name (i := 6) sc__law_due.nd rfl (by first | exact Or.inl rfl | exact Or.inr rfl)) (fun _ _ _ _ _ => dts_one (dt_not (dt_tru (pd_callD G__law_is_triple bi__law_is_triple (hr.mono (by decide)) takes0 (da_cons (pd_v 0) (da_cons (pd_v 1) (da_cons (pd_v 6) (da_nil)))))))) (fun _ _ _ _ _ => pd_v 6)) (pd_lst (da_nil))) (dss_one (ds_ret (pd_bl))) (dss_nil))
    (dss_cons (ds_if (dt_notIn (units65 hr) (pd_callD G__law_settled bi__law_settled (hr.mono (by decide)) tk (da_cons (pd_v 0) (da_cons (pd_v 1) (da_cons (pd_v 2) (da_cons (pd_tup (da_cons (pd_int) (da_cons (pd_int) (da_cons (pd_int) (da_nil))))) (da_nil)))))) (pd_v 3)) (dss_one (ds_ret (pd_bl))) (dss_nil))
    (dss_cons (ds_for (passes_of rfl) rfl (di_any (pd_v 3)) (pg_name (i := 4) sc__law_due.nd rfl (by first | exact Or.inl rfl | exact Or.inr rfl)) (gN_ok) (dss_cons (ds_if (dt_not (dt_tru (pd_callD G__law_is_same bi__law_is_same (hr.mono (by decide)) tk (da_cons (pd_v 0) (da_cons (pd_v 1) (da_cons (pd_v 4) (da_nil))))))) (dss_one (ds_ret (pd_bl))) (dss_nil))
    (dss_cons (ds_set (i := 5) sc__law_due.nd (pd_callD G__law_behind bi__law_behind (hr.mono (by decide)) tk (da_cons (pd_v 0) (da_cons (pd_v 1) (da_cons (pd_v 2) (da_cons (pd_v 4) (da_nil)))))))
    (dss_one (ds_if (dt_ne hr.units (pd_lc rfl sc__law_due.nd (di_any (pd_v 5)) (blkOk_by (own := [("_law_later", 7)]) (N := N__law_due) (sc := defScope s__law_due) (by decide +kernel)) (gN_ok) rfl (fun _ _ _ _ _ => pg_name (i := 7) sc__law_due.nd rfl (by first | exact Or.inl rfl | exact Or.inr rfl)) (fun _ _ _ _ _ => dts_one (dt_notIn (units65 hr) (pd_v 7) (pd_v 3))) (fun _ _ _ _ _ => pd_v 7)) (pd_lst (da_nil))) (dss_one (ds_ret (pd_bl))) (dss_nil))))))
    (dss_one (ds_ret (pd_bl))))))
theorem ok__law_turned (T : Tx w K mg) (G__law_draw : DefOk P w K mg base 1 "_law_draw" "_law_draw" s__law_draw ["_law_well_here", "_law_many"] sp__law_draw) (G__law_one : DefOk P w K mg base 2 "_law_one" "_law_one" s__law_one ["_law_well_here", "_law_some"] sp__law_one) : DefOk P w K mg base 3 "_law_turned" "_law_turned" s__law_turned ["_law_well_here", "_law_paper"] sp__law_turned_v4 := by
  refine def_ok (r := rd__law_turned_v4) T.f__law_turned sc__law_turned ln__law_turned_v4 (fun f cdv A outer s H E hr => ?_) pu__law_turned_v4
  have tk : Takes (cxOf (L2.CX P w) P w K mg base N__law_turned "_law_turned" (defScope s__law_turned) f cdv A outer s H E) (fun c d _ H => E c d H) := takes_of rfl rfl rfl rfl
  exact dss_cons (ds_set (i := 2) sc__law_turned.nd (pd_callD G__law_draw bi__law_draw (hr.mono (by decide)) tk (da_cons (pd_v 0) (da_cons (pd_len T.b_len bb_len (da_cons (pd_v 1) (da_nil))) (da_nil)))))
    (dss_cons (ds_set (i := 3) sc__law_turned.nd (pd_ix (pd_v 1) (pd_v 2)))
    (dss_cons (ds_if (PW.pt (dw_or (dt_not (dt_tru (pd_isi T.b_isinstance bb_isinstance (da_cons (pd_v 3) (da_cons (pd_ty T.b_tuple bb_tuple) (da_nil)))))) (dw_or1 (dt_ne hr.units (pd_len T.b_len bb_len (da_cons (pd_v 3) (da_nil))) (pd_int))))) (dss_one (ds_ret (pd_add (pd_sl (pd_v 1) dp_none (dp_some (pd_v 2))) (pd_sl (pd_v 1) (dp_some (pd_add (pd_v 2) (pd_int))) dp_none)))) (dss_nil))
    (dss_cons (ds_tup (pd_v 3) (pg_tup rfl (dgs_cons (pg_name (i := 9) sc__law_turned.nd rfl (by first | exact Or.inl rfl | exact Or.inr rfl)) (dgs_cons (pg_name (i := 10) sc__law_turned.nd rfl (by first | exact Or.inl rfl | exact Or.inr rfl)) (dgs_cons (pg_name (i := 11) sc__law_turned.nd rfl (by first | exact Or.inl rfl | exact Or.inr rfl)) (dgs_nil))))) (gT_ok (js := [9, 10, 11])))
    (dss_cons (ds_set (i := 4) sc__law_turned.nd (pd_lst (da_cons (pd_tup (da_cons (pd_v 9) (da_cons (pd_v 10) (da_cons (pd_callD G__law_one bi__law_one (hr.mono (by decide)) tk (da_cons (pd_v 0) (da_cons (pd_lst (da_cons (pd_bl) (da_cons (pd_non) (da_cons (pd_str) (da_nil))))) (da_nil)))) (da_nil))))) (da_cons (pd_tup (da_cons (pd_v 9) (da_cons (pd_v 10) (da_nil)))) (da_cons (pd_add (pd_v 3) (pd_tup (da_cons (pd_int) (da_nil)))) (da_cons (pd_listOf T.b_list bb_list (da_cons (pd_v 3) (da_nil))) (da_cons (pd_non) (da_nil))))))))
    (dss_cons (ds_set (i := 4) sc__law_turned.nd (pd_add (pd_v 4) (pd_lst (da_cons (pd_tup (da_cons (pd_neg (pd_int)) (da_cons (pd_v 10) (da_cons (pd_v 11) (da_nil))))) (da_cons (pd_tup (da_cons (pd_v 9) (da_cons (pd_int) (da_cons (pd_v 11) (da_nil))))) (da_cons (pd_tup (da_cons (pd_bl) (da_cons (pd_v 10) (da_cons (pd_v 11) (da_nil))))) (da_cons (pd_tup (da_cons (pd_v 10) (da_cons (pd_v 9) (da_cons (pd_v 11) (da_nil))))) (da_nil))))))))
    (dss_cons (ds_set (i := 5) sc__law_turned.nd (pd_callD G__law_one bi__law_one (hr.mono (by decide)) tk (da_cons (pd_v 0) (da_cons (pd_v 4) (da_nil)))))
    (dss_cons (ds_set (i := 6) sc__law_turned.nd (pd_lst (da_cons (pd_tup (da_cons (pd_v 9) (da_cons (pd_v 10) (da_cons (pd_pow (pd_int) (pd_int)) (da_nil))))) (da_cons (pd_tup (da_cons (pd_int) (da_cons (pd_int) (da_cons (pd_int) (da_nil))))) (da_cons (pd_tup (da_cons (pd_v 9) (da_cons (pd_v 10) (da_cons (pd_sub (pd_int) (pd_pow (pd_int) (pd_int))) (da_nil))))) (da_cons (pd_v 3) (da_nil)))))))
    (dss_cons (ds_set (i := 7) sc__law_turned.nd (pd_add (pd_sl (pd_v 1) dp_none (dp_some (pd_v 2))) (pd_sl (pd_v 1) (dp_some (pd_add (pd_v 2) (pd_int))) dp_none)))
    (dss_cons (ds_set (i := 8) sc__law_turned.nd (pd_lst (da_cons (pd_v 7) (da_cons (pd_v 7) (da_cons (pd_add (pd_add (pd_sl (pd_v 1) dp_none (dp_some (pd_v 2))) (pd_lst (da_cons (pd_v 5) (da_nil)))) (pd_sl (pd_v 1) (dp_some (pd_add (pd_v 2) (pd_int))) dp_none)) (da_cons (pd_add (pd_v 1) (pd_lst (da_cons (pd_v 5) (da_nil)))) (da_cons (pd_rev (pd_v 1)) (da_cons (pd_add (pd_v 1) (pd_v 1)) (da_cons (pd_tupleOf T.b_tuple bb_tuple (da_cons (pd_v 1) (da_nil))) (da_nil))))))))))
    (dss_cons (ds_set (i := 8) sc__law_turned.nd (pd_add (pd_v 8) (pd_lst (da_cons (pd_add (pd_add (pd_sl (pd_v 1) dp_none (dp_some (pd_v 2))) (pd_lst (da_cons (pd_callD G__law_one bi__law_one (hr.mono (by decide)) tk (da_cons (pd_v 0) (da_cons (pd_v 6) (da_nil)))) (da_nil)))) (pd_sl (pd_v 1) (dp_some (pd_v 2)) dp_none)) (da_cons (pd_add (pd_v 7) (pd_lst (da_cons (pd_callD G__law_one bi__law_one (hr.mono (by decide)) tk (da_cons (pd_v 0) (da_cons (pd_v 6) (da_nil)))) (da_nil)))) (da_cons (pd_non) (da_cons (pd_dct0) (da_cons (pd_lst (da_nil)) (da_nil)))))))))
    (dss_one (ds_ret (pd_callD G__law_one bi__law_one (hr.mono (by decide)) tk (da_cons (pd_v 0) (da_cons (pd_v 8) (da_nil))))))))))))))))
theorem ok_law (T : Tx w K mg) (G_answer_samples : DefOk P w K mg base 11 "answer_samples" "answer_samples" s_answer_samples ["one", "other"] sp_answer_samples) (G_parted : DefOk P w K mg base 12 "parted" "parted" s_parted ["one", "other"] sp_parted_v3) (G_same_pairs : DefOk P w K mg base 12 "same_pairs" "same_pairs" s_same_pairs ["one", "other"] sp_same_pairs_v3) (G_shows_same : DefOk P w K mg base 11 "shows_same" "shows_same" s_shows_same ["one", "other", "paper"] sp_shows_same_v3) (G__law_cell_at : DefOk P w K mg base 1 "_law_cell_at" "_law_cell_at" s__law_cell_at ["_law_script", "_law_k"] sp__law_cell_at) (G__law_well : DefOk P w K mg base 1 "_law_well" "_law_well" s__law_well ["_law_cell"] sp__law_well) (G__law_draw : DefOk P w K mg base 1 "_law_draw" "_law_draw" s__law_draw ["_law_well_here", "_law_many"] sp__law_draw) (G__law_one : DefOk P w K mg base 2 "_law_one" "_law_one" s__law_one ["_law_well_here", "_law_some"] sp__law_one) (G__law_world : DefOk P w K mg base 3 "_law_world" "_law_world" s__law_world ["_law_well_here"] sp__law_world_v2) (G__law_room : DefOk P w K mg base 5 "_law_room" "_law_room" s__law_room ["_law_well_here", "_law_world_here", "_law_many"] sp__law_room_v2) (G__law_rooms : DefOk P w K mg base 6 "_law_rooms" "_law_rooms" s__law_rooms ["_law_well_here", "_law_world_here", "_law_most"] sp__law_rooms_v2) (G__law_all : DefOk P w K mg base 5 "_law_all" "_law_all" s__law_all ["_law_one_here", "_law_other", "_law_stops"] sp__law_all_v2) (G__law_due : DefOk P w K mg base 5 "_law_due" "_law_due" s__law_due ["_law_one_here", "_law_other", "_law_stops", "_law_paper"] sp__law_due_v7) (G__law_turned : DefOk P w K mg base 3 "_law_turned" "_law_turned" s__law_turned ["_law_well_here", "_law_paper"] sp__law_turned_v4) : LawG P w K mg base 13 s_law "_law_script" := by
  refine lawG_ok (r := rd_law) T.f_law sc_law ln_law (fun f cdv A outer s H E hgu hr => ?_) pu_law
  have tk : Takes (cxOf (L2.CX P w) P w K mg base N_law "law" (defScope s_law) f cdv A outer s H E) (fun c d _ H => E c d H) := takes_of rfl rfl rfl rfl
  exact dss_cons (ds_for (passes_of rfl) rfl (di_any (pd_add (pd_lst (da_cons (pd_callD G__law_cell_at bi__law_cell_at (hr.mono (by decide)) tk (da_cons (pd_v 0) (da_cons (pd_int) (da_nil)))) (da_nil))) (pd_sl (pd_v 0) (dp_some (pd_int)) (dp_some (pd_int))))) (pg_name (i := 1) sc_law.nd rfl (by first | exact Or.inl rfl | exact Or.inr rfl)) (gN_ok) (dss_cons (ds_set (i := 2) sc_law.nd (pd_callD G__law_well bi__law_well (hr.mono (by decide)) tk (da_cons (pd_v 1) (da_nil))))
    (dss_cons (ds_set (i := 3) sc_law.nd (pd_callD G__law_world bi__law_world (hr.mono (by decide)) tk (da_cons (pd_v 2) (da_nil))))
    (dss_cons (ds_set (i := 4) sc_law.nd (pd_callD G__law_rooms bi__law_rooms (hr.mono (by decide)) tk (da_cons (pd_v 2) (da_cons (pd_v 3) (da_cons (pd_int) (da_nil))))))
    (dss_cons (ds_set (i := 5) sc_law.nd (pd_callD G__law_one bi__law_one (hr.mono (by decide)) tk (da_cons (pd_v 2) (da_cons (pd_lst (da_cons (pd_callD G__law_rooms bi__law_rooms (hr.mono (by decide)) tk (da_cons (pd_v 2) (da_cons (pd_v 3) (da_cons (pd_int) (da_nil))))) (da_cons (pd_v 4) (da_cons (pd_v 4) (da_cons (pd_add (pd_sl (pd_v 4) dp_none (dp_some (pd_neg (pd_int)))) (pd_tup (da_cons (pd_callD G__law_room bi__law_room (hr.mono (by decide)) tk (da_cons (pd_v 2) (da_cons (pd_v 3) (da_cons (pd_len T.b_len bb_len (da_cons (pd_v 4) (da_nil))) (da_nil))))) (da_nil)))) (da_nil)))))) (da_nil)))))
    (dss_cons (ds_set (i := 6) sc_law.nd (pd_callD G_answer_samples bi_answer_samples (hr.mono (by decide)) tk (da_cons (pd_v 4) (da_cons (pd_v 5) (da_nil)))))
    (dss_cons (ds_set (i := 7) sc_law.nd (pd_callD G__law_all bi__law_all (hr.mono (by decide)) tk (da_cons (pd_v 4) (da_cons (pd_v 5) (da_cons (pd_v 6) (da_nil))))))
    (dss_cons (ds_set (i := 8) sc_law.nd (pd_callD G_same_pairs bi_same_pairs (hr.mono (by decide)) tk (da_cons (pd_v 4) (da_cons (pd_v 5) (da_nil)))))
    (dss_cons (ds_if (PW.pt (dw_or (dt_not (dt_tru (pd_isi T.b_isinstance bb_isinstance (da_cons (pd_v 8) (da_cons (pd_ty T.b_list bb_list) (da_nil)))))) (dw_or1 (dt_ne hr.units (pd_v 8) (pd_v 7))))) (dss_one (ds_ret (pd_bl))) (dss_nil))
    (dss_cons (ds_if (dt_ne hr.units (pd_callD G_shows_same bi_shows_same (hr.mono (by decide)) tk (da_cons (pd_v 4) (da_cons (pd_v 5) (da_cons (pd_v 8) (da_nil))))) (pd_isN (pd_callD G_parted bi_parted (hr.mono (by decide)) tk (da_cons (pd_v 4) (da_cons (pd_v 5) (da_nil)))) (pd_non))) (dss_one (ds_ret (pd_bl))) (dss_nil))
    (dss_cons (ds_for (passes_of rfl) rfl (di_range T.b_range (da_cons (pd_int) (da_nil))) (pg_name (i := 9) sc_law.nd rfl (by first | exact Or.inl rfl | exact Or.inr rfl)) (gN_ok) (dss_cons (ds_set (i := 10) sc_law.nd (pd_listOf T.b_list bb_list (da_cons (pd_v 7) (da_nil))))
    (dss_cons (ds_for (passes_of rfl) rfl (di_range T.b_range (da_cons (pd_callD G__law_draw bi__law_draw (hr.mono (by decide)) tk (da_cons (pd_v 2) (da_cons (pd_int) (da_nil)))) (da_nil))) (pg_name (i := 11) sc_law.nd rfl (by first | exact Or.inl rfl | exact Or.inr rfl)) (gN_ok) (dss_one (ds_if (PW.pt (dw_and (dt_tru (pd_isi T.b_isinstance bb_isinstance (da_cons (pd_v 10) (da_cons (pd_ty T.b_list bb_list) (da_nil))))) (dw_and1 (dt_ne hr.units (pd_v 10) (pd_lst (da_nil)))))) (dss_one (ds_set (i := 10) sc_law.nd (pd_callD G__law_turned bi__law_turned (hr.mono (by decide)) tk (da_cons (pd_v 2) (da_cons (pd_v 10) (da_nil)))))) (dss_nil))))
    (dss_cons (ds_set (i := 12) sc_law.nd (pd_repr hgu (units66 hr) T.b_repr bb_repr (da_cons (pd_v 10) (da_nil))))
    (dss_cons (ds_set (i := 13) sc_law.nd (pd_callD G_shows_same bi_shows_same (hr.mono (by decide)) tk (da_cons (pd_v 4) (da_cons (pd_v 5) (da_cons (pd_v 10) (da_nil))))))
    (dss_cons (ds_set (i := 14) sc_law.nd (pd_callD G__law_due bi__law_due (hr.mono (by decide)) tk (da_cons (pd_v 4) (da_cons (pd_v 5) (da_cons (pd_v 6) (da_cons (pd_v 10) (da_nil)))))))
    (dss_one (ds_if (PW.pt (dw_or (dt_not (dt_tru (pd_isi T.b_isinstance bb_isinstance (da_cons (pd_v 13) (da_cons (pd_ty T.b_bool bb_bool) (da_nil)))))) (dw_or (dt_ne hr.units (pd_v 13) (pd_v 14)) (dw_or1 (dt_ne hr.units (pd_repr hgu (units66 hr) T.b_repr bb_repr (da_cons (pd_v 10) (da_nil))) (pd_v 12)))))) (dss_one (ds_ret (pd_bl))) (dss_nil)))))))))
    (dss_cons (ds_expr (pd_clr (pd_v 8)))
    (dss_one (ds_if (dt_ne hr.units (pd_callD G_same_pairs bi_same_pairs (hr.mono (by decide)) tk (da_cons (pd_v 4) (da_cons (pd_v 5) (da_nil)))) (pd_v 7)) (dss_one (ds_ret (pd_bl))) (dss_nil)))))))))))))))
    (dss_one (ds_ret (pd_bl)))
end
theorem all_ok {l : PySem.W.OpenLaw} {w : World} {K : PySem.W.Frag} {mg : Str → Option Value} {fa : Addr} (hfa : mg "law" = some (.ref fa)) (T : Tx w K mg) : ∃ fd : FuncData, (∀ (s : Shared) (u : Value), BindsTo s fd ⟨[u], []⟩ [("_law_script", u)]) ∧ ∀ base : Heap, K.In base → base.Ns mainGlobals mg → RunG l.prog w K mg base 13 fa fd ["_law_script"] (lP ⟨K, w⟩ spLaw) := by
  refine law_mkG bi_law T.f_law hfa fun base _ _ => ?_
  have X_BadRooms : XMk l.prog w K mg base 1 "BadRooms" ["self", "why"] spTE _ := xmk_of T.x_BadRooms sc_TE fun f cdv A outer s H E => te_walk T.b_ValueError rfl T.vV (pv 0) (pv 1) (pv 0) (pv 1) rfl rfl rfl rfl rfl rfl
  have X_BadTrial : XMk l.prog w K mg base 1 "BadTrial" ["self", "why"] spTE _ := xmk_of T.x_BadTrial sc_TE fun f cdv A outer s H E => te_walk T.b_ValueError rfl T.vV (pv 0) (pv 1) (pv 0) (pv 1) rfl rfl rfl rfl rfl rfl
  have G_is_whole := ok_is_whole (P := l.prog) (w := w) (base := base) T
  have G_is_name := ok_is_name (P := l.prog) (w := w) (base := base) T
  have G_are_unlike := ok_are_unlike (P := l.prog) (w := w) (base := base) T
  have G_with_first := ok_with_first (P := l.prog) (w := w) (base := base) T
  have G_like := ok_like (P := l.prog) (w := w) (base := base) T
  have G_things_of := ok_things_of (P := l.prog) (w := w) (base := base) T
  have G__law_cell_at := ok__law_cell_at (P := l.prog) (w := w) (base := base) T
  have G__law_well := ok__law_well (P := l.prog) (w := w) (base := base) T
  have G__law_draw := ok__law_draw (P := l.prog) (w := w) (base := base) T
  have G__law_unlike := ok__law_unlike (P := l.prog) (w := w) (base := base) T
  have G__law_number := ok__law_number (P := l.prog) (w := w) (base := base) T
  have G__law_like := ok__law_like (P := l.prog) (w := w) (base := base) T
  have G__law_is_triple := ok__law_is_triple (P := l.prog) (w := w) (base := base) T
  have G_is_one := ok_is_one (P := l.prog) (w := w) (base := base) T G_is_whole G_are_unlike
  have G_fits := ok_fits (P := l.prog) (w := w) (base := base) T 2
  have G_edges := ok_edges (P := l.prog) (w := w) (base := base) T 2
  have G_is_thing := ok_is_thing (P := l.prog) (w := w) (base := base) T G_is_whole
  have G_is_place := ok_is_place (P := l.prog) (w := w) (base := base) T G_is_whole
  have G_thing_at := ok_thing_at (P := l.prog) (w := w) (base := base) T G_is_whole
  have G_meeting_numbers := ok_meeting_numbers (P := l.prog) (w := w) (base := base) T G_is_whole
  have G_hangs := ok_hangs (P := l.prog) (w := w) (base := base) T G_is_whole
  have G__law_one := ok__law_one (P := l.prog) (w := w) (base := base) T G__law_draw
  have G__law_names := ok__law_names (P := l.prog) (w := w) (base := base) T G__law_draw
  have G__law_mids := ok__law_mids (P := l.prog) (w := w) (base := base) T G__law_draw
  have G__law_fits := ok__law_fits (P := l.prog) (w := w) (base := base) T 2
  have G__law_said := ok__law_said (P := l.prog) (w := w) (base := base) T G__law_number
  have G__law_settled := ok__law_settled (P := l.prog) (w := w) (base := base) T G__law_like
  have G_is_plain := ok_is_plain (P := l.prog) (w := w) (base := base) T G_is_whole G_is_one
  have G_turns := ok_turns (P := l.prog) (w := w) (base := base) T G_fits G_edges
  have G_Doer_ask_at := ok_Doer_ask_at (P := l.prog) (w := w) (base := base) T G_thing_at
  have G_Doer_told_at := ok_Doer_told_at (P := l.prog) (w := w) (base := base) T G_thing_at
  have G_Doer_goes := ok_Doer_goes (P := l.prog) (w := w) (base := base) T G_is_whole G_fits X_BadTrial
  have G_settled_triple := ok_settled_triple (P := l.prog) (w := w) (base := base) T G_like G_hangs
  have G_is_triple := ok_is_triple (P := l.prog) (w := w) (base := base) T G_is_whole G_is_place
  have G__law_near := ok__law_near (P := l.prog) (w := w) (base := base) T G__law_draw G__law_one
  have G__law_world := ok__law_world (P := l.prog) (w := w) (base := base) T G__law_draw G__law_names G__law_mids
  have G__law_goes := ok__law_goes (P := l.prog) (w := w) (base := base) T G__law_fits
  have G__law_is_same := ok__law_is_same (P := l.prog) (w := w) (base := base) T G__law_said
  have G__law_turned := ok__law_turned (P := l.prog) (w := w) (base := base) T G__law_draw G__law_one
  have G_is_look := ok_is_look (P := l.prog) (w := w) (base := base) T G_is_plain
  have G_samples_of := ok_samples_of (P := l.prog) (w := w) (base := base) T G_turns G_with_first G_things_of G_meeting_numbers
  have G_said_at := ok_said_at (P := l.prog) (w := w) (base := base) T G_Doer_ask_at G_Doer_told_at
  have G_rooms_behind := ok_rooms_behind (P := l.prog) (w := w) (base := base) T G_Doer_ask_at G_Doer_goes G_settled_triple
  have G__law_look := ok__law_look (P := l.prog) (w := w) (base := base) T G__law_draw G__law_near G__law_unlike
  have G__law_thing := ok__law_thing (P := l.prog) (w := w) (base := base) T G__law_draw G__law_near
  have G__law_behind := ok__law_behind (P := l.prog) (w := w) (base := base) T G__law_said G__law_goes G__law_settled
  have G_is_way := ok_is_way (P := l.prog) (w := w) (base := base) T G_is_look G_is_place
  have G_is_same := ok_is_same (P := l.prog) (w := w) (base := base) T G_said_at
  have G__law_room := ok__law_room (P := l.prog) (w := w) (base := base) T G__law_draw G__law_one G__law_look G__law_thing
  have G__law_all := ok__law_all (P := l.prog) (w := w) (base := base) T G__law_unlike G__law_settled G__law_behind G__law_is_same
  have G__law_due := ok__law_due (P := l.prog) (w := w) (base := base) T G__law_settled G__law_behind G__law_is_same G__law_is_triple
  have G_is_asking := ok_is_asking (P := l.prog) (w := w) (base := base) T G_is_name G_is_thing G_is_place G_is_way
  have G__law_rooms := ok__law_rooms (P := l.prog) (w := w) (base := base) T G__law_draw G__law_thing G__law_room
  have G_is_room := ok_is_room (P := l.prog) (w := w) (base := base) T G_is_thing G_is_asking
  have G_are_rooms := ok_are_rooms (P := l.prog) (w := w) (base := base) T G_is_room
  have G_Doer___init__ := ok_Doer___init__ (P := l.prog) (w := w) (base := base) T G_are_rooms X_BadRooms
  have G_answer_samples := ok_answer_samples (P := l.prog) (w := w) (base := base) T G_Doer___init__ G_samples_of
  have G_paired_off := ok_paired_off (P := l.prog) (w := w) (base := base) T G_Doer___init__ G_samples_of G_is_same G_settled_triple G_rooms_behind
  have G_shows_same := ok_shows_same (P := l.prog) (w := w) (base := base) T G_Doer___init__ G_samples_of G_is_same G_settled_triple G_rooms_behind G_is_triple
  have G_parted := ok_parted (P := l.prog) (w := w) (base := base) T G_Doer___init__ G_is_same G_paired_off
  have G_same_pairs := ok_same_pairs (P := l.prog) (w := w) (base := base) T G_paired_off
  exact ok_law T G_answer_samples G_parted G_same_pairs G_shows_same G__law_cell_at G__law_well G__law_draw G__law_one G__law_world G__law_room G__law_rooms G__law_all G__law_due G__law_turned
theorem walk {l : PySem.W.OpenLaw} {q : Program} {loose : List Str} {XP : (Str → Option Value) → Heap → Prop} {YP : World → Heap → Prop} {d : DefRec} {K : Params → PySem.W.Frag} (hn : l.most = some 63) (hdf : d.params.defaults = []) (NL : ∀ P, NoLam (K P)) (hY : ∀ (w : World) (h : Heap), YP w h → (K w.params).In h)
    (FF : ∀ (w : World) (mg : Str → Option Value) (fa : Addr) (h : Heap), (K w.params).In h → h.Ns mainGlobals mg → mg d.name = some (.ref fa) →
      ∃ fd : FuncData, (∀ (s : Shared) (u : Value), BindsTo s fd ⟨[u], []⟩ [("_law_script", u)]) ∧ ∀ base : Heap, (K w.params).In base → base.Ns mainGlobals mg → RunG l.prog w (K w.params) mg base 13 fa fd ["_law_script"] (lP ⟨K w.params, w⟩ spLaw)) :
    PySem.W.WalkO q loose XP YP l.row.toRowW d [] (fun f vs => PySem.call f vs) :=
  DL.walk_ofG (n := 63) (k := 13) (x := "_law_script") (sp := fun w => lP ⟨K w.params, w⟩ spLaw) hn (by decide) hdf ⟨rfl, by decide, by decide⟩ hY FF (fun w H a ns hl _ hS => law_sp ⟨K w.params, w⟩ (NL _) H a ns hl hS) fun w H s e s' z => cx_false z
end Lw
open PySem PySem.W PyProof.Rows in
set_option maxRecDepth 100000 in
set_option maxHeartbeats 0 in
theorem PySem.Challenge.cw_stoodin_k73_whole_papers_of_sameness_holds : PySem.Challenge.rw_stoodin_k73_whole_papers_of_sameness.Holds := by
  w_on; o_law; k_head; (case hw => w_witness2)
  k_fill
  refine Lw.walk (l := PySem.Challenge.rw_stoodin_k73_whole_papers_of_sameness) rfl rfl (fun _ => DL.noLam_by (by kernel_rfl)) (fun w h Y => PySem.W.kIn_of Y) ?F
  case F =>
    intro w mg fa h KX G hmg
    refine' Lw.all_ok hmg (Lw.Tx.mk (DL.funAt_mk KX G ?u0 ?u1 ?u2 ?u3) (DL.funAt_mk KX G ?u4 ?u5 ?u6 ?u7) (DL.funAt_mk KX G ?u8 ?u9 ?u10 ?u11) (DL.funAt_mk KX G ?u12 ?u13 ?u14 ?u15) (DL.funAt_mk KX G ?u16 ?u17 ?u18 ?u19) (DL.funAt_mk KX G ?u20 ?u21 ?u22 ?u23) (DL.funAt_mk KX G ?u24 ?u25 ?u26 ?u27) (DL.funAt_mk KX G ?u28 ?u29 ?u30 ?u31) (DL.funAt_mk KX G ?u32 ?u33 ?u34 ?u35) (DL.funAt_mk KX G ?u36 ?u37 ?u38 ?u39) (DL.funAt_mk KX G ?u40 ?u41 ?u42 ?u43) (DL.funAt_mk KX G ?u44 ?u45 ?u46 ?u47) (DL.funAt_mk KX G ?u48 ?u49 ?u50 ?u51) (DL.funAt_mk KX G ?u52 ?u53 ?u54 ?u55) (DL.funAt_mk KX G ?u56 ?u57 ?u58 ?u59) (DL.funAt_mk KX G ?u60 ?u61 ?u62 ?u63) (DL.funAt_mk KX G ?u64 ?u65 ?u66 ?u67) (DL.mkAt_mk KX G ?u68 ?u69 ?u70 ?u71 ?u72 ?u73 ?u74 ?u75 ?u76 ?u77) (DL.metAt_mk ?u78 ?u79 ?u80 ?u81 ?u82 ?u83 ?u84 ?u85 ?u86) (DL.metAt_mk ?u87 ?u88 ?u89 ?u90 ?u91 ?u92 ?u93 ?u94 ?u95) (DL.metAt_mk ?u96 ?u97 ?u98 ?u99 ?u100 ?u101 ?u102 ?u103 ?u104) (DL.funAt_mk KX G ?u105 ?u106 ?u107 ?u108) (DL.funAt_mk KX G ?u109 ?u110 ?u111 ?u112) (DL.funAt_mk KX G ?u113 ?u114 ?u115 ?u116) (DL.funAt_mk KX G ?u117 ?u118 ?u119 ?u120) (DL.funAt_mk KX G ?u121 ?u122 ?u123 ?u124) (DL.funAt_mk KX G ?u125 ?u126 ?u127 ?u128) (DL.funAt_mk KX G ?u129 ?u130 ?u131 ?u132) (DL.funAt_mk KX G ?u133 ?u134 ?u135 ?u136) (DL.funAt_mk KX G ?u137 ?u138 ?u139 ?u140) (DL.funAt_mk KX G ?u141 ?u142 ?u143 ?u144) (DL.funAt_mk KX G ?u145 ?u146 ?u147 ?u148) (DL.funAt_mk KX G ?u149 ?u150 ?u151 ?u152) (DL.funAt_mk KX G ?u153 ?u154 ?u155 ?u156) (DL.funAt_mk KX G ?u157 ?u158 ?u159 ?u160) (DL.funAt_mk KX G ?u161 ?u162 ?u163 ?u164) (DL.funAt_mk KX G ?u165 ?u166 ?u167 ?u168) (DL.funAt_mk KX G ?u169 ?u170 ?u171 ?u172) (DL.funAt_mk KX G ?u173 ?u174 ?u175 ?u176) (DL.funAt_mk KX G ?u177 ?u178 ?u179 ?u180) (DL.funAt_mk KX G ?u181 ?u182 ?u183 ?u184) (DL.funAt_mk KX G ?u185 ?u186 ?u187 ?u188) (DL.funAt_mk KX G ?u189 ?u190 ?u191 ?u192) (DL.funAt_mk KX G ?u193 ?u194 ?u195 ?u196) (DL.funAt_mk KX G ?u197 ?u198 ?u199 ?u200) (DL.funAt_mk KX G ?u201 ?u202 ?u203 ?u204) (DL.funAt_mk KX G ?u205 ?u206 ?u207 ?u208) (DL.funAt_mk KX G ?u209 ?u210 ?u211 ?u212) (DL.funAt_mk KX G ?u213 ?u214 ?u215 ?u216) (DL.funAt_mk KX G ?u217 ?u218 ?u219 ?u220) (DL.funAt_mk KX G ?u221 ?u222 ?u223 ?u224) (DL.funAt_mk KX G ?u225 ?u226 ?u227 ?u228) (DL.funAt_mk KX G ?u229 ?u230 ?u231 ?u232) (DL.funAt_mk KX G ?u233 ?u234 ?u235 ?u236) (DL.funAt_mk KX G ?u237 ?u238 ?u239 ?u240) (DL.funAt_mk KX G ?u241 ?u242 ?u243 ?u244) (DL.funAt_mk KX G ?u245 ?u246 ?u247 ?u248) (DL.funAt_mk KX G ?u249 ?u250 ?u251 ?u252) (DL.funAt_mk KX G ?u253 ?u254 ?u255 ?u256) (DL.funAt_mk KX G ?u257 ?u258 ?u259 ?u260) (DL.funAt_mk KX G ?u261 ?u262 ?u263 ?u264) (DL.funAt_mk KX G ?u265 ?u266 ?u267 ?u268) (DL.xAt_mk KX G ?u269 ?u270 ?u271 ?u272 ?u273 ?u274 ?u275 ?u276 ?u277) (DL.xAt_mk KX G ?u278 ?u279 ?u280 ?u281 ?u282 ?u283 ?u284 ?u285 ?u286) (?u287) (PySem.W.mg_none_of KX G ?u288) (PySem.W.mg_none_of KX G ?u289) (PySem.W.mg_none_of KX G ?u290) (PySem.W.mg_none_of KX G ?u291) (PySem.W.mg_none_of KX G ?u292) (PySem.W.mg_none_of KX G ?u293) (PySem.W.mg_none_of KX G ?u294) (PySem.W.mg_none_of KX G ?u295) (PySem.W.mg_none_of KX G ?u296) (PySem.W.mg_none_of KX G ?u297) (PySem.W.mg_none_of KX G ?u298) (PySem.W.mg_none_of KX G ?u299) (PySem.W.mg_none_of KX G ?u300) (PySem.W.mg_none_of KX G ?u301) (PySem.W.mg_none_of KX G ?u302) (PySem.W.mg_none_of KX G ?u303) (DL.constS_mk KX G ?u304 ?u305) (DL.constI_mk KX G ?u306 ?u307) (DL.constI_mk KX G ?u308 ?u309) (DL.constI_mk KX G ?u310 ?u311) (DL.constI_mk KX G ?u312 ?u313) (DL.constI_mk KX G ?u314 ?u315) (DL.kd_mk KX G ?u316 ?u317 ?u318 ?u319 ?u320) (DL.fldB_ok ?u321))
    (case u0 => k_is)
    (case u1 => k_is)
    (case u2 => k_is)
    (case u3 => k_is)
    (case u4 => k_is)
    (case u5 => k_is)
    (case u6 => k_is)
    (case u7 => k_is)
    (case u8 => k_is)
    (case u9 => k_is)
    (case u10 => k_is)
    (case u11 => k_is)
    (case u12 => k_is)
    (case u13 => k_is)
    (case u14 => k_is)
    (case u15 => k_is)
    (case u16 => k_is)
    (case u17 => k_is)
    (case u18 => k_is)
    (case u19 => k_is)
    (case u20 => k_is)
    (case u21 => k_is)
    (case u22 => k_is)
    (case u23 => k_is)
    (case u24 => k_is)
    (case u25 => k_is)
    (case u26 => k_is)
    (case u27 => k_is)
    (case u28 => k_is)
    (case u29 => k_is)
    (case u30 => k_is)
    (case u31 => k_is)
    (case u32 => k_is)
    (case u33 => k_is)
    (case u34 => k_is)
    (case u35 => k_is)
    (case u36 => k_is)
    (case u37 => k_is)
    (case u38 => k_is)
    (case u39 => k_is)
    (case u40 => k_is)
    (case u41 => k_is)
    (case u42 => k_is)
    (case u43 => k_is)
    (case u44 => k_is)
    (case u45 => k_is)
    (case u46 => k_is)
    (case u47 => k_is)
    (case u48 => k_is)
    (case u49 => k_is)
    (case u50 => k_is)
    (case u51 => k_is)
    (case u52 => k_is)
    (case u53 => k_is)
    (case u54 => k_is)
    (case u55 => k_is)
    (case u56 => k_is)
    (case u57 => k_is)
    (case u58 => k_is)
    (case u59 => k_is)
    (case u60 => k_is)
    (case u61 => k_is)
    (case u62 => k_is)
    (case u63 => k_is)
    (case u64 => k_is)
    (case u65 => k_is)
    (case u66 => k_is)
    (case u67 => k_is)
    (case u68 => k_is)
    (case u69 => k_is)
    (case u70 => k_is)
    (case u71 => k_is)
    (case u72 => k_is)
    (case u73 => k_is)
    (case u74 => k_is)
    (case u75 => k_is)
    (case u76 => kernel_rfl)
    (case u77 => kernel_rfl)
    (case u78 => k_is)
    (case u79 => k_is)
    (case u80 => k_is)
    (case u81 => k_is)
    (case u82 => k_is)
    (case u83 => k_is)
    (case u84 => kernel_rfl)
    (case u85 => kernel_rfl)
    (case u86 => kernel_rfl)
    (case u87 => k_is)
    (case u88 => k_is)
    (case u89 => k_is)
    (case u90 => k_is)
    (case u91 => k_is)
    (case u92 => k_is)
    (case u93 => kernel_rfl)
    (case u94 => kernel_rfl)
    (case u95 => kernel_rfl)
    (case u96 => k_is)
    (case u97 => k_is)
    (case u98 => k_is)
    (case u99 => k_is)
    (case u100 => k_is)
    (case u101 => k_is)
    (case u102 => kernel_rfl)
    (case u103 => kernel_rfl)
    (case u104 => kernel_rfl)
    (case u105 => k_is)
    (case u106 => k_is)
    (case u107 => k_is)
    (case u108 => k_is)
    (case u109 => k_is)
    (case u110 => k_is)
    (case u111 => k_is)
    (case u112 => k_is)
    (case u113 => k_is)
    (case u114 => k_is)
    (case u115 => k_is)
    (case u116 => k_is)
    (case u117 => k_is)
    (case u118 => k_is)
    (case u119 => k_is)
    (case u120 => k_is)
    (case u121 => k_is)
    (case u122 => k_is)
    (case u123 => k_is)
    (case u124 => k_is)
    (case u125 => k_is)
    (case u126 => k_is)
    (case u127 => k_is)
    (case u128 => k_is)
    (case u129 => k_is)
    (case u130 => k_is)
    (case u131 => k_is)
    (case u132 => k_is)
    (case u133 => k_is)
    (case u134 => k_is)
    (case u135 => k_is)
    (case u136 => k_is)
    (case u137 => k_is)
    (case u138 => k_is)
    (case u139 => k_is)
    (case u140 => k_is)
    (case u141 => k_is)
    (case u142 => k_is)
    (case u143 => k_is)
    (case u144 => k_is)
    (case u145 => k_is)
    (case u146 => k_is)
    (case u147 => k_is)
    (case u148 => k_is)
    (case u149 => k_is)
    (case u150 => k_is)
    (case u151 => k_is)
    (case u152 => k_is)
    (case u153 => k_is)
    (case u154 => k_is)
    (case u155 => k_is)
    (case u156 => k_is)
    (case u157 => k_is)
    (case u158 => k_is)
    (case u159 => k_is)
    (case u160 => k_is)
    (case u161 => k_is)
    (case u162 => k_is)
    (case u163 => k_is)
    (case u164 => k_is)
    (case u165 => k_is)
    (case u166 => k_is)
    (case u167 => k_is)
    (case u168 => k_is)
    (case u169 => k_is)
    (case u170 => k_is)
    (case u171 => k_is)
    (case u172 => k_is)
    (case u173 => k_is)
    (case u174 => k_is)
    (case u175 => k_is)
    (case u176 => k_is)
    (case u177 => k_is)
    (case u178 => k_is)
    (case u179 => k_is)
    (case u180 => k_is)
    (case u181 => k_is)
    (case u182 => k_is)
    (case u183 => k_is)
    (case u184 => k_is)
    (case u185 => k_is)
    (case u186 => k_is)
    (case u187 => k_is)
    (case u188 => k_is)
    (case u189 => k_is)
    (case u190 => k_is)
    (case u191 => k_is)
    (case u192 => k_is)
    (case u193 => k_is)
    (case u194 => k_is)
    (case u195 => k_is)
    (case u196 => k_is)
    (case u197 => k_is)
    (case u198 => k_is)
    (case u199 => k_is)
    (case u200 => k_is)
    (case u201 => k_is)
    (case u202 => k_is)
    (case u203 => k_is)
    (case u204 => k_is)
    (case u205 => k_is)
    (case u206 => k_is)
    (case u207 => k_is)
    (case u208 => k_is)
    (case u209 => k_is)
    (case u210 => k_is)
    (case u211 => k_is)
    (case u212 => k_is)
    (case u213 => k_is)
    (case u214 => k_is)
    (case u215 => k_is)
    (case u216 => k_is)
    (case u217 => k_is)
    (case u218 => k_is)
    (case u219 => k_is)
    (case u220 => k_is)
    (case u221 => k_is)
    (case u222 => k_is)
    (case u223 => k_is)
    (case u224 => k_is)
    (case u225 => k_is)
    (case u226 => k_is)
    (case u227 => k_is)
    (case u228 => k_is)
    (case u229 => k_is)
    (case u230 => k_is)
    (case u231 => k_is)
    (case u232 => k_is)
    (case u233 => k_is)
    (case u234 => k_is)
    (case u235 => k_is)
    (case u236 => k_is)
    (case u237 => k_is)
    (case u238 => k_is)
    (case u239 => k_is)
    (case u240 => k_is)
    (case u241 => k_is)
    (case u242 => k_is)
    (case u243 => k_is)
    (case u244 => k_is)
    (case u245 => k_is)
    (case u246 => k_is)
    (case u247 => k_is)
    (case u248 => k_is)
    (case u249 => k_is)
    (case u250 => k_is)
    (case u251 => k_is)
    (case u252 => k_is)
    (case u253 => k_is)
    (case u254 => k_is)
    (case u255 => k_is)
    (case u256 => k_is)
    (case u257 => k_is)
    (case u258 => k_is)
    (case u259 => k_is)
    (case u260 => k_is)
    (case u261 => k_is)
    (case u262 => k_is)
    (case u263 => k_is)
    (case u264 => k_is)
    (case u265 => k_is)
    (case u266 => k_is)
    (case u267 => k_is)
    (case u268 => k_is)
    (case u269 => k_is)
    (case u270 => k_is)
    (case u271 => k_is)
    (case u272 => k_is)
    (case u273 => k_is)
    (case u274 => k_is)
    (case u275 => k_is)
    (case u276 => kernel_rfl)
    (case u277 => kernel_rfl)
    (case u278 => k_is)
    (case u279 => k_is)
    (case u280 => k_is)
    (case u281 => k_is)
    (case u282 => k_is)
    (case u283 => k_is)
    (case u284 => k_is)
    (case u285 => kernel_rfl)
    (case u286 => kernel_rfl)
    (case u287 => k_is)
    (case u288 => k_is)
    (case u289 => k_is)
    (case u290 => k_is)
    (case u291 => k_is)
    (case u292 => k_is)
    (case u293 => k_is)
    (case u294 => k_is)
    (case u295 => k_is)
    (case u296 => k_is)
    (case u297 => k_is)
    (case u298 => k_is)
    (case u299 => k_is)
    (case u300 => k_is)
    (case u301 => k_is)
    (case u302 => k_is)
    (case u303 => k_is)
    (case u304 => k_is)
    (case u305 => exact ⟨_, rfl⟩)
    (case u306 => k_is)
    (case u307 => exact ⟨_, rfl⟩)
    (case u308 => k_is)
    (case u309 => exact ⟨_, rfl⟩)
    (case u310 => k_is)
    (case u311 => exact ⟨_, rfl⟩)
    (case u312 => k_is)
    (case u313 => exact ⟨_, rfl⟩)
    (case u314 => k_is)
    (case u315 => exact ⟨_, rfl⟩)
    (case u316 => k_is)
    (case u317 => k_is)
    (case u318 => k_keys)
    (case u319 => decide)
    (case u320 => kernel_rfl)
    (case u321 => kernel_rfl)
#print axioms PySem.Challenge.cw_stoodin_k73_whole_papers_of_sameness_holds
