import PyProof.Rows.All
import Wide.All
import OpenK.AllK
import Wide.FinOn
import HandS.ForMost
import KE.KeyNested
import HandS.Lambda
import KE.KNestM
import HandS.ForExc
import HandS.IsInst
import HandS.TupAny
import HandS.Deep
import HandS.Wide
import HandS.CallSlots
import HandS.Defaults
import KE.KUnpackStar
import HandS.Text
import KE.KIntText
import HandS.SetFor
import HandS.Strs
import HandS.SortInts
import HandS.List
import HandS.Comp
import HandS.SortKw
import HandS.MakeKw
import HandS.MakeKwOnly
import HandS.Style
import HandS.Flow
import HandS.TryMany
import HandS.ExcInit
import HandS.ExcIs
import HandS.ExcField
import HandS.Zip
import HandS.TupMul
import KE.KxMul
import HandS.TryOnly
import PyProof.Rows.SortStr
import PyProof.Rows.SortShellK
import PyProof.NeKinds
import KE.GoesMore
import PyProof.EnumMake
import HandS.DictComp
import HandS.TupSets
import HandS.SortOrd
import HandS.OwnEq
import PyProof.StrOps2
import KE.KDictDisplayH
import HandS.DictTup
import HandS.ListItems
import KE.KDictCopyH
import PyProof.Rows.SortShellAny
import HandS.Nested
import KE.KMinKey
import KE.KDictWalk
import HandS.EndTab
import KE.KDictSum
import KE.SortKeyHeap
import KE.DataMinMax
import PyProof.SumAny
import HandS.ClsMeth
import KE.SortCalls
import KE.KDictItemsList
import HandS.Small
import HandS.Ends
import PyProof.ReprRoads
import PyProof.ReprLen
import PyProof.FitsInt
import KE.OsRunLaw
import PySem.Challenge.RW_stoodin_k77_whole_papers_of_fewest
set_option Elab.async false
set_option linter.all false
set_option autoImplicit false
set_option maxRecDepth 100000
set_option maxHeartbeats 4000000
namespace DL
open PySem L2
/-- what is known of the text, and the world -/
structure KW where
  fr : PySem.W.Frag
  w : World
instance : Coe KW PySem.W.Frag := ⟨KW.fr⟩
abbrev kw (X : Cx) : KW := ⟨X.K, X.w⟩
/-! ### the table of the code objects that a def with a lambda makes -/
def lamNs : List Str := ["judged", "judged_judging"]
def LamT (K : PySem.W.Frag) (P : Addr) (q : Str) : Prop := ∃ c, PySem.W.codeHdIn K c P = true ∧ PySem.W.codeIn K (.ref c) q = true ∧ q ∈ lamNs
def NoLam (K : PySem.W.Frag) : Prop := ∀ P q, ¬ LamT K P q
def lamQ (q : Str) : Str := (q ++ ".<locals>.") ++ "<lambda>"
structure TabA (F H0 : Hp) (H : Hp) (P : Addr) (q : Str) : Prop where
  h0 : H0 P = none
  hF : F P = none
  tab : ∃ ps : Array Value, H P = some (.tbl ps) ∧ TriplesOk ps.toList ∧ ∀ (pos : Pos) (cv : Value), codeAmong pos ps.toList = some cv → ∃ c, cv = .ref c ∧ H0 c = some (LamX.CodeO c (lamQ q))
theorem TabA.step {F F' H0 H0' H H' : Hp} {P : Addr} {q : Str} (t : TabA F H0 H P q) (s : ∀ b u, H0 b = some u → H0' b = some u) (e0 : H0' P = none) (eF : F' P = none) (e : H' P = H P) : TabA F' H0' H' P q :=
  ⟨e0, eF, let ⟨ps, h1, h2, h3⟩ := t.tab; ⟨ps, e.trans h1, h2, fun pos cv hc => let ⟨c, a, b⟩ := h3 pos cv hc; ⟨c, a, s _ _ b⟩⟩⟩
theorem TabA.ne_none {F H0 H : Hp} {P p : Addr} {q : Str} (t : TabA F H0 H P q) (h : H p = none) : P ≠ p := fun z => by
  obtain ⟨ps, h1, _⟩ := t.tab
  rw [z, h] at h1; cases h1
theorem TabA.ne_some {F H0 H : Hp} {P p : Addr} {q : Str} {o : HO} (t : TabA F H0 H P q) (h : H p = some o) (ht : ∀ ps, o ≠ .tbl ps) : P ≠ p := fun z => by
  obtain ⟨ps, h1, _⟩ := t.tab
  rw [z, h] at h1; exact ht ps (Option.some.inj h1)
theorem TabA.ne_frame {F H0 H : Hp} {P p : Addr} {q : Str} {o : HO} (t : TabA F H0 H P q) (h : F p = some o) : P ≠ p := fun z => by
  have := t.hF
  rw [z, h] at this; cases this
/-! ### a dict whose keys are tuples, nested -/
def RE (e : NestedKey × Addr × V) (x : NestedKey × Addr × Value) : Prop := e.1 = x.1 ∧ e.2.1 = x.2.1 ∧ RelV e.2.2 x.2.2
def dgEnt (w : World) (x : NestedKey × Addr × Value) : DictEntry := ⟨x.1.hash w, .ref x.2.1, x.2.2⟩
def DGp (w : World) (a : Addr) (L : List (NestedKey × Addr × V)) (h : Heap) : Prop :=
  (a == sysModules) = false ∧ L.length ≤ sizeLine ∧ ∃ xs : List (NestedKey × Addr × Value), Paired RE L xs ∧ (xs.map (·.1)).Nodup ∧ ∃ o es ep, h.get? a = some o ∧ o.ExactDict ∧ o.data = .dict es ep ∧ es.toList = xs.map (dgEnt w)
def DGO (w : World) (a : Addr) (L : List (NestedKey × Addr × V)) : HO := .ext (DGp w a L)
end DL
namespace DL
open PySem L2
/-! ### data -/
/-- the module's name n holds the object at C (a class, a def) -/
def ClsAt (K : PySem.W.Frag) (n : Str) (C : Addr) : Prop := PySem.W.nsIn K mainGlobals n = some (some (.ref C))
inductive D where
  | non | bl (b : Bool) | int (i : Int) | str (x : Str) | ty (n : String) | adr (a : Addr) | glb (n : Str) | exc (a C dd : Addr) (n : Str) (fs : List (Str × D))
  | lst (ds : List D) | tup (ds : List D) | dct (kvs : List (Key × D)) | ins (n : Str) (fs : List (Str × D))
/-- what may change -/
inductive MO where
  | lst (ds : List D) | dct (kvs : List (Key × D)) | dgt (kvs : List (D × D)) | dgl (o : Obj) (kvs : List (D × D)) | ins (n : Str) (fs : List (Str × D))
mutual
/-- data as a key, up to == -/
def nk : D → NestedKey
  | .bl b => .num (if b = true then 1 else 0)
  | .int i => .num i
  | .str x => .text x
  | .tup ds => .tup (nks ds)
  | _ => .none
def nks : List D → List NestedKey
  | [] => []
  | d :: ds => nk d :: nks ds
end
mutual
def kyB : D → Bool
  | .non => true
  | .bl _ => true
  | .int _ => true
  | .str _ => true
  | .tup ds => kyBs ds
  | _ => false
def kyBs : List D → Bool
  | [] => true
  | d :: ds => kyB d && kyBs ds
end
/-- a tuple that can be a key -/
def ktB : D → Bool
  | .tup ds => kyBs ds && decide ((nk (.tup ds)).depth ≤ 8)
  | _ => false
abbrev Mu := Addr → Option MO
def mset (m : Mu) (a : Addr) (o : MO) : Mu := fun b => if b = a then some o else m b
def mdel (m : Mu) (a : Addr) : Mu := fun b => if b = a then none else m b
mutual
inductive Rp (K : PySem.W.Frag) (H : Hp) : V → D → Prop
  | non : Rp K H .non .non
  | bl (b : Bool) : Rp K H (.bl b) (.bl b)
  | int (i : Int) : Rp K H (.int i) (.int i)
  | str (x : Str) : Rp K H (.str x) (.str x)
  | ty (n : String) : Rp K H (.ty n) (.ty n)
  | adr (a : Addr) : Rp K H (.ref a) (.adr a)
  | glb {n : Str} {C : Addr} : ClsAt K n C → Rp K H (.ref C) (.glb n)
  | exc {a C dd : Addr} {n : Str} {fv : List (Str × V)} {fs : List (Str × D)} : ClsAt K n C → H dd = some (.xd fv) → fv.map (·.1) = fs.map (·.1) → RpL K H (fv.map (·.2)) (fs.map (·.2)) → Rp K H (.ref a) (.exc a C dd n fs)
  | lst {a : Addr} {vs : List V} {ds : List D} : SqL K H a vs → RpL K H vs ds → Rp K H (.ref a) (.lst ds)
  | tup {a : Addr} {vs : List V} {ds : List D} : SqT K H a vs → RpL K H vs ds → Rp K H (.ref a) (.tup ds)
  | dct {a : Addr} {kvs : List (Key × V)} {ds : List (Key × D)} : H a = some (.dK kvs) → kvs.map (·.1) = ds.map (·.1) → RpL K H (kvs.map (·.2)) (ds.map (·.2)) → Rp K H (.ref a) (.dct ds)
  | ins {a C dx : Addr} {n : Str} {fs : List (Str × V)} {ds : List (Str × D)} : ClsAt K n C → H a = some (.ins C dx fs) → fs.map (·.1) = ds.map (·.1) → RpL K H (fs.map (·.2)) (ds.map (·.2)) → Rp K H (.ref a) (.ins n ds)
inductive RpL (K : PySem.W.Frag) (H : Hp) : List V → List D → Prop
  | nil : RpL K H [] []
  | cons {v : V} {vs : List V} {d : D} {ds : List D} : Rp K H v d → RpL K H vs ds → RpL K H (v :: vs) (d :: ds)
end
theorem seqT_mono {K : PySem.W.Frag} {H H' : Hp} {a : Addr} {xs : List V} (e : Same H H') (h : SqT K H a xs) : SqT K H' a xs := by
  rcases h with (h | ⟨o, h⟩) | h
  · exact .inl (.inl (e _ _ h))
  · exact .inl (.inr ⟨o, e _ _ h⟩)
  · exact .inr h
mutual
theorem Rp.mono {K : PySem.W.Frag} {H H' : Hp} (s : Same H H') : ∀ {v : V} {d : D}, Rp K H v d → Rp K H' v d
  | _, _, .non => .non
  | _, _, .bl b => .bl b
  | _, _, .int i => .int i
  | _, _, .str x => .str x
  | _, _, .ty n => .ty n
  | _, _, .adr a => .adr a
  | _, _, .glb h => .glb h
  | _, _, .exc c h e r => .exc c (s _ _ h) e (RpL.mono s r)
  | _, _, .lst h r => .lst (s.seq h) (RpL.mono s r)
  | _, _, .tup h r => .tup (seqT_mono s h) (RpL.mono s r)
  | _, _, .dct h e r => .dct (s _ _ h) e (RpL.mono s r)
  | _, _, .ins c h e r => .ins c (s _ _ h) e (RpL.mono s r)
theorem RpL.mono {K : PySem.W.Frag} {H H' : Hp} (s : Same H H') : ∀ {vs : List V} {ds : List D}, RpL K H vs ds → RpL K H' vs ds
  | _, _, .nil => .nil
  | _, _, .cons h r => .cons (Rp.mono s h) (RpL.mono s r)
end
/-! ### worlds: H0 what never changes, m what may -/
def MRep (K : KW) (H0 H : Hp) (a : Addr) : MO → Prop
  | .lst ds => ∃ vs, H a = some (.lst vs) ∧ RpL K H0 vs ds
  | .dct kvs => ∃ kv, H a = some (.dK kv) ∧ kv.map (·.1) = kvs.map (·.1) ∧ RpL K H0 (kv.map (·.2)) (kvs.map (·.2))
  | .dgt kvs => ∃ L, H a = some (DGO K.w a L) ∧ Paired (fun e p => e.1 = nk p.1 ∧ ktB p.1 = true ∧ Rp K H0 (.ref e.2.1) p.1 ∧ Rp K H0 e.2.2 p.2) L kvs
  | .dgl o kvs => ∃ L, H a = some (.frz o (DGO K.w a L)) ∧ Paired (fun e p => e.1 = nk p.1 ∧ ktB p.1 = true ∧ Rp K H0 (.ref e.2.1) p.1 ∧ Rp K H0 e.2.2 p.2) L kvs
  | .ins n fs => ∃ C dx fv, ClsAt K n C ∧ H a = some (.ins C dx fv) ∧ fv.map (·.1) = fs.map (·.1) ∧ RpL K H0 (fv.map (·.2)) (fs.map (·.2))
theorem MRep.some {K : KW} {H0 H : Hp} {a : Addr} {o : MO} (h : MRep K H0 H a o) : ∃ u, H a = some u := by
  cases o with
  | lst ds => obtain ⟨vs, h, _⟩ := h; exact ⟨_, h⟩
  | dct ds => obtain ⟨vs, h, _⟩ := h; exact ⟨_, h⟩
  | dgt ds => obtain ⟨vs, h, _⟩ := h; exact ⟨_, h⟩
  | dgl o ds => obtain ⟨vs, h, _⟩ := h; exact ⟨_, h⟩
  | ins C ds => obtain ⟨_, _, vs, _, h, _⟩ := h; exact ⟨_, h⟩
theorem mrep_noT {K : KW} {H0 H : Hp} {a : Addr} {o : MO} (h : MRep K H0 H a o) : ∃ u, H a = some u ∧ ∀ ps, u ≠ .tbl ps := by
  cases o with
  | lst ds => obtain ⟨vs, h, _⟩ := h; exact ⟨_, h, fun _ z => nomatch z⟩
  | dct ds => obtain ⟨vs, h, _⟩ := h; exact ⟨_, h, fun _ z => nomatch z⟩
  | dgt ds => obtain ⟨vs, h, _⟩ := h; exact ⟨_, h, fun _ z => nomatch z⟩
  | dgl o ds => obtain ⟨vs, h, _⟩ := h; exact ⟨_, h, fun _ z => nomatch z⟩
  | ins C ds => obtain ⟨_, _, vs, _, h, _⟩ := h; exact ⟨_, h, fun _ z => nomatch z⟩
theorem MRep.mono {K : KW} {H0 H H0' H' : Hp} {a : Addr} {o : MO} (h : MRep K H0 H a o) (s : Same H0 H0') (e : H' a = H a) : MRep K H0' H' a o := by
  cases o with
  | lst ds => obtain ⟨vs, h, r⟩ := h; exact ⟨vs, e.trans h, r.mono s⟩
  | dct ds => obtain ⟨vs, h, q, r⟩ := h; exact ⟨vs, e.trans h, q, r.mono s⟩
  | dgt ds => obtain ⟨L, h, q⟩ := h; exact ⟨L, e.trans h, L2.Paired.mapP q fun _ _ z => ⟨z.1, z.2.1, z.2.2.1.mono s, z.2.2.2.mono s⟩⟩
  | dgl o ds => obtain ⟨L, h, q⟩ := h; exact ⟨L, e.trans h, L2.Paired.mapP q fun _ _ z => ⟨z.1, z.2.1, z.2.2.1.mono s, z.2.2.2.mono s⟩⟩
  | ins C ds => obtain ⟨C, dx, vs, c, h, q, r⟩ := h; exact ⟨C, dx, vs, c, e.trans h, q, r.mono s⟩
/-- F: a frame that stays as it is -/
structure Ok (K : KW) (F : Hp) (H0 : Hp) (m : Mu) (H : Hp) : Prop where
  same : Same H0 H
  cell : ∀ a o, m a = some o → H0 a = none ∧ MRep K H0 H a o
  fr : ∀ a o, F a = some o → H a = some o ∧ H0 a = none ∧ m a = none
  tab : ∀ P q, LamT K.fr P q → TabA F H0 H P q
theorem Ok.neM {K : KW} {F H0 H : Hp} {m : Mu} {P p : Addr} {q : Str} {o : MO} (ok : Ok K F H0 m H) (l : LamT K.fr P q) (h : m p = some o) : P ≠ p :=
  let ⟨_, h1, h2⟩ := mrep_noT (ok.cell p o h).2; (ok.tab P q l).ne_some h1 h2
theorem Ok.free {K : KW} {F : Hp} {H0 H : Hp} {m : Mu} {a : Addr} (ok : Ok K F H0 m H) (h : H a = none) : H0 a = none ∧ m a = none := by
  refine ⟨ok.same.free h, ?_⟩
  cases e : m a with
  | none => rfl
  | some o =>
    obtain ⟨u, hu⟩ := (ok.cell a o e).2.some
    rw [h] at hu; cases hu
theorem same_new {H : Hp} {p : Addr} {o : HO} (h : H p = none) : Same H (upd H p o) := fun b u e => by
  rw [upd_ne (ne_of_none e h)]; exact e
/-- a new thing that never changes -/
theorem Ok.new {K : KW} {F : Hp} {H0 H : Hp} {m : Mu} {p : Addr} (ok : Ok K F H0 m H) (h : H p = none) (o : HO) : Ok K F (upd H0 p o) m (upd H p o) := by
  obtain ⟨h0, hm⟩ := ok.free h
  refine ⟨fun b u e => ?_, fun a q e => ?_, fun a q e => ?_, fun P q l => have t := ok.tab P q l; have n := t.ne_none h; t.step (same_new h0) ((upd_ne n).trans t.h0) t.hF (upd_ne n)⟩
  · by_cases hb : b = p
    · subst hb; rw [upd_same] at e ⊢; exact e
    · rw [upd_ne hb] at e ⊢; exact ok.same b u e
  · obtain ⟨c1, c2⟩ := ok.cell a q e
    have ha : a ≠ p := fun z => by rw [z, hm] at e; cases e
    exact ⟨by rw [upd_ne ha]; exact c1, c2.mono (same_new h0) (upd_ne ha)⟩
  · obtain ⟨c1, c2, c3⟩ := ok.fr a q e
    have ha : a ≠ p := ne_of_none c1 h
    exact ⟨by rw [upd_ne ha]; exact c1, by rw [upd_ne ha]; exact c2, c3⟩
/-- a new thing of ours that may change -/
theorem Ok.newM {K : KW} {F : Hp} {H0 H : Hp} {m : Mu} {p : Addr} {u : HO} {o : MO} (ok : Ok K F H0 m H) (h : H p = none) (r : MRep K H0 (upd H p u) p o) : Ok K F H0 (mset m p o) (upd H p u) := by
  obtain ⟨h0, hm⟩ := ok.free h
  refine ⟨fun b q e => ?_, fun a q e => ?_, fun a q e => ?_, fun P q l => have t := ok.tab P q l; t.step (fun _ _ z => z) t.h0 t.hF (upd_ne (t.ne_none h))⟩
  · rw [upd_ne (ne_of_none (ok.same b q e) h)]; exact ok.same b q e
  · unfold mset at e
    by_cases ha : a = p
    · subst ha; rw [if_pos rfl] at e; cases e; exact ⟨h0, r⟩
    · rw [if_neg ha] at e
      obtain ⟨c1, c2⟩ := ok.cell a q e
      exact ⟨c1, c2.mono (Same.refl _) (upd_ne ha)⟩
  · obtain ⟨c1, c2, c3⟩ := ok.fr a q e
    have ha : a ≠ p := ne_of_none c1 h
    exact ⟨by rw [upd_ne ha]; exact c1, c2, by unfold mset; rw [if_neg ha]; exact c3⟩
/-- a thing of ours changes -/
theorem Ok.write {K : KW} {F : Hp} {H0 H : Hp} {m : Mu} {p : Addr} {u : HO} {o o' : MO} (ok : Ok K F H0 m H) (h : m p = some o') (r : MRep K H0 (upd H p u) p o) : Ok K F H0 (mset m p o) (upd H p u) := by
  obtain ⟨h0, _⟩ := ok.cell p o' h
  refine ⟨fun b q e => ?_, fun a q e => ?_, fun a q e => ?_, fun P q l => have t := ok.tab P q l; t.step (fun _ _ z => z) t.h0 t.hF (upd_ne (ok.neM l h))⟩
  · rw [upd_ne (ne_of_none e h0)]; exact ok.same b q e
  · unfold mset at e
    by_cases ha : a = p
    · subst ha; rw [if_pos rfl] at e; cases e; exact ⟨h0, r⟩
    · rw [if_neg ha] at e
      obtain ⟨c1, c2⟩ := ok.cell a q e
      exact ⟨c1, c2.mono (Same.refl _) (upd_ne ha)⟩
  · obtain ⟨c1, c2, c3⟩ := ok.fr a q e
    have ha : a ≠ p := fun z => by rw [z, h] at c3; cases c3
    exact ⟨by rw [upd_ne ha]; exact c1, c2, by unfold mset; rw [if_neg ha]; exact c3⟩
/-- less is known to be ours -/
theorem Ok.weak {K : KW} {F : Hp} {H0 H : Hp} {m m' : Mu} (ok : Ok K F H0 m H) (h : ∀ a o, m' a = some o → m a = some o) : Ok K F H0 m' H := by
  refine ⟨ok.same, fun a o e => ok.cell a o (h a o e), fun a o e => ?_, ok.tab⟩
  obtain ⟨c1, c2, c3⟩ := ok.fr a o e
  refine ⟨c1, c2, ?_⟩
  cases q : m' a with
  | none => rfl
  | some u => rw [h a u q] at c3; cases c3
/-- something that is neither goes into the frame -/
theorem Ok.frame {K : KW} {F : Hp} {H0 H : Hp} {m : Mu} {p : Addr} {o : HO} (ok : Ok K F H0 m H) (h : H p = some o) (h0 : H0 p = none) (hm : m p = none) (ht : ∀ ps, o ≠ .tbl ps) : Ok K (upd F p o) H0 m H := by
  refine ⟨ok.same, ok.cell, fun a u e => ?_, fun P q l => have t := ok.tab P q l; t.step (fun _ _ z => z) t.h0 ((upd_ne (t.ne_some h ht)).trans t.hF) rfl⟩
  by_cases ha : a = p
  · subst ha; rw [upd_same] at e; cases e; exact ⟨h, h0, hm⟩
  · rw [upd_ne ha] at e; exact ok.fr a u e
/-- and out of it, whatever it was before -/
theorem Ok.unframe {K : KW} {F : Hp} {H0 H : Hp} {m : Mu} {p : Addr} {o : HO} (ok : Ok K (upd F p o) H0 m H) (hF : F p = none) : Ok K F H0 m H ∧ H p = some o ∧ H0 p = none ∧ m p = none := by
  refine ⟨⟨ok.same, ok.cell, fun a u e => ?_, fun P q l => have t := ok.tab P q l; have n := t.ne_frame upd_same; t.step (fun _ _ z => z) t.h0 ((upd_ne n).symm.trans t.hF) rfl⟩, ok.fr p o upd_same⟩
  have ha : a ≠ p := ne_of_none e hF
  exact ok.fr a u (by rw [upd_ne ha]; exact e)
theorem Ok.freeF {K : KW} {F : Hp} {H0 H : Hp} {m : Mu} {a : Addr} (ok : Ok K F H0 m H) (h : H a = none) : F a = none := by
  cases e : F a with
  | none => rfl
  | some o => rw [(ok.fr a o e).1] at h; cases h
abbrev DSt := List (Option D)
abbrev DK := D → Mu → Prop
abbrev DX := Str → List (Str × D) → Mu → Prop
abbrev DE := DSt → Mu → DK → DX → Prop
abbrev DT := DSt → Mu → (Bool → Mu → Prop) → DX → Prop
abbrev DA := DSt → Mu → (List D → Mu → Prop) → DX → Prop
structure DEnds where
  nx : DSt → Mu → Prop
  rt : DK
  bk : DSt → Mu → Prop
  ct : DSt → Mu → Prop
  xx : Str → List (Str × D) → DSt → Mu → Prop
abbrev DS := DEnds → DSt → Mu → Prop
structure RpS (K : PySem.W.Frag) (H0 : Hp) (σ : St) (δ : DSt) : Prop where
  len : σ.length = δ.length
  at_ : ∀ (i : Nat) (d : D), δ[i]? = some (some d) → ∃ v, σ[i]? = some (some v) ∧ Rp K H0 v d
theorem RpS.mono {K : PySem.W.Frag} {H0 H0' : Hp} {σ : St} {δ : DSt} (r : RpS K H0 σ δ) (s : Same H0 H0') : RpS K H0' σ δ := ⟨r.len, fun i d e => let ⟨v, h, q⟩ := r.at_ i d e; ⟨v, h, q.mono s⟩⟩
theorem RpS.set {K : PySem.W.Frag} {H0 : Hp} {σ : St} {δ : DSt} {v : V} {d : D} (r : RpS K H0 σ δ) (h : Rp K H0 v d) (i : Nat) : RpS K H0 (σ.set i (some v)) (δ.set i (some d)) := by
  refine ⟨by simp [r.len], fun j e he => ?_⟩
  by_cases hj : i = j
  · subst hj
    by_cases hl : i < δ.length
    · rw [List.getElem?_set_self hl] at he
      cases he
      exact ⟨v, List.getElem?_set_self (by rw [r.len]; exact hl), h⟩
    · rw [List.getElem?_eq_none (by simpa using hl)] at he; cases he
  · rw [List.getElem?_set_ne hj] at he ⊢
    exact r.at_ j e he
theorem RpS.clear {K : PySem.W.Frag} {H0 : Hp} {σ : St} {δ : DSt} {o : Option V} (r : RpS K H0 σ δ) (i : Nat) : RpS K H0 (σ.set i o) (δ.set i none) := by
  refine ⟨by simp [r.len], fun j e he => ?_⟩
  by_cases hj : i = j
  · subst hj
    by_cases hl : i < δ.length
    · rw [List.getElem?_set_self hl] at he; cases he
    · rw [List.getElem?_eq_none (by simpa using hl)] at he; cases he
  · rw [List.getElem?_set_ne hj] at he ⊢
    exact r.at_ j e he
/-- what an exception bears -/
def XRp (K : PySem.W.Frag) (H0 : Hp) (c : Value) (xd : Option Addr) (nf : Str × List (Str × D)) : Prop :=
  ∃ C, c = .ref C ∧ ClsAt K nf.1 C ∧ ∃ dd fv, xd = some dd ∧ H0 dd = some (.xd fv) ∧ fv.map (·.1) = nf.2.map (·.1) ∧ RpL K H0 (fv.map (·.2)) (nf.2.map (·.2))
theorem XRp.mono {K : PySem.W.Frag} {H0 H0' : Hp} {c : Value} {xd : Option Addr} {nf : Str × List (Str × D)} (x : XRp K H0 c xd nf) (s : Same H0 H0') : XRp K H0' c xd nf := by
  obtain ⟨C, e0, hc, dd, fv, e, h, q, r⟩ := x
  exact ⟨C, e0, hc, dd, fv, e, s _ _ h, q, r.mono s⟩
def GV (K : KW) (F : Hp) (H0 : Hp) (P : DK) (Q : VK) : Prop := ∀ v H' H0' m' d, Same H0 H0' → Ok K F H0' m' H' → Rp K H0' v d → P d m' → Q v H'
def GB (K : KW) (F : Hp) (H0 : Hp) (P : Bool → Mu → Prop) (Q : Bool → Hp → Prop) : Prop := ∀ b H' H0' m', Same H0 H0' → Ok K F H0' m' H' → P b m' → Q b H'
def GA (K : KW) (F : Hp) (H0 : Hp) (P : List D → Mu → Prop) (Q : List V → Hp → Prop) : Prop := ∀ vs H' H0' m' ds, Same H0 H0' → Ok K F H0' m' H' → RpL K H0' vs ds → P ds m' → Q vs H'
def GX (K : KW) (F : Hp) (H0 : Hp) (PX : DX) (E : XK) : Prop := ∀ c xd H' H0' m' fs, Same H0 H0' → Ok K F H0' m' H' → XRp K H0' c xd fs → PX fs.1 fs.2 m' → E c xd H'
def GS (K : KW) (F : Hp) (H0 : Hp) (P : DSt → Mu → Prop) (Q : St → Hp → Prop) : Prop := ∀ σ' H' H0' m' δ', Same H0 H0' → Ok K F H0' m' H' → RpS K H0' σ' δ' → P δ' m' → Q σ' H'
def GW (K : KW) (F : Hp) (H0 : Hp) (PX : Str → List (Str × D) → DSt → Mu → Prop) (W : WX) : Prop := ∀ c xd σ' H' H0' m' fs δ', Same H0 H0' → Ok K F H0' m' H' → RpS K H0' σ' δ' → XRp K H0' c xd fs → PX fs.1 fs.2 δ' m' → W c xd σ' H'
theorem GV.mono {K : KW} {F : Hp} {H0 H1 : Hp} {P : DK} {Q : VK} (g : GV K F H0 P Q) (s : Same H0 H1) : GV K F H1 P Q := fun v H' H0' m' d s' => g v H' H0' m' d (s.trans s')
theorem GB.mono {K : KW} {F : Hp} {H0 H1 : Hp} {P : Bool → Mu → Prop} {Q : Bool → Hp → Prop} (g : GB K F H0 P Q) (s : Same H0 H1) : GB K F H1 P Q := fun v H' H0' m' s' => g v H' H0' m' (s.trans s')
theorem GA.mono {K : KW} {F : Hp} {H0 H1 : Hp} {P : List D → Mu → Prop} {Q : List V → Hp → Prop} (g : GA K F H0 P Q) (s : Same H0 H1) : GA K F H1 P Q := fun v H' H0' m' d s' => g v H' H0' m' d (s.trans s')
theorem GX.mono {K : KW} {F : Hp} {H0 H1 : Hp} {P : DX} {Q : XK} (g : GX K F H0 P Q) (s : Same H0 H1) : GX K F H1 P Q := fun c xd H' H0' m' fs s' => g c xd H' H0' m' fs (s.trans s')
theorem GS.mono {K : KW} {F : Hp} {H0 H1 : Hp} {P : DSt → Mu → Prop} {Q : St → Hp → Prop} (g : GS K F H0 P Q) (s : Same H0 H1) : GS K F H1 P Q := fun v H' H0' m' d s' => g v H' H0' m' d (s.trans s')
theorem GW.mono {K : KW} {F : Hp} {H0 H1 : Hp} {P : Str → List (Str × D) → DSt → Mu → Prop} {Q : WX} (g : GW K F H0 P Q) (s : Same H0 H1) : GW K F H1 P Q := fun c xd σ' H' H0' m' fs δ' s' => g c xd σ' H' H0' m' fs δ' (s.trans s')
def lE (K : KW) (W : WX) (r : DE) : TE := fun σ H Q => ∃ F H0 m δ P PX, Ok K F H0 m H ∧ RpS K H0 σ δ ∧ r δ m P PX ∧ GV K F H0 P Q ∧ GX K F H0 PX fun c xd H' => W c xd σ H'
def lT (K : KW) (W : WX) (r : DT) : TT := fun σ H Q => ∃ F H0 m δ P PX, Ok K F H0 m H ∧ RpS K H0 σ δ ∧ r δ m P PX ∧ GB K F H0 P Q ∧ GX K F H0 PX fun c xd H' => W c xd σ H'
def lA (K : KW) (W : WX) (r : DA) : TA := fun σ H Q => ∃ F H0 m δ P PX, Ok K F H0 m H ∧ RpS K H0 σ δ ∧ r δ m P PX ∧ GA K F H0 P Q ∧ GX K F H0 PX fun c xd H' => W c xd σ H'
structure GD (K : KW) (F : Hp) (H0 : Hp) (W : WX) (DD : DEnds) (Dn : Ends) : Prop where
  nx : GS K F H0 DD.nx Dn.nx
  rt : GV K F H0 DD.rt Dn.rt
  bk : GS K F H0 DD.bk Dn.bk
  ct : GS K F H0 DD.ct Dn.ct
  xx : GW K F H0 DD.xx W
theorem GD.mono {K : KW} {F : Hp} {H0 H1 : Hp} {W : WX} {DD : DEnds} {Dn : Ends} (g : GD K F H0 W DD Dn) (s : Same H0 H1) : GD K F H1 W DD Dn := ⟨g.nx.mono s, g.rt.mono s, g.bk.mono s, g.ct.mono s, g.xx.mono s⟩
def lS (K : KW) (W : WX) (r : DS) : TS := fun Dn σ H => ∃ F H0 m δ DD, Ok K F H0 m H ∧ RpS K H0 σ δ ∧ r DD δ m ∧ GD K F H0 W DD Dn
abbrev SpD := List D → Mu → DK → DX → Prop
def lP (K : KW) (sp : SpD) : Sp := fun vs H Q E => ∃ F H0 m ds P PX, Ok K F H0 m H ∧ RpL K H0 vs ds ∧ sp ds m P PX ∧ GV K F H0 P Q ∧ GX K F H0 PX E
theorem PE.imp {X : Cx} {e : Expr} {t t' : TE} (h : PE X e t) (k : ∀ σ H Q, t' σ H Q → t σ H Q) : PE X e t' := ⟨fun pins s σ H Q I w => h.run pins s σ H Q I (k σ H Q w)⟩
theorem PT.imp {X : Cx} {e : Expr} {t t' : TT} (h : PT X e t) (k : ∀ σ H Q, t' σ H Q → t σ H Q) : PT X e t' := ⟨fun pins s σ H Q I w => h.run pins s σ H Q I (k σ H Q w)⟩
theorem PW.imp {X : Cx} {e : Expr} {t t' : TT} (h : PW X e t) (k : ∀ σ H Q, t' σ H Q → t σ H Q) : PW X e t' := ⟨fun wh pins s σ H Q I w => h.run wh pins s σ H Q I (k σ H Q w)⟩
theorem PA.imp {X : Cx} {e : List Expr} {t t' : TA} (h : PA X e t) (k : ∀ σ H Q, t' σ H Q → t σ H Q) : PA X e t' := ⟨fun pos pins s σ H Q I w => h.run pos pins s σ H Q I (k σ H Q w)⟩
theorem PS.imp {X : Cx} {e : Stmt} {t t' : TS} (h : PS X e t) (k : ∀ Dn σ H, t' Dn σ H → t Dn σ H) : PS X e t' := ⟨fun pins s σ H Dn I w => h.run pins s σ H Dn I (k Dn σ H w)⟩
theorem PSs.imp {X : Cx} {e : List Stmt} {t t' : TS} (h : PSs X e t) (k : ∀ Dn σ H, t' Dn σ H → t Dn σ H) : PSs X e t' := ⟨fun pins s σ H Dn I w => h.run pins s σ H Dn I (k Dn σ H w)⟩
end DL
namespace DL
open PySem L2
section
variable {X : Cx} {W : WX} {a b c : Expr} {ra rb rc : DE} {pos : Pos}
/-! ### names, constants -/
def rV (i : Nat) : DE := fun δ m P _ => match δ[i]? with
  | some (some d) => P d m
  | _ => False
def rC (d : D) : DE := fun _ m P _ => P d m
theorem pd_v (i : Nat) {x : Str} (hN : X.N[i]? = some x := by rfl) (hv : Vis X.env.scope x := by first | exact Or.inl rfl | exact Or.inr (Or.inl rfl) | exact Or.inr (Or.inr rfl)) (hd : (x == ("__debug__" : Str)) = false := by decide)
    (hcd : (x == ("__classdict__" : Str)) = false := by decide) : PE X (.Name x pos) (lE (kw X) W (rV i)) := by
  refine PE.imp (pe_var hN hv hd hcd) fun σ H Q h => ?_
  obtain ⟨F, H0, m, δ, P, PX, ok, rs, h, g, gx⟩ := h
  unfold rV at h
  split at h
  · rename_i d e
    obtain ⟨v, hv, rv⟩ := rs.at_ i d e
    exact ⟨v, hv, g v H H0 m d (Same.refl _) ok rv h⟩
  · exact h.elim
theorem pd_tC {e : Expr} {v : V} {d : D} (h : PE X e (tC v)) (r : ∀ H, Rp X.K H v d) : PE X e (lE (kw X) W (rC d)) := by
  refine PE.imp h fun σ H Q h => ?_
  obtain ⟨F, H0, m, δ, P, PX, ok, rs, h, g, gx⟩ := h
  exact g v H H0 m d (Same.refl _) ok (r H0) h
theorem pd_int {i : Int} {k : Nat} : PE X (.Constant (.int i) k pos) (lE (kw X) W (rC (.int i))) := pd_tC pe_int fun _ => .int i
theorem pd_str {x : Str} {k : Nat} : PE X (.Constant (.str x) k pos) (lE (kw X) W (rC (.str x))) := pd_tC pe_str fun _ => .str x
theorem pd_bl {x : Bool} {k : Nat} : PE X (.Constant (.bool x) k pos) (lE (kw X) W (rC (.bl x))) := pd_tC pe_bl fun _ => .bl x
theorem pd_non {k : Nat} : PE X (.Constant .none k pos) (lE (kw X) W (rC .non)) := pd_tC pe_non fun _ => .non
theorem pd_ty {x : Str} {n : String} (hm : X.mg x = none) (hv : bootBuiltins x = some (.type n)) (hg : Gl X x := by rfl) (hn : x ≠ "__name__" := by decide) (hd : (x == ("__debug__" : Str)) = false := by decide) : PE X (.Name x pos) (lE (kw X) W (rC (.ty n))) := pd_tC (pe_bltn hg hm hv (v := .ty n) rfl hn hd) fun _ => .ty n
/-! ### operations on two values -/
abbrev DO := D → D → Mu → DK → Prop
def OpD (K : KW) (r : R2) (ro : DO) : Prop := ∀ F H0 m H x y dx dy P Q, Ok K F H0 m H → Rp K H0 x dx → Rp K H0 y dy → ro dx dy m P → GV K F H0 P Q → r x y H Q
def rOp (ro : DO) (ra rb : DE) : DE := fun δ m P PX => ra δ m (fun x m1 => rb δ m1 (fun y m2 => ro x y m2 P) PX) PX
theorem lE_op {K : KW} {r : R2} {ro : DO} (od : OpD K r ro) {σ : St} {H : Hp} {Q : VK} (h : lE K W (rOp ro ra rb) σ H Q) : tOp r (lE K W ra) (lE K W rb) σ H Q := by
  obtain ⟨F, H0, m, δ, P, PX, ok, rs, h, g, gx⟩ := h
  exact ⟨F, H0, m, δ, _, PX, ok, rs, h, fun x H1 H01 m1 d1 s1 ok1 r1 h1 => ⟨F, H01, m1, δ, _, PX, ok1, rs.mono s1, h1, fun y H2 H02 m2 d2 s2 ok2 r2 h2 => od F H02 m2 H2 x y d1 d2 P Q ok2 (r1.mono s2) r2 h2 (g.mono (s1.trans s2)), gx.mono s1⟩, gx⟩
theorem pd_op {op : Operator} {r : R2} {ro : DO} (ho : OpR X (binaryOp op) r) (od : OpD (kw X) r ro) (ha : PE X a (lE (kw X) W ra)) (hb : PE X b (lE (kw X) W rb)) : PE X (.BinOp a op b pos) (lE (kw X) W (rOp ro ra rb)) :=
  PE.imp (pe_op ho ha hb) fun _ _ _ h => lE_op od h
theorem pd_cmp {op : CmpOp} {r : R2} {ro : DO} (ho : OpR X (compareOp op) r) (od : OpD (kw X) r ro) (ha : PE X a (lE (kw X) W ra)) (hb : PE X b (lE (kw X) W rb)) (hm : behindInMarks op b = false := by first | exact nomark _ | rfl) : PE X (.Compare a [op] [b] pos) (lE (kw X) W (rOp ro ra rb)) :=
  PE.imp (pe_cmpR ho ha hb hm) fun _ _ _ h => lE_op od h
theorem OpD.or {K : KW} {F : Hp} {r r' : R2} {ro : DO} (h : ∀ F H0 m H x y dx dy P Q, Ok K F H0 m H → Rp K H0 x dx → Rp K H0 y dy → ro dx dy m P → GV K F H0 P Q → r x y H Q ∨ r' x y H Q) : OpD K (fun x y H Q => r x y H Q ∨ r' x y H Q) ro := h
/-- new lists, new tuples -/
theorem GV.lst {K : KW} {F : Hp} {H0 H : Hp} {m : Mu} {P : DK} {Q : VK} {p : Addr} {vs : List V} {ds : List D} (g : GV K F H0 P Q) (ok : Ok K F H0 m H) (hp : H p = none) (r : RpL K H0 vs ds) (h : P (.lst ds) m) : Q (.ref p) (upd H p (.lst vs)) :=
  g _ _ (upd H0 p (.lst vs)) m _ (same_new (ok.free hp).1) (ok.new hp _) (.lst (SqL.of upd_same) (r.mono (same_new (ok.free hp).1))) h
theorem GV.tup {K : KW} {F : Hp} {H0 H : Hp} {m : Mu} {P : DK} {Q : VK} {p : Addr} {vs : List V} {ds : List D} (g : GV K F H0 P Q) (ok : Ok K F H0 m H) (hp : H p = none) (r : RpL K H0 vs ds) (h : P (.tup ds) m) : Q (.ref p) (upd H p (.tup vs)) :=
  g _ _ (upd H0 p (.tup vs)) m _ (same_new (ok.free hp).1) (ok.new hp _) (.tup (SqT.of upd_same) (r.mono (same_new (ok.free hp).1))) h
theorem GV.id {K : KW} {F : Hp} {H0 H : Hp} {m : Mu} {P : DK} {Q : VK} {v : V} {d : D} (g : GV K F H0 P Q) (ok : Ok K F H0 m H) (r : Rp K H0 v d) (h : P d m) : Q v H := g _ _ H0 m _ (Same.refl _) ok r h
theorem RpL.length {K : PySem.W.Frag} {H : Hp} : ∀ {vs : List V} {ds : List D}, RpL K H vs ds → vs.length = ds.length
  | _, _, .nil => rfl
  | _, _, .cons _ r => by simp [RpL.length r]
theorem RpL.append {K : PySem.W.Frag} {H : Hp} : ∀ {vs ws : List V} {ds es : List D}, RpL K H vs ds → RpL K H ws es → RpL K H (vs ++ ws) (ds ++ es)
  | _, _, _, _, .nil, s => s
  | _, _, _, _, .cons h r, s => .cons h (RpL.append r s)
theorem RpL.get {K : PySem.W.Frag} {H : Hp} : ∀ {vs : List V} {ds : List D} {i : Nat} {d : D}, RpL K H vs ds → ds[i]? = some d → ∃ v, vs[i]? = some v ∧ Rp K H v d
  | _, _, _, _, .nil, e => by simp at e
  | _, _, 0, _, .cons h _, e => by simp at e; subst e; exact ⟨_, rfl, h⟩
  | _, _, i + 1, d, .cons _ t, e => by
    obtain ⟨u, h1, h2⟩ := RpL.get (i := i) (d := d) t (by simpa using e)
    exact ⟨u, by simpa using h1, h2⟩
theorem RpL.getV {K : PySem.W.Frag} {H : Hp} : ∀ {vs : List V} {ds : List D} {i : Nat} {v : V}, RpL K H vs ds → vs[i]? = some v → ∃ d, ds[i]? = some d ∧ Rp K H v d
  | _, _, _, _, .nil, e => by simp at e
  | _, _, 0, _, .cons h _, e => by simp at e; subst e; exact ⟨_, rfl, h⟩
  | _, _, i + 1, d, .cons _ t, e => by
    obtain ⟨u, h1, h2⟩ := RpL.getV (i := i) (v := d) t (by simpa using e)
    exact ⟨u, by simpa using h1, h2⟩
theorem RpL.take {K : PySem.W.Frag} {H : Hp} : ∀ {vs : List V} {ds : List D} (n : Nat), RpL K H vs ds → RpL K H (vs.take n) (ds.take n)
  | _, _, 0, _ => .nil
  | _, _, _ + 1, .nil => .nil
  | _, _, n + 1, .cons h r => .cons h (RpL.take n r)
theorem RpL.drop {K : PySem.W.Frag} {H : Hp} : ∀ {vs : List V} {ds : List D} (n : Nat), RpL K H vs ds → RpL K H (vs.drop n) (ds.drop n)
  | _, _, 0, r => r
  | _, _, _ + 1, .nil => .nil
  | _, _, n + 1, .cons _ r => RpL.drop n r
theorem RpL.set {K : PySem.W.Frag} {H : Hp} {v : V} {d : D} (q : Rp K H v d) : ∀ {vs : List V} {ds : List D} (n : Nat), RpL K H vs ds → RpL K H (vs.set n v) (ds.set n d)
  | _, _, _, .nil => .nil
  | _, _, 0, .cons _ r => .cons q r
  | _, _, n + 1, .cons h r => .cons h (RpL.set q n r)
theorem RpL.snoc {K : PySem.W.Frag} {H : Hp} {vs : List V} {ds : List D} {v : V} {d : D} (r : RpL K H vs ds) (h : Rp K H v d) : RpL K H (vs ++ [v]) (ds ++ [d]) := r.append (.cons h .nil)
def cutD (xs : List D) (lo hi : Option Int) : List D := (xs.drop (HT.sIx xs.length 0 lo)).take (HT.sIx xs.length xs.length hi - HT.sIx xs.length 0 lo)
theorem RpL.cut {K : PySem.W.Frag} {H : Hp} {vs : List V} {ds : List D} (r : RpL K H vs ds) (lo hi : Option Int) : RpL K H (cutV vs lo hi) (cutD ds lo hi) := by
  unfold cutV cutD
  rw [r.length]
  exact (r.drop _).take _
theorem RpL.at_ {K : PySem.W.Frag} {H : Hp} {vs : List V} {ds : List D} {i : Int} {d : D} (r : RpL K H vs ds) (h : atI ds i = some d) : ∃ v, atI vs i = some v ∧ Rp K H v d := by
  unfold atI at h ⊢
  rw [r.length]
  cases e : ixN ds.length i with
  | none => rw [e] at h; cases h
  | some j =>
    rw [e] at h
    exact r.get h
/-- what is read as a list: one that never changes, or one of ours -/
def asL (m : Mu) : D → Option (List D)
  | .lst ds => some ds
  | .adr a => match m a with
    | some (.lst ds) => some ds
    | _ => none
  | _ => none
theorem asL_rp {K : KW} {F : Hp} {H0 H : Hp} {m : Mu} {v : V} {d : D} {ds : List D} (ok : Ok K F H0 m H) (r : Rp K H0 v d) (h : asL m d = some ds) : ∃ a vs, v = .ref a ∧ SqL K H a vs ∧ RpL K H0 vs ds := by
  cases d with
  | lst es =>
    cases h
    cases r with
    | lst q t => exact ⟨_, _, rfl, ok.same.seq q, t⟩
  | adr a =>
    cases r
    unfold asL at h
    dsimp only at h
    split at h
    · rename_i ds' e
      cases h
      obtain ⟨_, vs, hv, rv⟩ := ok.cell a _ e
      exact ⟨a, vs, rfl, SqL.of hv, rv⟩
    · cases h
  | _ => cases h
theorem tup_rp {K : KW} {F : Hp} {H0 H : Hp} {m : Mu} {v : V} {ds : List D} (ok : Ok K F H0 m H) (r : Rp K H0 v (.tup ds)) : ∃ a vs, v = .ref a ∧ SqT K H a vs ∧ RpL K H0 vs ds := by
  cases r with
  | tup q t => exact ⟨_, _, rfl, seqT_mono ok.same q, t⟩
end
/-! ### list + list, whatever they are -/
section
variable {X : Cx}
def rCatQ (K : PySem.W.Frag) : R2 := fun x y H Q => ∃ l b xs zs, x = .ref l ∧ y = .ref b ∧ SqL K H l xs ∧ SqL K H b zs ∧ xs.length + zs.length ≤ sizeLine ∧ ∀ p, H p = none → Q (.ref p) (upd H p (.lst (xs ++ zs)))
theorem op_catQ : OpR X (binaryOp .Add) (rCatQ X.K) := by
  intro pins s σ H x y v u Q I rx ry h
  obtain ⟨l, b, xs, zs, rfl, rfl, hH, hB, hz, q⟩ := h
  cases rx
  cases ry
  obtain ⟨its, r, ⟨o, n, e, hc, hd, hs⟩, _⟩ := I.list hH
  obtain ⟨its2, r2, ⟨o2, n2, e2, hc2, hd2, hs2⟩, _⟩ := I.list hB
  have hl := r.length
  have hl2 := r2.length
  obtain ⟨oc, od, dt, sl⟩ := o
  obtain ⟨oc2, od2, dt2, sl2⟩ := o2
  simp only at hc hd hs hc2 hd2 hs2
  subst hc hd hs hc2 hd2 hs2
  have ea : its.toArray ++ its2.toArray = (its ++ its2).toArray := by simp
  refine PySem.concat_meets ⟨_, e, rfl⟩ ⟨_, e2, rfl⟩ PySem.noFill_list_add PySem.seq_list_add PySem.F.slot_list_add PySem.F.entry_list_add (PySem.F.args_list_add_2 _ _) (PyProof.Rows.list_addW l b its.toArray its2.toArray n n2 none none sl sl2 (by rw [List.size_toArray, List.size_toArray]; omega)) ⟨e, e2, ?_⟩
  rw [ea]
  exact ⟨.ref _, _, I.lnew (t' := s.toks) (r.append r2) (by rw [List.length_append]; omega), rfl, q _ I.fresh⟩
end
end DL
namespace DL
open PySem L2
section
variable {X : Cx} {W : WX} {a b c : Expr} {ra rb rc : DE} {pos : Pos}
/-! ### arithmetic -/
def oAdd : DO := fun x y m P => match x, y with
  | .int i, .int j => P (.int (i + j)) m
  | .str i, .str j => i.length + j.length ≤ sizeLine ∧ P (.str (i ++ j)) m
  | .tup i, .tup j => i.length + j.length ≤ sizeLine ∧ P (.tup (i ++ j)) m
  | x, y => match asL m x, asL m y with
    | some i, some j => i.length + j.length ≤ sizeLine ∧ P (.lst (i ++ j)) m
    | _, _ => False
theorem add_ok (X : Cx) : ∃ r, OpR X (binaryOp .Add) r ∧ OpD (kw X) r oAdd := by
  refine ⟨_, op_add.or (op_add_str.or (op_catA.or op_catQ)), ?_⟩
  intro F H0 m H x y dx dy P Q ok rx ry h g
  have fin : (match asL m dx, asL m dy with
    | some i, some j => i.length + j.length ≤ sizeLine ∧ P (.lst (i ++ j)) m
    | _, _ => False) → rCatQ X.K x y H Q := fun h => by
    split at h
    · rename_i i j e1 e2
      obtain ⟨hz, h⟩ := h
      obtain ⟨p, vs, rfl, q1, r1⟩ := asL_rp ok rx e1
      obtain ⟨p2, ws, rfl, q2, r2⟩ := asL_rp ok ry e2
      exact ⟨p, p2, vs, ws, rfl, rfl, q1, q2, by rw [r1.length, r2.length]; exact hz, fun z hz => g.lst ok hz (r1.append r2) h⟩
    · exact h.elim
  unfold oAdd at h
  split at h
  · cases rx; cases ry
    exact .inl ⟨_, _, rfl, rfl, g.id ok (.int _) h⟩
  · cases rx; cases ry
    exact .inr (.inl ⟨_, _, rfl, rfl, h.1, g.id ok (.str _) h.2⟩)
  · rename_i i j
    obtain ⟨p, vs, rfl, q1, r1⟩ := tup_rp ok rx
    obtain ⟨p2, ws, rfl, q2, r2⟩ := tup_rp ok ry
    refine .inr (.inr (.inl ⟨p, p2, vs, ws, rfl, rfl, q1, q2, by rw [r1.length, r2.length]; exact h.1, fun e => ?_, fun _ e => ?_, fun _ _ z hz => g.tup ok hz (r1.append r2) h.2⟩))
    · subst e
      cases r1
      exact g.id ok ry h.2
    · subst e
      cases r2
      have h2 := h.2
      rw [List.append_nil] at h2
      exact g.id ok rx h2
  · exact .inr (.inr (.inr (fin h)))
theorem pd_add (ha : PE X a (lE (kw X) W ra)) (hb : PE X b (lE (kw X) W rb)) : PE X (.BinOp a .Add b pos) (lE (kw X) W (rOp oAdd ra rb)) :=
  let ⟨_, h1, h2⟩ := add_ok X
  pd_op h1 h2 ha hb
def oI (C : Int → Int → Prop) (f : Int → Int → D) : DO := fun x y m P => match x, y with
  | .int i, .int j => C i j ∧ P (f i j) m
  | _, _ => False
def oI0 (f : Int → Int → D) : DO := fun x y m P => match x, y with
  | .int i, .int j => P (f i j) m
  | _, _ => False
theorem opI_ok {K : KW} {C : Int → Int → Prop} {g : Int → Int → V} {f : Int → Int → D} (r : ∀ H i j, Rp K H (g i j) (f i j)) : OpD K (rI C g) (oI C f) := by
  intro F H0 m H x y dx dy P Q ok rx ry h gv
  unfold oI at h
  split at h
  · cases rx; cases ry
    exact ⟨_, _, rfl, rfl, h.1, gv.id ok (r _ _ _) h.2⟩
  · exact h.elim
theorem opI0_ok {K : KW} {g : Int → Int → V} {f : Int → Int → D} (r : ∀ H i j, Rp K H (g i j) (f i j)) : OpD K (rI0 g) (oI0 f) := by
  intro F H0 m H x y dx dy P Q ok rx ry h gv
  unfold oI0 at h
  split at h
  · cases rx; cases ry
    exact ⟨_, _, rfl, rfl, gv.id ok (r _ _ _) h⟩
  · exact h.elim
abbrev oSub : DO := oI0 fun i j => .int (i - j)
abbrev oMul : DO := oI CMul fun i j => .int (i * j)
abbrev oDiv : DO := oI CDivW fun i j => .int (i / j)
abbrev oMod : DO := oI (fun _ j => 0 < j) fun i j => .int (i % j)
abbrev oPow : DO := oI CPow fun i j => .int (i ^ j.toNat)
theorem pd_sub (ha : PE X a (lE (kw X) W ra)) (hb : PE X b (lE (kw X) W rb)) : PE X (.BinOp a .Sub b pos) (lE (kw X) W (rOp oSub ra rb)) := pd_op op_sub (opI0_ok fun _ _ _ => .int _) ha hb
theorem pd_mul (ha : PE X a (lE (kw X) W ra)) (hb : PE X b (lE (kw X) W rb)) : PE X (.BinOp a .Mult b pos) (lE (kw X) W (rOp oMul ra rb)) := pd_op op_mul (opI_ok fun _ _ _ => .int _) ha hb
theorem pd_div (ha : PE X a (lE (kw X) W ra)) (hb : PE X b (lE (kw X) W rb)) : PE X (.BinOp a .FloorDiv b pos) (lE (kw X) W (rOp oDiv ra rb)) := pd_op op_fdivW (opI_ok fun _ _ _ => .int _) ha hb
theorem pd_mod (ha : PE X a (lE (kw X) W ra)) (hb : PE X b (lE (kw X) W rb)) : PE X (.BinOp a .Mod b pos) (lE (kw X) W (rOp oMod ra rb)) := pd_op op_mod (opI_ok fun _ _ _ => .int _) ha hb
theorem pd_pow (ha : PE X a (lE (kw X) W ra)) (hb : PE X b (lE (kw X) W rb)) : PE X (.BinOp a .Pow b pos) (lE (kw X) W (rOp oPow ra rb)) := pd_op op_pow (opI_ok fun _ _ _ => .int _) ha hb
/-! ### comparisons -/
abbrev oLt : DO := oI0 fun i j => .bl (decide (i < j))
abbrev oLe : DO := oI0 fun i j => .bl (decide (i ≤ j))
abbrev oGt : DO := oI0 fun i j => .bl (decide (j < i))
abbrev oGe : DO := oI0 fun i j => .bl (decide (j ≤ i))
theorem lt_ok : OpD (kw X) (rI0 fun i j => .bl (decide (i < j))) oLt := opI0_ok fun _ _ _ => .bl _
theorem le_ok : OpD (kw X) (rI0 fun i j => .bl (decide (i ≤ j))) oLe := opI0_ok fun _ _ _ => .bl _
theorem gt_ok : OpD (kw X) (rI0 fun i j => .bl (decide (j < i))) oGt := opI0_ok fun _ _ _ => .bl _
theorem ge_ok : OpD (kw X) (rI0 fun i j => .bl (decide (j ≤ i))) oGe := opI0_ok fun _ _ _ => .bl _
/-! ### data as the library's data -/
mutual
def py : D → PyData
  | .non => .none
  | .bl b => .bool b
  | .int i => .int i
  | .str x => .str x
  | .lst ds => .list (pyL ds)
  | .tup ds => .tuple (pyL ds)
  | .ty _ => .dict []
  | .adr _ => .dict []
  | .glb _ => .dict []
  | .exc _ _ _ _ _ => .dict []
  | .dct _ => .dict []
  | .ins _ _ => .dict []
def pyL : List D → List PyData
  | [] => []
  | d :: ds => py d :: pyL ds
end
mutual
theorem dp_of {K : PySem.W.Frag} {H : Hp} : ∀ {v : V} {d : D}, Rp K H v d → (py d).canLay0 = true → Dp K H v (py d)
  | _, _, .non, _ => by rw [py]; exact .non
  | _, _, .bl b, _ => by rw [py]; exact .bl b
  | _, _, .int i, _ => by rw [py]; exact .int i
  | _, _, .str x, _ => by rw [py]; exact .str x
  | _, _, .ty n, h => by rw [py, PyData.canLay0] at h; cases h
  | _, _, .adr a, h => by rw [py, PyData.canLay0] at h; cases h
  | _, _, .glb _, h => by rw [py, PyData.canLay0] at h; cases h
  | _, _, .exc _ _ _ _, h => by rw [py, PyData.canLay0] at h; cases h
  | _, _, .dct _ _ _, h => by rw [py, PyData.canLay0] at h; cases h
  | _, _, .ins _ _ _ _, h => by rw [py, PyData.canLay0] at h; cases h
  | _, _, .lst q r, h => by rw [py, PyData.canLay0] at h; rw [py]; exact .lst q (dpL_of r h)
  | _, _, .tup q r, h => by rw [py, PyData.canLay0] at h; rw [py]; exact .tup q (dpL_of r h)
theorem dpL_of {K : PySem.W.Frag} {H : Hp} : ∀ {vs : List V} {ds : List D}, RpL K H vs ds → PyData.canLayAll0 (pyL ds) = true → DpAll K H vs (pyL ds)
  | _, _, .nil, _ => by rw [pyL]; exact .nil
  | _, _, .cons q r, h => by
    rw [pyL, PyData.canLayAll0, Bool.and_eq_true] at h
    rw [pyL]
    exact .cons (dp_of q h.1) (dpL_of r h.2)
end
/-- a list of ours, read as data -/
def dat (m : Mu) (d : D) : D := match asL m d with
  | some ds => .lst ds
  | none => d
theorem dat_rp {K : KW} {F : Hp} {H0 H : Hp} {m : Mu} {v : V} {d : D} (ok : Ok K F H0 m H) (r : Rp K H0 v d) : Rp K H v (dat m d) := by
  unfold dat
  split
  · rename_i ds e
    obtain ⟨p, vs, rfl, q, t⟩ := asL_rp ok r e
    exact .lst q (t.mono ok.same)
  · exact r.mono ok.same
def shp (d : D) : Prop := SeqAt.shaped (py d) = true
def deq (d e : D) : Bool := PyData.eqv (py d) (py e)
/-- two flat things whose == is plain -/
def flatEq : D → D → Option Bool
  | .non, .non => some true | .non, .int _ => some false | .int _, .non => some false | .non, .bl _ => some false | .bl _, .non => some false | .non, .str _ => some false | .str _, .non => some false
  | .int i, .int j => some (decide (i = j)) | .bl i, .bl j => some (decide (i = j)) | .str i, .str j => some (decide (i = j))
  | .int _, .str _ => some false | .str _, .int _ => some false | .bl _, .str _ => some false | .str _, .bl _ => some false
  | _, _ => none
def oEqN (neg : Bool) : DO := fun x y m P => match flatEq x y with
  | some k => P (.bl (if neg then !k else k)) m
  | none => shp (dat m x) ∧ shp (dat m y) ∧ P (.bl (if neg then !deq (dat m x) (dat m y) else deq (dat m x) (dat m y))) m
abbrev oEq : DO := oEqN false
abbrev oNe : DO := oEqN true
theorem flat_scal {K : PySem.W.Frag} {H : Hp} {x y : V} {dx dy : D} {k : Bool} (rx : Rp K H x dx) (ry : Rp K H y dy) (h : flatEq dx dy = some k) : scal x y = true ∧ decide (x = y) = k := by
  unfold flatEq at h
  split at h <;> first | (cases h; cases rx; cases ry; exact ⟨rfl, by simp⟩) | cases h
theorem eq_ok (hu : X.A.units + 64 < cLine) : ∃ r, OpR X (compareOp .Eq) r ∧ OpD (kw X) r oEq := by
  refine ⟨_, op_eq.or (op_eqD hu), ?_⟩
  intro F H0 m H x y dx dy P Q ok rx ry h g
  unfold oEq oEqN at h
  split at h
  · rename_i k e
    obtain ⟨h1, h2⟩ := flat_scal rx ry e
    exact .inl ⟨h1, by rw [h2]; exact g.id ok (.bl _) h⟩
  · obtain ⟨s1, s2, h⟩ := h
    exact .inr ⟨_, _, dp_of (dat_rp ok rx) (SeqAt.canLay_of_shaped s1), dp_of (dat_rp ok ry) (SeqAt.canLay_of_shaped s2), s1, s2, g.id ok (.bl _) h⟩
theorem ne_ok (hu : X.A.units + 64 < cLine) : ∃ r, OpR X (compareOp .NotEq) r ∧ OpD (kw X) r oNe := by
  refine ⟨_, op_ne.or (op_neD hu), ?_⟩
  intro F H0 m H x y dx dy P Q ok rx ry h g
  unfold oNe oEqN at h
  split at h
  · rename_i k e
    obtain ⟨h1, h2⟩ := flat_scal rx ry e
    exact .inl ⟨h1, by rw [h2]; exact g.id ok (.bl _) h⟩
  · obtain ⟨s1, s2, h⟩ := h
    exact .inr ⟨_, _, dp_of (dat_rp ok rx) (SeqAt.canLay_of_shaped s1), dp_of (dat_rp ok ry) (SeqAt.canLay_of_shaped s2), s1, s2, g.id ok (.bl _) h⟩
/-- is None -/
def isNone : D → Bool
  | .non => true
  | _ => false
def oIsN (neg : Bool) : DO := fun x y m P => match y with
  | .non => P (.bl (if neg then !isNone x else isNone x)) m
  | _ => False
theorem non_of {K : PySem.W.Frag} {H : Hp} {x : V} {dx : D} (rx : Rp K H x dx) : decide (x = .non) = isNone dx := by
  cases rx <;> simp [isNone]
theorem isN_ok : OpD (kw X) (fun x y H Q => y = .non ∧ Q (.bl (decide (x = .non))) H) (oIsN false) := by
  intro F H0 m H x y dx dy P Q ok rx ry h g
  unfold oIsN at h
  split at h
  · cases ry
    exact ⟨rfl, by rw [non_of rx]; exact g.id ok (.bl _) h⟩
  · exact h.elim
theorem notN_ok : OpD (kw X) (fun x y H Q => y = .non ∧ Q (.bl (!decide (x = .non))) H) (oIsN true) := by
  intro F H0 m H x y dx dy P Q ok rx ry h g
  unfold oIsN at h
  split at h
  · cases ry
    exact ⟨rfl, by rw [non_of rx]; exact g.id ok (.bl _) h⟩
  · exact h.elim
theorem pd_lt (ha : PE X a (lE (kw X) W ra)) (hb : PE X b (lE (kw X) W rb)) : PE X (.Compare a [.Lt] [b] pos) (lE (kw X) W (rOp oLt ra rb)) := pd_cmp op_lt lt_ok ha hb
theorem pd_le (ha : PE X a (lE (kw X) W ra)) (hb : PE X b (lE (kw X) W rb)) : PE X (.Compare a [.LtE] [b] pos) (lE (kw X) W (rOp oLe ra rb)) := pd_cmp op_le le_ok ha hb
theorem pd_ge (ha : PE X a (lE (kw X) W ra)) (hb : PE X b (lE (kw X) W rb)) : PE X (.Compare a [.GtE] [b] pos) (lE (kw X) W (rOp oGe ra rb)) := pd_cmp op_ge ge_ok ha hb
theorem pd_eq (hu : X.A.units + 64 < cLine) (ha : PE X a (lE (kw X) W ra)) (hb : PE X b (lE (kw X) W rb)) : PE X (.Compare a [.Eq] [b] pos) (lE (kw X) W (rOp oEq ra rb)) := let ⟨_, h1, h2⟩ := eq_ok hu; pd_cmp h1 h2 ha hb
theorem pd_isN (ha : PE X a (lE (kw X) W ra)) (hb : PE X b (lE (kw X) W rb)) : PE X (.Compare a [.Is] [b] pos) (lE (kw X) W (rOp (oIsN false) ra rb)) := pd_cmp op_isN isN_ok ha hb
theorem pd_notN (ha : PE X a (lE (kw X) W ra)) (hb : PE X b (lE (kw X) W rb)) : PE X (.Compare a [.IsNot] [b] pos) (lE (kw X) W (rOp (oIsN true) ra rb)) := pd_cmp op_notN notN_ok ha hb
/-! ### in -/
def flatD : D → Bool
  | .non => true | .bl _ => true | .int _ => true | .str _ => true | _ => false
def inStr (w z : Str) : Bool := match w.cps.toList with
  | [c] => decide (c ∈ z.cps.toList)
  | _ => !(Builtin.Str.occurrences z w 0 z.length 1).isEmpty
def oInN (neg : Bool) : DO := fun x y m P => match y with
  | .str z => match x with
    | .str w => P (.bl (if neg then !inStr w z else inStr w z)) m
    | _ => False
  | .tup ds => (flatD x = true ∧ ds.all flatD = true) ∧ P (.bl (if neg then !ds.any (fun z => deq z x) else ds.any fun z => deq z x)) m
  | y => match asL m y with
    | some ds => ((flatD x = true ∧ ds.all flatD = true) ∨ (shp (dat m x) ∧ shp (.lst ds))) ∧ P (.bl (if neg then !ds.any (fun z => deq z (dat m x)) else ds.any fun z => deq z (dat m x))) m
    | none => False
theorem flat_rp {K : PySem.W.Frag} {H : Hp} {x : V} {dx : D} (rx : Rp K H x dx) (h : flatD dx = true) : flatV x = true := by
  cases rx <;> first | rfl | cases h
theorem flatL_rp {K : PySem.W.Frag} {H : Hp} : ∀ {vs : List V} {ds : List D}, RpL K H vs ds → ds.all flatD = true → vs.all flatV = true
  | _, _, .nil, _ => rfl
  | _, _, .cons q r, h => by
    simp only [List.all_cons, Bool.and_eq_true] at h ⊢
    exact ⟨flat_rp q h.1, flatL_rp r h.2⟩
theorem flat_eq {K : PySem.W.Frag} {H H' : Hp} {x y : V} {dx dy : D} (rx : Rp K H x dx) (ry : Rp K H' y dy) (h : flatD dx = true) (h' : flatD dy = true) : eqV x y = deq dx dy := by
  unfold deq
  cases rx <;> first | cases h | skip
  all_goals (cases ry <;> first | cases h' | skip)
  all_goals (simp only [py, PyData.eqv, eqV])
theorem flat_any {K : PySem.W.Frag} {H H' : Hp} {x : V} {dx : D} (rx : Rp K H' x dx) (hx : flatD dx = true) : ∀ {vs : List V} {ds : List D}, RpL K H vs ds → ds.all flatD = true → inV x vs = ds.any fun z => deq z dx
  | _, _, .nil, _ => rfl
  | _, _, .cons q r, h => by
    simp only [List.all_cons, Bool.and_eq_true] at h
    have ih := flat_any rx hx r h.2
    unfold inV at ih ⊢
    simp only [List.any_cons]
    rw [ih, flat_eq q rx h.1 hx]
theorem dat_flat {m : Mu} {d : D} (h : flatD d = true) : dat m d = d := by
  cases d <;> first | rfl | cases h
theorem pyL_any (d : PyData) : ∀ ds : List D, (pyL ds).any (fun z => PyData.eqv z d) = ds.any fun z => PyData.eqv (py z) d
  | [] => by rw [pyL]; rfl
  | e :: ds => by rw [pyL, List.any_cons, List.any_cons, pyL_any d ds]
theorem in_core (neg : Bool) (hu : X.A.units + 65 < cLine) {op : CmpOp} (h1 : OpR X (compareOp op) (fun x y H Q => ∃ i j, x = .str i ∧ y = .str j ∧ Q (.bl (if neg then !(!(Builtin.Str.occurrences j i 0 j.length 1).isEmpty) else !(Builtin.Str.occurrences j i 0 j.length 1).isEmpty)) H))
    (h2 : OpR X (compareOp op) (fun x y H Q => ∃ (c : Nat) (z : Str), x = .str ⟨#[c]⟩ ∧ y = .str z ∧ Q (.bl (if neg then !decide (c ∈ z.cps.toList) else decide (c ∈ z.cps.toList))) H)) (h3 : OpR X (compareOp op) (rIn X.K neg))
    (h4 : OpR X (compareOp op) (fun x y H Q => ∃ d ds, Dp X.K H x d ∧ Dp X.K H y (.list ds) ∧ SeqAt.shaped d = true ∧ SeqAt.shaped (.list ds) = true ∧ Q (.bl (if neg then !ds.any fun z => PyData.eqv z d else ds.any fun z => PyData.eqv z d)) H)) :
    ∃ r, OpR X (compareOp op) r ∧ OpD (kw X) r (oInN neg) := by
  refine ⟨_, h1.or (h2.or (h3.or h4)), ?_⟩
  intro F H0 m H x y dx dy P Q ok rx ry h g
  unfold oInN at h
  split at h
  · rename_i z
    split at h
    · rename_i w
      cases rx; cases ry
      by_cases hc : ∃ c, w.cps.toList = [c]
      · obtain ⟨c, hc⟩ := hc
        have e : inStr w z = decide (c ∈ z.cps.toList) := by unfold inStr; rw [hc]
        rw [e] at h
        refine .inr (.inl ⟨c, z, ?_, rfl, g.id ok (.bl _) h⟩)
        obtain ⟨cp⟩ := w
        have : cp = #[c] := by
          have h2 : cp.toList = [c] := hc
          have := congrArg List.toArray h2
          simpa using this
        rw [this]
      · have e : inStr w z = !(Builtin.Str.occurrences z w 0 z.length 1).isEmpty := by
          unfold inStr
          split
          · rename_i c hw
            exact absurd ⟨c, hw⟩ hc
          · rfl
        rw [e] at h
        exact .inl ⟨w, z, rfl, rfl, g.id ok (.bl _) h⟩
    · exact h.elim
  · rename_i ds
    obtain ⟨⟨f1, f2⟩, h⟩ := h
    obtain ⟨p, vs, rfl, q, r⟩ := tup_rp ok ry
    refine .inr (.inr (.inl ⟨p, vs, rfl, .inr q, flat_rp rx f1, flatL_rp r f2, ?_⟩))
    rw [flat_any rx f1 r f2]
    exact g.id ok (.bl _) h
  · split at h
    · rename_i ds e
      obtain ⟨f, h⟩ := h
      obtain ⟨p, vs, rfl, q, r⟩ := asL_rp ok ry e
      rcases f with ⟨f1, f2⟩ | ⟨s1, s2⟩
      · refine .inr (.inr (.inl ⟨p, vs, rfl, .inl q, flat_rp rx f1, flatL_rp r f2, ?_⟩))
        rw [dat_flat f1] at h
        rw [flat_any rx f1 r f2]
        exact g.id ok (.bl _) h
      · have e2 : py (.lst ds) = .list (pyL ds) := by rw [py]
        have s2' := s2
        unfold shp at s2'
        rw [e2] at s2'
        have hd := dp_of (Rp.lst q (r.mono ok.same)) (SeqAt.canLay_of_shaped s2)
        rw [e2] at hd
        refine .inr (.inr (.inr ⟨_, _, dp_of (dat_rp ok rx) (SeqAt.canLay_of_shaped s1), hd, s1, s2', ?_⟩))
        rw [pyL_any]
        exact g.id ok (.bl _) h
    · exact h.elim
theorem notIn_ok (hu : X.A.units + 65 < cLine) : ∃ r, OpR X (compareOp .NotIn) r ∧ OpD (kw X) r (oInN true) := in_core true hu op_notin_str (by
  intro pins s σ H x y v u Q I rx ry h
  exact op_notIn_sign pins s σ H x y v u Q I rx ry h) op_notIn_seq (op_notInD hu)
end
end DL
namespace DL
open PySem L2
section
variable {X : Cx} {W : WX} {a b c : Expr} {ra rb rc : DE} {pos : Pos}
/-! ### tests -/
def truD (m : Mu) : D → Option Bool
  | .non => some false
  | .bl b => some b
  | .int i => some (i != 0)
  | .tup ds => some (!ds.isEmpty)
  | d => match asL m d with
    | some ds => some (!ds.isEmpty)
    | none => none
def rTru (ra : DE) : DT := fun δ m P PX => ra δ m (fun x m1 => match x with
  | .bl b => P b m1
  | .str y => y.length ≤ sizeLine ∧ P ((y.length : Int) != 0) m1
  | x => match truD m1 x with
    | some k => P k m1
    | none => False) PX
theorem isEmpty_rp {K : PySem.W.Frag} {H : Hp} {vs : List V} {ds : List D} (r : RpL K H vs ds) : vs.isEmpty = ds.isEmpty := by cases r <;> rfl
theorem tru_rp {K : KW} {F : Hp} {H0 H : Hp} {m : Mu} {v : V} {d : D} {k : Bool} (ok : Ok K F H0 m H) (r : Rp K H0 v d) (h : truD m d = some k) : TruV K v H k := by
  have fin : (match asL m d with | some ds => some (!ds.isEmpty) | none => none) = some k → TruV K v H k := fun h => by
    split at h
    · rename_i ds e
      cases h
      obtain ⟨p, vs, rfl, q, t⟩ := asL_rp ok r e
      exact .inl ⟨vs, q, by rw [isEmpty_rp t]⟩
    · cases h
  cases r with
  | non => cases h; rfl
  | bl b => cases h; rfl
  | int i => cases h; rfl
  | str x => exact fin h
  | ty n => exact fin h
  | adr p => exact fin h
  | lst q t => exact fin h
  | tup q t => cases h; exact .inr (.inl ⟨_, seqT_mono ok.same q, by rw [isEmpty_rp t]⟩)
  | dct _ _ _ => exact fin h
  | ins _ _ _ _ => exact fin h
  | glb _ => exact fin h
  | exc _ _ _ _ => exact fin h
theorem dt_tru (ha : PE X a (lE (kw X) W ra)) (he : ∀ whole, isTrue a X.env whole = (do let v ← whole; standAt a.pos; holding [v] (truthy v)) := by intro _; rfl) : PT X a (lT (kw X) W (rTru ra)) := by
  refine PT.imp (pt_truth ha he) fun σ H Q h => ?_
  obtain ⟨F, H0, m, δ, P, PX, ok, rs, h, g, gx⟩ := h
  refine ⟨F, H0, m, δ, _, PX, ok, rs, h, fun x H1 H01 m1 d s1 ok1 r1 h1 => ?_, gx⟩
  dsimp only at h1
  split at h1
  · cases r1
    exact ⟨_, rfl, g _ _ _ _ s1 ok1 h1⟩
  · cases r1
    exact ⟨_, ⟨h1.1, rfl⟩, g _ _ _ _ s1 ok1 h1.2⟩
  · split at h1
    · rename_i k e
      exact ⟨_, tru_rp ok1 r1 e, g _ _ _ _ s1 ok1 h1⟩
    · exact h1.elim
/-- a comparison as a test -/
def rTst (ra : DE) : DT := fun δ m P PX => ra δ m (fun x m1 => match x with | .bl b => P b m1 | _ => False) PX
theorem lT_test {K : KW} {σ : St} {H : Hp} {Q : Bool → Hp → Prop} (h : lT K W (rTst ra) σ H Q) : tTest (lE K W ra) σ H Q := by
  obtain ⟨F, H0, m, δ, P, PX, ok, rs, h, g, gx⟩ := h
  refine ⟨F, H0, m, δ, _, PX, ok, rs, h, fun x H1 H01 m1 d s1 ok1 r1 h1 => ?_, gx⟩
  dsimp only at h1
  split at h1
  · cases r1
    exact ⟨_, rfl, g _ _ _ _ s1 ok1 h1⟩
  · exact h1.elim
theorem tOp_mono {K : KW} {r : R2} {ro : DO} (od : OpD K r ro) {σ : St} {H : Hp} {Q : Bool → Hp → Prop} (h : lT K W (rTst (rOp ro ra rb)) σ H Q) : tTest (tOp r (lE K W ra) (lE K W rb)) σ H Q := lE_op od (lT_test h)
theorem dt_cmp {op : CmpOp} {r : R2} {ro : DO} (ho : OpR X (compareOp op) r) (od : OpD (kw X) r ro) (ha : PE X a (lE (kw X) W ra)) (hb : PE X b (lE (kw X) W rb)) (hm : behindInMarks op b = false := by first | exact nomark _ | rfl) : PT X (.Compare a [op] [b] pos) (lT (kw X) W (rTst (rOp ro ra rb))) :=
  PT.imp (pt_cmpR ho ha hb hm) fun _ _ _ h => tOp_mono od h
theorem dt_lt (ha : PE X a (lE (kw X) W ra)) (hb : PE X b (lE (kw X) W rb)) : PT X (.Compare a [.Lt] [b] pos) (lT (kw X) W (rTst (rOp oLt ra rb))) := dt_cmp op_lt lt_ok ha hb
theorem dt_gt (ha : PE X a (lE (kw X) W ra)) (hb : PE X b (lE (kw X) W rb)) : PT X (.Compare a [.Gt] [b] pos) (lT (kw X) W (rTst (rOp oGt ra rb))) := dt_cmp op_gt gt_ok ha hb
theorem dt_eq (hu : X.A.units + 64 < cLine) (ha : PE X a (lE (kw X) W ra)) (hb : PE X b (lE (kw X) W rb)) : PT X (.Compare a [.Eq] [b] pos) (lT (kw X) W (rTst (rOp oEq ra rb))) := let ⟨_, h1, h2⟩ := eq_ok hu; dt_cmp h1 h2 ha hb
theorem dt_ne (hu : X.A.units + 64 < cLine) (ha : PE X a (lE (kw X) W ra)) (hb : PE X b (lE (kw X) W rb)) : PT X (.Compare a [.NotEq] [b] pos) (lT (kw X) W (rTst (rOp oNe ra rb))) := let ⟨_, h1, h2⟩ := ne_ok hu; dt_cmp h1 h2 ha hb
theorem dt_isN (ha : PE X a (lE (kw X) W ra)) (hb : PE X b (lE (kw X) W rb)) : PT X (.Compare a [.Is] [b] pos) (lT (kw X) W (rTst (rOp (oIsN false) ra rb))) := dt_cmp op_isN isN_ok ha hb
theorem dt_notN (ha : PE X a (lE (kw X) W ra)) (hb : PE X b (lE (kw X) W rb)) : PT X (.Compare a [.IsNot] [b] pos) (lT (kw X) W (rTst (rOp (oIsN true) ra rb))) := dt_cmp op_notN notN_ok ha hb
theorem dt_notIn (hu : X.A.units + 65 < cLine) (ha : PE X a (lE (kw X) W ra)) (hb : PE X b (lE (kw X) W rb)) (hm : behindInMarks .NotIn b = false := by rfl) : PT X (.Compare a [.NotIn] [b] pos) (lT (kw X) W (rTst (rOp (oInN true) ra rb))) := let ⟨_, h1, h2⟩ := notIn_ok hu; dt_cmp h1 h2 ha hb hm
/-! ### chains of whole numbers -/
def rChain (ro ro' : DO) (ra rb rc : DE) : DE := fun δ m P PX => ra δ m (fun x m1 => rb δ m1 (fun y m2 => ro x y m2 fun z m3 => match z with
  | .bl true => rc δ m3 (fun w m4 => ro' y w m4 P) PX
  | .bl false => P (.bl false) m3
  | _ => False) PX) PX
theorem lE_chain {K : KW} {r r' : R2} {ro ro' : DO} (od : OpD K r ro) (od' : OpD K r' ro') {σ : St} {H : Hp} {Q : VK} (h : lE K W (rChain ro ro' ra rb rc) σ H Q) : tChain r r' (lE K W ra) (lE K W rb) (lE K W rc) σ H Q := by
  obtain ⟨F, H0, m, δ, P, PX, ok, rs, h, g, gx⟩ := h
  refine ⟨F, H0, m, δ, _, PX, ok, rs, h, fun x H1 H01 m1 d1 s1 ok1 r1 h1 => ⟨F, H01, m1, δ, _, PX, ok1, rs.mono s1, h1, fun y H2 H02 m2 d2 s2 ok2 r2 h2 => ?_, gx.mono s1⟩, gx⟩
  refine od F H02 m2 H2 x y d1 d2 _ _ ok2 (r1.mono s2) r2 h2 fun z H3 H03 m3 d3 s3 ok3 r3 h3 => ?_
  split at h3
  · cases r3
    refine ⟨true, rfl, ?_⟩
    rw [if_pos rfl]
    have s13 := (s1.trans s2).trans s3
    exact ⟨F, H03, m3, δ, _, PX, ok3, rs.mono s13, h3, fun w H4 H04 m4 d4 s4 ok4 r4 h4 => od' F H04 m4 H4 y w d2 d4 P Q ok4 (r2.mono (s3.trans s4)) r4 h4 (g.mono (s13.trans s4)), gx.mono s13⟩
  · cases r3
    refine ⟨false, rfl, ?_⟩
    rw [if_neg Bool.false_ne_true]
    exact g _ _ _ _ _ ((s1.trans s2).trans s3) ok3 (.bl _) h3
  · exact h3.elim
theorem pd_chain {op op' : CmpOp} {r r' : R2} {ro ro' : DO} (ho : OpR X (compareOp op) r) (ho' : OpR X (compareOp op') r') (od : OpD (kw X) r ro) (od' : OpD (kw X) r' ro') (ha : PE X a (lE (kw X) W ra)) (hb : PE X b (lE (kw X) W rb)) (hc : PE X c (lE (kw X) W rc))
    (hm : lastMarks [op, op'] [b, c] = false := by with_unfolding_all rfl) : PE X (.Compare a [op, op'] [b, c] pos) (lE (kw X) W (rChain ro ro' ra rb rc)) := PE.imp (pe_chain ho ho' ha hb hc hm) fun _ _ _ h => lE_chain od od' h
theorem dt_chain {op op' : CmpOp} {r r' : R2} {ro ro' : DO} (ho : OpR X (compareOp op) r) (ho' : OpR X (compareOp op') r') (od : OpD (kw X) r ro) (od' : OpD (kw X) r' ro') (ha : PE X a (lE (kw X) W ra)) (hb : PE X b (lE (kw X) W rb)) (hc : PE X c (lE (kw X) W rc))
    (hm : lastMarks [op, op'] [b, c] = false := by with_unfolding_all rfl) : PT X (.Compare a [op, op'] [b, c] pos) (lT (kw X) W (rTst (rChain ro ro' ra rb rc))) := PT.imp (pt_chain ho ho' ha hb hc hm) fun _ _ _ h => lE_chain od od' (lT_test h)
/-! ### and, or, not, if -/
variable {qa qb : DT} {rest : List Expr}
def rAnd (qa qb : DT) : DT := fun δ m P PX => qa δ m (fun k m1 => match k with | true => qb δ m1 P PX | false => P false m1) PX
def rOr (qa qb : DT) : DT := fun δ m P PX => qa δ m (fun k m1 => match k with | true => P true m1 | false => qb δ m1 P PX) PX
def rNot (qa : DT) : DT := fun δ m P PX => qa δ m (fun k m1 => P (!k) m1) PX
theorem dw_and1 (ha : PT X a (lT (kw X) W qa)) : PW X (.BoolOp .And [a] pos) (lT (kw X) W qa) := pw_and1 ha
theorem dw_or1 (ha : PT X a (lT (kw X) W qa)) : PW X (.BoolOp .Or [a] pos) (lT (kw X) W qa) := pw_or1 ha
theorem dw_and (ha : PT X a (lT (kw X) W qa)) (hb : PW X (.BoolOp .And (b :: rest) pos) (lT (kw X) W qb)) : PW X (.BoolOp .And (a :: b :: rest) pos) (lT (kw X) W (rAnd qa qb)) := by
  refine PW.imp (pw_and ha hb) fun σ H Q h => ?_
  obtain ⟨F, H0, m, δ, P, PX, ok, rs, h, g, gx⟩ := h
  refine ⟨F, H0, m, δ, _, PX, ok, rs, h, fun k H1 H01 m1 s1 ok1 h1 => ?_, gx⟩
  cases k with
  | true => rw [if_pos rfl]; exact ⟨F, H01, m1, δ, P, PX, ok1, rs.mono s1, h1, g.mono s1, gx.mono s1⟩
  | false => rw [if_neg Bool.false_ne_true]; exact g _ _ _ _ s1 ok1 h1
theorem dw_or (ha : PT X a (lT (kw X) W qa)) (hb : PW X (.BoolOp .Or (b :: rest) pos) (lT (kw X) W qb)) : PW X (.BoolOp .Or (a :: b :: rest) pos) (lT (kw X) W (rOr qa qb)) := by
  refine PW.imp (pw_or ha hb) fun σ H Q h => ?_
  obtain ⟨F, H0, m, δ, P, PX, ok, rs, h, g, gx⟩ := h
  refine ⟨F, H0, m, δ, _, PX, ok, rs, h, fun k H1 H01 m1 s1 ok1 h1 => ?_, gx⟩
  cases k with
  | true => rw [if_pos rfl]; exact g _ _ _ _ s1 ok1 h1
  | false => rw [if_neg Bool.false_ne_true]; exact ⟨F, H01, m1, δ, P, PX, ok1, rs.mono s1, h1, g.mono s1, gx.mono s1⟩
theorem dt_not (ha : PT X a (lT (kw X) W qa)) : PT X (.UnaryOp .Not a pos) (lT (kw X) W (rNot qa)) := by
  refine PT.imp (pt_not ha) fun σ H Q h => ?_
  obtain ⟨F, H0, m, δ, P, PX, ok, rs, h, g, gx⟩ := h
  exact ⟨F, H0, m, δ, _, PX, ok, rs, h, fun k H1 H01 m1 s1 ok1 h1 => g _ _ _ _ s1 ok1 h1, gx⟩
/-- as values, truths -/
def rAndV (ra rb : DE) : DE := fun δ m P PX => ra δ m (fun x m1 => match x with | .bl true => rb δ m1 P PX | .bl false => P (.bl false) m1 | _ => False) PX
def rOrV (ra rb : DE) : DE := fun δ m P PX => ra δ m (fun x m1 => match x with | .bl true => P (.bl true) m1 | .bl false => rb δ m1 P PX | _ => False) PX
def rNotV (ra : DE) : DE := fun δ m P PX => ra δ m (fun x m1 => match x with | .bl k => P (.bl (!k)) m1 | _ => False) PX
theorem pd_one {op} (h : PE X a (lE (kw X) W ra)) : PE X (.BoolOp op [a] pos) (lE (kw X) W ra) := pe_one h
theorem pd_and (ha : PE X a (lE (kw X) W ra)) (hb : PE X (.BoolOp .And (b :: rest) pos) (lE (kw X) W rb)) : PE X (.BoolOp .And (a :: b :: rest) pos) (lE (kw X) W (rAndV ra rb)) := by
  refine PE.imp (pe_and ha hb) fun σ H Q h => ?_
  obtain ⟨F, H0, m, δ, P, PX, ok, rs, h, g, gx⟩ := h
  refine ⟨F, H0, m, δ, _, PX, ok, rs, h, fun x H1 H01 m1 d s1 ok1 r1 h1 => ?_, gx⟩
  dsimp only at h1
  split at h1
  · cases r1
    exact ⟨true, rfl, by rw [if_pos rfl]; exact ⟨F, H01, m1, δ, P, PX, ok1, rs.mono s1, h1, g.mono s1, gx.mono s1⟩⟩
  · cases r1
    exact ⟨false, rfl, by rw [if_neg Bool.false_ne_true]; exact g _ _ _ _ _ s1 ok1 (.bl _) h1⟩
  · exact h1.elim
theorem pd_or (ha : PE X a (lE (kw X) W ra)) (hb : PE X (.BoolOp .Or (b :: rest) pos) (lE (kw X) W rb)) : PE X (.BoolOp .Or (a :: b :: rest) pos) (lE (kw X) W (rOrV ra rb)) := by
  refine PE.imp (pe_or ha hb) fun σ H Q h => ?_
  obtain ⟨F, H0, m, δ, P, PX, ok, rs, h, g, gx⟩ := h
  refine ⟨F, H0, m, δ, _, PX, ok, rs, h, fun x H1 H01 m1 d s1 ok1 r1 h1 => ?_, gx⟩
  dsimp only at h1
  split at h1
  · cases r1
    exact ⟨true, rfl, by rw [if_pos rfl]; exact g _ _ _ _ _ s1 ok1 (.bl _) h1⟩
  · cases r1
    exact ⟨false, rfl, by rw [if_neg Bool.false_ne_true]; exact ⟨F, H01, m1, δ, P, PX, ok1, rs.mono s1, h1, g.mono s1, gx.mono s1⟩⟩
  · exact h1.elim
theorem pd_not (ha : PE X a (lE (kw X) W ra)) : PE X (.UnaryOp .Not a pos) (lE (kw X) W (rNotV ra)) := by
  refine PE.imp (pe_not ha) fun σ H Q h => ?_
  obtain ⟨F, H0, m, δ, P, PX, ok, rs, h, g, gx⟩ := h
  refine ⟨F, H0, m, δ, _, PX, ok, rs, h, fun x H1 H01 m1 d s1 ok1 r1 h1 => ?_, gx⟩
  dsimp only at h1
  split at h1
  · cases r1
    exact ⟨_, rfl, g _ _ _ _ _ s1 ok1 (.bl _) h1⟩
  · exact h1.elim
def rIfE (qa : DT) (ra rb : DE) : DE := fun δ m P PX => qa δ m (fun k m1 => match k with | true => ra δ m1 P PX | false => rb δ m1 P PX) PX
/-! ### arguments, displays -/
variable {e : Expr} {es : List Expr} {qs : DA}
def rNil : DA := fun _ m P _ => P [] m
def rCons (ra : DE) (qs : DA) : DA := fun δ m P PX => ra δ m (fun x m1 => qs δ m1 (fun xs m2 => P (x :: xs) m2) PX) PX
theorem da_nil : PA X [] (lA (kw X) W rNil) := by
  refine PA.imp pa_nil fun σ H Q h => ?_
  obtain ⟨F, H0, m, δ, P, PX, ok, rs, h, g, gx⟩ := h
  exact g _ _ _ _ _ (Same.refl _) ok .nil h
theorem da_cons (ha : PE X e (lE (kw X) W ra)) (hr : PA X es (lA (kw X) W qs)) (hs : starEach (e :: es) X.env = (false, eval e X.env) :: starEach es X.env := by rfl) : PA X (e :: es) (lA (kw X) W (rCons ra qs)) := by
  refine PA.imp (pa_cons ha hr hs) fun σ H Q h => ?_
  obtain ⟨F, H0, m, δ, P, PX, ok, rs, h, g, gx⟩ := h
  exact ⟨F, H0, m, δ, _, PX, ok, rs, h, fun x H1 H01 m1 d s1 ok1 r1 h1 => ⟨F, H01, m1, δ, _, PX, ok1, rs.mono s1, h1, fun xs H2 H02 m2 ds s2 ok2 r2 h2 => g _ _ _ _ _ (s1.trans s2) ok2 (.cons (r1.mono s2) r2) h2, gx.mono s1⟩, gx⟩
def rTup (qs : DA) : DE := fun δ m P PX => qs δ m (fun xs m1 => xs.length ≤ sizeLine ∧ P (.tup xs) m1) PX
def rLst (qs : DA) : DE := fun δ m P PX => qs δ m (fun xs m1 => xs.length ≤ sizeLine ∧ P (.lst xs) m1) PX
theorem pd_tup {x1} (h : PA X es (lA (kw X) W qs)) : PE X (.Tuple es x1 pos) (lE (kw X) W (rTup qs)) := by
  refine PE.imp (pe_tup h) fun σ H Q h => ?_
  obtain ⟨F, H0, m, δ, P, PX, ok, rs, h, g, gx⟩ := h
  exact ⟨F, H0, m, δ, _, PX, ok, rs, h, fun xs H1 H01 m1 ds s1 ok1 r1 h1 => ⟨by rw [r1.length]; exact h1.1, fun p hp => (g.mono s1).tup ok1 hp r1 h1.2⟩, gx⟩
theorem pd_lst (h : PA X es (lA (kw X) W qs)) : PE X (.List es pos) (lE (kw X) W (rLst qs)) := by
  refine PE.imp (pe_lst h) fun σ H Q h => ?_
  obtain ⟨F, H0, m, δ, P, PX, ok, rs, h, g, gx⟩ := h
  exact ⟨F, H0, m, δ, _, PX, ok, rs, h, fun xs H1 H01 m1 ds s1 ok1 r1 h1 => ⟨by rw [r1.length]; exact h1.1, fun p hp => (g.mono s1).lst ok1 hp r1 h1.2⟩, gx⟩
/-- a list of ours -/
def rLstM (qs : DA) : DE := fun δ m P PX => qs δ m (fun xs m1 => xs.length ≤ sizeLine ∧ ∀ p, m1 p = none → P (.adr p) (mset m1 p (.lst xs))) PX
theorem GV.lstM {K : KW} {F : Hp} {H0 H : Hp} {m : Mu} {P : DK} {Q : VK} {p : Addr} {vs : List V} {ds : List D} (g : GV K F H0 P Q) (ok : Ok K F H0 m H) (hp : H p = none) (r : RpL K H0 vs ds) (h : ∀ p, m p = none → P (.adr p) (mset m p (.lst ds))) : Q (.ref p) (upd H p (.lst vs)) :=
  g _ _ H0 _ _ (Same.refl _) (ok.newM (o := .lst ds) hp ⟨vs, upd_same, r⟩) (.adr p) (h p (ok.free hp).2)
theorem pd_lstM (h : PA X es (lA (kw X) W qs)) : PE X (.List es pos) (lE (kw X) W (rLstM qs)) := by
  refine PE.imp (pe_lst h) fun σ H Q h => ?_
  obtain ⟨F, H0, m, δ, P, PX, ok, rs, h, g, gx⟩ := h
  exact ⟨F, H0, m, δ, _, PX, ok, rs, h, fun xs H1 H01 m1 ds s1 ok1 r1 h1 => ⟨by rw [r1.length]; exact h1.1, fun p hp => (g.mono s1).lstM ok1 hp r1 h1.2⟩, gx⟩
/-! ### items, slices -/
def oIx : DO := fun x y m P => match y with
  | .int i => match x with
    | .tup ds => match atI ds i with
      | some d => P d m
      | none => False
    | .str z => z.length ≤ sizeLine ∧ match atI z.cps.toList i with
      | some c => P (.str ⟨#[c]⟩) m
      | none => False
    | x => match asL m x with
      | some ds => match atI ds i with
        | some d => P d m
        | none => False
      | none => False
  | _ => False
theorem ix_ok {K : KW} : OpD K (fun x y H Q => rIxL K x y H Q ∨ rIxT K x y H Q ∨ rIxS x y H Q) oIx := by
  intro F H0 m H x y dx dy P Q ok rx ry h g
  unfold oIx at h
  split at h
  · rename_i i
    cases ry
    split at h
    · rename_i ds
      obtain ⟨p, vs, rfl, q, r⟩ := tup_rp ok rx
      split at h
      · rename_i d e
        obtain ⟨v, e2, rv⟩ := r.at_ e
        exact .inr (.inl ⟨p, vs, i, v, rfl, rfl, q, e2, g.id ok rv h⟩)
      · exact h.elim
    · rename_i z
      cases rx
      obtain ⟨hz, h⟩ := h
      split at h
      · rename_i c e
        exact .inr (.inr ⟨z, i, c, rfl, rfl, hz, e, g.id ok (.str _) h⟩)
      · exact h.elim
    · split at h
      · rename_i ds e
        obtain ⟨p, vs, rfl, q, r⟩ := asL_rp ok rx e
        split at h
        · rename_i d e
          obtain ⟨v, e2, rv⟩ := r.at_ e
          exact .inl ⟨p, vs, i, v, rfl, rfl, q, e2, g.id ok rv h⟩
        · exact h.elim
      · exact h.elim
  · exact h.elim
theorem pd_ix (ha : PE X a (lE (kw X) W ra)) (hb : PE X b (lE (kw X) W rb)) (hs : PlainIx b := by intro _ _; rfl) : PE X (.Subscript a b pos) (lE (kw X) W (rOp oIx ra rb)) :=
  PE.imp (pe_ix ix_seq ha hb hs) fun _ _ _ h => lE_op ix_ok h
abbrev DP := DSt → Mu → (Option Int → Mu → Prop) → DX → Prop
def GO (K : KW) (F : Hp) (H0 : Hp) (P : Option Int → Mu → Prop) (Q : Option Int → Hp → Prop) : Prop := ∀ o H' H0' m', Same H0 H0' → Ok K F H0' m' H' → P o m' → Q o H'
def lO (K : KW) (W : WX) (r : DP) : TO := fun σ H Q => ∃ F H0 m δ P PX, Ok K F H0 m H ∧ RpS K H0 σ δ ∧ r δ m P PX ∧ GO K F H0 P Q ∧ GX K F H0 PX fun c xd H' => W c xd σ H'
def rNoP : DP := fun _ m P _ => P none m
def rPart (ra : DE) : DP := fun δ m P PX => ra δ m (fun x m1 => match x with | .int i => P (some i) m1 | _ => False) PX
theorem PO.imp {X : Cx} {e : Option Expr} {t t' : TO} (h : PO X e t) (k : ∀ σ H Q, t' σ H Q → t σ H Q) : PO X e t' := ⟨fun pins s σ H Q I w => h.run pins s σ H Q I (k σ H Q w)⟩
theorem dp_none : PO X none (lO (kw X) W rNoP) := by
  refine PO.imp po_none fun σ H Q h => ?_
  obtain ⟨F, H0, m, δ, P, PX, ok, rs, h, g, gx⟩ := h
  exact g _ _ _ _ (Same.refl _) ok h
theorem dp_some (ha : PE X a (lE (kw X) W ra)) : PO X (some a) (lO (kw X) W (rPart ra)) := by
  refine PO.imp (po_some ha) fun σ H Q h => ?_
  obtain ⟨F, H0, m, δ, P, PX, ok, rs, h, g, gx⟩ := h
  refine ⟨F, H0, m, δ, _, PX, ok, rs, h, fun x H1 H01 m1 d s1 ok1 r1 h1 => ?_, gx⟩
  dsimp only at h1
  split at h1
  · cases r1
    exact ⟨_, rfl, g _ _ _ _ s1 ok1 h1⟩
  · exact h1.elim
def oSl : D → Option Int → Option Int → Mu → DK → Prop := fun x lo hi m P => match x with
  | .tup ds => P (.tup (cutD ds lo hi)) m
  | .str z => z.length ≤ sizeLine ∧ P (.str (cutS z lo hi)) m
  | x => match asL m x with
    | some ds => P (.lst (cutD ds lo hi)) m
    | none => False
def rSl (ra : DE) (pl ph : DP) : DE := fun δ m P PX => ra δ m (fun x m1 => pl δ m1 (fun l m2 => ph δ m2 (fun u m3 => oSl x l u m3 P) PX) PX) PX
theorem pd_sl {lo hi : Option Expr} {pl ph : DP} {p2 : Pos} (ha : PE X a (lE (kw X) W ra)) (hl : PO X lo (lO (kw X) W pl)) (hh : PO X hi (lO (kw X) W ph)) : PE X (.Subscript a (.Slice lo hi none p2) pos) (lE (kw X) W (rSl ra pl ph)) := by
  refine PE.imp (pe_slice (sl_list.or (sl_tupA.or sl_str)) ha hl hh) fun σ H Q h => ?_
  obtain ⟨F, H0, m, δ, P, PX, ok, rs, h, g, gx⟩ := h
  refine ⟨F, H0, m, δ, _, PX, ok, rs, h, fun x H1 H01 m1 d1 s1 ok1 r1 h1 => ⟨F, H01, m1, δ, _, PX, ok1, rs.mono s1, h1, fun l H2 H02 m2 s2 ok2 h2 => ⟨F, H02, m2, δ, _, PX, ok2, (rs.mono s1).mono s2, h2, fun u H3 H03 m3 s3 ok3 h3 => ?_, (gx.mono s1).mono s2⟩, gx.mono s1⟩, gx⟩
  have g3 := ((g.mono s1).mono s2).mono s3
  have r3 := (r1.mono s2).mono s3
  unfold oSl at h3
  split at h3
  · rename_i ds
    obtain ⟨p, vs, rfl, q, r⟩ := tup_rp ok3 r3
    refine .inr (.inl ⟨p, vs, rfl, q, fun hw => ?_, fun _ z hz => g3.tup ok3 hz (r.cut _ _) h3⟩)
    have e : cutD ds l u = ds := by
      unfold cutD
      rw [← r.length, hw.1, hw.2, r.length]
      simp
    rw [e] at h3
    exact g3.id ok3 r3 h3
  · cases r3
    exact .inr (.inr ⟨_, rfl, h3.1, g3.id ok3 (.str _) h3.2⟩)
  · split at h3
    · rename_i ds e
      obtain ⟨p, vs, rfl, q, r⟩ := asL_rp ok3 r3 e
      exact .inl ⟨p, vs, rfl, q, fun z hz => g3.lst ok3 hz (r.cut _ _) h3⟩
    · exact h3.elim
end
end DL
namespace DL
open PySem L2
section
variable {X : Cx} {W : WX} {a b c : Expr} {ra rb rc : DE} {pos p : Pos} {e : Expr} {es : List Expr} {qs : DA}
/-! ### calls of built-ins -/
abbrev DC := List D → Mu → DK → Prop
def CalD (K : KW) (r : List V → Hp → VK → Prop) (ro : DC) : Prop := ∀ F H0 m H vs ds P Q, Ok K F H0 m H → RpL K H0 vs ds → ro ds m P → GV K F H0 P Q → r vs H Q
def rCB (ro : DC) (qs : DA) : DE := fun δ m P PX => qs δ m (fun xs m1 => ro xs m1 P) PX
theorem lE_cb {K : KW} {r : List V → Hp → VK → Prop} {ro : DC} (cd : CalD K r ro) {σ : St} {H : Hp} {Q : VK} (h : lE K W (rCB ro qs) σ H Q) : tCB r (lA K W qs) σ H Q := by
  obtain ⟨F, H0, m, δ, P, PX, ok, rs, h, g, gx⟩ := h
  exact ⟨F, H0, m, δ, _, PX, ok, rs, h, fun xs H1 H01 m1 ds s1 ok1 r1 h1 => cd _ _ _ _ _ _ _ _ ok1 r1 h1 (g.mono s1), gx⟩
theorem pd_callB {x : Str} {id : String} {r : List V → Hp → VK → Prop} {ro : DC} (hc : CallR X (.builtin id) r) (cd : CalD (kw X) r ro) (hm : X.mg x = none) (hv : bootBuiltins x = some (.builtin id)) (ha : PA X (e :: es) (lA (kw X) W qs)) (hg : Gl X x := by rfl) (hn : x ≠ "__name__" := by decide) (hdb : (x == ("__debug__" : Str)) = false := by decide)
    (he : starEach (e :: es) X.env = (false, eval e X.env) :: starEach es X.env := by rfl) (hpl : (backTo pos (starEach es X.env)).any (·.1) = false := by rfl) : PE X (.Call (.Name x p) (e :: es) [] pos) (lE (kw X) W (rCB ro qs)) :=
  PE.imp (pe_callB hc hg hm hv ha hn hdb he hpl) fun _ _ _ h => lE_cb cd h
theorem pd_callTy {x : Str} {T : String} {r : List V → Hp → VK → Prop} {ro : DC} (hc : CallR X (.type T) r) (cd : CalD (kw X) r ro) (hm : X.mg x = none) (hv : bootBuiltins x = some (.type T)) (ha : PA X (e :: es) (lA (kw X) W qs)) (hg : Gl X x := by rfl) (hn : x ≠ "__name__" := by decide) (hdb : (x == ("__debug__" : Str)) = false := by decide)
    (he : starEach (e :: es) X.env = (false, eval e X.env) :: starEach es X.env := by rfl) (hpl : (backTo pos (starEach es X.env)).any (·.1) = false := by rfl) : PE X (.Call (.Name x p) (e :: es) [] pos) (lE (kw X) W (rCB ro qs)) :=
  PE.imp (pe_callTy hc hg hm hv ha hn hdb he hpl) fun _ _ _ h => lE_cb cd h
theorem RpL.one {K : PySem.W.Frag} {H : Hp} {vs : List V} {d : D} (r : RpL K H vs [d]) : ∃ v, vs = [v] ∧ Rp K H v d := by
  cases r with
  | cons h t => cases t; exact ⟨_, rfl, h⟩
theorem RpL.two {K : PySem.W.Frag} {H : Hp} {vs : List V} {d e : D} (r : RpL K H vs [d, e]) : ∃ v w, vs = [v, w] ∧ Rp K H v d ∧ Rp K H w e := by
  cases r with
  | cons h t =>
    obtain ⟨w, rfl, q⟩ := t.one
    exact ⟨_, _, rfl, h, q⟩
def cLen : DC := fun xs m P => match xs with
  | [.str y] => y.length ≤ sizeLine ∧ P (.int y.length) m
  | [.tup ds] => P (.int ds.length) m
  | [x] => match asL m x with
    | some ds => P (.int ds.length) m
    | none => False
  | _ => False
theorem len_ok {K : KW} : CalD K (fun xs H Q => ∃ x n, xs = [x] ∧ LenV K x H n ∧ Q (.int n) H) cLen := by
  intro F H0 m H vs ds P Q ok r h g
  unfold cLen at h
  split at h
  · obtain ⟨v, rfl, q⟩ := r.one
    cases q
    exact ⟨_, _, rfl, ⟨h.1, rfl⟩, g.id ok (.int _) h.2⟩
  · obtain ⟨v, rfl, q⟩ := r.one
    obtain ⟨p, ws, rfl, q2, r2⟩ := tup_rp ok q
    exact ⟨_, _, rfl, .inr ⟨_, q2, rfl⟩, by rw [r2.length]; exact g.id ok (.int _) h⟩
  · obtain ⟨v, rfl, q⟩ := r.one
    split at h
    · rename_i es e1
      obtain ⟨p, ws, rfl, q2, r2⟩ := asL_rp ok q e1
      exact ⟨_, _, rfl, .inl ⟨_, q2, rfl⟩, by rw [r2.length]; exact g.id ok (.int _) h⟩
    · exact h.elim
  · exact h.elim
theorem pd_len {x : Str} (hm : X.mg x = none) (hv : bootBuiltins x = some (.builtin "len")) (ha : PA X (e :: es) (lA (kw X) W qs)) (hg : Gl X x := by rfl) (hn : x ≠ "__name__" := by decide) (hdb : (x == ("__debug__" : Str)) = false := by decide)
    (he : starEach (e :: es) X.env = (false, eval e X.env) :: starEach es X.env := by rfl) (hpl : (backTo pos (starEach es X.env)).any (·.1) = false := by rfl) : PE X (.Call (.Name x p) (e :: es) [] pos) (lE (kw X) W (rCB cLen qs)) := pd_callB call_len len_ok hm hv ha hg hn hdb he hpl
def cInt : DC := fun xs m P => match xs with
  | [.int i] => P (.int i) m
  | [.bl k] => P (.int (if k then 1 else 0)) m
  | _ => False
theorem int_ok {K : KW} : CalD K (fun xs H Q => (∃ i, xs = [.int i] ∧ Q (.int i) H) ∨ ∃ k, xs = [.bl k] ∧ Q (.int (if k then 1 else 0)) H) cInt := by
  intro F H0 m H vs ds P Q ok r h g
  unfold cInt at h
  split at h
  · obtain ⟨v, rfl, q⟩ := r.one
    cases q
    exact .inl ⟨_, rfl, g.id ok (.int _) h⟩
  · obtain ⟨v, rfl, q⟩ := r.one
    cases q
    exact .inr ⟨_, rfl, g.id ok (.int _) h⟩
  · exact h.elim
theorem pd_intOf {x : Str} (hm : X.mg x = none) (hv : bootBuiltins x = some (.type "int")) (ha : PA X (e :: es) (lA (kw X) W qs)) (hg : Gl X x := by rfl) (hn : x ≠ "__name__" := by decide) (hdb : (x == ("__debug__" : Str)) = false := by decide)
    (he : starEach (e :: es) X.env = (false, eval e X.env) :: starEach es X.env := by rfl) (hpl : (backTo pos (starEach es X.env)).any (·.1) = false := by rfl) : PE X (.Call (.Name x p) (e :: es) [] pos) (lE (kw X) W (rCB cInt qs)) := pd_callTy call_int1 int_ok hm hv ha hg hn hdb he hpl
def cStr : DC := fun xs m P => match xs with
  | [.int i] => i.natAbs.log2 < 1920 ∧ P (.str (toString i)) m
  | _ => False
/-! isinstance of a built-in class -/
def tyN (m : Mu) : D → Option String
  | .non => some "NoneType"
  | .bl _ => some "bool"
  | .int _ => some "int"
  | .str _ => some "str"
  | .lst _ => some "list"
  | .tup _ => some "tuple"
  | .dct _ => some "dict"
  | .adr a => match m a with
    | some (.lst _) => some "list"
    | some (.dct _) => some "dict"
    | _ => none
  | _ => none
theorem tyN_rp {K : KW} {F : Hp} {H0 H : Hp} {m : Mu} {v : V} {d : D} {t : String} (ok : Ok K F H0 m H) (r : Rp K H0 v d) (h : tyN m d = some t) : TyX K H v (.type t) := by
  cases r with
  | non => cases h; exact .base .non
  | bl b => cases h; exact .base (.bl b)
  | int i => cases h; exact .base (.int i)
  | str x => cases h; exact .base (.str x)
  | ty n => cases h
  | adr p =>
    unfold tyN at h
    dsimp only at h
    split at h
    · rename_i e1
      cases h
      obtain ⟨_, vs, hv, _⟩ := ok.cell _ _ e1
      exact .base (.lst hv)
    · rename_i e1
      cases h
      obtain ⟨_, vs, hv, _⟩ := ok.cell _ _ e1
      exact .base (.dK hv)
    · cases h
  | lst q _ =>
    cases h
    rcases ok.same.seq q with (q | ⟨o, q⟩) | ⟨o, its, n, h1, h2, _⟩
    · exact .base (.lst q)
    · exact .base (.frz q)
    · exact .kList h1 h2
  | tup q _ =>
    cases h
    rcases seqT_mono ok.same q with (q | ⟨o, q⟩) | ⟨o, its, n, h1, h2, _⟩
    · exact .base (.tup q)
    · exact .fTuple q
    · exact .kTuple h1 h2
  | dct q _ _ => cases h; exact .base (.dK (ok.same _ _ q))
  | ins _ _ _ _ => cases h
  | glb _ => cases h
  | exc _ _ _ _ => cases h
/-- is one built-in class under another one -/
def isB (t T : String) : Option Bool := kitB t T
def cIsi : DC := fun xs m P => match xs with
  | [x, .ty T] => match tyN m x with
    | some t => match isB t T with
      | some k => P (.bl k) m
      | none => False
    | none => False
  | _ => False
theorem isi_ok {K : KW} : CalD K (rIsi K) cIsi := by
  intro F H0 m H vs ds P Q ok r h g
  unfold cIsi at h
  split at h
  · obtain ⟨v, w, rfl, q1, q2⟩ := r.two
    cases q2
    split at h
    · rename_i t e1
      split at h
      · rename_i k e2
        exact ⟨_, _, _, _, k, rfl, .ty _, tyN_rp ok q1 e1, kit_ty e2, g.id ok (.bl _) h⟩
      · exact h.elim
    · exact h.elim
  · exact h.elim
theorem pd_isi {x : Str} (hm : X.mg x = none) (hv : bootBuiltins x = some (.builtin "isinstance")) (ha : PA X (e :: es) (lA (kw X) W qs)) (hg : Gl X x := by rfl) (hn : x ≠ "__name__" := by decide) (hdb : (x == ("__debug__" : Str)) = false := by decide)
    (he : starEach (e :: es) X.env = (false, eval e X.env) :: starEach es X.env := by rfl) (hpl : (backTo pos (starEach es X.env)).any (·.1) = false := by rfl) : PE X (.Call (.Name x p) (e :: es) [] pos) (lE (kw X) W (rCB cIsi qs)) := pd_callB call_isi isi_ok hm hv ha hg hn hdb he hpl
/-! list(..), tuple(..) -/
def cLst : DC := fun xs m P => match xs with
  | [.tup ds] => P (.lst ds) m
  | [x] => match asL m x with
    | some ds => P (.lst ds) m
    | none => False
  | _ => False
theorem list_ok {K : KW} : CalD K (fun xs H Q => ∃ p ys, xs = [.ref p] ∧ (SqL K H p ys ∨ SqT K H p ys) ∧ ∀ l, H l = none → Q (.ref l) (upd H l (.lst ys))) cLst := by
  intro F H0 m H vs ds P Q ok r h g
  unfold cLst at h
  split at h
  · obtain ⟨v, rfl, q⟩ := r.one
    obtain ⟨p, ws, rfl, q2, r2⟩ := tup_rp ok q
    exact ⟨p, ws, rfl, .inr q2, fun l hl => g.lst ok hl r2 h⟩
  · obtain ⟨v, rfl, q⟩ := r.one
    split at h
    · rename_i es e1
      obtain ⟨p, ws, rfl, q2, r2⟩ := asL_rp ok q e1
      exact ⟨p, ws, rfl, .inl q2, fun l hl => g.lst ok hl r2 h⟩
    · exact h.elim
  · exact h.elim
theorem pd_listOf {x : Str} (hm : X.mg x = none) (hv : bootBuiltins x = some (.type "list")) (ha : PA X (e :: es) (lA (kw X) W qs)) (hg : Gl X x := by rfl) (hn : x ≠ "__name__" := by decide) (hdb : (x == ("__debug__" : Str)) = false := by decide)
    (he : starEach (e :: es) X.env = (false, eval e X.env) :: starEach es X.env := by rfl) (hpl : (backTo pos (starEach es X.env)).any (·.1) = false := by rfl) : PE X (.Call (.Name x p) (e :: es) [] pos) (lE (kw X) W (rCB cLst qs)) := pd_callTy call_list_of list_ok hm hv ha hg hn hdb he hpl
def cTup : DC := fun xs m P => match xs with
  | [.tup ds] => P (.tup ds) m
  | [x] => match asL m x with
    | some ds => P (.tup ds) m
    | none => False
  | _ => False
theorem tuple_ok {K : KW} : CalD K (fun xs H Q => ∃ p ys, xs = [.ref p] ∧ ((SqL K H p ys ∧ ∀ l, H l = none → Q (.ref l) (upd H l (.tup ys))) ∨ (SqT K H p ys ∧ Q (.ref p) H))) cTup := by
  intro F H0 m H vs ds P Q ok r h g
  unfold cTup at h
  split at h
  · obtain ⟨v, rfl, q⟩ := r.one
    obtain ⟨p, ws, rfl, q2, r2⟩ := tup_rp ok q
    exact ⟨p, ws, rfl, .inr ⟨q2, g.id ok q h⟩⟩
  · obtain ⟨v, rfl, q⟩ := r.one
    split at h
    · rename_i es e1
      obtain ⟨p, ws, rfl, q2, r2⟩ := asL_rp ok q e1
      exact ⟨p, ws, rfl, .inl ⟨q2, fun l hl => g.tup ok hl r2 h⟩⟩
    · exact h.elim
  · exact h.elim
theorem pd_tupleOf {x : Str} (hm : X.mg x = none) (hv : bootBuiltins x = some (.type "tuple")) (ha : PA X (e :: es) (lA (kw X) W qs)) (hg : Gl X x := by rfl) (hn : x ≠ "__name__" := by decide) (hdb : (x == ("__debug__" : Str)) = false := by decide)
    (he : starEach (e :: es) X.env = (false, eval e X.env) :: starEach es X.env := by rfl) (hpl : (backTo pos (starEach es X.env)).any (·.1) = false := by rfl) : PE X (.Call (.Name x p) (e :: es) [] pos) (lE (kw X) W (rCB cTup qs)) := pd_callTy call_tuple_of tuple_ok hm hv ha hg hn hdb he hpl
/-! all, any of truths -/
def boolsD : List D → Option (List Bool)
  | [] => some []
  | .bl b :: ds => (boolsD ds).map (b :: ·)
  | _ :: _ => none
theorem boolsD_map : ∀ bs : List Bool, boolsD (bs.map .bl) = some bs
  | [] => rfl
  | b :: bs => by simp [boolsD, boolsD_map bs]
theorem boolsD_rp {K : PySem.W.Frag} {H : Hp} : ∀ {vs : List V} {ds : List D} {bs : List Bool}, RpL K H vs ds → boolsD ds = some bs → vs = bs.map V.bl
  | _, _, _, .nil, h => by cases h; rfl
  | _, _, _, .cons q r, h => by
    cases q with
    | bl b =>
      simp only [boolsD, Option.map_eq_some_iff] at h
      obtain ⟨z, e2, rfl⟩ := h
      rw [boolsD_rp r e2]; rfl
    | _ => simp [boolsD] at h
def cAllAny (f : List Bool → Bool) : DC := fun xs m P => match xs with
  | [x] => match asL m x with
    | some ds => match boolsD ds with
      | some bs => P (.bl (f bs)) m
      | none => False
    | none => False
  | _ => False
theorem allAny_ok {K : KW} {f : List Bool → Bool} : CalD K (fun vs H Q => ∃ (a : Addr) (bs : List Bool), vs = [V.ref a] ∧ SqL K H a (bs.map V.bl) ∧ Q (.bl (f bs)) H) (cAllAny f) := by
  intro F H0 m H vs ds P Q ok r h g
  unfold cAllAny at h
  split at h
  · obtain ⟨v, rfl, q⟩ := r.one
    split at h
    · rename_i es e1
      obtain ⟨p, ws, rfl, q2, r2⟩ := asL_rp ok q e1
      split at h
      · rename_i bs e2
        exact ⟨p, bs, rfl, by rw [← boolsD_rp r2 e2]; exact q2, g.id ok (.bl _) h⟩
      · exact h.elim
    · exact h.elim
  · exact h.elim
abbrev cAll : DC := cAllAny fun bs => bs.all id
abbrev cAny : DC := cAllAny fun bs => bs.any id
theorem pd_all {x : Str} (hc : X.calm = true) (hm : X.mg x = none) (hv : bootBuiltins x = some (.builtin "all")) (ha : PA X (e :: es) (lA (kw X) W qs)) (hg : Gl X x := by rfl) (hn : x ≠ "__name__" := by decide) (hdb : (x == ("__debug__" : Str)) = false := by decide)
    (he : starEach (e :: es) X.env = (false, eval e X.env) :: starEach es X.env := by rfl) (hpl : (backTo pos (starEach es X.env)).any (·.1) = false := by rfl) : PE X (.Call (.Name x p) (e :: es) [] pos) (lE (kw X) W (rCB cAll qs)) := pd_callB (cr_all hc) allAny_ok hm hv ha hg hn hdb he hpl
theorem pd_any {x : Str} (hc : X.calm = true) (hm : X.mg x = none) (hv : bootBuiltins x = some (.builtin "any")) (ha : PA X (e :: es) (lA (kw X) W qs)) (hg : Gl X x := by rfl) (hn : x ≠ "__name__" := by decide) (hdb : (x == ("__debug__" : Str)) = false := by decide)
    (he : starEach (e :: es) X.env = (false, eval e X.env) :: starEach es X.env := by rfl) (hpl : (backTo pos (starEach es X.env)).any (·.1) = false := by rfl) : PE X (.Call (.Name x p) (e :: es) [] pos) (lE (kw X) W (rCB cAny qs)) := pd_callB (cr_any hc) allAny_ok hm hv ha hg hn hdb he hpl
/-! ### sep.join(texts) -/
def textsD : List D → Option (List Str)
  | [] => some []
  | .str b :: ds => (textsD ds).map (b :: ·)
  | _ :: _ => none
def asLT (m : Mu) : D → Option (List D)
  | .tup ds => some ds
  | d => asL m d
def rJoin (ra rb : DE) : DE := fun δ m P PX => ra δ m (fun x m1 => match x with
  | .str s => rb δ m1 (fun y m2 => match asLT m2 y with
    | some ds => match textsD ds with
      | some ys => (ys.map (·.length)).sum + ys.length * s.length ≤ 16777216 ∧ P (.str (Txt.join s ys)) m2
      | none => False
    | none => False) PX
  | _ => False) PX
theorem asLT_rp {K : KW} {F : Hp} {H0 H : Hp} {m : Mu} {v : V} {d : D} {ds : List D} (ok : Ok K F H0 m H) (r : Rp K H0 v d) (h : asLT m d = some ds) : ∃ a vs, v = .ref a ∧ (SqL K H a vs ∨ SqT K H a vs) ∧ RpL K H0 vs ds := by
  unfold asLT at h
  split at h
  · cases h
    obtain ⟨p, vs, rfl, q, r⟩ := tup_rp ok r
    exact ⟨p, vs, rfl, .inr q, r⟩
  · obtain ⟨p, vs, rfl, q, r⟩ := asL_rp ok r h
    exact ⟨p, vs, rfl, .inl q, r⟩
end
end DL
namespace DL
open PySem L2
section
variable {X : Cx} {W : WX} {a b c : Expr} {ra rb rc : DE} {pos p : Pos} {e : Expr} {es : List Expr} {qs qk : DA}
/-! ### calls of defs -/
variable {k : Nat} {f : Addr} {fd : FuncData} {ps ks : List Str} {sp : SpD} {dvs : List V} {ds : List Value} {dD : List D} {x : Str}
def rCall (sp : SpD) (dD : List D) (qs : DA) : DE := fun δ m P PX => qs δ m (fun xs m1 => sp (xs ++ dD) m1 P PX) PX
theorem lE_call {K : KW} (hD : ∀ H, RpL K H dvs dD) {σ : St} {H : Hp} {Q : VK} (h : lE K W (rCall sp dD qs) σ H Q) : tCallSD (lP K sp) dvs (WE W) (lA K W qs) σ H Q := by
  obtain ⟨F, H0, m, δ, P, PX, ok, rs, h, g, gx⟩ := h
  exact ⟨F, H0, m, δ, _, PX, ok, rs, h, fun xs H1 H01 m1 es s1 ok1 r1 h1 => ⟨F, H01, m1, _, P, PX, ok1, r1.append (hD _), h1, g.mono s1, gx.mono s1⟩, gx⟩
theorem pd_call (G : FnOk X.prog X.w X.K X.mg X.base (L2.CX X.prog X.w) k f fd ps (lP (kw X) sp)) (hr : Room k X.A) (hm : X.mg x = some (.ref f)) (hk : PySem.W.keepIn X.K (.ref f) = true) (hb : Binds X.K fd ps ds) (hd : Vals dvs ds) (hD : ∀ H, RpL X.K H dvs dD) (tk : Takes X W)
    (ha : PA X (e :: es) (lA (kw X) W qs)) (hg : Gl X x := by rfl) (hdb : (x == ("__debug__" : Str)) = false := by decide) (he : starEach (e :: es) X.env = (false, eval e X.env) :: starEach es X.env := by rfl) (hpl : (backTo pos (starEach es X.env)).any (·.1) = false := by rfl) :
    PE X (.Call (.Name x p) (e :: es) [] pos) (lE (kw X) W (rCall sp dD qs)) :=
  PE.imp (pe_callSD G hr hg hm hk hb hd (fun σ => passAt tk σ) ha hdb he hpl) fun _ _ _ h => lE_call hD h
/-- how keywords bind, over data -/
structure KBd (K : PySem.W.Frag) (fd : FuncData) (ps : List Str) (n : Nat) (ks : List Str) (gD : List D → List D → List D) : Prop where
  ex : ∃ g gV, KBn K fd ps n ks g gV ∧ ∀ H vs ds zs es, vs.length = n → zs.length = ks.length → RpL K H vs ds → RpL K H zs es → RpL K H (gV vs zs) (gD ds es)
def rCallK (sp : SpD) (n j : Nat) (gD : List D → List D → List D) (qs qk : DA) : DE := fun δ m P PX => qs δ m (fun xs m1 => qk δ m1 (fun zs m2 => xs.length = n ∧ zs.length = j ∧ sp (gD xs zs) m2 P PX) PX) PX
theorem PK.imp {X : Cx} {e : List Keyword} {t t' : TA} (h : PK X e t) (k : ∀ σ H Q, t' σ H Q → t σ H Q) : PK X e t' := ⟨fun pos pins s σ H Q I w => h.run pos pins s σ H Q I (k σ H Q w)⟩
theorem dk_nil : PK X [] (lA (kw X) W rNil) := by
  refine PK.imp pk_nil fun σ H Q h => ?_
  obtain ⟨F, H0, m, δ, P, PX, ok, rs, h, g, gx⟩ := h
  exact g _ _ _ _ _ (Same.refl _) ok .nil h
theorem dk_cons {nm : Option Str} {kpos : Pos} {kws : List Keyword} (ha : PE X e (lE (kw X) W ra)) (hr : PK X kws (lA (kw X) W qs)) : PK X (⟨nm, e, kpos⟩ :: kws) (lA (kw X) W (rCons ra qs)) := by
  refine PK.imp (pk_cons ha hr) fun σ H Q h => ?_
  obtain ⟨F, H0, m, δ, P, PX, ok, rs, h, g, gx⟩ := h
  exact ⟨F, H0, m, δ, _, PX, ok, rs, h, fun x H1 H01 m1 d s1 ok1 r1 h1 => ⟨F, H01, m1, δ, _, PX, ok1, rs.mono s1, h1, fun xs H2 H02 m2 ds s2 ok2 r2 h2 => g _ _ _ _ _ (s1.trans s2) ok2 (.cons (r1.mono s2) r2) h2, gx.mono s1⟩, gx⟩
theorem run_kS {n : Nat} {g : List Value → List Value → List Value} {gV : List V → List V → List V} {spH : Sp} {E : XK} {pins : List (Addr × Obj)} {σ : St} {H : Hp} {s : Shared} {Q : VK} {us ws : List Value} {vs zs : List V} (G : FnOk X.prog X.w X.K X.mg X.base (L2.CX X.prog X.w) k f fd ps spH) (hr : Room k X.A) (hb : KBn X.K fd ps n ks g gV) (hx : PassesAt (L2.CX X.prog X.w) X σ E)
    (I : L2.Inv X pins σ H s) (r : Vals vs us) (rz : Vals zs ws) (l1 : vs.length = n) (l2 : zs.length = ks.length) (h : spH (gV vs zs) H Q E) : wpAny (model X.prog X.w) X.A (call (.ref f) us (ks.zip ws)) (EP X pins σ Q) X.xe s := by
  refine wpAny_call (codeAny_mono (G.run X.A X.stack s H _ (g us ws) (gV vs zs) Q E hr I.env0 (hb.to s us ws I.kIn (r.length.symm.trans l1) (rz.length.symm.trans l2)) (hb.rel r rz) h) fun rr s' hq => ?_)
  cases rr with
  | error er => exact hx pins H s er s' I hq
  | ok fl => cases fl with
    | ret u => exact I.after hq
    | _ => exact False.elim hq
theorem pd_callK0 {gD : List D → List D → List D} {kws : List Keyword} (G : FnOk X.prog X.w X.K X.mg X.base (L2.CX X.prog X.w) k f fd ps (lP (kw X) sp)) (hr : Room k X.A) (hm : X.mg x = some (.ref f)) (hk : PySem.W.keepIn X.K (.ref f) = true) (hb : KBd X.K fd ps 0 ks gD) (tk : Takes X W)
    (hkw : PK X kws (lA (kw X) W qk)) (hall : (backToKw pos (keywordEach kws X.env)).all (·.1.isSome) = true := by rfl) (hks : (backToKw pos (keywordEach kws X.env)).filterMap (·.1) = ks := by rfl) (hg : Gl X x := by rfl)
    (hdb : (x == ("__debug__" : Str)) = false := by decide)
    (hpl : ((backTo pos (starEach [] X.env)).any (·.1) || (backToKw pos (keywordEach kws X.env)).any (·.1.isNone)) = false := by rfl) :
    PE X (.Call (.Name x p) [] kws pos) (lE (kw X) W (rCallK sp 0 ks.length gD rNil qk)) := by
  obtain ⟨gg, gV, hb, hR⟩ := hb.ex
  refine PE.imp (t := fun σ H Q => lA (kw X) W qk σ H fun zs H2 => zs.length = ks.length ∧ lP (kw X) sp (gV [] zs) H2 Q (WE W σ)) ⟨fun pins s σ H Q I h => ?_⟩ fun σ H Q h => ?_
  · refine wpAny_Call_Name_kw (ld_glob I hg hm ?_ hdb)
    refine PySem.W.callWith_KW0 (h₀ := X.base) I.ok.mod.kin hk hall ?_ hpl
    refine thn (hkw.run pos pins s σ H _ I h) fun ws s2 hh2 => ?_
    obtain ⟨zs, H2, I2, rz, l2, q2⟩ := hh2
    refine ⟨I2.kIn, ?_⟩
    rw [hks]
    exact run_kS (us := []) (vs := []) G hr hb (passAt tk σ) I2 .nil rz rfl l2 q2
  · obtain ⟨F, H0, m, δ, P, PX, ok, rs, h, g, gx⟩ := h
    refine ⟨F, H0, m, δ, _, PX, ok, rs, h, fun zs H2 H02 m2 es s2 ok2 r2 h2 => ?_, gx⟩
    obtain ⟨e1, e2, h2⟩ := h2
    have l2 : zs.length = ks.length := r2.length.trans e2
    exact ⟨l2, F, H02, m2, _, P, PX, ok2, hR _ _ _ _ _ rfl l2 .nil r2, h2, g.mono s2, gx.mono s2⟩
/-! ### statements -/
variable {st : Stmt} {rest : List Stmt} {us ut : DS} {qa : DT}
def sSeq (us ut : DS) : DS := fun DD δ m => us { DD with nx := ut DD } δ m
def sNext : DS := fun DD δ m => DD.nx δ m
theorem dss_nil : PSs X [] (lS (kw X) W sNext) := by
  refine PSs.imp pss_nil fun Dn σ H h => ?_
  obtain ⟨F, H0, m, δ, DD, ok, rs, h, g⟩ := h
  exact g.nx _ _ _ _ _ (Same.refl _) ok rs h
theorem dss_cons (h1 : PS X st (lS (kw X) W us)) (h2 : PSs X rest (lS (kw X) W ut)) : PSs X (st :: rest) (lS (kw X) W (sSeq us ut)) := by
  refine PSs.imp (pss_cons h1 h2) fun Dn σ H h => ?_
  obtain ⟨F, H0, m, δ, DD, ok, rs, h, g⟩ := h
  exact ⟨F, H0, m, δ, _, ok, rs, h, ⟨fun σ1 H1 H01 m1 δ1 s1 ok1 rs1 h1 => ⟨F, H01, m1, δ1, DD, ok1, rs1, h1, g.mono s1⟩, g.rt, g.bk, g.ct, g.xx⟩⟩
theorem dss_one (h1 : PS X st (lS (kw X) W us)) : PSs X [st] (lS (kw X) W us) := pss_one h1
def sSet (i : Nat) (ra : DE) : DS := fun DD δ m => ra δ m (fun d m1 => DD.nx (δ.set i (some d)) m1) fun c fs m1 => DD.xx c fs δ m1
theorem GW.at_ {K : KW} {F H0 : Hp} {PX : Str → List (Str × D) → DSt → Mu → Prop} {W : WX} {σ : St} {δ : DSt} (g : GW K F H0 PX W) (rs : RpS K H0 σ δ) : GX K F H0 (fun c fs m1 => PX c fs δ m1) fun c xd H' => W c xd σ H' :=
  fun c xd H' H0' m' fs s ok x h => g c xd σ H' H0' m' fs δ s ok (rs.mono s) x h
theorem ds_set {i : Nat} {y : Str} {pos' : Pos} (hN : X.N.Nodup) (ha : PE X a (lE (kw X) W ra)) (hi : X.N[i]? = some y := by rfl) (hx : Loc X.env.scope y := by first | exact Or.inl rfl | exact Or.inr rfl) (hs : swapsWith a (some (.Name y pos')) pos.line X.env = pure false := by rfl) (hf : X.fn y = true ∨ X.env.scope.names.lookup y = some .local := by first | exact .inl rfl | exact .inr rfl) :
    PS X (.Assign [.Name y pos'] a pos) (lS (kw X) W (sSet i ra)) := by
  refine PS.imp (ps_set hN hi hx ha hs hf) fun Dn σ H h => ?_
  obtain ⟨F, H0, m, δ, DD, ok, rs, h, g⟩ := h
  exact ⟨F, H0, m, δ, _, _, ok, rs, h, fun v H1 H01 m1 d s1 ok1 r1 h1 => g.nx _ _ _ _ _ s1 ok1 ((rs.mono s1).set r1 i) h1, g.xx.at_ rs⟩
def sExpr (ra : DE) : DS := fun DD δ m => ra δ m (fun _ m1 => DD.nx δ m1) fun c fs m1 => DD.xx c fs δ m1
theorem ds_expr (ha : PE X a (lE (kw X) W ra)) (hs : swapsWith a none pos.line X.env = pure false := by rfl) : PS X (.Expr a pos) (lS (kw X) W (sExpr ra)) := by
  refine PS.imp (ps_expr ha hs) fun Dn σ H h => ?_
  obtain ⟨F, H0, m, δ, DD, ok, rs, h, g⟩ := h
  exact ⟨F, H0, m, δ, _, _, ok, rs, h, fun v H1 H01 m1 d s1 ok1 r1 h1 => g.nx _ _ _ _ _ s1 ok1 (rs.mono s1) h1, g.xx.at_ rs⟩
def sRet (ra : DE) : DS := fun DD δ m => ra δ m DD.rt fun c fs m1 => DD.xx c fs δ m1
theorem ds_ret (ha : PE X a (lE (kw X) W ra)) : PS X (.Return (some a) pos) (lS (kw X) W (sRet ra)) := by
  refine PS.imp (ps_ret ha) fun Dn σ H h => ?_
  obtain ⟨F, H0, m, δ, DD, ok, rs, h, g⟩ := h
  exact ⟨F, H0, m, δ, _, _, ok, rs, h, g.rt, g.xx.at_ rs⟩
def sIf (qa : DT) (us ut : DS) : DS := fun DD δ m => qa δ m (fun k m1 => match k with | true => us DD δ m1 | false => ut DD δ m1) fun c fs m1 => DD.xx c fs δ m1
theorem ds_if {body els : List Stmt} (hc : PT X c (lT (kw X) W qa)) (h1 : PSs X body (lS (kw X) W us)) (h2 : PSs X els (lS (kw X) W ut)) : PS X (.If c body els pos) (lS (kw X) W (sIf qa us ut)) := by
  refine PS.imp (ps_if hc h1 h2) fun Dn σ H h => ?_
  obtain ⟨F, H0, m, δ, DD, ok, rs, h, g⟩ := h
  refine ⟨F, H0, m, δ, _, _, ok, rs, h, fun k H1 H01 m1 s1 ok1 h1 => ?_, g.xx.at_ rs⟩
  cases k with
  | true => rw [if_pos rfl]; exact ⟨F, H01, m1, δ, DD, ok1, rs.mono s1, h1, g.mono s1⟩
  | false => rw [if_neg Bool.false_ne_true]; exact ⟨F, H01, m1, δ, DD, ok1, rs.mono s1, h1, g.mono s1⟩
/-- o[i] = v, o a list of ours -/
def sSetIx (rv ro ri : DE) : DS := fun DD δ m => rv δ m (fun v m1 => ro δ m1 (fun o m2 => ri δ m2 (fun i m3 => match o, i with
  | .adr p, .int k => match m3 p with
    | some (.lst ds) => match ixN ds.length k with
      | some j => DD.nx δ (mset m3 p (.lst (ds.set j v)))
      | none => False
    | _ => False
  | _, _ => False) fun c fs m1 => DD.xx c fs δ m1) fun c fs m1 => DD.xx c fs δ m1) fun c fs m1 => DD.xx c fs δ m1
theorem ds_setIx {o i : Expr} {ro ri rv : DE} {p2 : Pos} (hv : PE X a (lE (kw X) W rv)) (ho : PE X o (lE (kw X) W ro)) (hi : PE X i (lE (kw X) W ri))
    (hA : ∀ v, assign (.Subscript o i p2) X.env v = (do
      let ov ← holding [v] (eval o X.env)
      let iv ← holding [v, ov] (eval i X.env)
      standAt p2
      holding [v, ov, iv] (setItem ov iv v)
      release [v, ov, iv] []) := by intro _; rfl)
    (hs : swapsWithSole [.Subscript o i p2] a pos.line X.env = pure false := by rfl) (hw : swappedStores [.Subscript o i p2] a X.env = pure none := by rfl) (h1 : (assignEach [.Subscript o i p2] X.env).map (·.2) = [assign (.Subscript o i p2) X.env] := by rfl) :
    PS X (.Assign [.Subscript o i p2] a pos) (lS (kw X) W (sSetIx rv ro ri)) := by
  refine PS.imp (ps_asg hv (pg_sub ho hi set_list hA) hs hw h1) fun Dn σ H h => ?_
  obtain ⟨F, H0, m, δ, DD, ok, rs, h, g⟩ := h
  refine ⟨F, H0, m, δ, _, _, ok, rs, h, fun v H1 H01 m1 d1 s1 ok1 r1 h1 => ⟨F, H01, m1, δ, _, _, ok1, rs.mono s1, h1, fun o H2 H02 m2 d2 s2 ok2 r2 h2 => ⟨F, H02, m2, δ, _, _, ok2, (rs.mono s1).mono s2, h2, fun iv H3 H03 m3 d3 s3 ok3 r3 h3 => ?_, ((g.mono s1).mono s2).xx.at_ ((rs.mono s1).mono s2)⟩, (g.mono s1).xx.at_ (rs.mono s1)⟩, g.xx.at_ rs⟩
  dsimp only at h3
  split at h3
  · rename_i q k
    cases r3
    cases r2
    split at h3
    · rename_i ds e1
      obtain ⟨_, vs, hv3, rv3⟩ := ok3.cell q _ e1
      split at h3
      · rename_i j e2
        refine ⟨q, vs, k, j, rfl, rfl, hv3, by rw [rv3.length]; exact e2, ?_⟩
        have s123 := (s1.trans s2).trans s3
        exact g.nx _ _ _ _ _ s123 (ok3.write (o := .lst (ds.set j d1)) e1 ⟨_, upd_same, rv3.set ((r1.mono s2).mono s3) j⟩) (rs.mono s123) h3
      · exact h3.elim
    · exact h3.elim
  · exact h3.elim
/-- xs.append(v), xs a list of ours -/
def rApp (ro rv : DE) : DE := fun δ m P PX => ro δ m (fun o m1 => match o with
  | .adr p => (∃ es, m1 p = some (.lst es)) ∧ rv δ m1 (fun v m2 => match m2 p with
    | some (.lst ds) => ds.length < sizeLine ∧ P .non (mset m2 p (.lst (ds ++ [v])))
    | _ => False) PX
  | _ => False) PX
theorem pd_app {apos : Pos} (ho : PE X a (lE (kw X) W ra)) (hv : PE X b (lE (kw X) W rb)) (hbase : attributeBase a "append" X.env (eval a X.env) = eval a X.env := by rfl)
    (hfew : ((backTo pos (starEach [b] X.env)).all (fun x => !x.1) && (backToKw pos (keywordEach [] X.env)).all (fun x => x.1.isSome) && decide (([b] : List Expr).length + ([] : List Keyword).length + (if ([] : List Keyword).isEmpty then 0 else 1) < 30)) = true := by rfl)
    (hline : (apos.endLine == pos.line) = true := by rfl) (hs : starEach [b] X.env = (false, eval b X.env) :: starEach [] X.env := by rfl) (hpl : (backTo pos (starEach [] X.env)).any (·.1) = false := by rfl) :
    PE X (.Call (.Attribute a "append" apos) [b] [] pos) (lE (kw X) W (rApp ra rb)) := by
  refine PE.imp (pe_bm PySem.F.plainAttrs_list PySem.F.slot_list_append PySem.F.type_list_append mt_append ho (pa_cons hv pa_nil hs) hbase hfew hline hs hpl) fun σ H Q h => ?_
  obtain ⟨F, H0, m, δ, P, PX, ok, rs, h, g, gx⟩ := h
  have h' : ra δ m (fun o m1 => match o with
    | .adr p => (∃ es, m1 p = some (.lst es)) ∧ rb δ m1 (fun v m2 => match m2 p with
      | some (.lst ds) => ds.length < sizeLine ∧ P .non (mset m2 p (.lst (ds ++ [v])))
      | _ => False) PX
    | _ => False) PX := h
  refine ⟨F, H0, m, δ, _, PX, ok, rs, h', fun x H1 H01 m1 d s1 ok1 r1 h1 => ?_, gx⟩
  dsimp only at h1
  split at h1
  · rename_i q
    obtain ⟨⟨es, he⟩, h1⟩ := h1
    cases r1
    obtain ⟨_, vs, hv1, _⟩ := ok1.cell q _ he
    refine ⟨.inl ⟨rfl, vs, SqL.of hv1⟩, F, H01, m1, δ, _, PX, ok1, rs.mono s1, h1, fun v H2 H02 m2 d2 s2 ok2 r2 h2 => ?_, gx.mono s1⟩
    dsimp only at h2
    split at h2
    · rename_i ds e1
      obtain ⟨_, ws, hw, rw2⟩ := ok2.cell q _ e1
      refine ⟨q, ws, v, rfl, rfl, hw, by rw [rw2.length]; exact h2.1, ?_⟩
      exact g _ _ H02 _ _ (s1.trans s2) (ok2.write (o := .lst (ds ++ [d2])) e1 ⟨_, upd_same, rw2.snoc r2⟩) .non h2.2
    · exact h2.elim
  · exact h1.elim
end
end DL
namespace DL
open PySem L2
/-! ### what is walked: while Ph holds of what is ours, the items are ds -/
def ItD (K : KW) (F : Hp) (J : It) (H0 : Hp) (Ph : Mu → Prop) (ds : List D) : Prop := ∀ (i : Nat) (H H1 : Hp) (m : Mu), Same H0 H1 → Ok K F H1 m H → Ph m →
  (∀ d, ds[i]? = some d → J.go i H ∧ ∀ x H', J.yld i H x H' → ∃ H2, Same H1 H2 ∧ Ok K F H2 m H' ∧ Rp K H2 x d) ∧ (i = ds.length → J.stop i H)
abbrev DI := DSt → Mu → ((Mu → Prop) → List D → Mu → Prop) → DX → Prop
/-- (whatever further frame stands around) -/
def GI (K : KW) (F : Hp) (H0 : Hp) (P : (Mu → Prop) → List D → Mu → Prop) (R : It → Hp → Prop) : Prop := ∀ J H' H0' m' Ph ds, Same H0 H0' → Ok K F H0' m' H' → (∀ F', ItD K F' J H0' Ph ds) → Ph m' → P Ph ds m' → R J H'
def lI (K : KW) (W : WX) (r : DI) : TI := fun σ H R => ∃ F H0 m δ P PX, Ok K F H0 m H ∧ RpS K H0 σ δ ∧ r δ m P PX ∧ GI K F H0 P R ∧ GX K F H0 PX fun c xd H' => W c xd σ H'
section
variable {X : Cx} {W : WX} {a b c tg : Expr} {ra rb rc : DE} {pos p : Pos} {e : Expr} {es : List Expr} {qs : DA}
theorem PI.imp {X : Cx} {tg e : Expr} {t t' : TI} (h : PI X tg e t) (k : ∀ σ H R, t' σ H R → t σ H R) : PI X tg e t' := ⟨fun pins s σ H R I w => h.run pins s σ H R I (k σ H R w)⟩
/-- a list, a tuple, a text -/
theorem pi_any {l : Expr} {tl : TE} (hl : PE X l tl) : PI X tg l (fun σ H R => tl σ H fun x H1 => (∃ a, x = .ref a ∧ (∃ xs, SqL X.K H1 a xs) ∧ R (Itl X.K a) H1) ∨ (∃ a, x = .ref a ∧ (∃ xs, SqT X.K H1 a xs) ∧ R (Itt X.K a) H1) ∨ ∃ z, x = .str z ∧ R (Its z) H1) := by
  refine ⟨fun pins s σ H R I h => thn (hl.run pins s σ H _ I h) fun v s1 hh => ?_⟩
  obtain ⟨x, H1, I1, r1, q1⟩ := hh
  rcases q1 with ⟨a, rfl, ⟨xs, hq⟩, q⟩ | ⟨a, rfl, ⟨xs, hq⟩, q⟩ | ⟨z, rfl, q⟩
  · cases r1
    obtain ⟨its, rv, pl, hz⟩ := I1.list hq
    exact wpAny_pyIter_list pl.isList (pi_one (tk := s1.toks) I1 _ (turn_list a _) ⟨_, Heap.get?_push_size _ rfl, rfl, rfl⟩ q)
  · cases r1
    obtain ⟨its, rv, pl, hz⟩ := I1.tuple hq
    exact wpAny_pyIter_tuple (show s1.heap.IsTuple a its.toArray from pl) (pi_one (tk := s1.toks) I1 _ (turn_tuple a _) ⟨_, Heap.get?_push_size _ rfl, rfl, rfl⟩ q)
  · obtain ⟨t, rfl⟩ := r1
    cases ha : z.cps.all (· < 128)
    · exact wpAny_pyIter_wide ha (pi_one (tk := s1.toks) I1 _ (turn_str _ z t "str_iterator" (.inr rfl)) ⟨_, Heap.get?_push_size _ rfl, rfl, rfl⟩ q)
    · exact wpAny_pyIter_ascii ha (pi_one (tk := s1.toks) I1 _ (turn_str _ z t "str_ascii_iterator" (.inl rfl)) ⟨_, Heap.get?_push_size _ rfl, rfl, rfl⟩ q)
def signs (z : Str) : List D := z.cps.toList.map fun c => .str ⟨#[c]⟩
def iAny (ra : DE) : DI := fun δ m P PX => ra δ m (fun x m1 => match x with
  | .tup ds => P (fun _ => True) ds m1
  | .lst ds => P (fun _ => True) ds m1
  | .str z => P (fun _ => True) (signs z) m1
  | .adr q => match m1 q with
    | some (.lst ds) => P (fun m => m q = some (.lst ds)) ds m1
    | _ => False
  | _ => False) PX
theorem ItD.list {K : KW} {H0 : Hp} {q : Addr} {vs : List V} {ds : List D} {Ph : Mu → Prop} (r : RpL K H0 vs ds) (h : ∀ F H1 m H, Same H0 H1 → Ok K F H1 m H → Ph m → SqL K H q vs ∨ ∃ ws, SqL K H q ws ∧ RpL K H1 ws ds) (F : Hp) : ItD K F (Itl K q) H0 Ph ds := by
  intro i H H1 m s1 ok1 ph
  obtain ⟨ws, hq, rw1⟩ : ∃ ws, SqL K H q ws ∧ RpL K H1 ws ds := by
    rcases h F H1 m H s1 ok1 ph with h | h
    · exact ⟨vs, h, r.mono s1⟩
    · exact h
  refine ⟨fun d e => ?_, fun e => ⟨ws, hq, by rw [rw1.length, e]; exact Nat.le_refl _⟩⟩
  obtain ⟨v, e1, rv⟩ := rw1.get e
  refine ⟨⟨ws, v, hq, e1⟩, fun x H' y => ?_⟩
  obtain ⟨rfl, y⟩ := y
  have e2 := y ws hq
  rw [e1] at e2
  cases e2
  exact ⟨H1, Same.refl _, ok1, rv⟩
theorem ItD.tuple {K : KW} {H0 : Hp} {q : Addr} {vs : List V} {ds : List D} {Ph : Mu → Prop} (r : RpL K H0 vs ds) (h : SqT K H0 q vs) (F : Hp) : ItD K F (Itt K q) H0 Ph ds := by
  intro i H H1 m s1 ok1 ph
  have hq := seqT_mono (s1.trans ok1.same) h
  refine ⟨fun d e => ?_, fun e => ⟨vs, hq, by rw [r.length, e]; exact Nat.le_refl _⟩⟩
  obtain ⟨v, e1, rv⟩ := r.get e
  refine ⟨⟨vs, v, hq, e1⟩, fun x H' y => ?_⟩
  obtain ⟨rfl, y⟩ := y
  have e2 := y vs hq
  rw [e1] at e2
  cases e2
  exact ⟨H1, Same.refl _, ok1, rv.mono s1⟩
theorem ItD.text {K : KW} {H0 : Hp} {z : Str} {Ph : Mu → Prop} (F : Hp) : ItD K F (Its z) H0 Ph (signs z) := by
  intro i H H1 m s1 ok1 ph
  refine ⟨fun d e => ?_, fun e => ?_⟩
  · unfold signs at e
    rw [List.getElem?_map] at e
    cases hc : z.cps.toList[i]? with
    | none => rw [hc] at e; cases e
    | some c =>
      rw [hc] at e
      cases e
      have hlt : i < z.cps.size := by
        have := (List.getElem?_eq_some_iff.mp hc).1
        simpa using this
      refine ⟨hlt, fun x H' y => ?_⟩
      obtain ⟨rfl, c', e1, rfl⟩ := y
      have e2 : z.cps[i]? = some c := by simpa using hc
      rw [e2] at e1
      cases e1
      exact ⟨H1, Same.refl _, ok1, .str _⟩
  · show z.cps.size ≤ i
    rw [e]
    simp [signs]
theorem di_any (ha : PE X a (lE (kw X) W ra)) : PI X tg a (lI (kw X) W (iAny ra)) := by
  refine PI.imp (pi_any ha) fun σ H R h => ?_
  obtain ⟨F, H0, m, δ, P, PX, ok, rs, h, g, gx⟩ := h
  refine ⟨F, H0, m, δ, _, PX, ok, rs, h, fun x H1 H01 m1 d s1 ok1 r1 h1 => ?_, gx⟩
  dsimp only at h1
  split at h1
  · cases r1 with
    | tup q r => exact .inr (.inl ⟨_, rfl, ⟨_, seqT_mono ok1.same q⟩, g _ _ _ _ _ _ s1 ok1 (ItD.tuple r q) trivial h1⟩)
  · cases r1 with
    | lst q r => exact .inl ⟨_, rfl, ⟨_, ok1.same.seq q⟩, g _ _ _ _ _ _ s1 ok1 (ItD.list r fun F H1 m H s ok _ => .inl ((s.trans ok.same).seq q)) trivial h1⟩
  · cases r1
    exact .inr (.inr ⟨_, rfl, g _ _ _ _ _ _ s1 ok1 ItD.text trivial h1⟩)
  · rename_i q
    split at h1
    · rename_i ds e1
      cases r1
      obtain ⟨_, vs, hv, rv⟩ := ok1.cell q _ e1
      refine .inl ⟨q, rfl, ⟨vs, SqL.of hv⟩, g _ _ _ _ _ _ s1 ok1 (ItD.list rv fun F H1 m H s ok ph => ?_) e1 h1⟩
      obtain ⟨_, ws, hw, rw1⟩ := ok.cell q _ ph
      exact .inr ⟨ws, SqL.of hw, rw1⟩
    · exact h1.elim
  · exact h1.elim
def rangeD (lo : Int) (n : Nat) : List D := (List.range n).map fun i : Nat => .int (lo + i)
theorem ItD.range {K : KW} {H0 : Hp} {lo : Int} {n : Nat} {Ph : Mu → Prop} (F : Hp) : ItD K F (Itr lo n) H0 Ph (rangeD lo n) := by
  intro i H H1 m s1 ok1 ph
  refine ⟨fun d e => ?_, fun e => ?_⟩
  · unfold rangeD at e
    rw [List.getElem?_map] at e
    by_cases hi : i < n
    · rw [List.getElem?_range hi] at e
      cases e
      refine ⟨hi, fun x H' y => ?_⟩
      obtain ⟨rfl, rfl⟩ := y
      exact ⟨H1, Same.refl _, ok1, .int _⟩
    · rw [List.getElem?_eq_none (by simpa using hi)] at e
      cases e
  · show n ≤ i
    rw [e]
    simp [rangeD]
def iRange (qs : DA) : DI := fun δ m P PX => qs δ m (fun xs m1 => match xs with
  | [.int j] => (-(2 ^ 62) ≤ j ∧ j < 2 ^ 62) ∧ P (fun _ => True) (rangeD 0 j.toNat) m1
  | _ => False) PX
theorem di_range {q : Pos} (hm : X.mg "range" = none) (ha : PA X [a] (lA (kw X) W qs)) (hg : Gl X "range" := by rfl) (hs : starEach [a] X.env = [(false, eval a X.env)] := by rfl) : PI X tg (.Call (.Name "range" q) [a] [] pos) (lI (kw X) W (iRange qs)) := by
  refine PI.imp (pi_range1 hg hm ha hs) fun σ H R h => ?_
  obtain ⟨F, H0, m, δ, P, PX, ok, rs, h, g, gx⟩ := h
  refine ⟨F, H0, m, δ, _, PX, ok, rs, h, fun xs H1 H01 m1 ds s1 ok1 r1 h1 => ?_, gx⟩
  dsimp only at h1
  split at h1
  · obtain ⟨v, rfl, q⟩ := r1.one
    cases q
    exact ⟨_, rfl, h1.1.1, h1.1.2, g _ _ _ _ _ _ s1 ok1 ItD.range trivial h1.2⟩
  · exact h1.elim
def enumD : Nat → List D → List D
  | _, [] => []
  | i, d :: ds => .tup [.int (i : Nat), d] :: enumD (i + 1) ds
theorem enumD_get : ∀ (ds : List D) (k i : Nat), (enumD k ds)[i]? = ds[i]?.map fun d => .tup [.int ((k + i : Nat) : Int), d]
  | [], k, i => by simp [enumD]
  | d :: ds, k, 0 => by simp [enumD]
  | d :: ds, k, i + 1 => by
    simp only [enumD, List.getElem?_cons_succ]
    rw [enumD_get ds (k + 1) i]
    have e : k + 1 + i = k + (i + 1) := by omega
    rw [e]
theorem enumD_length : ∀ (ds : List D) (k : Nat), (enumD k ds).length = ds.length
  | [], _ => rfl
  | _ :: ds, k => by simp [enumD, enumD_length ds]
def iEnumD (qs : DA) : DI := fun δ m P PX => qs δ m (fun xs m1 => match xs with
  | [.lst ds] => P (fun _ => True) (enumD 0 ds) m1
  | [.adr q] => match m1 q with
    | some (.lst ds) => P (fun m => m q = some (.lst ds)) (enumD 0 ds) m1
    | _ => False
  | _ => False) PX
theorem ItD.enum {K : KW} {H0 : Hp} {q : Addr} {vs : List V} {ds : List D} {Ph : Mu → Prop} (r : RpL K H0 vs ds) (h : ∀ F H1 m H, Same H0 H1 → Ok K F H1 m H → Ph m → SqL K H q vs ∨ ∃ ws, SqL K H q ws ∧ RpL K H1 ws ds) (F : Hp) : ItD K F (Ite K q) H0 Ph (enumD 0 ds) := by
  intro i H H1 m s1 ok1 ph
  obtain ⟨ws, hq, rw1⟩ : ∃ ws, SqL K H q ws ∧ RpL K H1 ws ds := by
    rcases h F H1 m H s1 ok1 ph with h | h
    · exact ⟨vs, h, r.mono s1⟩
    · exact h
  refine ⟨fun d e => ?_, fun e => ⟨ws, hq, by rw [rw1.length, e, enumD_length]; exact Nat.le_refl _⟩⟩
  rw [enumD_get] at e
  cases e2 : ds[i]? with
  | none => rw [e2] at e; cases e
  | some d' =>
    rw [e2] at e
    cases e
    obtain ⟨v, e1, rv⟩ := rw1.get e2
    refine ⟨⟨ws, v, hq, e1⟩, fun x H' y => ?_⟩
    obtain ⟨T, x', rfl, hT, rfl, y⟩ := y
    have e3 := y ws hq
    rw [e1] at e3
    cases e3
    have sn := same_new (o := HO.tup [V.int (i : Nat), v]) (ok1.free hT).1
    refine ⟨_, sn, ok1.new hT _, .tup (SqT.of upd_same) (.cons ?_ (.cons (rv.mono sn) .nil))⟩
    have e4 : ((0 + i : Nat) : Int) = ((i : Nat) : Int) := by simp
    rw [e4]
    exact .int _
theorem di_enum {elts : List Expr} {kk : Nat} {tpos : Pos} {q : Pos} (hm : X.mg "enumerate" = none) (ha : PA X [a] (lA (kw X) W qs)) (hg : Gl X "enumerate" := by rfl) (hs : starEach [a] X.env = [(false, eval a X.env)] := by rfl) : PI X (.Tuple elts kk tpos) (.Call (.Name "enumerate" q) [a] [] pos) (lI (kw X) W (iEnumD qs)) := by
  refine PI.imp (pi_enum hg hm ha hs) fun σ H R h => ?_
  obtain ⟨F, H0, m, δ, P, PX, ok, rs, h, g, gx⟩ := h
  refine ⟨F, H0, m, δ, _, PX, ok, rs, h, fun xs H1 H01 m1 ds s1 ok1 r1 h1 => ?_, gx⟩
  dsimp only at h1
  split at h1
  · obtain ⟨v, rfl, r2⟩ := r1.one
    cases r2 with
    | lst q r => exact ⟨_, _, rfl, ok1.same.seq q, g _ _ _ _ _ _ s1 ok1 (ItD.enum r fun F H1 m H s ok _ => .inl ((s.trans ok.same).seq q)) trivial h1⟩
  · rename_i q
    obtain ⟨v, rfl, r2⟩ := r1.one
    cases r2
    split at h1
    · rename_i ds e1
      obtain ⟨_, vs, hv, rv⟩ := ok1.cell q _ e1
      refine ⟨q, vs, rfl, SqL.of hv, g _ _ _ _ _ _ s1 ok1 (ItD.enum rv fun F H1 m H s ok ph => ?_) e1 h1⟩
      obtain ⟨_, ws, hw, rw1⟩ := ok.cell q _ ph
      exact .inr ⟨ws, SqL.of hw, rw1⟩
    · exact h1.elim
  · exact h1.elim
end
end DL
namespace DL
open PySem L2
/-! ### targets -/
abbrev DG := D → DSt → Mu → (DSt → Mu → Prop) → Prop
def gN (i : Nat) : DG := fun d δ m P => P (δ.set i (some d)) m
def asg (δ : DSt) : List Nat → List D → DSt
  | j :: js, d :: ds => asg (δ.set j (some d)) js ds
  | _, _ => δ
def asgV (σ : St) : List Nat → List V → St
  | j :: js, v :: vs => asgV (σ.set j (some v)) js vs
  | _, _ => σ
def gT (js : List Nat) : DG := fun d δ m P => match d with
  | .tup ds => ds.length = js.length ∧ P (asg δ js ds) m
  | _ => False
theorem RpS.asg {K : PySem.W.Frag} {H0 : Hp} : ∀ {js : List Nat} {vs : List V} {ds : List D} {σ : St} {δ : DSt}, RpL K H0 vs ds → RpS K H0 σ δ → RpS K H0 (asgV σ js vs) (DL.asg δ js ds)
  | [], _, _, _, _, _, h => h
  | _ :: _, _, _, _, _, .nil, h => h
  | j :: js, _, _, _, _, .cons q r, h => RpS.asg (js := js) r (h.set q j)
theorem wipe_get (σ : St) : ∀ (vs : List Nat) (i : Nat), (wipe σ vs)[i]? = if i ∈ vs ∧ i < σ.length then some none else σ[i]?
  | [], i => by simp [wipe]
  | v :: vs, i => by
    have ih := wipe_get σ vs i
    unfold wipe
    by_cases hv : v = i
    · subst hv
      by_cases hl : v < σ.length
      · rw [List.getElem?_set_self (by rw [wipe_length]; exact hl), if_pos ⟨List.mem_cons_self, hl⟩]
      · rw [List.getElem?_eq_none (by simpa [wipe_length] using hl), if_neg (fun z => hl z.2), List.getElem?_eq_none (by simpa using hl)]
    · rw [List.getElem?_set_ne hv, ih]
      have e : (i ∈ v :: vs ∧ i < σ.length) ↔ (i ∈ vs ∧ i < σ.length) := by
        constructor
        · rintro ⟨h1, h2⟩
          rcases List.mem_cons.mp h1 with h | h
          · exact absurd h.symm hv
          · exact ⟨h, h2⟩
        · rintro ⟨h1, h2⟩
          exact ⟨List.mem_cons_of_mem _ h1, h2⟩
      by_cases hc : i ∈ vs ∧ i < σ.length
      · rw [if_pos hc, if_pos (e.mpr hc)]
      · rw [if_neg hc, if_neg (fun z => hc (e.mp z))]
theorem wipe_same {σ σ' : St} {vs : List Nat} (hl : σ'.length = σ.length) (h : ∀ i, i ∉ vs → σ'[i]? = σ[i]?) : wipe σ' vs = wipe σ vs := by
  apply List.ext_getElem?
  intro i
  rw [wipe_get, wipe_get, hl]
  by_cases hi : i ∈ vs
  · by_cases hlt : i < σ.length
    · rw [if_pos ⟨hi, hlt⟩, if_pos ⟨hi, hlt⟩]
    · rw [if_neg (fun z => hlt z.2), if_neg (fun z => hlt z.2), List.getElem?_eq_none (by omega), List.getElem?_eq_none (by omega)]
  · rw [if_neg (fun z => hi z.1), if_neg (fun z => hi z.1)]
    exact h i hi
theorem asgV_length : ∀ (js : List Nat) (vs : List V) (σ : St), (asgV σ js vs).length = σ.length
  | [], _, _ => rfl
  | _ :: _, [], _ => rfl
  | j :: js, v :: vs, σ => by
    show (asgV (σ.set j (some v)) js vs).length = σ.length
    rw [asgV_length js vs, List.length_set]
theorem asgV_out : ∀ (js : List Nat) (vs : List V) (σ : St) (i : Nat), i ∉ js → (asgV σ js vs)[i]? = σ[i]?
  | [], _, _, _, _ => rfl
  | _ :: _, [], _, _, _ => rfl
  | j :: js, v :: vs, σ, i, h => by
    show (asgV (σ.set j (some v)) js vs)[i]? = σ[i]?
    rw [asgV_out js vs _ i (fun z => h (List.mem_cons_of_mem _ z)), List.getElem?_set_ne (fun z => h (by rw [z]; exact List.mem_cons_self))]
/-- a target: what it does to the slots of js alone -/
def Gok (K : KW) (js : List Nat) (g : TG) (rg : DG) : Prop := ∀ F H0 m H σ δ v d P Q, Ok K F H0 m H → RpS K H0 σ δ → Rp K H0 v d → rg d δ m P → (∀ σ' δ', RpS K H0 σ' δ' → wipe σ' js = wipe σ js → P δ' m → Q σ' H) → g v σ H Q
theorem gN_ok {K : KW} {j : Nat} : Gok K [j] (gName j) (gN j) := fun F H0 m H σ δ v d P Q ok rs r h k =>
  k _ _ (rs.set r j) (wipe_same (by simp) fun i hi => List.getElem?_set_ne fun z => hi (by simp [z])) h
/-- a tuple of names -/
def gNames (js : List Nat) : TGs := fun vs σ H Q => vs.length = js.length ∧ Q (asgV σ js vs) H
section
variable {X : Cx} {W : WX} {a b c tg : Expr} {ra rb rc : DE} {pos p : Pos} {e : Expr} {es : List Expr} {qs : DA}
theorem PGs.imp {X : Cx} {e : List Expr} {t t' : TGs} (h : PGs X e t) (k : ∀ v σ H Q, t' v σ H Q → t v σ H Q) : PGs X e t' := ⟨fun pins s σ H vs us Q I r w => h.run pins s σ H vs us Q I r (k vs σ H Q w)⟩
theorem PG.imp {X : Cx} {e : Expr} {t t' : TG} (h : PG X e t) (k : ∀ v σ H Q, t' v σ H Q → t v σ H Q) : PG X e t' := ⟨fun pins s σ H v u Q I r w => h.run pins s σ H v u Q I r (k v σ H Q w)⟩
theorem dgs_nil : PGs X [] (gNames []) := PGs.imp pgs_nil fun vs σ H Q h => by
  have e : vs = [] := List.eq_nil_of_length_eq_zero h.1
  subst e
  exact ⟨rfl, h.2⟩
theorem dgs_cons {j : Nat} {js : List Nat} (h1 : PG X e (gName j)) (h2 : PGs X es (gNames js)) (hs : (assignEach (e :: es) X.env).map (·.2) = assign e X.env :: (assignEach es X.env).map (·.2) := by rfl) : PGs X (e :: es) (gNames (j :: js)) :=
  PGs.imp (pgs_cons h1 h2 hs) fun vs σ H Q h => by
    cases vs with
    | nil => exact absurd h.1 (by simp)
    | cons v vs => exact ⟨v, vs, rfl, by simpa using h.1, h.2⟩
theorem gT_ok {K : KW} {js : List Nat} : Gok K js (gTup K js.length (gNames js)) (gT js) := by
  intro F H0 m H σ δ v d P Q ok rs r h k
  unfold gT at h
  split at h
  · obtain ⟨q, vs, rfl, hq, rv⟩ := tup_rp ok r
    have hl : vs.length = js.length := rv.length.trans h.1
    exact ⟨q, vs, rfl, hq, hl, hl, k _ _ (rs.asg rv) (wipe_same (asgV_length _ _ _) fun i hi => asgV_out _ _ _ i hi) h.2⟩
  · exact h.elim
/-! ### for -/
def sLoop0 (Ph : Mu → Prop) (rg : DG) (rb : DS) (DD : DEnds) : List D → DSt → Mu → Prop
  | [], δ, m => Ph m ∧ DD.nx δ m
  | d :: ds, δ, m => Ph m ∧ rg d δ m fun δ' m' => rb { DD with nx := sLoop0 Ph rg rb DD ds, ct := sLoop0 Ph rg rb DD ds, bk := DD.nx } δ' m'
@[irreducible] def sLoop (Ph : Mu → Prop) (rg : DG) (rb : DS) (DD : DEnds) (ds : List D) (δ : DSt) (m : Mu) : Prop := sLoop0 Ph rg rb DD ds δ m
theorem sLoop_nil {Ph : Mu → Prop} {rg : DG} {rb : DS} {DD : DEnds} {δ : DSt} {m : Mu} : sLoop Ph rg rb DD [] δ m = (Ph m ∧ DD.nx δ m) := by unfold sLoop; rfl
theorem sLoop_cons {Ph : Mu → Prop} {rg : DG} {rb : DS} {DD : DEnds} {δ : DSt} {m : Mu} {d : D} {ds : List D} : sLoop Ph rg rb DD (d :: ds) δ m = (Ph m ∧ rg d δ m fun δ' m' => rb { DD with nx := sLoop Ph rg rb DD ds, ct := sLoop Ph rg rb DD ds, bk := DD.nx } δ' m') := by
  have e : sLoop Ph rg rb DD ds = sLoop0 Ph rg rb DD ds := by funext δ m; unfold sLoop; rfl
  rw [e]
  unfold sLoop
  rfl
def sFor (ri : DI) (rg : DG) (rb : DS) : DS := fun DD δ m => ri δ m (fun Ph ds m1 => sLoop Ph rg rb DD ds δ m1) fun c fs m1 => DD.xx c fs δ m1
theorem ds_for {iter : Expr} {body : List Stmt} {ri : DI} {g : TG} {rg : DG} {rb : DS} {js : List Nat} (hp : PassesOwn (model X.prog X.w) X.A X.env X.xe) (hc : X.calm = true) (hi : PI X tg iter (lI (kw X) W ri)) (hg : PG X tg g) (go : Gok (kw X) js g rg) (hb : PSs X body (lS (kw X) W rb))
    (hs : ∀ x, foldedSetIterable iter X.env x = pure x := by intro _; rfl) : PS X (.For tg iter body [] pos) (lS (kw X) W (sFor ri rg rb)) := by
  refine PS.imp (ps_for hp hc hi hg hb hs) fun Dn σ H h => ?_
  obtain ⟨F, H0, m, δ, DD, ok, rs, h, gd⟩ := h
  refine ⟨F, H0, m, δ, _, _, ok, rs, h, fun J H1 H01 m1 Ph ds s1 ok1 it ph h1 => ?_, gd.xx.at_ rs⟩
  refine ⟨fun i k σ' H' => ∃ H0' m' δ', Same H01 H0' ∧ Ok (kw X) F H0' m' H' ∧ RpS X.K H0' σ' δ' ∧ i + k = ds.length ∧ sLoop Ph rg rb DD (ds.drop i) δ' m', ⟨ds.length, H01, m1, δ, Same.refl _, ok1, rs.mono s1, by omega, h1⟩, ?_⟩
  rintro i k σ2 H2 ⟨H02, m2, δ2, s2, ok2, rs2, hik, h2⟩
  by_cases hlt : i < ds.length
  · have e1 : ds[i]? = some ds[i] := List.getElem?_eq_getElem hlt
    rw [List.drop_eq_getElem_cons hlt, sLoop_cons] at h2
    obtain ⟨ph2, h2⟩ := h2
    obtain ⟨go1, yl⟩ := (it F i H2 H02 m2 s2 ok2 ph2).1 _ e1
    refine .inr ⟨go1, fun σ' H' => ∃ H0' m' δ', Same H01 H0' ∧ Ok (kw X) F H0' m' H' ∧ RpS X.K H0' σ' δ' ∧ sLoop Ph rg rb DD (ds.drop (i + 1)) δ' m', fun σ' H' hN => ?_, fun x H' y => ?_⟩
    · obtain ⟨H0', m', δ', z1, z2, z3, z4⟩ := hN
      exact ⟨k - 1, by omega, H0', m', δ', z1, z2, z3, by omega, z4⟩
    · obtain ⟨H03, s3, ok3, r3⟩ := yl x H' y
      refine go F H03 m2 H' σ2 δ2 x _ _ _ ok3 (rs2.mono s3) r3 h2 fun σ4 δ4 rs4 _ h4 => ?_
      have s13 := s1.trans (s2.trans s3)
      refine ⟨F, H03, m2, δ4, _, ok3, rs4, h4, ⟨fun σ5 H5 H05 m5 δ5 s5 ok5 rs5 h5 => ⟨H05, m5, δ5, (s2.trans s3).trans s5, ok5, rs5, h5⟩, (gd.mono s13).rt, (gd.mono s13).nx, fun σ5 H5 H05 m5 δ5 s5 ok5 rs5 h5 => ⟨H05, m5, δ5, (s2.trans s3).trans s5, ok5, rs5, h5⟩, (gd.mono s13).xx⟩⟩
  · have e : i = ds.length := by omega
    subst e
    rw [List.drop_length, sLoop_nil] at h2
    exact .inl ⟨(it F _ H2 H02 m2 s2 ok2 h2.1).2 rfl, gd.nx _ _ _ _ _ (s1.trans s2) ok2 rs2 h2.2⟩
/-! ### list comprehensions -/
def wipeD (δ : DSt) : List Nat → DSt
  | [] => δ
  | v :: vs => (wipeD δ vs).set v none
theorem RpS.wipe {K : PySem.W.Frag} {H0 : Hp} {σ : St} {δ : DSt} (r : RpS K H0 σ δ) : ∀ vs : List Nat, RpS K H0 (L2.wipe σ vs) (wipeD δ vs)
  | [] => r
  | v :: vs => (RpS.wipe r vs).clear v
theorem wipe_twice (σ : St) (vs : List Nat) : wipe (wipe σ vs) vs = wipe σ vs := wipe_same (wipe_length σ vs) fun i hi => by rw [wipe_get, if_neg fun z => hi z.1]
abbrev noX : DX := fun _ _ _ => False
abbrev noW : WX := fun _ _ _ _ => False
def rComp0 (Ph : Mu → Prop) (rg : DG) (qt : DT) (re : DE) (δ : DSt) (P : List D → Mu → Prop) : List D → List D → Mu → Prop
  | [], acc, m => Ph m ∧ P acc m
  | d :: ds, acc, m => Ph m ∧ rg d δ m fun δ' m' => qt δ' m' (fun k m1 => match k with
    | true => re δ' m1 (fun x m2 => acc.length < sizeLine ∧ rComp0 Ph rg qt re δ P ds (acc ++ [x]) m2) noX
    | false => rComp0 Ph rg qt re δ P ds acc m1) noX
@[irreducible] def rComp (Ph : Mu → Prop) (rg : DG) (qt : DT) (re : DE) (δ : DSt) (P : List D → Mu → Prop) (ds acc : List D) (m : Mu) : Prop := rComp0 Ph rg qt re δ P ds acc m
theorem rComp_nil {Ph : Mu → Prop} {rg : DG} {qt : DT} {re : DE} {δ : DSt} {P : List D → Mu → Prop} {acc : List D} {m : Mu} : rComp Ph rg qt re δ P [] acc m = (Ph m ∧ P acc m) := by unfold rComp; rfl
theorem rComp_cons {Ph : Mu → Prop} {rg : DG} {qt : DT} {re : DE} {δ : DSt} {P : List D → Mu → Prop} {d : D} {ds acc : List D} {m : Mu} : rComp Ph rg qt re δ P (d :: ds) acc m = (Ph m ∧ rg d δ m fun δ' m' => qt δ' m' (fun k m1 => match k with
    | true => re δ' m1 (fun x m2 => acc.length < sizeLine ∧ rComp Ph rg qt re δ P ds (acc ++ [x]) m2) noX
    | false => rComp Ph rg qt re δ P ds acc m1) noX) := by
  have e : rComp Ph rg qt re δ P ds = rComp0 Ph rg qt re δ P ds := by funext acc m; unfold rComp; rfl
  rw [e]
  unfold rComp
  rfl
def rLc (ri : DI) (js : List Nat) (rg : DG) (qt : DT) (re : DE) : DE := fun δ m P PX => ri δ m (fun Ph ds m1 => rComp Ph rg qt re (wipeD δ js) (fun acc m2 => P (.lst acc) m2) ds [] m1) PX
def rLcM (ri : DI) (js : List Nat) (rg : DG) (qt : DT) (re : DE) : DE := fun δ m P PX => ri δ m (fun Ph ds m1 => rComp Ph rg qt re (wipeD δ js) (fun acc m2 => ∀ q, m2 q = none → P (.adr q) (mset m2 q (.lst acc))) ds [] m1) PX
theorem Ok.addF {K : KW} {F H0 H : Hp} {m : Mu} {q : Addr} {o : HO} (ok : Ok K F H0 m H) (h : H q = none) : Ok K (upd F q o) H0 m (upd H q o) := by
  obtain ⟨h0, hm⟩ := ok.free h
  refine ⟨fun b u e => ?_, fun a u e => ?_, fun a u e => ?_, fun P q l => have t := ok.tab P q l; have n := t.ne_none h; t.step (fun _ _ z => z) t.h0 ((upd_ne n).trans t.hF) (upd_ne n)⟩
  · rw [upd_ne (ne_of_none e h0)]; exact ok.same b u e
  · have ha : a ≠ q := fun z => by rw [z, hm] at e; cases e
    obtain ⟨c1, c2⟩ := ok.cell a u e
    exact ⟨c1, c2.mono (Same.refl _) (upd_ne ha)⟩
  · by_cases ha : a = q
    · subst ha; rw [upd_same] at e ⊢; exact ⟨e, h0, hm⟩
    · rw [upd_ne ha] at e ⊢; exact ok.fr a u e
theorem Ok.reF {K : KW} {F H0 H : Hp} {m : Mu} {q : Addr} {o o' : HO} (ok : Ok K (upd F q o) H0 m H) : Ok K (upd F q o') H0 m (upd H q o') := by
  obtain ⟨h1, h0, hm⟩ := ok.fr q o upd_same
  refine ⟨fun b u e => ?_, fun a u e => ?_, fun a u e => ?_, fun P q l => have t := ok.tab P q l; have n := t.ne_frame upd_same; t.step (fun _ _ z => z) t.h0 ((upd_ne n).trans ((upd_ne n).symm.trans t.hF)) (upd_ne n)⟩
  · rw [upd_ne (ne_of_none e h0)]; exact ok.same b u e
  · have ha : a ≠ q := fun z => by rw [z, hm] at e; cases e
    obtain ⟨c1, c2⟩ := ok.cell a u e
    exact ⟨c1, c2.mono (Same.refl _) (upd_ne ha)⟩
  · by_cases ha : a = q
    · subst ha; rw [upd_same] at e ⊢; exact ⟨e, h0, hm⟩
    · rw [upd_ne ha] at e ⊢
      exact ok.fr a u (by rw [upd_ne ha]; exact e)
theorem Ok.promote {K : KW} {F H0 H : Hp} {m : Mu} {q : Addr} {o : HO} (ok : Ok K F H0 m H) (h : H q = some o) (h0 : H0 q = none) (hm : m q = none) (hF : F q = none) (ht : ∀ ps, o ≠ .tbl ps := by intro _ z; cases z) : Ok K F (upd H0 q o) m H := by
  refine ⟨fun b u e => ?_, fun a u e => ?_, fun a u e => ?_, fun P q l => have t := ok.tab P q l; t.step (same_new h0) ((upd_ne (t.ne_some h ht)).trans t.h0) t.hF rfl⟩
  · by_cases hb : b = q
    · subst hb; rw [upd_same] at e; cases e; exact h
    · rw [upd_ne hb] at e; exact ok.same b u e
  · have ha : a ≠ q := fun z => by rw [z, hm] at e; cases e
    obtain ⟨c1, c2⟩ := ok.cell a u e
    exact ⟨by rw [upd_ne ha]; exact c1, c2.mono (same_new h0) rfl⟩
  · have ha : a ≠ q := ne_of_none e hF
    obtain ⟨c1, c2, c3⟩ := ok.fr a u e
    exact ⟨c1, by rw [upd_ne ha]; exact c2, c3⟩
theorem lc_lift {K : KW} {ri : DI} {g : TG} {rg : DG} {qt : DT} {re : DE} {js : List Nat} {Pf : DK → List D → Mu → Prop} (go : Gok K js g rg)
    (fin : ∀ F H0 m H q vs acc P Q, Ok K F H0 m H → H q = some (.lst vs) → H0 q = none → m q = none → F q = none → RpL K H0 vs acc → Pf P acc m → GV K F H0 P Q → Q (.ref q) H)
    {σ : St} {H : Hp} {Q : VK} (h : lE K W (fun δ m P PX => ri δ m (fun Ph ds m1 => rComp Ph rg qt re (wipeD δ js) (Pf P) ds [] m1) PX) σ H Q) : tLc (lI K W ri) g (lT K noW qt) (lE K noW re) js σ H Q := by
  obtain ⟨F, H0, m, δ, P, PX, ok, rs, h, gv, gx⟩ := h
  refine ⟨F, H0, m, δ, _, _, ok, rs, h, fun J H1 H01 m1 Ph ds s1 ok1 it ph h1 q hq => ?_, gx⟩
  have hF : F q = none := ok1.freeF hq
  refine ⟨fun i k H' => ∃ H0' m' vs acc, Same H01 H0' ∧ Ok K (upd F q (.lst vs)) H0' m' H' ∧ RpL K H0' vs acc ∧ i + k = ds.length ∧ rComp Ph rg qt re (wipeD δ js) (Pf P) (ds.drop i) acc m', ⟨ds.length, H01, m1, [], [], Same.refl _, ok1.addF hq, .nil, by omega, h1⟩, ?_⟩
  rintro i k H2 ⟨H02, m2, vs, acc, s2, ok2, rl, hik, h2⟩
  by_cases hlt : i < ds.length
  · have e1 : ds[i]? = some ds[i] := List.getElem?_eq_getElem hlt
    rw [List.drop_eq_getElem_cons hlt, rComp_cons] at h2
    obtain ⟨ph2, h2⟩ := h2
    obtain ⟨go1, yl⟩ := (it _ i H2 H02 m2 s2 ok2 ph2).1 _ e1
    refine .inr ⟨go1, fun H' => ∃ H0' m' vs acc, Same H01 H0' ∧ Ok K (upd F q (.lst vs)) H0' m' H' ∧ RpL K H0' vs acc ∧ rComp Ph rg qt re (wipeD δ js) (Pf P) (ds.drop (i + 1)) acc m', fun H' hN => ?_, fun x H' y => ?_⟩
    · obtain ⟨H0', m', vs', acc', z1, z2, z3, z4⟩ := hN
      exact ⟨k - 1, by omega, H0', m', vs', acc', z1, z2, z3, by omega, z4⟩
    · obtain ⟨H03, s3, ok3, r3⟩ := yl x H' y
      have rs3 := (rs.wipe js).mono (s1.trans (s2.trans s3))
      refine go _ H03 m2 H' _ _ x _ _ _ ok3 rs3 r3 h2 fun σ4 δ4 rs4 hw4 h4 => ⟨by rw [hw4, wipe_twice], ?_⟩
      refine ⟨_, H03, m2, δ4, _, noX, ok3, rs4, h4, fun b H5 H05 m5 s5 ok5 h5 => ?_, fun _ _ _ _ _ _ _ _ _ z => z⟩
      cases b with
      | false =>
        rw [if_neg Bool.false_ne_true]
        exact ⟨H05, m5, vs, acc, (s2.trans s3).trans s5, ok5, (rl.mono s3).mono s5, h5⟩
      | true =>
        rw [if_pos rfl]
        refine ⟨_, H05, m5, δ4, _, noX, ok5, rs4.mono s5, h5, fun y H6 H06 m6 d6 s6 ok6 r6 h6 => ?_, fun _ _ _ _ _ _ _ _ _ z => z⟩
        have rl6 := ((rl.mono s3).mono s5).mono s6
        exact ⟨vs, (ok6.fr q _ upd_same).1, by rw [rl6.length]; exact h6.1, H06, m6, vs ++ [y], acc ++ [d6], ((s2.trans s3).trans s5).trans s6, ok6.reF, rl6.snoc r6, h6.2⟩
  · have e : i = ds.length := by omega
    subst e
    rw [List.drop_length, rComp_nil] at h2
    obtain ⟨ok3, z1, z2, z3⟩ := ok2.unframe hF
    exact .inl ⟨(it _ _ H2 H02 m2 s2 ok2 h2.1).2 rfl, fin F H02 m2 H2 q vs acc P Q ok3 z1 z2 z3 hF rl h2.2 (gv.mono (s1.trans s2))⟩
theorem lc_fin {K : KW} : ∀ F H0 m H q vs acc P Q, Ok K F H0 m H → H q = some (.lst vs) → H0 q = none → m q = none → F q = none → RpL K H0 vs acc → P (.lst acc) m → GV K F H0 P Q → Q (.ref q) H :=
  fun F H0 m H q vs acc P Q ok h h0 hm hF r h1 g => g _ _ (upd H0 q (.lst vs)) m _ (same_new h0) (ok.promote h h0 hm hF) (.lst (SqL.of upd_same) (r.mono (same_new h0))) h1
variable {ifs : List Expr} {scope : Scope} {own : List (Str × Nat)} {ri : DI} {g : TG} {rg : DG} {qt : DT} {re : DE}
theorem pd_lc {elt iter : Expr} {js : List Nat} (hc : X.calm = true) (hN : X.N.Nodup) (hi : PI X tg iter (lI (kw X) W ri)) (ok : BlkOk X.N X.env.scope scope own) (go : Gok (kw X) js g rg) (hj : own.map (·.2) = js)
    (hg : ∀ (s : Shared) (H : Hp) (C : Addr) (cl : List (Str × Addr)) (fp : List Addr), PG (X.blk s H scope (compEnvC scope cl C X.env) fp) tg g) (ht : ∀ (s : Shared) (H : Hp) (C : Addr) (cl : List (Str × Addr)) (fp : List Addr), PTs (X.blk s H scope (compEnvC scope cl C X.env) fp) ifs (lT (kw X) noW qt))
    (he : ∀ (s : Shared) (H : Hp) (C : Addr) (cl : List (Str × Addr)) (fp : List Addr), PE (X.blk s H scope (compEnvC scope cl C X.env) fp) elt (lE (kw X) noW re)) (hs : ∀ x, foldedSetIterable iter X.env x = pure x := by intro _; rfl) :
    PE X (.ListComp elt [⟨tg, iter, ifs, 0⟩] scope pos) (lE (kw X) W (rLc ri js rg qt re)) := by
  subst hj
  exact PE.imp (pe_lc hc hN hi ok hg ht he hs) fun _ _ _ h => lc_lift go lc_fin h
theorem ds_setLc {elt iter : Expr} {js : List Nat} {i : Nat} {y : Str} {py spos : Pos} (hc : X.calm = true) (hN : X.N.Nodup) (hsw : swapsWith (.ListComp elt [⟨tg, iter, ifs, 0⟩] scope pos) (some (.Name y py)) spos.line X.env = pure true) (hi : PI X tg iter (lI (kw X) W ri)) (ok : BlkOk X.N X.env.scope scope own) (go : Gok (kw X) js g rg) (hj : own.map (·.2) = js)
    (hg : ∀ (s : Shared) (H : Hp) (C : Addr) (cl : List (Str × Addr)) (fp : List Addr), PG (X.blk s H scope (compEnvC scope cl C X.env) fp) tg g) (ht : ∀ (s : Shared) (H : Hp) (C : Addr) (cl : List (Str × Addr)) (fp : List Addr), PTs (X.blk s H scope (compEnvC scope cl C X.env) fp) ifs (lT (kw X) noW qt))
    (he : ∀ (s : Shared) (H : Hp) (C : Addr) (cl : List (Str × Addr)) (fp : List Addr), PE (X.blk s H scope (compEnvC scope cl C X.env) fp) elt (lE (kw X) noW re)) (hy : X.N[i]? = some y := by rfl) (hyl : X.env.scope.names.lookup y = some .local := by rfl) (hs : ∀ x, foldedSetIterable iter X.env x = pure x := by intro _; rfl) :
    PS X (.Assign [.Name y py] (.ListComp elt [⟨tg, iter, ifs, 0⟩] scope pos) spos) (lS (kw X) W (sSet i (rLc ri js rg qt re))) := by
  subst hj
  refine PS.imp (ps_setLc (i := i) hc hN hy hyl hsw hi ok hg ht he hs) fun Dn σ H h => ?_
  obtain ⟨F, H0, m, δ, DD, ok, rs, h, gd⟩ := h
  unfold sSet rLc at h
  refine lc_lift go lc_fin (Q := fun x H1 => gName i x σ H1 Dn.nx) ⟨F, H0, m, δ, fun d m1 => DD.nx (δ.set i (some d)) m1, fun c fs m1 => DD.xx c fs δ m1, ok, rs, h, fun v H1 H01 m1 d s1 ok1 r1 h1 => gd.nx _ _ _ _ _ s1 ok1 ((rs.mono s1).set r1 i) h1, gd.xx.at_ rs⟩
def qYes : DT := fun _ m P _ => P true m
theorem PTs.imp {X : Cx} {e : List Expr} {t t' : TT} (h : PTs X e t) (k : ∀ σ H Q, t' σ H Q → t σ H Q) : PTs X e t' := ⟨fun pins s σ H Q I w => h.run pins s σ H Q I (k σ H Q w)⟩
theorem dts_nil : PTs X [] (lT (kw X) W qYes) := PTs.imp pts_nil fun σ H Q h => by
  obtain ⟨F, H0, m, δ, P, PX, ok, rs, h, g, gx⟩ := h
  exact g _ _ _ _ (Same.refl _) ok h
theorem dts_one (h : PT X c (lT (kw X) W qt)) : PTs X [c] (lT (kw X) W qt) := pts_one h
end
/-! ### a def -/
def dstart (N : List Str) (ds : List D) : DSt := ds.map some ++ List.replicate (N.length - ds.length) none
def dEnds (P : DK) (PX : DX) : DEnds := { nx := fun _ m => P .non m, rt := P, bk := fun _ _ => False, ct := fun _ _ => False, xx := fun c fs _ m => PX c fs m }
theorem rps_start {K : PySem.W.Frag} {H0 : Hp} {N : List Str} {vs : List V} {ds : List D} (r : RpL K H0 vs ds) : RpS K H0 (L2.start N vs) (dstart N ds) := by
  have hl := r.length
  refine ⟨by simp [L2.start, dstart, hl], fun i d e => ?_⟩
  unfold dstart at e
  unfold L2.start
  by_cases hi : i < ds.length
  · rw [List.getElem?_append_left (by simpa using hi), List.getElem?_map] at e
    cases e2 : ds[i]? with
    | none => rw [e2] at e; cases e
    | some d' =>
      rw [e2] at e
      cases e
      obtain ⟨v, e3, rv⟩ := r.get e2
      exact ⟨v, by rw [List.getElem?_append_left (by simpa [hl] using hi), List.getElem?_map, e3]; rfl, rv⟩
  · rw [List.getElem?_append_right (by simpa using hi)] at e
    rw [List.getElem?_replicate] at e
    split at e <;> cases e
section
variable {P : Program} {w : World} {K : PySem.W.Frag} {mg : Str → Option Value} {base : Heap}
theorem fn_ok {x qual : Str} {st : Stmt} {f : Addr} {fd : FuncData} {N ps : List Str} {k : Nat} {sp : SpD} {r : DS} (G : Fun K x qual st f fd) (S : FnScope N ps (defScope st)) (hlen : ∀ ds m Q PX, sp ds m Q PX → ds.length = ps.length)
    (hd : ∀ (cdv : Value) (A : Around) (outer : List Env) (s : Shared) (H : Hp) (E : XK), Room k (A.deeper (PyProof.Rows.envOfC qual (defScope st) s.heap.objs.size f cdv)) →
      PSs (cxOf (L2.CX P w) P w K mg base N qual (defScope st) f cdv A outer s H E) (defBody st) (lS ⟨K, w⟩ (fun c d _ H => E c d H) r))
    (hp : ∀ ds m Q PX, sp ds m Q PX → r (dEnds Q PX) (dstart N ds) m) : FnOk P w K mg base (L2.CX P w) (k + 1) f fd ps (lP ⟨K, w⟩ sp) := by
  refine G.okX S (fun vs H Q E h => ?_) (fun cdv A outer s H vs Q E hr h => ⟨_, hd cdv A outer s H E hr, ?_⟩)
  · obtain ⟨F, H0, m, ds, Q', PX, ok, rl, h, _⟩ := h
    exact rl.length.trans (hlen _ _ _ _ h)
  · obtain ⟨F, H0, m, ds, Q', PX, ok, rl, h, g, gx⟩ := h
    exact ⟨F, H0, m, _, _, ok, rps_start rl, hp ds m Q' PX h, ⟨fun σ' H' H0' m' δ' s ok' _ z => g _ _ _ _ _ s ok' .non z, g, fun _ _ _ _ _ _ _ _ z => z.elim, fun _ _ _ _ _ _ _ _ z => z.elim, fun c xd σ' H' H0' m' fs δ' s ok' _ x z => gx c xd H' H0' m' fs s ok' x z⟩⟩
end
/-! ### the law -/
theorem rpl_ints {K : PySem.W.Frag} {H : Hp} : ∀ ns : List Int, RpL K H (ns.map V.int) (ns.map D.int)
  | [] => .nil
  | n :: ns => .cons (.int n) (rpl_ints ns)
def spLaw : SpD := fun ds _ P _ => ∃ ns : List Int, ds = [.lst (ns.map .int)] ∧ ns.length ≤ 63 ∧ ∀ m, P (.bl true) m
theorem law_sp (K : KW) (NL : NoLam K.fr) (H : Hp) (a : Addr) (ns : List Int) (hl : ns.length ≤ 63) (hS : SqL K H a (ns.map V.int)) : lP K spLaw [.ref a] H (fun v _ => v = .bl true) fun _ _ _ => False :=
  ⟨fun _ => none, H, fun _ => none, [.lst (ns.map .int)], fun d _ => d = .bl true, fun _ _ _ => False, ⟨Same.refl _, fun _ _ e => (by cases e), fun _ _ e => (by cases e), fun P q l => (NL P q l).elim⟩, .cons (.lst hS (rpl_ints ns)) .nil, ⟨ns, rfl, hl, fun _ => rfl⟩, fun v H' H0' m' d _ _ r e => by subst e; cases r; rfl, fun _ _ _ _ _ _ _ _ _ z => z⟩
theorem cx_false {P : Program} {w : World} {H : Hp} {s : Shared} {e : Value} {s' : Shared} (h : L2.CX P w [] H s (fun _ _ _ => False) e s') : False := by
  obtain ⟨_, _, _, _, _, _, _, _, _, _, _, _, z⟩ := h
  exact z
end DL
namespace DL
open PySem L2
theorem units65 {k : Nat} {A : Around} (r : Room k A) : A.units + 65 < cLine := by have := r.un; omega
/-! ### a def of the text by its name -/
def FunAt (K : PySem.W.Frag) (mg : Str → Option Value) (x qual : Str) (st : Stmt) : Prop := ∃ f fd, mg x = some (.ref f) ∧ Fun K x qual st f fd
theorem funAt_mk {K : PySem.W.Frag} {h : Heap} {mg : Str → Option Value} {x : Str} {st : Stmt} {f : Addr} {oc : Value} {od an : Option Addr} {osl : Array (Option Value)} {kV doc pm cdv ct : Value} (X : K.In h) (G : h.Ns mainGlobals mg)
    (a : PySem.W.nsIn K mainGlobals x = some (some (.ref f))) (l : K.lookup f = some ⟨oc, od, .func (PySem.W.fnOf x x (defArgs st) (defBody st) (defScope st) .none kV doc pm an cdv ct), osl⟩)
    (c : PySem.W.codeIn K cdv x = true) (k : PySem.W.keepIn K (.ref f) = true) : FunAt K mg x x st := ⟨f, _, PySem.W.mg_of X G a, fun_mk l c k⟩
structure DefOk (P : Program) (w : World) (K : PySem.W.Frag) (mg : Str → Option Value) (base : Heap) (k : Nat) (x qual : Str) (st : Stmt) (ps : List Str) (sp : SpD) : Prop where
  ex : ∃ f fd, mg x = some (.ref f) ∧ Fun K x qual st f fd ∧ FnOk P w K mg base (L2.CX P w) k f fd ps (lP ⟨K, w⟩ sp)
def BindAll (x qual : Str) (st : Stmt) (ps : List Str) : Prop := ∀ (kV doc pm : Value) (an : Option Addr) (cdv ct : Value) (us : List Value), us.length = ps.length → bindArgs (PySem.W.fnOf x qual (defArgs st) (defBody st) (defScope st) .none kV doc pm an cdv ct) ⟨us, []⟩ = pure (ps.zip us)
section
variable {P : Program} {w : World} {K : PySem.W.Frag} {mg : Str → Option Value} {base : Heap}
theorem def_ok {x qual : Str} {st : Stmt} {N ps : List Str} {k : Nat} {sp : SpD} {r : DS} (G : FunAt K mg x qual st) (S : FnScope N ps (defScope st)) (hlen : ∀ ds m Q PX, sp ds m Q PX → ds.length = ps.length)
    (hd : ∀ (f : Addr) (cdv : Value) (A : Around) (outer : List Env) (s : Shared) (H : Hp) (E : XK), Room k (A.deeper (PyProof.Rows.envOfC qual (defScope st) s.heap.objs.size f cdv)) →
      PSs (cxOf (L2.CX P w) P w K mg base N qual (defScope st) f cdv A outer s H E) (defBody st) (lS ⟨K, w⟩ (fun c d _ H => E c d H) r))
    (hp : ∀ ds m Q PX, sp ds m Q PX → r (dEnds Q PX) (dstart N ds) m) : DefOk P w K mg base (k + 1) x qual st ps sp := by
  obtain ⟨f, fd, e, G⟩ := G
  exact ⟨f, fd, e, G, fn_ok G S hlen (hd f) hp⟩
theorem DefOk.mono {x qual : Str} {st : Stmt} {ps : List Str} {j k : Nat} {sp : SpD} (G : DefOk P w K mg base j x qual st ps sp) (h : j ≤ k) : DefOk P w K mg base k x qual st ps sp := by
  obtain ⟨f, fd, e, G1, G2⟩ := G.ex
  exact ⟨f, fd, e, G1, G2.mono h⟩
end
section
variable {X : Cx} {W : WX} {pos p : Pos} {e : Expr} {es : List Expr} {qs qk : DA} {k : Nat} {ps ks : List Str} {sp : SpD} {x qual : Str} {st : Stmt}
theorem pd_callD (G : DefOk X.prog X.w X.K X.mg X.base k x qual st ps sp) (B : BindAll x qual st ps) (hr : Room k X.A) (tk : Takes X W)
    (ha : PA X (e :: es) (lA (kw X) W qs)) (hg : Gl X x := by rfl) (hdb : (x == ("__debug__" : Str)) = false := by decide) (he : starEach (e :: es) X.env = (false, eval e X.env) :: starEach es X.env := by rfl) (hpl : (backTo pos (starEach es X.env)).any (·.1) = false := by rfl) :
    PE X (.Call (.Name x p) (e :: es) [] pos) (lE (kw X) W (rCall sp [] qs)) := by
  obtain ⟨f, fd, hm, G1, G2⟩ := G.ex
  exact pd_call G2 hr hm G1.kp (G1.binds B) .nil (fun _ => .nil) tk ha hg hdb he hpl
/-- the arguments in the parameters' order: by their places, positional ones first, then keywords -/
def gI {α : Type} (ix : List Nat) (us ws : List α) : List α := ix.filterMap fun i => (us ++ ws)[i]?
theorem gI_rp {K : PySem.W.Frag} {H : Hp} {vs zs : List V} {ds es : List D} (r1 : RpL K H vs ds) (r2 : RpL K H zs es) : ∀ ix : List Nat, RpL K H (gI ix vs zs) (gI ix ds es)
  | [] => .nil
  | i :: ix => by
    have ih := gI_rp r1 r2 ix
    have r := r1.append r2
    unfold gI at ih ⊢
    rw [List.filterMap_cons, List.filterMap_cons]
    cases h : (ds ++ es)[i]? with
    | none =>
      have h2 : (vs ++ zs)[i]? = none := by
        have := List.getElem?_eq_none_iff.mp h
        exact List.getElem?_eq_none_iff.mpr (by rw [r.length]; exact this)
      rw [h2]
      exact ih
    | some d =>
      obtain ⟨v, h2, q⟩ := r.get h
      rw [h2]
      exact .cons q ih
theorem gI_vals {vs zs : List V} {us ws : List Value} (r1 : Vals vs us) (r2 : Vals zs ws) : ∀ ix : List Nat, Vals (gI ix vs zs) (gI ix us ws)
  | [] => .nil
  | i :: ix => by
    have ih := gI_vals r1 r2 ix
    have r : Vals (vs ++ zs) (us ++ ws) := r1.append r2
    unfold gI at ih ⊢
    rw [List.filterMap_cons, List.filterMap_cons]
    cases h : (vs ++ zs)[i]? with
    | none => rw [r.none_of h]; exact ih
    | some d =>
      obtain ⟨v, h2, q⟩ := r.get h
      rw [h2]
      exact .cons q ih
def BindKw (x qual : Str) (st : Stmt) (ps : List Str) (n : Nat) (ks : List Str) (ix : List Nat) : Prop := ∀ (kV doc pm : Value) (an : Option Addr) (cdv ct : Value) (us ws : List Value), us.length = n → ws.length = ks.length → bindArgs (PySem.W.fnOf x qual (defArgs st) (defBody st) (defScope st) .none kV doc pm an cdv ct) ⟨us, ks.zip ws⟩ = pure (ps.zip (gI ix us ws))
theorem kbd_of {K : PySem.W.Frag} {n : Nat} {ix : List Nat} {f : Addr} {fd : FuncData} (G : Fun K x qual st f fd) (B : BindKw x qual st ps n ks ix) : KBd K fd ps n ks (gI ix) := by
  obtain ⟨oc, od, kV, doc, pm, an, cdv, ct, osl, rfl, lk, hcd⟩ := G.ex
  exact ⟨gI ix, gI ix, ⟨fun s us ws _ l1 l2 => BindsTo.of_eq (B kV doc pm an cdv ct us ws l1 l2), fun r1 r2 => gI_vals r1 r2 ix⟩, fun H vs ds zs es _ _ r1 r2 => gI_rp r1 r2 ix⟩
theorem pd_callDK0 {ix : List Nat} {kws : List Keyword} (G : DefOk X.prog X.w X.K X.mg X.base k x qual st ps sp) (B : BindKw x qual st ps 0 ks ix) (hr : Room k X.A) (tk : Takes X W)
    (hkw : PK X kws (lA (kw X) W qk)) (hall : (backToKw pos (keywordEach kws X.env)).all (·.1.isSome) = true := by rfl) (hks : (backToKw pos (keywordEach kws X.env)).filterMap (·.1) = ks := by rfl) (hg : Gl X x := by rfl)
    (hdb : (x == ("__debug__" : Str)) = false := by decide)
    (hpl : ((backTo pos (starEach [] X.env)).any (·.1) || (backToKw pos (keywordEach kws X.env)).any (·.1.isNone)) = false := by rfl) :
    PE X (.Call (.Name x p) [] kws pos) (lE (kw X) W (rCallK sp 0 ks.length (gI ix) rNil qk)) := by
  obtain ⟨f, fd, hm, G1, G2⟩ := G.ex
  exact pd_callK0 G2 hr hm G1.kp (kbd_of G1 B) tk hkw hall hks hg hdb hpl
end
end DL
namespace DL
open PySem L2
section
variable {X : Cx} {W : WX} {a b c : Expr} {ra rb rc : DE} {pos p : Pos}
def rNeg (ra : DE) : DE := fun δ m P PX => ra δ m (fun x m1 => match x with | .int i => P (.int (-i)) m1 | _ => False) PX
theorem pd_neg (ha : PE X a (lE (kw X) W ra)) : PE X (.UnaryOp .USub a pos) (lE (kw X) W (rNeg ra)) := by
  refine PE.imp (pe_un un_neg ha) fun σ H Q h => ?_
  obtain ⟨F, H0, m, δ, P, PX, ok, rs, h, g, gx⟩ := h
  refine ⟨F, H0, m, δ, _, PX, ok, rs, h, fun x H1 H01 m1 d s1 ok1 r1 h1 => ?_, gx⟩
  dsimp only at h1
  split at h1
  · cases r1
    exact ⟨_, rfl, g _ _ _ _ _ s1 ok1 (.int _) h1⟩
  · exact h1.elim
/-! ### dicts that are handed about -/
def rDct0 : DE := fun _ m P _ => P (.dct []) m
theorem pd_dct0 : PE X (.Dict [] [] pos) (lE (kw X) W rDct0) := by
  refine PE.imp pe_dnewK fun σ H Q h => ?_
  obtain ⟨F, H0, m, δ, P, PX, ok, rs, h, g, gx⟩ := h
  exact fun q hq => g _ _ _ _ _ (same_new (ok.free hq).1) (ok.new hq (.dK [])) (.dct (kvs := []) upd_same rfl .nil) h
def keyD : D → Option Key
  | .int i => some (.inl i)
  | .str x => some (.inr x)
  | _ => none
def rDct1 (ra rb : DE) : DE := fun δ m P PX => ra δ m (fun x m1 => rb δ m1 (fun y m2 => match keyD x with
  | some k => P (.dct [(k, y)]) m2
  | none => False) PX) PX
end
end DL
namespace DL
open PySem L2
end DL
namespace DL
open PySem L2
theorem isB_NoneType_int : isB "NoneType" "int" = some false := by decide +kernel
theorem isB_NoneType_bool : isB "NoneType" "bool" = some false := by decide +kernel
theorem isB_NoneType_str : isB "NoneType" "str" = some false := by decide +kernel
theorem isB_NoneType_tuple : isB "NoneType" "tuple" = some false := by decide +kernel
theorem isB_NoneType_list : isB "NoneType" "list" = some false := by decide +kernel
theorem isB_NoneType_dict : isB "NoneType" "dict" = some false := by decide +kernel
theorem isB_bool_int : isB "bool" "int" = some true := by decide +kernel
theorem isB_bool_bool : isB "bool" "bool" = some true := by decide +kernel
theorem isB_bool_str : isB "bool" "str" = some false := by decide +kernel
theorem isB_bool_tuple : isB "bool" "tuple" = some false := by decide +kernel
theorem isB_bool_list : isB "bool" "list" = some false := by decide +kernel
theorem isB_bool_dict : isB "bool" "dict" = some false := by decide +kernel
theorem isB_int_int : isB "int" "int" = some true := by decide +kernel
theorem isB_int_bool : isB "int" "bool" = some false := by decide +kernel
theorem isB_int_str : isB "int" "str" = some false := by decide +kernel
theorem isB_int_tuple : isB "int" "tuple" = some false := by decide +kernel
theorem isB_int_list : isB "int" "list" = some false := by decide +kernel
theorem isB_int_dict : isB "int" "dict" = some false := by decide +kernel
theorem isB_str_int : isB "str" "int" = some false := by decide +kernel
theorem isB_str_bool : isB "str" "bool" = some false := by decide +kernel
theorem isB_str_str : isB "str" "str" = some true := by decide +kernel
theorem isB_str_tuple : isB "str" "tuple" = some false := by decide +kernel
theorem isB_str_list : isB "str" "list" = some false := by decide +kernel
theorem isB_str_dict : isB "str" "dict" = some false := by decide +kernel
theorem isB_list_int : isB "list" "int" = some false := by decide +kernel
theorem isB_list_bool : isB "list" "bool" = some false := by decide +kernel
theorem isB_list_str : isB "list" "str" = some false := by decide +kernel
theorem isB_list_tuple : isB "list" "tuple" = some false := by decide +kernel
theorem isB_list_list : isB "list" "list" = some true := by decide +kernel
theorem isB_list_dict : isB "list" "dict" = some false := by decide +kernel
theorem isB_tuple_int : isB "tuple" "int" = some false := by decide +kernel
theorem isB_tuple_bool : isB "tuple" "bool" = some false := by decide +kernel
theorem isB_tuple_str : isB "tuple" "str" = some false := by decide +kernel
theorem isB_tuple_tuple : isB "tuple" "tuple" = some true := by decide +kernel
theorem isB_tuple_list : isB "tuple" "list" = some false := by decide +kernel
theorem isB_tuple_dict : isB "tuple" "dict" = some false := by decide +kernel
theorem isB_dict_int : isB "dict" "int" = some false := by decide +kernel
theorem isB_dict_bool : isB "dict" "bool" = some false := by decide +kernel
theorem isB_dict_str : isB "dict" "str" = some false := by decide +kernel
theorem isB_dict_tuple : isB "dict" "tuple" = some false := by decide +kernel
theorem isB_dict_list : isB "dict" "list" = some false := by decide +kernel
theorem isB_dict_dict : isB "dict" "dict" = some true := by decide +kernel
/-- the words of the readings, unfolded -/
local macro_rules | `(tactic| walk_at "dl") => `(tactic| simp only [rV, rC, rOp, rNil, rCons, rTup, rLst, rLstM, rCB, rCall, rCallK, rAndV, rOrV, rNotV, rIfE, rTru, rTst, rAnd, rOr, rNot, rChain, rSl, rNoP, rPart, rJoin, rApp, rLc, rLcM, rNeg, rDct0, rDct1, sSeq, sSet, sRet, sIf, sExpr, sNext, sFor, sSetIx, iAny, iRange, iEnumD, qYes, gN, gT, asg, wipeD, dEnds, dstart, oAdd, oI, oI0, oSub, oMul, oDiv, oMod, oPow, oLt, oLe, oGt, oGe, oIx, oSl, cLen, cInt, cStr, cLst, cTup, cIsi, asL, asLT, tyN, truD, gI, oIsN, isNone, isB_NoneType_int, isB_NoneType_bool, isB_NoneType_str, isB_NoneType_tuple, isB_NoneType_list, isB_NoneType_dict, isB_bool_int, isB_bool_bool, isB_bool_str, isB_bool_tuple, isB_bool_list, isB_bool_dict, isB_int_int, isB_int_bool, isB_int_str, isB_int_tuple, isB_int_list, isB_int_dict, isB_str_int, isB_str_bool, isB_str_str, isB_str_tuple, isB_str_list, isB_str_dict, isB_list_int, isB_list_bool, isB_list_str, isB_list_tuple, isB_list_list, isB_list_dict, isB_tuple_int, isB_tuple_bool, isB_tuple_str, isB_tuple_tuple, isB_tuple_list, isB_tuple_dict, isB_dict_int, isB_dict_bool, isB_dict_str, isB_dict_tuple, isB_dict_list, isB_dict_dict, List.getElem?_cons_zero, List.getElem?_cons_succ, List.set_cons_zero, List.set_cons_succ, List.map_cons, List.map_nil, List.length_cons, List.length_nil, List.cons_append, List.nil_append, List.append_nil, List.replicate, Nat.sub_self, Nat.reduceSub, Nat.reduceAdd, List.filterMap_cons, List.filterMap_nil, Bool.not_true, Bool.not_false, if_true, if_false, Bool.false_eq_true])
end DL
namespace DL
open PySem L2
/-! ### reading loops and comprehensions -/
section
variable {Ph : Mu → Prop} {rg : DG} {rb : DS} {DD : DEnds} {qt : DT} {re : DE} {δ : DSt} {P : List D → Mu → Prop}
theorem loop_inv {ds : List D} (I : Nat → DSt → Mu → Prop) (hs : ∀ (i : Nat) d δ m, ds[i]? = some d → I i δ m → Ph m ∧ ∀ Nx : DSt → Mu → Prop, (∀ δ' m', I (i + 1) δ' m' → Nx δ' m') → rg d δ m fun δ' m' => rb { DD with nx := Nx, ct := Nx, bk := DD.nx } δ' m')
    (hd : ∀ δ m, I ds.length δ m → Ph m ∧ DD.nx δ m) {δ : DSt} {m : Mu} (h0 : I 0 δ m) : sLoop Ph rg rb DD ds δ m := by
  have go : ∀ (k i : Nat) δ m, i + k = ds.length → I i δ m → sLoop Ph rg rb DD (ds.drop i) δ m := by
    intro k
    induction k with
    | zero =>
      intro i δ m e h
      have e : i = ds.length := by omega
      subst e
      rw [List.drop_length, sLoop_nil]
      exact hd δ m h
    | succ k ih =>
      intro i δ m e h
      have hlt : i < ds.length := by omega
      rw [List.drop_eq_getElem_cons hlt, sLoop_cons]
      obtain ⟨ph, h2⟩ := hs i _ δ m (List.getElem?_eq_getElem hlt) h
      exact ⟨ph, h2 _ fun δ' m' h' => ih (i + 1) δ' m' (by omega) h'⟩
  exact go ds.length 0 δ m (by omega) h0
theorem comp_inv {ds : List D} (I : Nat → List D → Mu → Prop) (hl : ∀ (i : Nat) acc m, I i acc m → acc.length ≤ i) (hn : ds.length ≤ 16777216)
    (hs : ∀ (i : Nat) d acc m, ds[i]? = some d → I i acc m → Ph m ∧ ∀ (Kt : D → Mu → Prop) (Kf : Mu → Prop), (∀ x m2, I (i + 1) (acc ++ [x]) m2 → Kt x m2) → (∀ m1, I (i + 1) acc m1 → Kf m1) → rg d δ m fun δ' m' => qt δ' m' (fun k m1 => match k with
      | true => re δ' m1 Kt noX
      | false => Kf m1) noX)
    (hd : ∀ acc m, I ds.length acc m → Ph m ∧ P acc m) {m : Mu} (h0 : I 0 [] m) : rComp Ph rg qt re δ P ds [] m := by
  have go : ∀ (k i : Nat) acc m, i + k = ds.length → I i acc m → rComp Ph rg qt re δ P (ds.drop i) acc m := by
    intro k
    induction k with
    | zero =>
      intro i acc m e h
      have e : i = ds.length := by omega
      subst e
      rw [List.drop_length, rComp_nil]
      exact hd acc m h
    | succ k ih =>
      intro i acc m e h
      have hlt : i < ds.length := by omega
      rw [List.drop_eq_getElem_cons hlt, rComp_cons]
      obtain ⟨ph, h2⟩ := hs i _ acc m (List.getElem?_eq_getElem hlt) h
      have hz : acc.length < sizeLine := by
        have h3 := hl i acc m h
        have h4 : sizeLine = 16777216 := sizeLine_eq
        omega
      exact ⟨ph, h2 (fun x m2 => acc.length < sizeLine ∧ rComp Ph rg qt re δ P (ds.drop (i + 1)) (acc ++ [x]) m2) (fun m1 => rComp Ph rg qt re δ P (ds.drop (i + 1)) acc m1) (fun x m2 h' => ⟨hz, ih (i + 1) _ m2 (by omega) h'⟩) (fun m1 h' => ih (i + 1) _ m1 (by omega) h')⟩
  exact go ds.length 0 [] m (by omega) h0
/-- where nothing changes -/
theorem comp_fm {ds : List D} {j : Nat} {m : Mu} (p : D → Bool) (f : D → D) (hn : ds.length ≤ 16777216) (ph : Ph m) (ht : ∀ d ∈ ds, ∀ Q : Bool → Mu → Prop, Q (p d) m → qt (δ.set j (some d)) m Q noX) (he : ∀ d ∈ ds, p d = true → ∀ Q : DK, Q (f d) m → re (δ.set j (some d)) m Q noX)
    (h : P ((ds.filter p).map f) m) : rComp Ph (gN j) qt re δ P ds [] m := by
  refine comp_inv (fun i acc m' => m' = m ∧ acc = ((ds.take i).filter p).map f) (fun i acc m' h => ?_) hn (fun i d acc m' e h => ?_) (fun acc m' h => ?_) ⟨rfl, by simp⟩
  · rw [h.2, List.length_map]
    exact Nat.le_trans (List.length_filter_le _ _) (by rw [List.length_take]; omega)
  · obtain ⟨rfl, rfl⟩ := h
    refine ⟨ph, fun Kt Kf h1 h2 => ?_⟩
    have hm := List.mem_of_getElem? e
    have e2 : ds.take (i + 1) = ds.take i ++ [d] := by
      rw [List.take_succ, e]; rfl
    show qt (δ.set j (some d)) m' _ noX
    refine ht d hm _ ?_
    cases hp : p d with
    | true => exact he d hm hp _ (h1 _ _ ⟨rfl, by rw [e2]; simp [hp]⟩)
    | false => exact h2 _ ⟨rfl, by rw [e2]; simp [hp]⟩
  · obtain ⟨rfl, rfl⟩ := h
    rw [List.take_length]
    exact ⟨ph, h⟩
end
/-! ### what is ours -/
theorem mset_same {m : Mu} {a : Addr} {o : MO} : mset m a o a = some o := by unfold mset; rw [if_pos rfl]
theorem mset_ne {m : Mu} {a b : Addr} {o : MO} (h : b ≠ a) : mset m a o b = m b := by unfold mset; rw [if_neg h]
theorem asL_adr {m : Mu} {a : Addr} {ds : List D} (h : m a = some (.lst ds)) : asL m (.adr a) = some ds := by unfold asL; dsimp only; rw [h]
/-- things that may be handed about -/
def plain : D → Bool
  | .ty _ => false
  | .adr _ => false
  | .glb _ => false
  | .exc _ _ _ _ _ => false
  | .ins _ _ => false
  | _ => true
/-- a text's size -/
theorem len_line {n : Nat} (h : n ≤ 1000000) : n ≤ sizeLine := Nat.le_trans h (by decide)
/-! ### a well: three numbers -/
structure Wl (m : Mu) (w : Addr) (k : Nat) : Prop where
  ex : ∃ a b c : Int, m w = some (.lst [.int a, .int b, .int c]) ∧ 0 ≤ b ∧ b < 2147483629 ∧ 0 ≤ c ∧ c ≤ k
/-- nothing but the well has changed -/
def Only1 (w : Addr) (m m' : Mu) : Prop := ∀ a, a ≠ w → m' a = m a
theorem Only1.refl (w : Addr) (m : Mu) : Only1 w m m := fun _ _ => rfl
theorem Only1.trans {w : Addr} {m m1 m2 : Mu} (a : Only1 w m m1) (b : Only1 w m1 m2) : Only1 w m m2 := fun x h => (b x h).trans (a x h)
theorem Wl.mono {m : Mu} {w : Addr} {k j : Nat} (h : Wl m w k) (hj : k ≤ j) : Wl m w j := by
  obtain ⟨a, b, c, e, h1, h2, h3, h4⟩ := h.ex
  exact ⟨a, b, c, e, h1, h2, h3, by omega⟩
def spDraw : SpD := fun ds m P _ => ∃ (w : Addr) (many : Int) (k : Nat), ds = [.adr w, .int many] ∧ Wl m w k ∧ k ≤ 1000000000 ∧ 0 < many ∧ many.natAbs < 2 ^ 200 ∧
  ∀ (r : Int) m', 0 ≤ r → r < many → Only1 w m m' → Wl m' w (k + 1) → P (.int r) m'
def spWell : SpD := fun ds m P _ => ∃ c : Int, ds = [.int c] ∧ ∀ w m', m w = none → Only1 w m m' → Wl m' w 0 → P (.adr w) m'
def spCellAt : SpD := fun ds m P _ => ∃ (ns : List Int) (k : Nat), ds = [.lst (ns.map .int), .int k] ∧ ∀ c : Int, P (.int c) m
end DL
namespace DL
open PySem L2
local macro_rules | `(tactic| walk_at "dl") => `(tactic| ((conv => whnf); try dsimp only))
def rdDraw : DS :=
    sSeq (sIf (rTst (rOp oGt (rOp oIx (rV 0) (rC (.int 0))) (rC (.int 0)))) (sSeq (sSet 3 (rOp oMod (rCB cInt (rCons (rOp oIx (rV 0) (rC (.int 0))) (rNil))) (rV 1)))
    (sSeq (sSetIx (rOp oDiv (rOp oIx (rV 0) (rC (.int 0))) (rV 1)) (rV 0) (rC (.int 0)))
    (sRet (rV 3)))) (sNext))
    (sSeq (sSetIx (rOp oAdd (rOp oIx (rV 0) (rC (.int 2))) (rC (.int 1))) (rV 0) (rC (.int 2)))
    (sSeq (sSet 2 (rOp oMod (rCB cInt (rCons (rOp oPow (rOp oAdd (rOp oAdd (rOp oIx (rV 0) (rC (.int 1))) (rOp oMul (rC (.int 7919)) (rOp oIx (rV 0) (rC (.int 2))))) (rC (.int 1))) (rC (.int 5))) (rNil))) (rC (.int 2147483647))))
    (sSeq (sSet 2 (rOp oMod (rCB cInt (rCons (rOp oMul (rV 2) (rOp oAdd (rOp oAdd (rOp oDiv (rV 2) (rC (.int 1009))) (rC (.int 69621))) (rOp oIx (rV 0) (rC (.int 2))))) (rNil))) (rC (.int 2147483629))))
    (sRet (rOp oMod (rCB cInt (rCons (rOp oMod (rCB cInt (rCons (rOp oMul (rV 2) (rOp oAdd (rOp oDiv (rV 2) (rC (.int 2003))) (rC (.int 40692)))) (rNil))) (rC (.int 2147483399))) (rNil))) (rV 1))))))
theorem only_mset (w : Addr) (m : Mu) (o : MO) : Only1 w m (mset m w o) := fun _ h => mset_ne h
theorem draw_pure (x1 x2 x3 x4 : Str) : ∀ ds m Q PX, spDraw ds m Q PX → rdDraw (dEnds Q PX) (dstart [x1, x2, x3, x4] ds) m := by
  rintro ds m Q PX ⟨w, many, k, rfl, wl, hk, h0, hb, h⟩
  obtain ⟨a, b, c, e, hb1, hb2, hc1, hc2⟩ := wl.ex
  have dv : ∀ i : Int, CDivW i many := fun i => wide_div h0 hb (by decide) (by decide)
  walk_at "dl"
  rw [asL_adr e]
  walk_at "dl"
  cases ha : decide (0 < a) with
  | true =>
    walk_at "dl"
    rw [asL_adr e]
    walk_at "dl"
    refine ⟨h0, ?_⟩
    walk_at "dl"
    rw [asL_adr e]
    walk_at "dl"
    refine ⟨dv a, ?_⟩
    walk_at "dl"
    rw [e]
    walk_at "dl"
    exact h _ _ (Int.emod_nonneg _ (by omega)) (Int.emod_lt_of_pos _ h0) (only_mset _ _ _) ⟨_, b, c, mset_same, hb1, hb2, hc1, by omega⟩
  | false =>
    walk_at "dl"
    rw [asL_adr e]
    walk_at "dl"
    rw [e]
    walk_at "dl"
    rw [asL_adr mset_same]
    walk_at "dl"
    rw [asL_adr mset_same]
    walk_at "dl"
    refine ⟨.inl ⟨by decide, by decide⟩, ?_⟩
    walk_at "dl"
    have bound : ∀ z : Int, 0 ≤ z → z ≤ 10000000000000 → CPow (b + z + 1) 5 := fun z h1 h2 => ⟨by decide, by decide, by
      have : (2 : Nat) ^ 64 = 18446744073709551616 := by decide
      omega⟩
    refine ⟨bound _ (by omega) (by omega), ?_⟩
    walk_at "dl"
    refine ⟨(by show (0 : Int) < _; decide), ?_⟩
    walk_at "dl"
    generalize hF : (b + 7919 * (c + 1) + 1) ^ Int.toNat 5 % 2147483647 = f1
    have f1a : 0 ≤ f1 := by rw [← hF]; exact Int.emod_nonneg _ (by decide)
    have f1b : f1 < 2147483647 := by rw [← hF]; exact Int.emod_lt_of_pos _ (by decide)
    refine ⟨wide_div (b := 11) (by decide) (by decide) (by decide) (by decide), ?_⟩
    walk_at "dl"
    rw [asL_adr mset_same]
    walk_at "dl"
    refine ⟨.inl ⟨by omega, by omega⟩, ?_⟩
    walk_at "dl"
    refine ⟨(by show (0 : Int) < _; decide), ?_⟩
    walk_at "dl"
    generalize hF2 : f1 * (f1 / 1009 + 69621 + (c + 1)) % 2147483629 = f2
    have f2a : 0 ≤ f2 := by rw [← hF2]; exact Int.emod_nonneg _ (by decide)
    have f2b : f2 < 2147483629 := by rw [← hF2]; exact Int.emod_lt_of_pos _ (by decide)
    refine ⟨wide_div (b := 11) (by decide) (by decide) (by decide) (by decide), ?_⟩
    walk_at "dl"
    refine ⟨.inl ⟨by omega, by omega⟩, ?_⟩
    walk_at "dl"
    refine ⟨(by show (0 : Int) < _; decide), ?_⟩
    walk_at "dl"
    refine ⟨h0, ?_⟩
    exact h _ _ (Int.emod_nonneg _ (by omega)) (Int.emod_lt_of_pos _ h0) (only_mset _ _ _) ⟨a, b, c + 1, mset_same, hb1, hb2, by omega, by omega⟩
end DL
namespace DL
open PySem L2
local macro_rules | `(tactic| walk_at "dl") => `(tactic| ((conv => whnf); try dsimp only))
def rdWell : DS :=
    sRet (rLstM (rCons (rOp oIx (rLst (rCons (rC (.int 0)) (rCons (rV 0) (rNil)))) (rCB cInt (rCons (rOp oGe (rV 0) (rOp oPow (rC (.int 10)) (rC (.int 18)))) (rNil)))) (rCons (rOp oMod (rCB cInt (rCons (rV 0) (rNil))) (rC (.int 2147483629))) (rCons (rC (.int 0)) (rNil)))))
theorem well_pure (x1 : Str) : ∀ ds m Q PX, spWell ds m Q PX → rdWell (dEnds Q PX) (dstart [x1] ds) m := by
  rintro ds m Q PX ⟨c, rfl, h⟩
  walk_at "dl"
  refine ⟨len_line (by simp), ?_⟩
  walk_at "dl"
  refine ⟨⟨by decide, by decide, by decide⟩, ?_⟩
  have fin : ∀ z : Int, (rCons (rOp oMod (rCB cInt (rCons (rV 0) (rNil))) (rC (.int 2147483629))) (rCons (rC (.int 0)) (rNil))) [some (.int c)] m (fun xs m2 => ([D.int z] ++ xs).length ≤ sizeLine ∧ ∀ q, m2 q = none → Q (.adr q) (mset m2 q (.lst ([D.int z] ++ xs)))) (fun c fs m1 => PX c fs m1) := by
    intro z
    walk_at "dl"
    refine ⟨(by show (0 : Int) < _; decide), ?_⟩
    refine ⟨len_line (by show 3 ≤ 1000000; decide), fun q hq => h q _ hq (only_mset _ _ _) ⟨z, c % 2147483629, 0, mset_same, Int.emod_nonneg _ (by decide), Int.emod_lt_of_pos _ (by decide), by decide, by decide⟩⟩
  walk_at "dl"
  cases hc : decide (10 ^ Int.toNat 18 ≤ c) with
  | true => exact fin c
  | false => exact fin 0
def rdCellAt : DS :=
    sSeq (sIf (rTst (rOp oLt (rV 1) (rCB cLen (rCons (rV 0) (rNil))))) (sRet (rOp oIx (rV 0) (rV 1))) (sNext))
    (sRet (rC (.int 0)))
theorem atI_some {α : Type} {xs : List α} {i : Int} (h0 : 0 ≤ i) (h1 : i < xs.length) : ∃ x, atI xs i = some x ∧ xs[i.toNat]? = some x := by
  unfold atI ixN
  rw [if_pos h0, if_pos h1]
  have hl : i.toNat < xs.length := by omega
  exact ⟨xs[i.toNat], by simp [hl], by simp [hl]⟩
theorem cellAt_pure (x1 x2 : Str) : ∀ ds m Q PX, spCellAt ds m Q PX → rdCellAt (dEnds Q PX) (dstart [x1, x2] ds) m := by
  rintro ds m Q PX ⟨ns, k, rfl, h⟩
  walk_at "dl"
  cases hk : decide ((k : Int) < ((ns.map D.int).length : Nat)) with
  | true =>
    have hk' := of_decide_eq_true hk
    obtain ⟨x, e1, e2⟩ := atI_some (by omega) hk'
    walk_at "dl"
    rw [e1]
    rw [List.getElem?_map] at e2
    cases e3 : ns[((k : Nat) : Int).toNat]? with
    | none => rw [e3] at e2; cases e2
    | some n =>
      rw [e3] at e2
      cases e2
      exact h n
  | false => exact h 0
end DL
namespace DL
open PySem L2
/-! ### a new object that a rule of the ledger has laid -/
theorem obj_alive {P : Program} {w : World} {H : Hp} {h : Heap} {a : Addr} {o : HO} (x : ObjOk P w H h a o) : ∃ u, h.get? a = some u := by
  cases o with
  | lst xs => obtain ⟨_, _, _, _, e⟩ := x; exact ⟨_, e⟩
  | tup xs => obtain ⟨_, _, _, o, e, _⟩ := x; exact ⟨_, e⟩
  | dK kvs => obtain ⟨_, _, _, _, o, _, _, e, _⟩ := x; exact ⟨_, e⟩
  | dT kvs => obtain ⟨_, _, _, _, o, _, _, e, _⟩ := x; exact ⟨_, e⟩
  | set S n => obtain ⟨o, _, _, _, e, _⟩ := x; exact ⟨_, e⟩
  | ins C dx fs => obtain ⟨_, _, _, e, _⟩ := x; exact ⟨_, e⟩
  | own y => exact x
  | xd fs => obtain ⟨_, ⟨_, _, _, e, _⟩, _⟩ := x; exact ⟨_, e⟩
  | rng lo hi => obtain ⟨_, _, _, e⟩ := x; exact ⟨_, e⟩
  | frz ob u => obtain ⟨e, _⟩ := x; exact ⟨_, e⟩
  | tbl ps => exact ⟨_, x⟩
  | met f y => exact ⟨_, x⟩
  | ext φ => exact x.2.1
theorem inv_news {X : Cx} {pins : List (Addr × Obj)} {σ : St} {H : Hp} {s : Shared} {h' : Heap} {tk : Nat} {q : Addr} {o : Obj} {u : HO} {mm : Str → Option Value} (I : L2.Inv X pins σ H s) (F0 : PyProof.Rows.Fr X.base X.env.locals s.heap mm) (F' : PyProof.Rows.Fr X.base X.env.locals h' mm)
    (N' : PyProof.Rows.News X.base X.env.locals h' ((q, o) :: allNews X.base s.heap X.env.locals)) (l1 : ∀ z ∈ allNews X.base s.heap X.env.locals, z.1 < q)
    (new : ∀ H2, ObjOk X.prog X.w H2 h' q u) : L2.Inv X pins σ (upd H q u) { s with heap := h', toks := tk } ∧ H q = none := by
  have nq := N' _ List.mem_cons_self
  have keep : ∀ b ob, b ≠ X.env.locals → s.heap.get? b = some ob → h'.get? b = some ob := fun b ob hb e => by
    cases z : X.base.get? b with
    | some v =>
      have := I.bk b v z
      rw [e] at this; cases this
      exact F'.keep b _ z
    | none => exact (N' (b, ob) (List.mem_cons_of_mem _ (mem_allNews hb z e))).1
  have dead : s.heap.get? q = none := by
    cases z : s.heap.get? q with
    | none => rfl
    | some v => exact absurd (l1 (q, v) (mem_allNews nq.2.1 nq.2.2 z)) (Nat.lt_irrefl _)
  have hq : H q = none := by
    cases z : H q with
    | none => rfl
    | some v =>
      obtain ⟨w, hw⟩ := obj_alive (I.hok q v z)
      rw [dead] at hw; cases hw
  have ne : ∀ b ob, s.heap.get? b = some ob → b ≠ q := fun b ob e z => by rw [z, dead] at e; cases e
  refine ⟨I.step (g' := s.gens) (d' := s.drawn) (ch := []) (fun _ z => nomatch z) (fun b ob hb _ _ e _ => keep b ob hb e) (fun b ob hb _ _ e _ => ⟨ob.slots, keep b ob hb e⟩) (fun b ob _ e n => by rw [upd_ne (ne b ob e)]; exact n)
    (fun b ob _ e => ?_) (fun b xs e => by rw [upd_ne (ne_of_none e hq)]; exact e) (fun b ob xs e => by rw [upd_ne (ne_of_none e hq)]; exact e) (fun b ps e => ⟨#[], by rw [upd_ne (ne_of_none e hq), e]; simp⟩) (fun m2 hm => ?_) (fun b v e => ?_) I.bare, hq⟩
  · by_cases hb : b = X.env.locals
    · obtain ⟨ob2, _, _, e2, _⟩ := F'.ns
      exact ⟨ob2, by rw [hb]; exact e2⟩
    · exact ⟨ob, keep b ob hb e⟩
  · have e : m2 = mm := by rw [hm.eq_nsMap, F0.ns.eq_nsMap]
    rw [e]
    exact F'.ns
  · by_cases hb : b = q
    · subst hb
      rw [upd_same] at e; cases e
      exact new _
    · rw [upd_ne hb] at e
      refine (I.hok b v e).stay (fun c w hc z => keep c w ?_ z) (fun c z => by rw [upd_ne (ne_of_none z hq)]; exact z) fun c xs z => by rw [upd_ne (ne_of_none z hq)]; exact z
      rcases hc with rfl | hc
      · intro z; rw [z, I.free] at e; cases e
      · intro z; rw [z, I.free] at hc; cases hc
/-! ### x, *rest = a tuple or list -/
def gStarV (K : PySem.W.Frag) (i j : Nat) : TG := fun v σ H Q => ∃ a z zs, v = .ref a ∧ (SqL K H a (z :: zs) ∨ SqT K H a (z :: zs)) ∧ zs.length < 16000 ∧ ∀ q, H q = none → Q ((σ.set i (some z)).set j (some (.ref q))) (upd H q (.lst zs))
section
variable {X : Cx} {W : WX} {a b c : Expr} {ra rb rc : DE} {pos p : Pos}
theorem pg_star {i j : Nat} {x y : Str} {p1 p2 p3 : Pos} {k : Nat} (hc : X.calm = true) (hx : PG X (.Name x p1) (gName i)) (hy : PG X (.Name y p2) (gName j)) : PG X (.Tuple [.Name x p1, .Starred (.Name y p2) p3] k pos) (gStarV X.K i j) := by
  refine ⟨fun pins s σ H v u Q I r hw => ?_⟩
  obtain ⟨q, z, zs, rfl, hq, hl, hw⟩ := hw
  cases r
  obtain ⟨mm, F0⟩ := I.fr
  have names : PGs X [.Name x p1, .Name y p2] (gCons (gName i) (gCons (gName j) gNil)) := pgs_cons hx (pgs_cons hy pgs_nil)
  have fin : ∀ (z' : Value) (zs' : List Value) D h' tk, RelV z z' → Vals zs zs' → PyProof.Rows.Fr X.base X.env.locals h' mm → PyProof.Rows.News X.base X.env.locals h' ((D, PySem.W.listOf zs'.toArray 0) :: allNews X.base s.heap X.env.locals) → (∀ w ∈ allNews X.base s.heap X.env.locals, w.1 < D) →
      wpAny (model X.prog X.w) X.A (assignInOrder ((assignEach [.Name x p1, .Starred (.Name y p2) p3] X.env).map (·.2)) ([z'] ++ [.ref D] ++ [])) (fun _ s' => ∃ σ' H', L2.Inv X pins σ' H' s' ∧ Q σ' H') X.xe { s with heap := h', toks := tk } := fun z' zs' D h' tk rz rzs F' N' l1 => by
    have hlen := rzs.length
    obtain ⟨I', hD⟩ := inv_news (u := .lst zs) (tk := tk) I F0 F' N' l1 fun H2 => ⟨by rw [sizeLine_eq]; omega, zs', 0, rzs, (N' _ List.mem_cons_self).1⟩
    exact names.run pins _ σ _ [z, .ref D] [z', .ref D] Q I' (.cons rz (.cons rfl .nil)) ⟨z, _, rfl, _, _, rfl, rfl, hw D hD⟩
  rcases hq with hq | hq
  · obtain ⟨its, rv, pl, hz⟩ := I.list hq
    cases rv with
    | @cons _ z' _ zs' rz rzs =>
      have hlen := rzs.length
      exact PySem.W.kun_assignL (n := 2) (i := 1) (first := [z']) (mids := zs') (lasts := []) F0 news_all pl.isList (I.ok.hd hc) rfl rfl (by decide) (by simp) (by simp; omega) (by simp) (by simp) (by simp) fun D h' tk F' N' l1 => fin z' zs' D h' tk rz rzs F' N' l1
  · obtain ⟨its, rv, pl, hz⟩ := I.tuple hq
    cases rv with
    | @cons _ z' _ zs' rz rzs =>
      have hlen := rzs.length
      exact PySem.W.kun_assignT (n := 2) (i := 1) (first := [z']) (mids := zs') (lasts := []) F0 news_all pl (I.ok.hd hc) rfl rfl (by decide) (by simp) (by simp; omega) (by simp) (by simp) (by simp) fun D h' tk F' N' l1 => fin z' zs' D h' tk rz rzs F' N' l1
/-- over data -/
def sStar (i j : Nat) (ra : DE) : DS := fun DD δ m => ra δ m (fun d m1 => match asLT m1 d with
  | some (z :: zs) => zs.length < 16000 ∧ DD.nx ((δ.set i (some z)).set j (some (.lst zs))) m1
  | _ => False) fun c fs m1 => DD.xx c fs δ m1
theorem ds_star {i j : Nat} {x y : Str} {p1 p2 p3 p4 : Pos} {k : Nat} (hc : X.calm = true) (ha : PE X a (lE (kw X) W ra)) (hx : PG X (.Name x p1) (gName i)) (hy : PG X (.Name y p2) (gName j))
    (hs : swapsWithSole [.Tuple [.Name x p1, .Starred (.Name y p2) p3] k p4] a pos.line X.env = pure false := by rfl) (hw : swappedStores [.Tuple [.Name x p1, .Starred (.Name y p2) p3] k p4] a X.env = pure none := by rfl) (h1 : (assignEach [.Tuple [.Name x p1, .Starred (.Name y p2) p3] k p4] X.env).map (·.2) = [assign (.Tuple [.Name x p1, .Starred (.Name y p2) p3] k p4) X.env] := by rfl) :
    PS X (.Assign [.Tuple [.Name x p1, .Starred (.Name y p2) p3] k p4] a pos) (lS (kw X) W (sStar i j ra)) := by
  refine PS.imp (ps_asg ha (pg_star hc hx hy) hs hw h1) fun Dn σ H h => ?_
  obtain ⟨F, H0, m, δ, DD, ok, rs, h, g⟩ := h
  refine ⟨F, H0, m, δ, _, _, ok, rs, h, fun v H1 H01 m1 d s1 ok1 r1 h1 => ?_, g.xx.at_ rs⟩
  dsimp only at h1
  split at h1
  · rename_i z zs e1
    obtain ⟨q, vs, rfl, hq, rv⟩ := asLT_rp ok1 r1 e1
    cases rv with
    | @cons zv vs' _ _ rz rzs =>
      refine ⟨q, zv, vs', rfl, hq, by rw [rzs.length]; exact h1.1, fun D hD => ?_⟩
      have sn := same_new (o := HO.lst vs') (ok1.free hD).1
      exact g.nx _ _ _ _ _ (s1.trans sn) (ok1.new hD _) ((((rs.mono s1).mono sn).set (rz.mono sn) i).set (.lst (SqL.of upd_same) (rzs.mono sn)) j) h1.2
  · exact h1.elim
end
end DL
namespace DL
open PySem L2
/-! ### pairs of a dict -/
section
variable {κ : Type} [DecidableEq κ]
@[irreducible] def valD (kvs : List (κ × D)) (k : κ) : Option D := (kvs.find? fun kv => decide (kv.1 = k)).map (·.2)
theorem valD_nil {k : κ} : valD ([] : List (κ × D)) k = none := by unfold valD; rfl
theorem valD_pos {p : κ × D} {r : List (κ × D)} {k : κ} (e : p.1 = k) : valD (p :: r) k = some p.2 := by unfold valD; simp [List.find?_cons, e]
theorem valD_neg {p : κ × D} {r : List (κ × D)} {k : κ} (e : ¬ p.1 = k) : valD (p :: r) k = valD r k := by unfold valD; simp [List.find?_cons, e]
inductive RpK (K : PySem.W.Frag) (H : Hp) : List (κ × V) → List (κ × D) → Prop
  | nil : RpK K H [] []
  | cons {k : κ} {v : V} {d : D} {r : List (κ × V)} {t : List (κ × D)} : Rp K H v d → RpK K H r t → RpK K H ((k, v) :: r) ((k, d) :: t)
theorem RpK.keys {K : PySem.W.Frag} {H : Hp} {kv : List (κ × V)} {ds : List (κ × D)} (r : RpK K H kv ds) : kv.map (·.1) = ds.map (·.1) := by
  induction r with
  | nil => rfl
  | cons _ _ ih => simp [ih]
theorem RpK.length {K : PySem.W.Frag} {H : Hp} {kv : List (κ × V)} {ds : List (κ × D)} (r : RpK K H kv ds) : kv.length = ds.length := by
  have := congrArg List.length r.keys; simpa using this
theorem RpK.mono {K : PySem.W.Frag} {H H' : Hp} (s : Same H H') {kv : List (κ × V)} {ds : List (κ × D)} (r : RpK K H kv ds) : RpK K H' kv ds := by
  induction r with
  | nil => exact .nil
  | cons q _ ih => exact .cons (q.mono s) ih
theorem RpK.val {K : PySem.W.Frag} {H : Hp} {kv : List (κ × V)} {ds : List (κ × D)} (r : RpK K H kv ds) (k : κ) : (valV kv k = none ∧ valD ds k = none) ∨ ∃ v d, valV kv k = some v ∧ valD ds k = some d ∧ Rp K H v d := by
  induction r with
  | nil => exact .inl ⟨valV_nil, valD_nil⟩
  | @cons k2 v d r t q _ ih =>
    by_cases e : k2 = k
    · exact .inr ⟨v, d, valV_pos e, valD_pos e, q⟩
    · rw [valV_neg e, valD_neg e]; exact ih
theorem RpK.append {K : PySem.W.Frag} {H : Hp} {kv kv' : List (κ × V)} {ds ds' : List (κ × D)} (r : RpK K H kv ds) (r' : RpK K H kv' ds') : RpK K H (kv ++ kv') (ds ++ ds') := by
  induction r with
  | nil => exact r'
  | cons q _ ih => exact .cons q ih
end
section
variable {X : Cx} {W : WX} {a b c : Expr} {ra rb rc : DE} {pos p : Pos}
/-! ### {k: v, ..} -/
/-! ### d[k] -/
/-! ### while -/
def sWhile (rt : DT) (rb : DS) : DS := fun DD δ m => ∃ I : Nat → DSt → Mu → Prop, (∃ n, I n δ m) ∧ ∀ n δ m, I n δ m → rt δ m (fun b m1 => match b with
  | true => rb { DD with nx := fun δ' m' => ∃ n', n' < n ∧ I n' δ' m', ct := fun δ' m' => ∃ n', n' < n ∧ I n' δ' m', bk := DD.nx } δ m1
  | false => DD.nx δ m1) fun c fs m1 => DD.xx c fs δ m1
theorem ds_while {body : List Stmt} {rt : DT} {rb : DS} (hp : PassesOwn (model X.prog X.w) X.A X.env X.xe) (hc : PT X c (lT (kw X) W rt)) (hb : PSs X body (lS (kw X) W rb)) : PS X (.While c body [] pos) (lS (kw X) W (sWhile rt rb)) := by
  refine PS.imp (ps_while hp hc hb) fun Dn σ H h => ?_
  obtain ⟨F, H0, m, δ, DD, ok, rs, ⟨I, ⟨n, h0⟩, hI⟩, gd⟩ := h
  refine ⟨fun n σ' H' => ∃ H0' m' δ', Same H0 H0' ∧ Ok (kw X) F H0' m' H' ∧ RpS X.K H0' σ' δ' ∧ I n δ' m', ⟨n, H0, m, δ, Same.refl _, ok, rs, h0⟩, ?_⟩
  rintro k σ1 H1 ⟨H01, m1, δ1, s1, ok1, rs1, i1⟩
  have gd1 := gd.mono s1
  refine ⟨F, H01, m1, δ1, _, _, ok1, rs1, hI k δ1 m1 i1, fun b H2 H02 m2 s2 ok2 h2 => ?_, gd1.xx.at_ rs1⟩
  have gd2 := gd1.mono s2
  cases b with
  | true =>
    dsimp only
    rw [if_pos rfl]
    refine ⟨fun σ' H' => ∃ n', n' < k ∧ ∃ H0' m' δ', Same H0 H0' ∧ Ok (kw X) F H0' m' H' ∧ RpS X.K H0' σ' δ' ∧ I n' δ' m', fun σ' H' z => z, F, H02, m2, δ1, _, ok2, rs1.mono s2, h2, ?_⟩
    have again : GS (kw X) F H02 (fun δ' m' => ∃ n', n' < k ∧ I n' δ' m') fun σ' H' => ∃ n', n' < k ∧ ∃ H0' m' δ', Same H0 H0' ∧ Ok (kw X) F H0' m' H' ∧ RpS X.K H0' σ' δ' ∧ I n' δ' m' := fun σ3 H3 H03 m3 δ3 s3 ok3 rs3 ⟨n', l, z⟩ => ⟨n', l, H03, m3, δ3, (s1.trans s2).trans s3, ok3, rs3, z⟩
    exact ⟨again, gd2.rt, gd2.nx, again, gd2.xx⟩
  | false =>
    dsimp only
    rw [if_neg Bool.false_ne_true]
    exact gd2.nx _ _ _ _ _ (Same.refl _) ok2 (rs1.mono s2) h2
end
/-! ### a def that calls itself: at depth 0 nothing is promised -/
end DL
namespace DL
open PySem L2
end DL
namespace DL
open PySem L2
/-! ### == of data without truths -/
mutual
def pur : D → Bool
  | .non => true
  | .int _ => true
  | .str _ => true
  | .lst ds => purL ds
  | .tup ds => purL ds
  | .bl _ => false
  | .ty _ => false
  | .adr _ => false
  | .glb _ => false
  | .exc _ _ _ _ _ => false
  | .dct _ => false
  | .ins _ _ => false
def purL : List D → Bool
  | [] => true
  | d :: ds => pur d && purL ds
end
mutual
theorem eqv_iff : ∀ (d e : D), pur d = true → pur e = true → (PyData.eqv (py d) (py e) = true ↔ d = e)
  | .non, e, h1, h2 => by cases e <;> simp [pur, py, PyData.eqv] at h2 ⊢
  | .int i, e, h1, h2 => by cases e <;> simp [pur, py, PyData.eqv] at h2 ⊢
  | .str i, e, h1, h2 => by cases e <;> simp [pur, py, PyData.eqv] at h2 ⊢
  | .lst ds, e, h1, h2 => by
    rw [pur] at h1
    cases e with
    | lst es => rw [pur] at h2; rw [py, py, PyData.eqv, eqvL_iff ds es h1 h2]; simp
    | _ => simp [pur, py, PyData.eqv] at h2 ⊢
  | .tup ds, e, h1, h2 => by
    rw [pur] at h1
    cases e with
    | tup es => rw [pur] at h2; rw [py, py, PyData.eqv, eqvL_iff ds es h1 h2]; simp
    | _ => simp [pur, py, PyData.eqv] at h2 ⊢
  | .bl _, _, h1, _ => by rw [pur] at h1; cases h1
  | .ty _, _, h1, _ => by rw [pur] at h1; cases h1
  | .adr _, _, h1, _ => by rw [pur] at h1; cases h1
  | .dct _, _, h1, _ => by rw [pur] at h1; cases h1
  | .ins _ _, _, h1, _ => by rw [pur] at h1; cases h1
  | .glb _, _, h1, _ => by rw [pur] at h1; cases h1
  | .exc _ _ _ _ _, _, h1, _ => by rw [pur] at h1; cases h1
theorem eqvL_iff : ∀ (ds es : List D), purL ds = true → purL es = true → (PyData.eqvAll (pyL ds) (pyL es) = true ↔ ds = es)
  | [], [], _, _ => by rw [pyL, PyData.eqvAll]; simp
  | [], _ :: _, _, _ => by rw [pyL, pyL, PyData.eqvAll]; simp
  | _ :: _, [], _, _ => by rw [pyL, pyL, PyData.eqvAll]; simp
  | d :: ds, e :: es, h1, h2 => by
    rw [purL, Bool.and_eq_true] at h1 h2
    rw [pyL, pyL, PyData.eqvAll, Bool.and_eq_true, eqv_iff d e h1.1 h2.1, eqvL_iff ds es h1.2 h2.2]
    simp
end
theorem deq_iff {d e : D} (h1 : pur d = true) (h2 : pur e = true) : deq d e = true ↔ d = e := eqv_iff d e h1 h2
theorem purL_all {ds : List D} (h : ∀ d ∈ ds, pur d = true) : purL ds = true := by
  induction ds with
  | nil => rw [purL]
  | cons d ds ih => rw [purL, h d List.mem_cons_self, ih fun e he => h e (List.mem_cons_of_mem _ he)]; rfl
/-! ### data that == may look at -/
def fitD : Nat → D → Prop
  | _, .non => True
  | _, .bl _ => True
  | _, .int _ => True
  | _, .str x => ∀ c ∈ x.cps.toList, c < 1114112
  | n + 1, .lst ds => ∀ d ∈ ds, fitD n d
  | n + 1, .tup ds => ∀ d ∈ ds, fitD n d
  | _, _ => False
theorem fit_lay : ∀ (n : Nat) (d : D), fitD n d → PyData.canLay0 (py d) = true ∧ PyData.depth (py d) ≤ n + 1 := by
  have str : ∀ (n : Nat) (x : Str), (∀ c ∈ x.cps.toList, c < 1114112) → PyData.canLay0 (py (.str x)) = true ∧ PyData.depth (py (.str x)) ≤ n + 1 := fun n x h => by
    rw [py, PyData.canLay0, PyData.depth, PyData.strOk]
    refine ⟨?_, Nat.zero_le _⟩
    rw [← Array.all_toList, List.all_eq_true]
    intro c hc
    exact decide_eq_true (h c hc)
  intro n
  induction n with
  | zero =>
    intro d h
    cases d with
    | str x => exact str 0 x h
    | lst ds => exact h.elim
    | tup ds => exact h.elim
    | non => rw [py, PyData.canLay0, PyData.depth]; exact ⟨rfl, Nat.zero_le _⟩
    | bl b => rw [py, PyData.canLay0, PyData.depth]; exact ⟨rfl, Nat.zero_le _⟩
    | int i => rw [py, PyData.canLay0, PyData.depth]; exact ⟨rfl, Nat.zero_le _⟩
    | _ => exact h.elim
  | succ n ih =>
    have all : ∀ ds : List D, (∀ d ∈ ds, fitD n d) → PyData.canLayAll0 (pyL ds) = true ∧ PyData.depthAll (pyL ds) ≤ n + 1 := fun ds => by
      induction ds with
      | nil => intro _; rw [pyL, PyData.canLayAll0, PyData.depthAll]; exact ⟨rfl, Nat.zero_le _⟩
      | cons d ds ih2 =>
        intro h
        obtain ⟨a1, a2⟩ := ih d (h d List.mem_cons_self)
        obtain ⟨b1, b2⟩ := ih2 fun e he => h e (List.mem_cons_of_mem _ he)
        rw [pyL, PyData.canLayAll0, PyData.depthAll, a1, b1]
        exact ⟨rfl, Nat.max_le.mpr ⟨a2, b2⟩⟩
    intro d h
    cases d with
    | str x => exact str (n + 1) x h
    | lst ds =>
      obtain ⟨a1, a2⟩ := all ds h
      rw [py, PyData.canLay0, PyData.depth]
      exact ⟨a1, by omega⟩
    | tup ds =>
      obtain ⟨a1, a2⟩ := all ds h
      rw [py, PyData.canLay0, PyData.depth]
      exact ⟨a1, by omega⟩
    | non => rw [py, PyData.canLay0, PyData.depth]; exact ⟨rfl, Nat.zero_le _⟩
    | bl b => rw [py, PyData.canLay0, PyData.depth]; exact ⟨rfl, Nat.zero_le _⟩
    | int i => rw [py, PyData.canLay0, PyData.depth]; exact ⟨rfl, Nat.zero_le _⟩
    | _ => exact h.elim
theorem shp_of {n : Nat} {d : D} (h : fitD n d) (hn : n ≤ 60 := by decide) : shp d := by
  obtain ⟨a, b⟩ := fit_lay n d h
  unfold shp SeqAt.shaped
  rw [a]
  simp
  omega
/-! ### texts -/
/-! ### a number's text -/
abbrev dig (n : Int) : Str := (toString n : String)
/-! ### what stays: all but ws -/
def Kp (ws : List Addr) (m m' : Mu) : Prop := ∀ a o, a ∉ ws → m a = some o → m' a = some o
theorem Kp.refl (ws : List Addr) (m : Mu) : Kp ws m m := fun _ _ _ h => h
theorem Kp.trans {ws : List Addr} {m m1 m2 : Mu} (a : Kp ws m m1) (b : Kp ws m1 m2) : Kp ws m m2 := fun x o h e => b x o h (a x o h e)
theorem Kp.more {ws vs : List Addr} {m m' : Mu} (a : Kp ws m m') (h : ∀ x ∈ ws, x ∈ vs) : Kp vs m m' := fun x o hx e => a x o (fun z => hx (h x z)) e
theorem Only1.kp {w : Addr} {m m' : Mu} (h : Only1 w m m') : Kp [w] m m' := fun a o ha e => by rw [h a (by simpa using ha)]; exact e
theorem kp_new {ws : List Addr} {m : Mu} {q : Addr} {o : MO} (h : m q = none) : Kp ws m (mset m q o) := fun a u _ e => by
  rw [mset_ne (fun z => by rw [z, h] at e; cases e)]; exact e
/-- drawn from the well w in at most n turns -/
def Dr (w : Addr) (n : Nat) (R : D → Prop) (m : Mu) (P : DK) : Prop := ∃ k, Wl m w k ∧ k + n ≤ 1000000000 ∧ ∀ d m', R d → Kp [w] m m' → Wl m' w (k + n) → P d m'
theorem Wl.keep {m m' : Mu} {w : Addr} {k : Nat} {ws : List Addr} (h : Wl m w k) (kp : Kp ws m m') (hw : w ∉ ws) : Wl m' w k := by
  obtain ⟨a, b, c, e, r⟩ := h.ex
  exact ⟨a, b, c, kp w _ hw e, r⟩
def spDrawK : SpD := fun ds m P _ => ∃ (w : Addr) (many : Int), ds = [.adr w, .int many] ∧ 0 < many ∧ many.natAbs < 2 ^ 200 ∧ Dr w 1 (fun d => ∃ r : Int, 0 ≤ r ∧ r < many ∧ d = .int r) m P
theorem drawK_draw {ds : List D} {m : Mu} {P : DK} {PX : DX} (h : spDrawK ds m P PX) : spDraw ds m P PX := by
  obtain ⟨w, many, rfl, h0, h1, k, wl, hk, h⟩ := h
  exact ⟨w, many, k, rfl, wl, by omega, h0, h1, fun r m' r0 r1 o w1 => h _ m' ⟨r, r0, r1, rfl⟩ o.kp w1⟩
def spWellK : SpD := fun ds m P _ => ∃ c : Int, ds = [.int c] ∧ ∀ w m', m w = none → Kp [] m m' → Wl m' w 0 → P (.adr w) m'
theorem wellK_well {ds : List D} {m : Mu} {P : DK} {PX : DX} (h : spWellK ds m P PX) : spWell ds m P PX := by
  obtain ⟨c, rfl, h⟩ := h
  refine ⟨c, rfl, fun w m' hw o w1 => h w m' hw (fun a q _ e => ?_) w1⟩
  rw [o a (fun z => by rw [z, hw] at e; cases e)]
  exact e
end DL
namespace DL
open PySem L2
/-! ### set(xs) of a list of whole numbers -/
abbrev voidSet (w : World) : Obj := { cls := .type "set", dict := none, data := .set #[] 0 (.fresh 0 0 (!w.params.followText "set-order")) }
section
open PyProof.Rows
variable {P : Program} {w : World} {A : Around} {E : Value → Shared → Prop} {s : Shared}
theorem set_list {l : Addr} {xs : Array Value} (ns : List Int) {Q : Value → Shared → Prop} (calm : A.handled = none) (il : s.heap.IsList l xs) (hin : IntsAre xs.toList ns) (few : ns.length + 1 < scanBound)
    (fin : ∀ (g : Heap) (tk c : Nat), SetR w g s.heap.objs.size (fun j => decide (j ∈ ns)) c → c ≤ ns.length → (∀ b u, s.heap.get? b = some u → g.get? b = some u) → Q (.ref s.heap.objs.size) { s with heap := g, toks := tk }) :
    wpAny (model P w) A (call (.type "set") [.ref l]) Q E s := by
  have size : xs.size = ns.length := by rw [← Array.length_toList]; exact IntsAre.length hin
  obtain ⟨_, _, k1⟩ := F.called_set.mro
  have k2 := F.called_set.made; have k3 := F.called_set.sub; have k4 := F.called_set.notType
  have k5 := F.called_set.canCreate; have k6 := F.typeCall_set_1 (.ref l)
  refine wpAny_call (codeAny_of_tree (show wpAny _ _ (callAny (.type "set") _) _ _ _ from ?_))
  refine wpAny_pure ⟨Code.quiet_builtin _ (by decide +kernel), codeAny_builtin F.entry_type_call ?_⟩; rw [Around.under_plain (weight_type_call_type "set" [.ref l] []) rfl]
  repeat (any_goals (first | assumption | wp_step)); skip
  refine codeAny_mono (L2.code_set_led1 (.ref l) (E := E) (Q₁ := fun y z => y = .ref s.heap.objs.size ∧ z = { s with heap := s.heap.push (voidSet w) }) ⟨rfl, rfl⟩) fun r1 s1 z1 => ?_
  match r1, z1 with
  | .error e, z1 => exact z1
  | .ok (.ret y), ⟨ey, es⟩ =>
    subst ey es
    have new : (s.heap.push (voidSet w)).get? s.heap.objs.size = some (voidSet w) := Heap.get?_push_size _ rfl
    have is : Shared.TypeIs { s with heap := s.heap.push (voidSet w) } (.ref s.heap.objs.size) "set" := ⟨_, new, rfl⟩
    have k7 := F.called_set.init.lookup; have k8 := F.called_set.init.bind (.ref s.heap.objs.size)
    repeat (any_goals (first | assumption | wp_step)); skip
    refine codeAny_mono (codeAny_call_builtin (R := wants (fun y z => y = .none ∧ ∃ g tk c, z = { s with heap := g, toks := tk } ∧ SetR w g s.heap.objs.size (fun j => decide (j ∈ ns)) c ∧ c ≤ ns.length ∧ (∀ b u, s.heap.get? b = some u → g.get? b = some u)) E) F.called_set.init.plain F.entry_set_init (check_set_init_1 is ?_)) fun r2 s2 z2 => ?_
    · obtain ⟨⟨oc, od, odt, osl⟩, go, gc, gn, gd⟩ := il
      simp only at gc gd; subst gc; subst gd
      have go2 : (s.heap.push (voidSet w)).get? l = some ⟨.type "list", od, .seq xs gn, osl⟩ := Heap.get?_push_of_some _ go
      have il2 : (s.heap.push (voidSet w)).IsList l xs := ⟨_, go2, rfl, gn, rfl⟩
      have k9 := F.sub_list_set; have k10 := F.sub_list_frozenset; have k11 : (Value.type "list" == Value.type "dict") = false := by decide
      unfold Builtin.«set.__init__» noKeywords Builtin.Frozenset.updateFrom; generalize hit : pyIter = it
      wp_walk; subst hit
      refine wpAny_pyIter_list il2 (wpAny_bind (wpAny_runValue ?_))
      have lt : l < s.heap.objs.size := Heap.lt_size go
      have sz : (s.heap.push (voidSet w)).objs.size = s.heap.objs.size + 1 := Heap.size_push ..
      have off : s.heap.objs.size ∉ [(s.heap.push (voidSet w)).objs.size, l] := by
        rw [sz]; intro z; rcases List.mem_cons.mp z with z | z
        · exact absurd z (Nat.ne_of_lt (Nat.lt_succ_self _))
        · exact Nat.lt_irrefl _ (show l < l from (List.mem_singleton.mp z) ▸ lt)
      refine L2.set_update_ints ((Walks.list (by simp [calm]) _ l (by rw [sz]; exact Nat.ne_of_lt (Nat.lt_succ_of_lt lt)) xs).toS) s.heap.objs.size off ns size few (fun i v hv => ?_) (xs.size - 0) 0 _ (by omega) (Nat.zero_le _) ⟨⟨_, Heap.get?_push_size _ rfl, rfl, rfl⟩, il2.push _⟩ ⟨0, Nat.le_refl 0, L2.setR_new_at (Heap.get?_push_of_some _ new)⟩ fun s3 c3 mv le3 in3 => ?_
      · have hi : i < ns.length := by rw [← size]; exact (Array.getElem?_eq_some_iff.mp hv).1
        obtain ⟨t, e⟩ := IntsAre.int_at hin i v (by rw [Array.getElem?_toList]; exact hv)
        exact ⟨ns[i], t, List.getElem?_eq_getElem hi, by rw [e, List.getD_eq_getElem?_getD, List.getElem?_eq_getElem hi] <;> rfl⟩
      · obtain ⟨g3, gens3, dr3, tk3, os3⟩ := s3
        obtain rfl : gens3 = s.gens := mv.gens
        obtain rfl : dr3 = s.drawn := mv.drawn
        obtain rfl : os3 = s.os := mv.os
        refine wpAny_pure (show wpAny _ _ (ret Value.none) _ _ _ from wpAny_pure ⟨rfl, g3, tk3, c3, rfl, in3, by omega, fun b u e => ?_⟩)
        have lb : b < s.heap.objs.size := Heap.lt_size e
        refine mv.heap b u (fun z => ?_) (Heap.get?_push_of_some _ (Heap.get?_push_of_some _ e))
        rcases List.mem_cons.mp z with z | z
        · exact absurd z (Nat.ne_of_lt lb)
        · exact absurd ((List.mem_singleton.mp z).trans sz) (Nat.ne_of_lt (Nat.lt_succ_of_lt lb))
    · match r2, z2 with
      | .error e, z2 => exact z2
      | .ok (.ret y), ⟨ey, g, tk, c, es, in2, le2, kp2⟩ =>
        subst ey es
        repeat (any_goals (first | assumption | wp_step)); skip
        exact fin _ _ _ in2 le2 kp2
end
end DL
/-! # sorted(a set of ints), any number of them -/
namespace DL
open PySem L2
section
open PyProof.Rows
variable {P : Program} {w : World} {A : Around} {E : Value → Shared → Prop} {s : Shared} {a : Addr}
theorem iv_raw {zs : List Value} (h : ∀ v ∈ zs, ∃ k t, v = Value.int k t) : zs.map SrtO.iv = zs.map Builtin.Re.reRawOf := List.map_congr_left fun v hv => by
  obtain ⟨k, t, rfl⟩ := h v hv
  rfl
theorem sorted_setA {S : Int → Bool} {n : Nat} {Q : Value → Shared → Prop} (R : SetR w s.heap a S n) (hh : A.handled = none) (hn' : n ≤ 4096)
    (hQ : ∀ s' p (out : List Value) (c : Nat) (ns : List Int), (∀ b o, s.heap.get? b = some o → s'.heap.get? b = some o) → s'.gens = s.gens → s'.os = s.os → s.heap.objs.size ≤ p →
      s'.heap.get? p = some (seqObj "list" out.toArray c) → IntsAre out ns → ns.Pairwise (· < ·) → (∀ k, k ∈ ns ↔ S k = true) → ns.length = n → Q (.ref p) s') :
    wpAny (model P w) A (call (.builtin "sorted") [.ref a]) Q E s := by
  obtain ⟨ob, en, ep, tb, ho, hex, hd, g, nd, hm, hb, hf, hn, hr, hl⟩ := R
  refine Calls.call_function_entry kind_sorted plain_sorted entry_sorted (args_sorted1 _) ?_; unfold Builtin.«sorted»
  refine wpAny_bind (m := checkCount "sorted" 1 1 _) (wpAny_pure (wpAny_bind (collect_set (A := A.in1) hh ⟨ob, ho, hex.1, hd⟩ hf hb hr hl fun t1 zs kp1 hz gg os1 pr => ?_)))
  have lz : zs.length = n := by rw [pr.length_eq, List.length_map, Array.length_toList]; exact hn
  have hv : ∀ v ∈ zs, ∃ k t, v = Value.int k t := fun v hv => by
    obtain ⟨e, he, q⟩ := List.mem_map.mp (pr.mem_iff.mp hv)
    obtain ⟨k, tk, h1, _⟩ := g e he
    exact ⟨k, tk, by rw [← q]; exact h1⟩
  have hI : IntsAre zs (zs.map Builtin.Re.reRawOf) := by
    rw [← iv_raw hv]
    exact SrtO.ints_iv fun v h => hv v h
  have pq : (zs.map Builtin.Re.reRawOf).Perm (en.toList.map keyOf) := by
    have q := pr.map Builtin.Re.reRawOf
    rw [List.map_map] at q
    exact q
  refine wpAny_bind (wpAny_newList ?_ (by rw [lz, sizeLine_eq]; omega))
  have oL : (t1.heap.push (seqObj "list" zs.toArray 0)).get? t1.heap.objs.size = some (seqObj "list" zs.toArray 0) := Heap.get?_push_size _ rfl
  refine wpAny_bind (wpAny_holding (wpAny_call_entry slot_list_sort ⟨_, oL, rfl⟩ entry_list_sort (SrtO.list_sort_ord SrtO.swo_int oL (by rw [lz, sizeLine_eq]; omega) (fun h2 => SrtO.ints_sortable hI h2) fun out b1 b2 => ⟨_, rfl, ?_⟩) (args_list_sort _)))
  obtain ⟨a1, a2, a3⟩ := SrtO.ints_out hI b1 b2
  obtain ⟨c, hc⟩ := sortedHeap_at (vs := zs) (out := out.toArray) oL
  have pn : (out.map SrtO.iv).Perm (en.toList.map keyOf) := a2.trans pq
  refine wpAny_pure ⟨_, rfl, hQ _ t1.heap.objs.size out c _ (fun b u e => ?_) gg os1 hz hc a1 (lt_of_le_nodup _ a3 (pn.nodup_iff.mpr nd)) (fun k => by rw [pn.mem_iff, ← hm k]) ?_⟩
  · have q := kp1 b u e
    have hlt := Heap.lt_size q
    show (sortedHeap (t1.heap.push (seqObj "list" zs.toArray 0)) t1.heap.objs.size zs out.toArray).get? b = some u
    rw [sortedHeap_old (Nat.ne_of_lt hlt) (by rw [size_push']; exact Nat.lt_succ_of_lt hlt)]
    exact Heap.get?_push_of_some _ q
  · rw [pn.length_eq, List.length_map, Array.length_toList]; exact hn
end
def rSortedSetA (w : World) : List V → Hp → VK → Prop := fun zs H Q => ∃ (a : Addr) (S : Int → Bool) (n : Nat), zs = [V.ref a] ∧ H a = some (SetO w a S n) ∧ n ≤ 4096 ∧
  ∀ (ns : List Int) (p : Addr), ns.Pairwise (· < ·) → (∀ k : Int, k ∈ ns ↔ S k = true) → ns.length = n → H p = none → Q (.ref p) (upd H p (.lst (ns.map V.int)))
theorem cr_sortedSetA {X : Cx} (hc : X.calm = true) : CallR X (.builtin "sorted") (rSortedSetA X.w) := by
  intro pins s σ H zs us Q I r h
  obtain ⟨a, S, n, rfl, ha, hn', q⟩ := h
  rw [Vals.ref1 r]
  refine sorted_setA (setO_get I ha) (I.ok.hd hc) hn' fun s' p out c ns k g o hp hg hi hs hm hl => ?_
  have ll : (ns.map V.int).length ≤ sizeLine := by rw [List.length_map, hl, sizeLine_eq]; omega
  have hn : H p = none := I.hok.fresh hp
  have I2 : Inv X pins σ (upd H p (.lst (ns.map V.int))) { s with heap := s'.heap, gens := s'.gens, drawn := s'.drawn, toks := s'.toks } :=
    I.call (ch := []) (Un.laid k hp hn) (I.hok.laid k hp ⟨ll, out, c, vals_of_ints hi, hg⟩) (by rw [g]; exact I.bare) (fun _ z => nomatch z)
  have e : s' = { s with heap := s'.heap, gens := s'.gens, drawn := s'.drawn, toks := s'.toks } := by
    cases s'
    cases s
    cases o
    rfl
  rw [e]
  exact ⟨.ref p, _, I2, rfl, q ns p hs hm hl hn⟩
end DL
namespace DL
open PySem L2
/-! ### whole numbers in a list -/
def intsD : List D → Option (List Int)
  | [] => some []
  | .int n :: ds => (intsD ds).map (n :: ·)
  | _ :: _ => none
theorem intsD_map : ∀ ns : List Int, intsD (ns.map .int) = some ns
  | [] => rfl
  | n :: ns => by show (intsD (ns.map .int)).map (n :: ·) = _; rw [intsD_map ns]; rfl
theorem intsD_eq : ∀ {ds : List D} {ns : List Int}, intsD ds = some ns → ds = ns.map .int
  | [], ns, h => by cases h; rfl
  | .int n :: ds, ns, h => by
    change (intsD ds).map (n :: ·) = some ns at h
    cases e : intsD ds with
    | none => rw [e] at h; cases h
    | some ks => rw [e] at h; cases h; rw [intsD_eq e]; rfl
  | .non :: _, _, h => by cases h
  | .bl _ :: _, _, h => by cases h
  | .str _ :: _, _, h => by cases h
  | .ty _ :: _, _, h => by cases h
  | .adr _ :: _, _, h => by cases h
  | .lst _ :: _, _, h => by cases h
  | .tup _ :: _, _, h => by cases h
  | .dct _ :: _, _, h => by cases h
  | .ins _ _ :: _, _, h => by cases h
  | .glb _ :: _, _, h => by cases h
  | .exc _ _ _ _ _ :: _, _, h => by cases h
theorem rpl_ints_back {K : PySem.W.Frag} {H : Hp} : ∀ {vs : List V} {ns : List Int}, RpL K H vs (ns.map .int) → vs = ns.map V.int
  | [], [], _ => rfl
  | [], _ :: _, h => by cases h
  | _ :: _, [], h => by cases h
  | v :: vs, n :: ns, h => by
    cases h with
    | cons q r => cases q; rw [rpl_ints_back r]; rfl
def asI (m : Mu) (x : D) : Option (List Int) := match asL m x with
  | some ds => intsD ds
  | none => none
theorem asI_rp {K : KW} {F H0 H : Hp} {m : Mu} {v : V} {d : D} {ns : List Int} (ok : Ok K F H0 m H) (r : Rp K H0 v d) (h : asI m d = some ns) : ∃ p, v = .ref p ∧ SqL K H p (ns.map V.int) := by
  unfold asI at h
  split at h
  · rename_i ds e
    obtain ⟨p, vs, rfl, q, rv⟩ := asL_rp ok r e
    rw [intsD_eq h] at rv
    rw [rpl_ints_back rv] at q
    exact ⟨p, rfl, q⟩
  · cases h
/-! ### rising lists -/
theorem asc_ext : ∀ {l k : List Int}, l.Pairwise (· < ·) → k.Pairwise (· < ·) → (∀ x, x ∈ l ↔ x ∈ k) → l = k
  | [], [], _, _, _ => rfl
  | [], b :: k, _, _, h => by have := (h b).mpr List.mem_cons_self; cases this
  | a :: l, [], _, _, h => by have := (h a).mp List.mem_cons_self; cases this
  | a :: l, b :: k, h1, h2, h => by
    obtain ⟨a1, a2⟩ := List.pairwise_cons.mp h1
    obtain ⟨b1, b2⟩ := List.pairwise_cons.mp h2
    have e : a = b := by
      have x := (h a).mp List.mem_cons_self
      have y := (h b).mpr List.mem_cons_self
      rcases List.mem_cons.mp x with x | x
      · exact x
      · rcases List.mem_cons.mp y with y | y
        · exact y.symm
        · have := b1 a x
          have := a1 b y
          omega
    subst e
    rw [asc_ext a2 b2 fun x => ?_]
    constructor
    · intro hx
      rcases List.mem_cons.mp ((h x).mp (List.mem_cons_of_mem _ hx)) with e | e
      · have := a1 x hx; omega
      · exact e
    · intro hx
      rcases List.mem_cons.mp ((h x).mpr (List.mem_cons_of_mem _ hx)) with e | e
      · have := b1 x hx; omega
      · exact e
def putU (n : Int) : List Int → List Int
  | [] => [n]
  | k :: ks => if n < k then n :: k :: ks else if n = k then k :: ks else k :: putU n ks
def srtU : List Int → List Int
  | [] => []
  | n :: ns => putU n (srtU ns)
theorem mem_putU (n x : Int) : ∀ l : List Int, x ∈ putU n l ↔ x = n ∨ x ∈ l
  | [] => by simp [putU]
  | k :: ks => by
    unfold putU
    split
    · simp
    · split
      · rename_i _ e; subst e; simp
      · simp only [List.mem_cons, mem_putU n x ks]
        constructor
        · rintro (h | h | h) <;> simp [h]
        · rintro (h | h | h) <;> simp [h]
theorem putU_asc (n : Int) : ∀ l : List Int, l.Pairwise (· < ·) → (putU n l).Pairwise (· < ·)
  | [], _ => by simp [putU]
  | k :: ks, h => by
    obtain ⟨h1, h2⟩ := List.pairwise_cons.mp h
    unfold putU
    split
    · rename_i hlt
      exact List.pairwise_cons.mpr ⟨fun x hx => by
        rcases List.mem_cons.mp hx with rfl | hx
        · exact hlt
        · have := h1 x hx; omega, h⟩
    · split
      · exact h
      · refine List.pairwise_cons.mpr ⟨fun x hx => ?_, putU_asc n ks h2⟩
        rcases (mem_putU n x ks).mp hx with rfl | hx
        · omega
        · exact h1 x hx
theorem srtU_asc : ∀ l : List Int, (srtU l).Pairwise (· < ·)
  | [] => List.Pairwise.nil
  | n :: ns => putU_asc n _ (srtU_asc ns)
theorem mem_srtU (x : Int) : ∀ l : List Int, x ∈ srtU l ↔ x ∈ l
  | [] => Iff.rfl
  | n :: ns => by rw [srtU, mem_putU, mem_srtU x ns, List.mem_cons]
def putI (n : Int) : List Int → List Int
  | [] => [n]
  | k :: ks => if n ≤ k then n :: k :: ks else k :: putI n ks
def srtI : List Int → List Int
  | [] => []
  | n :: ns => putI n (srtI ns)
theorem putI_perm (n : Int) : ∀ l : List Int, (putI n l).Perm (n :: l)
  | [] => List.Perm.refl _
  | k :: ks => by
    unfold putI
    split
    · exact List.Perm.refl _
    · exact ((putI_perm n ks).cons k).trans (List.Perm.swap _ _ _)
theorem srtI_perm : ∀ l : List Int, (srtI l).Perm l
  | [] => List.Perm.refl _
  | n :: ns => (putI_perm n _).trans ((srtI_perm ns).cons n)
theorem putI_asc (n : Int) : ∀ l : List Int, l.Pairwise (· ≤ ·) → (putI n l).Pairwise (· ≤ ·)
  | [], _ => by simp [putI]
  | k :: ks, h => by
    obtain ⟨h1, h2⟩ := List.pairwise_cons.mp h
    unfold putI
    split
    · rename_i hle
      exact List.pairwise_cons.mpr ⟨fun x hx => by
        rcases List.mem_cons.mp hx with rfl | hx
        · exact hle
        · have := h1 x hx; omega, h⟩
    · refine List.pairwise_cons.mpr ⟨fun x hx => ?_, putI_asc n ks h2⟩
      rcases List.mem_cons.mp ((putI_perm n ks).mem_iff.mp hx) with rfl | hx
      · omega
      · exact h1 x hx
theorem srtI_asc : ∀ l : List Int, (srtI l).Pairwise (· ≤ ·)
  | [] => List.Pairwise.nil
  | n :: ns => putI_asc n _ (srtI_asc ns)
theorem perm_asc_ext : ∀ {l k : List Int}, l.Perm k → l.Pairwise (· ≤ ·) → k.Pairwise (· ≤ ·) → l = k
  | [], k, h, _, _ => (List.nil_perm.mp h).symm
  | a :: l, [], h, _, _ => by have := h.length_eq; simp at this
  | a :: l, b :: k, h, h1, h2 => by
    obtain ⟨a1, a2⟩ := List.pairwise_cons.mp h1
    obtain ⟨b1, b2⟩ := List.pairwise_cons.mp h2
    have e : a = b := by
      have x := h.mem_iff.mp (List.mem_cons_self (a := a) (l := l))
      have y := h.mem_iff.mpr (List.mem_cons_self (a := b) (l := k))
      rcases List.mem_cons.mp x with x | x
      · exact x
      · rcases List.mem_cons.mp y with y | y
        · exact y.symm
        · have := b1 a x
          have := a1 b y
          omega
    subst e
    rw [perm_asc_ext (List.Perm.cons_inv h) a2 b2]
section
variable {X : Cx} {W : WX} {a b c tg : Expr} {ra rb rc : DE} {pos p : Pos} {e : Expr} {es : List Expr} {qs : DA}
/-! ### sorted(set(xs)) -/
/-! ### sorted(xs), min(xs), max(xs), sum(xs) of whole numbers -/
def leastI : Int → List Int → Int
  | n, [] => n
  | n, k :: ks => leastI (if k < n then k else n) ks
def mostI : Int → List Int → Int
  | n, [] => n
  | n, k :: ks => mostI (if n < k then k else n) ks
theorem leastI_spec : ∀ (ks : List Int) (n : Int), leastI n ks ∈ n :: ks ∧ ∀ x ∈ n :: ks, leastI n ks ≤ x
  | [], n => ⟨List.mem_cons_self, fun x hx => by rw [List.mem_singleton.mp hx]; exact Int.le_refl _⟩
  | k :: ks, n => by
    obtain ⟨h1, h2⟩ := leastI_spec ks (if k < n then k else n)
    unfold leastI
    have hb : (if k < n then k else n) ≤ n ∧ (if k < n then k else n) ≤ k := by split <;> omega
    have h3 := h2 _ List.mem_cons_self
    refine ⟨?_, fun x hx => ?_⟩
    · rcases List.mem_cons.mp h1 with h | h
      · rw [h]; split <;> simp
      · simp [h]
    · rcases List.mem_cons.mp hx with rfl | hx
      · omega
      · rcases List.mem_cons.mp hx with rfl | hx
        · omega
        · exact h2 x (List.mem_cons_of_mem _ hx)
theorem mostI_spec : ∀ (ks : List Int) (n : Int), mostI n ks ∈ n :: ks ∧ ∀ x ∈ n :: ks, x ≤ mostI n ks
  | [], n => ⟨List.mem_cons_self, fun x hx => by rw [List.mem_singleton.mp hx]; exact Int.le_refl _⟩
  | k :: ks, n => by
    obtain ⟨h1, h2⟩ := mostI_spec ks (if n < k then k else n)
    unfold mostI
    have hb : n ≤ (if n < k then k else n) ∧ k ≤ (if n < k then k else n) := by split <;> omega
    have h3 := h2 _ List.mem_cons_self
    refine ⟨?_, fun x hx => ?_⟩
    · rcases List.mem_cons.mp h1 with h | h
      · rw [h]; split <;> simp
      · simp [h]
    · rcases List.mem_cons.mp hx with rfl | hx
      · omega
      · rcases List.mem_cons.mp hx with rfl | hx
        · omega
        · exact h2 x (List.mem_cons_of_mem _ hx)
def cMin : DC := fun xs m P => match xs with
  | [x] => match asI m x with
    | some (n :: ns) => P (.int (leastI n ns)) m
    | _ => False
  | [.int i, .int j] => P (.int (if j < i then j else i)) m
  | _ => False
theorem min_ok {K : KW} : CalD K (fun xs H Q => rMin K xs H Q ∨ ∃ i j, xs = [.int i, .int j] ∧ Q (.int (if j < i then j else i)) H) cMin := by
  intro F H0 m H vs ds P Q ok r h g
  unfold cMin at h
  split at h
  · split at h
    · rename_i n ns e1
      obtain ⟨v, rfl, q⟩ := r.one
      obtain ⟨pa, rfl, hq⟩ := asI_rp ok q e1
      obtain ⟨l1, l2⟩ := leastI_spec ns n
      refine .inl ⟨pa, _, rfl, hq, by simp, fun k h1 h2 => ?_⟩
      have e : k = leastI n ns := Int.le_antisymm (h2 _ l1) (l2 _ h1)
      rw [e]
      exact g.id ok (.int _) h
    · exact h.elim
  · obtain ⟨v, w, rfl, q1, q2⟩ := r.two
    cases q1; cases q2
    exact .inr ⟨_, _, rfl, g.id ok (.int _) h⟩
  · exact h.elim
theorem CallR.or {f : Value} {r r2 : List V → Hp → VK → Prop} (h1 : CallR X f r) (h2 : CallR X f r2) : CallR X f (fun xs H Q => r xs H Q ∨ r2 xs H Q) := by
  intro pins s σ H vs us Q I rv h
  rcases h with h | h
  · exact h1 pins s σ H vs us Q I rv h
  · exact h2 pins s σ H vs us Q I rv h
theorem pd_min {x : Str} (hc : X.calm = true) (hm : X.mg x = none) (hv : bootBuiltins x = some (.builtin "min")) (ha : PA X (e :: es) (lA (kw X) W qs)) (hg : Gl X x := by rfl) (hn : x ≠ "__name__" := by decide) (hdb : (x == ("__debug__" : Str)) = false := by decide)
    (he : starEach (e :: es) X.env = (false, eval e X.env) :: starEach es X.env := by rfl) (hpl : (backTo pos (starEach es X.env)).any (·.1) = false := by rfl) : PE X (.Call (.Name x p) (e :: es) [] pos) (lE (kw X) W (rCB cMin qs)) := pd_callB ((cr_min hc).or (call_min2 hc)) min_ok hm hv ha hg hn hdb he hpl
/-! ### xs.clear() -/
/-! ### xs + ys as a list of our own -/
/-! ### a, b = e -/
def sTup (js : List Nat) (ra : DE) : DS := fun DD δ m => ra δ m (fun d m1 => gT js d δ m1 DD.nx) fun c fs m1 => DD.xx c fs δ m1
theorem ds_tup {g : TG} {js : List Nat} (ha : PE X a (lE (kw X) W ra)) (hg : PG X tg g) (go : Gok (kw X) js g (gT js)) (hs : swapsWithSole [tg] a pos.line X.env = pure false := by rfl) (hw : swappedStores [tg] a X.env = pure none := by rfl) (h1 : (assignEach [tg] X.env).map (·.2) = [assign tg X.env] := by rfl) :
    PS X (.Assign [tg] a pos) (lS (kw X) W (sTup js ra)) := by
  refine PS.imp (ps_asg ha hg hs hw h1) fun Dn σ H h => ?_
  obtain ⟨F, H0, m, δ, DD, ok, rs, h, gd⟩ := h
  exact ⟨F, H0, m, δ, _, _, ok, rs, h, fun v H1 H01 m1 d s1 ok1 r1 h1 => go F H01 m1 H1 σ δ v d _ _ ok1 (rs.mono s1) r1 h1 fun σ' δ' rs' _ h2 => gd.nx _ _ _ _ _ s1 ok1 rs' h2, gd.xx.at_ rs⟩
/-! ### [e for .. for ..] -/
theorem wipe_more {σ σ' : St} {js vs : List Nat} (h : wipe σ' js = wipe σ js) (hs : ∀ i ∈ js, i ∈ vs) : wipe σ' vs = wipe σ vs := by
  have hl : σ'.length = σ.length := by
    have := congrArg List.length h
    rwa [wipe_length, wipe_length] at this
  refine wipe_same hl fun i hi => ?_
  have h2 : (wipe σ' js)[i]? = (wipe σ js)[i]? := by rw [h]
  rw [wipe_get, wipe_get, if_neg fun z => hi (hs i z.1), if_neg fun z => hi (hs i z.1)] at h2
  exact h2
def rComp20 (Ph : Mu → Prop) (rg : DG) (qt : DT) (ri1 : DI) (js1 : List Nat) (rg1 : DG) (qt1 : DT) (re : DE) (δ : DSt) (P : List D → Mu → Prop) : List D → List D → Mu → Prop
  | [], acc, m => Ph m ∧ P acc m
  | d :: ds, acc, m => Ph m ∧ rg d δ m fun δ' m' => qt δ' m' (fun k m1 => match k with
    | true => ri1 δ' m1 (fun Ph1 ds1 m2 => rComp Ph1 rg1 qt1 re (wipeD δ' js1) (fun acc' m3 => rComp20 Ph rg qt ri1 js1 rg1 qt1 re δ P ds acc' m3) ds1 acc m2) noX
    | false => rComp20 Ph rg qt ri1 js1 rg1 qt1 re δ P ds acc m1) noX
@[irreducible] def rComp2 (Ph : Mu → Prop) (rg : DG) (qt : DT) (ri1 : DI) (js1 : List Nat) (rg1 : DG) (qt1 : DT) (re : DE) (δ : DSt) (P : List D → Mu → Prop) (ds acc : List D) (m : Mu) : Prop := rComp20 Ph rg qt ri1 js1 rg1 qt1 re δ P ds acc m
section
variable {Ph : Mu → Prop} {rg rg1 : DG} {qt qt1 : DT} {ri1 : DI} {js1 : List Nat} {re : DE} {δ : DSt} {P : List D → Mu → Prop} {acc : List D} {m : Mu} {d : D} {ds : List D}
theorem rComp2_nil : rComp2 Ph rg qt ri1 js1 rg1 qt1 re δ P [] acc m = (Ph m ∧ P acc m) := by unfold rComp2; rfl
theorem rComp2_cons : rComp2 Ph rg qt ri1 js1 rg1 qt1 re δ P (d :: ds) acc m = (Ph m ∧ rg d δ m fun δ' m' => qt δ' m' (fun k m1 => match k with
    | true => ri1 δ' m1 (fun Ph1 ds1 m2 => rComp Ph1 rg1 qt1 re (wipeD δ' js1) (fun acc' m3 => rComp2 Ph rg qt ri1 js1 rg1 qt1 re δ P ds acc' m3) ds1 acc m2) noX
    | false => rComp2 Ph rg qt ri1 js1 rg1 qt1 re δ P ds acc m1) noX) := by
  have e : rComp2 Ph rg qt ri1 js1 rg1 qt1 re δ P ds = rComp20 Ph rg qt ri1 js1 rg1 qt1 re δ P ds := by funext acc m; unfold rComp2; rfl
  rw [e]
  unfold rComp2
  rfl
end
def rLc2 (ri : DI) (js : List Nat) (rg : DG) (qt : DT) (ri1 : DI) (js1 : List Nat) (rg1 : DG) (qt1 : DT) (re : DE) : DE := fun δ m P PX => ri δ m (fun Ph ds m1 => rComp2 Ph rg qt ri1 js1 rg1 qt1 re (wipeD δ js) (fun acc m2 => P (.lst acc) m2) ds [] m1) PX
theorem lc2_lift {K : KW} {ri ri1 : DI} {g g1 : TG} {rg rg1 : DG} {qt qt1 : DT} {re : DE} {js jo js1 : List Nat} {Pf : DK → List D → Mu → Prop} (go : Gok K jo g rg) (hjo : ∀ i ∈ jo, i ∈ js) (go1 : Gok K js1 g1 rg1)
    (fin : ∀ F H0 m H q vs acc P Q, Ok K F H0 m H → H q = some (.lst vs) → H0 q = none → m q = none → F q = none → RpL K H0 vs acc → Pf P acc m → GV K F H0 P Q → Q (.ref q) H)
    {σ : St} {H : Hp} {Q : VK} (h : lE K W (fun δ m P PX => ri δ m (fun Ph ds m1 => rComp2 Ph rg qt ri1 js1 rg1 qt1 re (wipeD δ js) (Pf P) ds [] m1) PX) σ H Q) : tLc2 (lI K W ri) g (lT K noW qt) (lI K noW ri1) g1 (lT K noW qt1) (lE K noW re) js js1 σ H Q := by
  obtain ⟨F, H0, m, δ, P, PX, ok, rs, h, gv, gx⟩ := h
  refine ⟨F, H0, m, δ, _, _, ok, rs, h, fun J H1 H01 m1 Ph ds s1 ok1 it ph h1 q hq => ?_, gx⟩
  have hF : F q = none := ok1.freeF hq
  refine ⟨fun i k H' => ∃ H0' m' vs acc, Same H01 H0' ∧ Ok K (upd F q (.lst vs)) H0' m' H' ∧ RpL K H0' vs acc ∧ i + k = ds.length ∧ rComp2 Ph rg qt ri1 js1 rg1 qt1 re (wipeD δ js) (Pf P) (ds.drop i) acc m', ⟨ds.length, H01, m1, [], [], Same.refl _, ok1.addF hq, .nil, by omega, h1⟩, ?_⟩
  rintro i k H2 ⟨H02, m2, vs, acc, s2, ok2, rl, hik, h2⟩
  by_cases hlt : i < ds.length
  · have e1 : ds[i]? = some ds[i] := List.getElem?_eq_getElem hlt
    rw [List.drop_eq_getElem_cons hlt, rComp2_cons] at h2
    obtain ⟨ph2, h2⟩ := h2
    obtain ⟨go0, yl⟩ := (it _ i H2 H02 m2 s2 ok2 ph2).1 _ e1
    refine .inr ⟨go0, fun H' => ∃ H0' m' vs acc, Same H01 H0' ∧ Ok K (upd F q (.lst vs)) H0' m' H' ∧ RpL K H0' vs acc ∧ rComp2 Ph rg qt ri1 js1 rg1 qt1 re (wipeD δ js) (Pf P) (ds.drop (i + 1)) acc m', fun H' hN => ?_, fun x H' y => ?_⟩
    · obtain ⟨H0', m', vs', acc', z1, z2, z3, z4⟩ := hN
      exact ⟨k - 1, by omega, H0', m', vs', acc', z1, z2, z3, by omega, z4⟩
    · obtain ⟨H03, s3, ok3, r3⟩ := yl x H' y
      have rs3 := (rs.wipe js).mono (s1.trans (s2.trans s3))
      refine go _ H03 m2 H' _ _ x _ _ _ ok3 rs3 r3 h2 fun σ4 δ4 rs4 hw4 h4 => ⟨by rw [wipe_more hw4 hjo, wipe_twice], ?_⟩
      refine ⟨_, H03, m2, δ4, _, noX, ok3, rs4, h4, fun b H5 H05 m5 s5 ok5 h5 => ?_, fun _ _ _ _ _ _ _ _ _ z => z⟩
      cases b with
      | false =>
        rw [if_neg Bool.false_ne_true]
        exact ⟨H05, m5, vs, acc, (s2.trans s3).trans s5, ok5, (rl.mono s3).mono s5, h5⟩
      | true =>
        rw [if_pos rfl]
        refine ⟨_, H05, m5, δ4, _, noX, ok5, rs4.mono s5, h5, fun J1 H6 H06 m6 Ph1 ds1 s6 ok6 it1 ph1 h6 => ?_, fun _ _ _ _ _ _ _ _ _ z => z⟩
        have rl6 := ((rl.mono s3).mono s5).mono s6
        have s06 := ((s2.trans s3).trans s5).trans s6
        refine ⟨fun j k H' => ∃ H0' m' vs acc, Same H06 H0' ∧ Ok K (upd F q (.lst vs)) H0' m' H' ∧ RpL K H0' vs acc ∧ j + k = ds1.length ∧ rComp Ph1 rg1 qt1 re (wipeD δ4 js1) (fun acc' m3 => rComp2 Ph rg qt ri1 js1 rg1 qt1 re (wipeD δ js) (Pf P) (ds.drop (i + 1)) acc' m3) (ds1.drop j) acc m', ⟨ds1.length, H06, m6, vs, acc, Same.refl _, ok6, rl6, by omega, h6⟩, ?_⟩
        rintro j k1 H7 ⟨H07, m7, vs7, acc7, s7, ok7, rl7, hjk, h7⟩
        by_cases hlt1 : j < ds1.length
        · have e2 : ds1[j]? = some ds1[j] := List.getElem?_eq_getElem hlt1
          rw [List.drop_eq_getElem_cons hlt1, rComp_cons] at h7
          obtain ⟨ph7, h7⟩ := h7
          obtain ⟨go2, yl1⟩ := (it1 _ j H7 H07 m7 s7 ok7 ph7).1 _ e2
          refine .inr ⟨go2, fun H' => ∃ H0' m' vs acc, Same H06 H0' ∧ Ok K (upd F q (.lst vs)) H0' m' H' ∧ RpL K H0' vs acc ∧ rComp Ph1 rg1 qt1 re (wipeD δ4 js1) (fun acc' m3 => rComp2 Ph rg qt ri1 js1 rg1 qt1 re (wipeD δ js) (Pf P) (ds.drop (i + 1)) acc' m3) (ds1.drop (j + 1)) acc m', fun H' hN => ?_, fun x1 H' y1 => ?_⟩
          · obtain ⟨H0', m', vs', acc', z1, z2, z3, z4⟩ := hN
            exact ⟨k1 - 1, by omega, H0', m', vs', acc', z1, z2, z3, by omega, z4⟩
          · obtain ⟨H08, s8, ok8, r8⟩ := yl1 x1 H' y1
            have rs8 := ((((rs4.mono s5).mono s6).wipe js1).mono s7).mono s8
            refine go1 _ H08 m7 H' _ _ x1 _ _ _ ok8 rs8 r8 h7 fun σ9 δ9 rs9 hw9 h9 => ⟨by rw [hw9, wipe_twice], ?_⟩
            refine ⟨_, H08, m7, δ9, _, noX, ok8, rs9, h9, fun b H10 H010 m10 s10 ok10 h10 => ?_, fun _ _ _ _ _ _ _ _ _ z => z⟩
            cases b with
            | false =>
              rw [if_neg Bool.false_ne_true]
              exact ⟨H010, m10, vs7, acc7, (s7.trans s8).trans s10, ok10, (rl7.mono s8).mono s10, h10⟩
            | true =>
              rw [if_pos rfl]
              refine ⟨_, H010, m10, δ9, _, noX, ok10, rs9.mono s10, h10, fun y2 H11 H011 m11 d11 s11 ok11 r11 h11 => ?_, fun _ _ _ _ _ _ _ _ _ z => z⟩
              have rl11 := ((rl7.mono s8).mono s10).mono s11
              exact ⟨vs7, (ok11.fr q _ upd_same).1, by rw [rl11.length]; exact h11.1, H011, m11, vs7 ++ [y2], acc7 ++ [d11], ((s7.trans s8).trans s10).trans s11, ok11.reF, rl11.snoc r11, h11.2⟩
        · have e : j = ds1.length := by omega
          subst e
          rw [List.drop_length, rComp_nil] at h7
          exact .inl ⟨(it1 _ _ H7 H07 m7 s7 ok7 h7.1).2 rfl, H07, m7, vs7, acc7, s06.trans s7, ok7, rl7, h7.2⟩
  · have e : i = ds.length := by omega
    subst e
    rw [List.drop_length, rComp2_nil] at h2
    obtain ⟨ok3, z1, z2, z3⟩ := ok2.unframe hF
    exact .inl ⟨(it _ _ H2 H02 m2 s2 ok2 h2.1).2 rfl, fin F H02 m2 H2 q vs acc P Q ok3 z1 z2 z3 hF rl h2.2 (gv.mono (s1.trans s2))⟩
variable {ifs ifs1 : List Expr} {scope : Scope} {own : List (Str × Nat)} {ri ri1 : DI} {g g1 : TG} {rg rg1 : DG} {qt qt1 : DT} {re : DE} {tg1 : Expr}
theorem pd_lc2 {elt iter iter1 : Expr} {js jo js1 : List Nat} (hc : X.calm = true) (hN : X.N.Nodup) (hi : PI X tg iter (lI (kw X) W ri)) (ok : BlkOk X.N X.env.scope scope own) (go : Gok (kw X) jo g rg) (go1 : Gok (kw X) js1 g1 rg1) (hj : own.map (·.2) = js)
    (hg : ∀ (s : Shared) (H : Hp) (C : Addr) (cl : List (Str × Addr)) (fp : List Addr), PG (X.blk s H scope (compEnvC scope cl C X.env) fp) tg g) (ht : ∀ (s : Shared) (H : Hp) (C : Addr) (cl : List (Str × Addr)) (fp : List Addr), PTs (X.blk s H scope (compEnvC scope cl C X.env) fp) ifs (lT (kw X) noW qt))
    (hi1 : ∀ (s : Shared) (H : Hp) (C : Addr) (cl : List (Str × Addr)) (fp : List Addr), PI (X.blk s H scope (compEnvC scope cl C X.env) fp) tg1 iter1 (lI (kw X) noW ri1))
    (hg1 : ∀ (s : Shared) (H : Hp) (C : Addr) (cl : List (Str × Addr)) (fp : List Addr), PG (X.blk s H scope (compEnvC scope cl C X.env) fp) tg1 g1) (ht1 : ∀ (s : Shared) (H : Hp) (C : Addr) (cl : List (Str × Addr)) (fp : List Addr), PTs (X.blk s H scope (compEnvC scope cl C X.env) fp) ifs1 (lT (kw X) noW qt1))
    (he : ∀ (s : Shared) (H : Hp) (C : Addr) (cl : List (Str × Addr)) (fp : List Addr), PE (X.blk s H scope (compEnvC scope cl C X.env) fp) elt (lE (kw X) noW re)) (hjo : ∀ i ∈ jo, i ∈ js := by decide) (hj1 : ∀ i ∈ js1, i ∈ js := by decide) (hs : ∀ x, foldedSetIterable iter X.env x = pure x := by intro _; rfl) (hs1 : ∀ env x, foldedSetIterable iter1 env x = pure x := by intro _ _; rfl) :
    PE X (.ListComp elt [⟨tg, iter, ifs, 0⟩, ⟨tg1, iter1, ifs1, 0⟩] scope pos) (lE (kw X) W (rLc2 ri js rg qt ri1 js1 rg1 qt1 re)) := by
  subst hj
  exact PE.imp (pe_lc2 hc hN hi ok hj1 hg ht hi1 hg1 ht1 he hs hs1) fun _ _ _ h => lc2_lift go hjo go1 lc_fin h
end
end DL
namespace DL
open PySem L2
/-! ### what the written part holds, by a look that computes -/
def clsAddr (K : PySem.W.Frag) (n : Str) : Option Addr := match PySem.W.nsIn K mainGlobals n with
  | some (some (.ref C)) => some C
  | _ => none
theorem ClsAt.addr {K : PySem.W.Frag} {n : Str} {C : Addr} (h : ClsAt K n C) : clsAddr K n = some C := by unfold clsAddr; rw [h]
theorem ClsAt.uniq {K : PySem.W.Frag} {n : Str} {C C' : Addr} (h : ClsAt K n C) (h' : ClsAt K n C') : C = C' := by
  have := h.addr.symm.trans h'.addr
  cases this; rfl
/-! ### fields -/
/-! ### a def, whatever its defaults -/
/-! ### defs with defaults -/
structure FunG (K : PySem.W.Frag) (x qual : Str) (st : Stmt) (dD : List D) (kD : List (Str × D)) (f : Addr) (fd : FuncData) : Prop where
  ex : ∃ dvs kws, FunD K x qual (defArgs st) (defBody st) (defScope st) dvs kws f fd ∧ (∀ H, RpL K H dvs dD) ∧ kws.map (·.1) = kD.map (·.1) ∧ ∀ H, RpL K H (kws.map (·.2)) (kD.map (·.2))
/-! ### how a call binds: ix takes from positional values, keywords, defaults, keyword-only defaults, in that order -/
end DL
namespace DL
open PySem L2
/-! ### the arguments of a call, of whatever is called -/
section
variable {X : Cx} {W : WX} {a b c o : Expr} {ra rb rc ro : DE} {pos p apos : Pos} {e : Expr} {es args : List Expr} {kws : List Keyword} {qs qk : DA} {n m f x qual : Str} {ks ps : List Str} {st : Stmt} {k np : Nat} {dD : List D} {kD : List (Str × D)} {sp : SpD} {gD : List D → List D → List D}
theorem FunG.kp {K : PySem.W.Frag} {x qual : Str} {st : Stmt} {dD : List D} {kD : List (Str × D)} {f : Addr} {fd : FuncData} (G : FunG K x qual st dD kD f fd) : PySem.W.keepIn K (.ref f) = true := let ⟨_, _, F, _⟩ := G.ex; F.kp
/-- the instance x becomes data -/
theorem Ok.seal {K : KW} {F H0 H : Hp} {m : Mu} {q : Addr} {n : Str} {fs : List (Str × D)} (ok : Ok K F H0 m H) (h : m q = some (.ins n fs)) : ∃ H0', Same H0 H0' ∧ Ok K F H0' (mdel m q) H ∧ Rp K H0' (.ref q) (.ins n fs) := by
  obtain ⟨h0, C, dx, fv, cA, hq, e, t⟩ := ok.cell q _ h
  have sn := same_new (o := HO.ins C dx fv) h0
  refine ⟨upd H0 q (.ins C dx fv), sn, ⟨fun b u z => ?_, fun b u z => ?_, fun b u z => ?_, fun P y l => have t := ok.tab P y l; t.step sn ((upd_ne (ok.neM l h)).trans t.h0) t.hF rfl⟩, .ins cA upd_same e (t.mono sn)⟩
  · by_cases hb : b = q
    · subst hb; rw [upd_same] at z; cases z; exact hq
    · rw [upd_ne hb] at z; exact ok.same b u z
  · unfold mdel at z
    by_cases hb : b = q
    · rw [if_pos hb] at z; cases z
    · rw [if_neg hb] at z
      obtain ⟨c1, c2⟩ := ok.cell b u z
      exact ⟨by rw [upd_ne hb]; exact c1, c2.mono sn rfl⟩
  · obtain ⟨c1, c2, c3⟩ := ok.fr b u z
    have hb : b ≠ q := fun w => by rw [w, h] at c3; cases c3
    exact ⟨c1, by rw [upd_ne hb]; exact c2, by unfold mdel; rw [if_neg hb]; exact c3⟩
end
end DL
/-! ### isinstance of an exception that has fields -/
namespace DL
open PySem L2
/-! ### the kinds of refusals of the program -/
/-! ### raise -/
theorem Ok.xd {K : KW} {F H0 H : Hp} {m : Mu} {q dx C : Addr} {fs : List (Str × V)} (ok : Ok K F H0 m H) (hq : H q = none) (hd : H dx = none) (hne : dx ≠ q) :
    upd (del (upd (upd (upd H q (exo q C none)) dx (exd dx fs)) q (exo q C (some dx))) q) dx (.xd fs) = upd H dx (.xd fs) := by
  funext b
  by_cases h1 : b = dx
  · subst h1; rw [upd_same, upd_same]
  · rw [upd_ne h1, upd_ne h1]
    by_cases h2 : b = q
    · subst h2; rw [del_same, hq]
    · rw [del_ne h2, upd_ne h2, upd_ne h1, upd_ne h2]
/-! ### TrialError's __init__ -/
end DL
namespace DL
open PySem L2
/-! ### isinstance, own classes too -/
section
variable {X : Cx} {W : WX} {a b c : Expr} {ra rb rc : DE} {pos p : Pos} {e : Expr} {es : List Expr} {qs : DA}
/-! ### is True, is False -/
/-! ### x or y, x and y by truth -/
def rOrT (ra rb : DE) : DE := fun δ m P PX => ra δ m (fun x m1 => match x with
  | .bl k => match k with
    | true => P (.bl true) m1
    | false => rb δ m1 P PX
  | .str z => z.length ≤ sizeLine ∧ (if z.length = 0 then rb δ m1 P PX else P (.str z) m1)
  | x => match truD m1 x with
    | some true => P x m1
    | some false => rb δ m1 P PX
    | none => False) PX
theorem pd_orT {rest : List Expr} (ha : PE X a (lE (kw X) W ra)) (hb : PE X (.BoolOp .Or (b :: rest) pos) (lE (kw X) W rb)) : PE X (.BoolOp .Or (a :: b :: rest) pos) (lE (kw X) W (rOrT ra rb)) := by
  refine PE.imp (pe_orT ha hb) fun σ H Q h => ?_
  obtain ⟨F, H0, m, δ, P, PX, ok, rs, h, g, gx⟩ := h
  refine ⟨F, H0, m, δ, _, PX, ok, rs, h, fun x H1 H01 m1 d s1 ok1 r1 h1 => ?_, gx⟩
  dsimp only at h1
  split at h1
  · rename_i k
    cases r1
    cases k with
    | true => exact ⟨true, rfl, by rw [if_pos rfl]; exact g _ _ _ _ _ s1 ok1 (.bl _) h1⟩
    | false => exact ⟨false, rfl, by rw [if_neg Bool.false_ne_true]; exact ⟨F, H01, m1, δ, P, PX, ok1, rs.mono s1, h1, g.mono s1, gx.mono s1⟩⟩
  · rename_i z
    cases r1
    obtain ⟨hz, h1⟩ := h1
    refine ⟨_, ⟨hz, rfl⟩, ?_⟩
    by_cases hl : z.length = 0
    · rw [if_pos hl] at h1
      rw [hl, if_neg (by decide)]
      exact ⟨F, H01, m1, δ, P, PX, ok1, rs.mono s1, h1, g.mono s1, gx.mono s1⟩
    · rw [if_neg hl] at h1
      have : ((z.length : Int) != 0) = true := by simp [hl]
      rw [this, if_pos rfl]
      exact g _ _ _ _ _ s1 ok1 (.str _) h1
  · split at h1
    · rename_i e1
      exact ⟨true, tru_rp ok1 r1 e1, by rw [if_pos rfl]; exact g _ _ _ _ _ s1 ok1 r1 h1⟩
    · rename_i e1
      exact ⟨false, tru_rp ok1 r1 e1, by rw [if_neg Bool.false_ne_true]; exact ⟨F, H01, m1, δ, P, PX, ok1, rs.mono s1, h1, g.mono s1, gx.mono s1⟩⟩
    · exact h1.elim
end
/-! ### a dict of the text -/
end DL
namespace DL
open PySem L2
/-! ### zip -/
def zipD : List D → List D → List D
  | x :: xs, y :: ys => .tup [x, y] :: zipD xs ys
  | _, _ => []
theorem zipD_get : ∀ (xs ys : List D) (i : Nat) (d : D), (zipD xs ys)[i]? = some d → ∃ x y, xs[i]? = some x ∧ ys[i]? = some y ∧ d = .tup [x, y]
  | [], _, _, _, h => by simp [zipD] at h
  | _ :: _, [], _, _, h => by simp [zipD] at h
  | x :: xs, y :: ys, 0, d, h => by simp [zipD] at h; exact ⟨x, y, rfl, rfl, h.symm⟩
  | x :: xs, y :: ys, i + 1, d, h => by
    simp only [zipD, List.getElem?_cons_succ] at h
    simpa using zipD_get xs ys i d h
theorem zipD_len : ∀ (xs ys : List D), (zipD xs ys).length = min xs.length ys.length
  | [], ys => by simp [zipD]
  | _ :: _, [] => by simp [zipD]
  | x :: xs, y :: ys => by simp [zipD, zipD_len xs ys]
def iZipD (qs : DA) : DI := fun δ m P PX => qs δ m (fun vs m1 => match vs with
  | [.tup xs, .tup ys] => P (fun _ => True) (zipD xs ys) m1
  | [x, y] => match asL m1 x, asL m1 y with
    | some xs, some ys => P (fun m => asL m x = some xs ∧ asL m y = some ys) (zipD xs ys) m1
    | _, _ => False
  | _ => False) PX
section
variable {X : Cx} {W : WX} {a b : Expr} {pos q tpos : Pos} {qs : DA} {elts : List Expr} {kk : Nat}
theorem ItD.zipT {K : KW} {H0 : Hp} {p q : Addr} {vs ws : List V} {xs ys : List D} {Ph : Mu → Prop} (r1 : RpL K H0 vs xs) (h1 : SqT K H0 p vs) (r2 : RpL K H0 ws ys) (h2 : SqT K H0 q ws) (F : Hp) : ItD K F (RZ.ItzT K p q) H0 Ph (zipD xs ys) := by
  intro i H H1 m s1 ok1 ph
  have g1 := seqT_mono (s1.trans ok1.same) h1
  have g2 := seqT_mono (s1.trans ok1.same) h2
  refine ⟨fun d e => ?_, fun e => ⟨vs, ws, g1, g2, ?_⟩⟩
  · obtain ⟨x, y, e1, e2, rfl⟩ := zipD_get xs ys i d e
    obtain ⟨v, e3, rv⟩ := r1.get e1
    obtain ⟨w, e4, rw'⟩ := r2.get e2
    refine ⟨⟨vs, ws, v, w, g1, g2, e3, e4⟩, fun z H' yy => ?_⟩
    obtain ⟨T, v', w', rfl, hT, rfl, k1, k2⟩ := yy
    have := k1 vs g1
    rw [e3] at this; cases this
    have := k2 ws g2
    rw [e4] at this; cases this
    have sn := same_new (o := HO.tup [v, w]) (ok1.free hT).1
    exact ⟨_, sn, ok1.new hT _, .tup (SqT.of upd_same) (.cons ((rv.mono s1).mono sn) (.cons ((rw'.mono s1).mono sn) .nil))⟩
  · rw [r1.length, r2.length, e, zipD_len]; omega
theorem di_zip (hm : X.mg "zip" = none) (ha : PA X [a, b] (lA (kw X) W qs)) (hg : Gl X "zip" := by rfl) (hs : starEach [a, b] X.env = (false, eval a X.env) :: starEach [b] X.env := by rfl) (hpl : (backTo pos (starEach [b] X.env)).any (·.1) = false := by rfl) : PI X (.Tuple elts kk tpos) (.Call (.Name "zip" q) [a, b] [] pos) (lI (kw X) W (iZipD qs)) := by
  refine PI.imp (RZ.pi_zipA hg hm ha hs hpl) fun σ H R h => ?_
  obtain ⟨F, H0, m, δ, P, PX, ok, rs, h, g, gx⟩ := h
  refine ⟨F, H0, m, δ, _, PX, ok, rs, h, fun vs H1 H01 m1 ds s1 ok1 r1 h1 => ?_, gx⟩
  dsimp only at h1
  split at h1
  · obtain ⟨v, w, rfl, q1, q2⟩ := r1.two
    cases q1 with
    | tup a1 a2 =>
      cases q2 with
      | tup b1 b2 => exact ⟨_, _, _, _, rfl, .inr ⟨seqT_mono ok1.same a1, seqT_mono ok1.same b1, g _ _ _ _ _ _ s1 ok1 (ItD.zipT a2 a1 b2 b1) trivial h1⟩⟩
  · rename_i x y _
    obtain ⟨v, w, rfl, q1, q2⟩ := r1.two
    split at h1
    · rename_i xs ys e1 e2
      obtain ⟨p1, vs1, rfl, c1, d1⟩ := asL_rp ok1 q1 e1
      obtain ⟨p2, vs2, rfl, c2, d2⟩ := asL_rp ok1 q2 e2
      refine ⟨p1, p2, vs1, vs2, rfl, .inl ⟨c1, c2, g _ _ _ _ _ _ s1 ok1 (fun F' => ?_) ⟨e1, e2⟩ h1⟩⟩
      intro i H' H1' m' s' ok' ph
      obtain ⟨p1', ws1, z1, g1, k1⟩ := asL_rp ok' (q1.mono s') ph.1
      obtain ⟨p2', ws2, z2, g2, k2⟩ := asL_rp ok' (q2.mono s') ph.2
      cases z1; cases z2
      refine ⟨fun d e => ?_, fun e => ⟨ws1, ws2, g1, g2, ?_⟩⟩
      · obtain ⟨x, y, e1, e2, rfl⟩ := zipD_get xs ys i d e
        obtain ⟨v, e3, rv⟩ := k1.get e1
        obtain ⟨w, e4, rw'⟩ := k2.get e2
        refine ⟨⟨ws1, ws2, v, w, g1, g2, e3, e4⟩, fun z H'' yy => ?_⟩
        obtain ⟨T, v', w', rfl, hT, rfl, k3, k4⟩ := yy
        have := k3 ws1 g1
        rw [e3] at this; cases this
        have := k4 ws2 g2
        rw [e4] at this; cases this
        have sn := same_new (o := HO.tup [v, w]) (ok'.free hT).1
        exact ⟨_, sn, ok'.new hT _, .tup (SqT.of upd_same) (.cons (rv.mono sn) (.cons (rw'.mono sn) .nil))⟩
      · rw [k1.length, k2.length, e, zipD_len]; omega
    · exact h1.elim
  · exact h1.elim
end
end DL
/-! # what may change becomes data -/
namespace DL
open PySem L2
theorem Ok.sealO {K : KW} {F H0 H : Hp} {m : Mu} {q : Addr} {o : MO} {u : HO} (ok : Ok K F H0 m H) (h : m q = some o) (hq : H q = some u) : Same H0 (upd H0 q u) ∧ Ok K F (upd H0 q u) (mdel m q) H := by
  have h0 := (ok.cell q _ h).1
  have sn := same_new (o := u) h0
  refine ⟨sn, ⟨fun b u z => ?_, fun b u z => ?_, fun b u z => ?_, fun P y l => have t := ok.tab P y l; t.step sn ((upd_ne (ok.neM l h)).trans t.h0) t.hF rfl⟩⟩
  · by_cases hb : b = q
    · subst hb; rw [upd_same] at z; cases z; exact hq
    · rw [upd_ne hb] at z; exact ok.same b u z
  · unfold mdel at z
    by_cases hb : b = q
    · rw [if_pos hb] at z; cases z
    · rw [if_neg hb] at z
      obtain ⟨c1, c2⟩ := ok.cell b u z
      exact ⟨by rw [upd_ne hb]; exact c1, c2.mono sn rfl⟩
  · obtain ⟨e1, e2, e3⟩ := ok.fr b u z
    have hb : b ≠ q := fun z => by rw [z, h] at e3; cases e3
    exact ⟨e1, by rw [upd_ne hb]; exact e2, by unfold mdel; rw [if_neg hb]; exact e3⟩
/-- a value, told as data -/
def rSeal (ra : DE) : DE := fun δ m P PX => ra δ m (fun x m1 => match x with
  | .adr q => match m1 q with
    | some (.lst ds) => P (.lst ds) (mdel m1 q)
    | some (.dct ds) => P (.dct ds) (mdel m1 q)
    | some (.ins n fs) => P (.ins n fs) (mdel m1 q)
    | _ => False
  | x => P x m1) PX
section
variable {X : Cx} {W : WX} {a : Expr} {ra : DE}
theorem pd_seal (ha : PE X a (lE (kw X) W ra)) : PE X a (lE (kw X) W (rSeal ra)) := by
  refine PE.imp ha fun σ H Q h => ?_
  obtain ⟨F, H0, m, δ, P, PX, ok, rs, h, g, gx⟩ := h
  refine ⟨F, H0, m, δ, _, PX, ok, rs, h, fun x H1 H01 m1 d s1 ok1 r1 h1 => ?_, gx⟩
  dsimp only at h1
  split at h1
  · cases r1
    rename_i q
    split at h1
    · rename_i ds e
      obtain ⟨vs, hq, rv⟩ := (ok1.cell q _ e).2
      obtain ⟨s2, ok2⟩ := ok1.sealO e hq
      exact g _ _ _ _ _ (s1.trans s2) ok2 (.lst (.inl (.inl upd_same)) (rv.mono s2)) h1
    · rename_i ds e
      obtain ⟨vs, hq, e2, rv⟩ := (ok1.cell q _ e).2
      obtain ⟨s2, ok2⟩ := ok1.sealO e hq
      exact g _ _ _ _ _ (s1.trans s2) ok2 (.dct upd_same e2 (rv.mono s2)) h1
    · rename_i n fs e
      obtain ⟨H0', s2, ok2, r2⟩ := ok1.seal e
      exact g _ _ _ _ _ (s1.trans s2) ok2 r2 h1
    · exact h1.elim
  · exact g _ _ _ _ _ s1 ok1 r1 h1
end
end DL
/-! # a tuple times an int -/
namespace DL
open PySem L2 PySem.Spec PyProof.Rows
theorem tuple_mul0 (l : Addr) (n : Nat) (dd : Option Addr) (sl : Array (Option Value)) (x : Int) (u : Tok) (c0 : (decide (x < -(2 ^ 63)) || decide (x ≥ 2 ^ 63)) = false) :
    Meets (Builtin.«tuple.__mul__» ⟨[.ref l, .int x u], []⟩) (fun _ R s => s.heap.get? l = some { cls := .type "tuple", dict := dd, data := .seq #[] n, slots := sl } ∧ R (.ok (.ret (Value.ref l))) s) :=
  .of_wp fun prog w A R s h => by
    obtain ⟨hp, g, d, tk, os⟩ := s
    obtain ⟨hl, h⟩ := h
    have f1 := AutoSeq1.idx_int
    wp_walk using wpAny_loadPart' hl
    refine wpAny_ite_false (decide_eq_false (by rw [c0]; exact Bool.false_ne_true)) ?_
    wp_walk using wpAny_loadPart' hl
    exact ⟨_, rfl, h⟩
def rRep0 (K : PySem.W.Frag) : R2 := fun x y H Q => ∃ l k, x = .ref l ∧ y = .int k ∧ SqT K H l [] ∧ 0 ≤ k ∧ k ≤ 1000 ∧ Q (.ref l) H
section
variable {X : Cx} {W : WX} {a b : Expr} {ra rb : DE} {pos : Pos}
theorem op_rep0 : OpR X (binaryOp .Mult) (rRep0 X.K) := by
  intro pins s σ H x y v u Q I rx ry h
  obtain ⟨l, k, rfl, rfl, hT, h1, h2, q⟩ := h
  cases rx
  obtain ⟨t, rfl⟩ := ry
  obtain ⟨its, r, ⟨⟨cls, dd, data, sl⟩, ho, hc, n, hd⟩, hs⟩ := I.tuple hT
  simp only at hc hd
  subst hc hd
  cases r
  have c0 : (decide (k < -(2 ^ 63)) || decide (k ≥ 2 ^ 63)) = false := by
    rw [decide_eq_false (by omega), decide_eq_false (by omega)] <;> rfl
  refine wpAny_binaryOp_repeat_ref (T := "tuple") (U := "int") (by decide) ⟨_, ho, rfl⟩ (fun s' => typeIs_int s' k t) noFill_tuple_mul F.fills_int_mul F.slot_int_rmul repeat_tuple F.slot_int_index.lookup
    (call_meets F.slot_int_rmul (typeIs_int s k t) F.entry_int_rmul (F.args_int_rmul_2 _ _) (int_rmul_tuple k t l _ n dd sl)
      ⟨ho, rfl, ⟨_, ho, rfl⟩, call_meets F.slot_tuple_mul ⟨_, ho, rfl⟩ F.entry_tuple_mul (F.args_tuple_mul_2 _ _) (tuple_mul0 l n dd sl k t c0) ⟨ho, ?_⟩⟩)
  exact ⟨V.ref l, H, I, rfl, q⟩
theorem RpL.rep {K : PySem.W.Frag} {H : Hp} {vs : List V} {ds : List D} (r : RpL K H vs ds) : ∀ n : Nat, RpL K H (List.replicate n vs).flatten (List.replicate n ds).flatten
  | 0 => .nil
  | n + 1 => by
    rw [List.replicate_succ, List.replicate_succ, List.flatten_cons, List.flatten_cons]
    exact r.append (RpL.rep r n)
def oMulT : DO := fun x y m P => match x, y with
  | .tup ds, .int k => (2 ≤ k ∧ k ≤ 1000 ∧ ds.length ≤ 1000) ∧ P (.tup (List.replicate k.toNat ds).flatten) m
  | _, _ => False
theorem flat_nil {α : Type} : ∀ n : Nat, (List.replicate n ([] : List α)).flatten = []
  | 0 => rfl
  | n + 1 => by rw [List.replicate_succ, List.flatten_cons, flat_nil n]; rfl
theorem mulT_ok : OpD (kw X) (fun x y H Q => rRepT X.K x y H Q ∨ rRep0 X.K x y H Q) oMulT := by
  intro F H0 m H x y dx dy P Q ok rx ry h g
  unfold oMulT at h
  split at h
  · rename_i ds k
    obtain ⟨⟨h1, h2, h3⟩, h⟩ := h
    obtain ⟨p, vs, rfl, q1, r1⟩ := tup_rp ok rx
    cases ry
    by_cases e : vs = []
    · subst e
      have h4 := r1.length
      have : ds = [] := List.eq_nil_of_length_eq_zero h4.symm
      subst this
      rw [flat_nil] at h
      exact .inr ⟨p, k, rfl, rfl, q1, by omega, h2, g.id ok rx h⟩
    · exact .inl ⟨p, k, vs, rfl, rfl, q1, e, h1, h2, by rw [r1.length]; exact h3, fun z hz => g.tup ok hz (r1.rep _) h⟩
  · exact h.elim
end
end DL
/-! # a list times an int; the other way round -/
namespace DL
open PySem L2 PySem.Spec PyProof.Rows
section
variable {X : Cx} {W : WX} {a b : Expr} {ra rb : DE} {pos : Pos}
def rRepQ (K : PySem.W.Frag) : R2 := fun x y H Q => ∃ l k xs, x = .ref l ∧ y = .int k ∧ SqL K H l xs ∧ 0 ≤ k ∧ k ≤ 1000 ∧ xs.length ≤ 1000 ∧ ∀ p, H p = none → Q (.ref p) (upd H p (.lst (List.replicate k.toNat xs).flatten))
theorem op_repQ : OpR X (binaryOp .Mult) (rRepQ X.K) := by
  intro pins s σ H x y v u Q I rx ry h
  obtain ⟨l, k, xs, rfl, rfl, hH, h1, h2, hz, q⟩ := h
  cases rx
  obtain ⟨t, rfl⟩ := ry
  obtain ⟨its, r, ⟨o, n, e, hc, hd, hs⟩, _⟩ := I.list hH
  have hl := r.length
  obtain ⟨oc, od, dt, sl⟩ := o
  simp only at hc hd hs
  subst hc hd hs
  have hsz : its.toArray.size * k.toNat ≤ 1000000 := by
    rw [List.size_toArray, ← hl]
    exact Nat.le_trans (Nat.mul_le_mul hz (by omega : k.toNat ≤ 1000)) (by decide)
  have hcap : ¬ its.toArray.size * k.toNat > (2 ^ 63 - 1) / 8 := by omega
  have hlong : ¬ Builtin.List.listTooLong (its.toArray.size * k.toNat) = true := by
    rw [notLongL (Nat.le_trans hsz (by decide))]
    exact Bool.false_ne_true
  refine wpAny_binaryOp_repeat_ref (T := "list") (U := "int") (by decide) ⟨_, e, rfl⟩ (fun s' => typeIs_int s' k t) noFill_list_mul F.fills_int_mul F.slot_int_rmul repeat_list F.slot_int_index.lookup
    (call_meets F.slot_int_rmul (typeIs_int s k t) F.entry_int_rmul (F.args_int_rmul_2 _ _) (lm_int_rmul_list_any k t l its.toArray n _ _)
      ⟨e, rfl, ⟨_, e, rfl⟩, call_meets F.slot_list_mul ⟨_, e, rfl⟩ F.entry_list_mul (F.args_list_mul_2 _ _) (lm_list_mul_any l its.toArray n _ _ k t (by simp [Builtin.List.listFitsIndex]; omega) hcap hlong) ⟨e, ?_⟩⟩)
  rw [listMul_foldl_if]
  exact ⟨.ref _, _, I.lnew (t' := s.toks) (r.rep k.toNat) (by rw [PyProof.Rows.lm_len_rep_flat, Nat.mul_comm, hl]; rw [List.size_toArray] at hsz; exact Nat.le_trans hsz (by decide)), rfl, q _ I.fresh⟩
def oMulQ : DO := fun x y m P => match y with
  | .int k => match x with
    | .tup ds => (2 ≤ k ∧ k ≤ 1000 ∧ ds.length ≤ 1000) ∧ P (.tup (List.replicate k.toNat ds).flatten) m
    | x => match asL m x with
      | some ds => (0 ≤ k ∧ k ≤ 1000 ∧ ds.length ≤ 1000) ∧ P (.lst (List.replicate k.toNat ds).flatten) m
      | none => False
  | _ => False
theorem mulQ_ok : OpD (kw X) (fun x y H Q => (rRepT X.K x y H Q ∨ rRep0 X.K x y H Q) ∨ rRepQ X.K x y H Q) oMulQ := by
  intro F H0 m H x y dx dy P Q ok rx ry h g
  unfold oMulQ at h
  split at h
  · split at h
    · exact .inl (mulT_ok F H0 m H x y _ _ P Q ok rx ry h g)
    · split at h
      · rename_i ds e
        obtain ⟨⟨h1, h2, h3⟩, h⟩ := h
        obtain ⟨p, vs, rfl, q1, r1⟩ := asL_rp ok rx e
        cases ry
        exact .inr ⟨p, _, vs, rfl, rfl, q1, h1, h2, by rw [r1.length]; exact h3, fun z hz => g.lst ok hz (r1.rep _) h⟩
      · exact h.elim
  · exact h.elim
theorem pd_mulQ (ha : PE X a (lE (kw X) W ra)) (hb : PE X b (lE (kw X) W rb)) : PE X (.BinOp a .Mult b pos) (lE (kw X) W (rOp oMulQ ra rb)) := pd_op ((op_repT.or op_rep0).or op_repQ) mulQ_ok ha hb
end
/-! ### t[::-1] -/
section
variable {prog : Program} {w : World} {A : Around} {E : Value → Shared → Prop} {s : Shared}
theorem sliceApplied_rev {sl : Addr} {vl vu vs : Value} {n : Nat} {Q : Int × Int × Nat → Shared → Prop} (hs : s.heap.IsSliceOf sl vl vu vs) (pl : IsPart vl none) (pu : IsPart vu none) (ps : IsPart vs (some (-1)))
    (h : Q (((n : Nat) : Int) - 1, -1, n) s) : wpAny (model prog w) A (Builtin.Slice.sliceApplied (.ref sl) (pure (n : Int))) Q E s := by
  obtain ⟨os, hos, hcs, hds⟩ := id hs
  unfold Builtin.Slice.sliceApplied Builtin.Slice.sliceFields
  refine wpAny_bind (wpAny_bind (wpAny_field hos hds (x := vl) rfl (wpAny_bind (wpAny_field hos hds (x := vu) rfl (wpAny_bind (wpAny_field hos hds (x := vs) rfl (wpAny_pure ?_)))))))
  refine wpAny_bind (HT.slicePart_ ps ?_)
  show wpAny _ _ (if ((-1 : Int) == 0) = true then _ else _) _ _ s
  rw [if_neg (by decide)]
  refine wpAny_bind (HT.slicePart_ pl (wpAny_bind (HT.slicePart_ pu (wpAny_bind (wpAny_pure ?_)))))
  show wpAny _ _ (match Builtin.Slice.sliceAdjust none none (-1) (n : Int) with | (lo, hi) => pure (lo, (-1 : Int), Builtin.Slice.slicePlaces lo hi (-1))) _ _ s
  show wpAny _ _ (pure (((n : Nat) : Int) - 1, (-1 : Int), Builtin.Slice.slicePlaces (((n : Nat) : Int) - 1) (-1) (-1))) _ _ s
  have e : Builtin.Slice.slicePlaces (((n : Nat) : Int) - 1) (-1) (-1) = n := by
    unfold Builtin.Slice.slicePlaces
    rw [if_neg (by decide)]
    by_cases h0 : n = 0
    · subst h0; rfl
    · rw [if_pos (by omega)]
      have : ((n : Int) - 1 - -1 - 1) / (- -1) = (n : Int) - 1 := by
        rw [show (- -1 : Int) = 1 from rfl, Int.ediv_one]; omega
      rw [this]; omega
  rw [e]
  exact wpAny_pure h
theorem pick_rev (xs : Array Value) : ((List.range xs.size).filterMap fun (m : Nat) => xs[(((xs.size : Nat) : Int) - 1 + (m : Int) * -1).toNat]?).toArray = xs.toList.reverse.toArray := by
  congr 1
  have e : ((List.range xs.size).filterMap fun (m : Nat) => xs[(((xs.size : Nat) : Int) - 1 + (m : Int) * -1).toNat]?) = ((List.range xs.size).map fun k => xs.size - 1 - k).filterMap (xs[·]?) := by
    rw [List.filterMap_map]
    have gen : ∀ (l : List Nat), (∀ m ∈ l, m < xs.size) → (l.filterMap fun (m : Nat) => xs[(((xs.size : Nat) : Int) - 1 + (m : Int) * -1).toNat]?) = l.filterMap ((xs[·]?) ∘ fun k => xs.size - 1 - k) := by
      intro l hl
      induction l with
      | nil => rfl
      | cons m l ih =>
        have hm := hl m List.mem_cons_self
        have e2 : (((xs.size : Nat) : Int) - 1 + (m : Int) * -1).toNat = xs.size - 1 - m := by omega
        rw [List.filterMap_cons, List.filterMap_cons, ih fun k hk => hl k (List.mem_cons_of_mem _ hk), e2]
        rfl
    exact gen _ fun m hm => List.mem_range.mp hm
  rw [e, PySem.W.krv_range, List.filterMap_reverse, PySem.W.krv_all]
theorem getItem_tuple_rev {t sl : Addr} {items : Array Value} {vl vu vs : Value} {Q : Value → Shared → Prop} (ht : IsTup s.heap t items) (hs : s.heap.IsSliceOf sl vl vu vs) (pl : IsPart vl none) (pu : IsPart vu none) (ps : IsPart vs (some (-1)))
    (h : Q (.ref s.heap.objs.size) { s with heap := s.heap.push { cls := .type "tuple", data := .seq items.toList.reverse.toArray } })
    (hsz : items.size ≤ sizeLine) : wpAny (model prog w) A (getItem (.ref t) (.ref sl)) Q E s := by
  have htake : sizeOk (.seq items.toList.reverse.toArray) := by
    show items.toList.reverse.toArray.size ≤ sizeLine
    rw [List.size_toArray, List.length_reverse, Array.length_toList]
    exact hsz
  obtain ⟨os, hos, hcs, hds⟩ := id hs
  have hTs : s.TypeIs (.ref sl) "slice" := ⟨os, hos, hcs⟩
  unfold getItem
  try with_reducible refine wpAny_holding ?_
  first | refine wpAny_bind (wpAny_pure ?_) | skip
  refine wpAny_bind (wpAny_sequenceKey ht.typeIs (by decide) ?_)
  refine wpAny_bind (wpAny_callSpecial?_slot (name := Str.ofString "__getitem__") ht.typeIs PyProof.Rows.slot_tuple_getitem
    (wpAny_call_entry PyProof.Rows.slot_tuple_getitem ht.typeIs entry_tuple_getitem ?_ (args_tuple_getitem _ _)))
  show wpAny _ _ (Builtin.Tuple.tupleItemsOf (.ref t) >>= _) _ _ s
  refine wpAny_bind (tupleItemsOf_ ht ?_)
  refine wpAny_bind (wpAny_typeOf hTs ?_)
  rw [if_pos (by decide)]
  refine wpAny_bind (sliceApplied_rev hs pl pu ps ?_)
  have hno : ¬ ((((items.size : Nat) : Int) - 1 == 0 && (-1 : Int) == 1 && items.size == items.size) = true) := by
    intro q
    rw [Bool.and_eq_true, Bool.and_eq_true] at q
    exact absurd (eq_of_beq q.1.2) (by decide)
  show wpAny _ _ (if (((items.size : Nat) : Int) - 1 == 0 && (-1 : Int) == 1 && items.size == items.size) = true then _ else _) _ _ s
  rw [if_neg hno, pick_rev]
  first
    | exact wpAny_bind (m := Builtin.Tuple.tupleExact _) (wpAny_newObj_type (wpAny_pure ⟨_, rfl, wpAny_pure h⟩) htake)
    | exact wpAny_bind (m := Builtin.Tuple.tupleExact _) (wpAny_newObj_type (wpAny_bind (wpAny_pure (wpAny_pure ⟨_, rfl, wpAny_pure h⟩))) htake)
    | exact wpAny_bind (wpAny_bind (m := Builtin.Tuple.tupleExact _) (wpAny_newObj_type (wpAny_pure (wpAny_pure ⟨_, rfl, wpAny_pure h⟩)) htake))
    | exact wpAny_bind (wpAny_bind (m := Builtin.Tuple.tupleExact _) (wpAny_newObj_type (wpAny_pure ⟨_, rfl, wpAny_pure h⟩) htake))
end
section
variable {X : Cx} {W : WX} {a : Expr} {ra : DE}
def tRevA (K : PySem.W.Frag) (te : TE) : TE := fun σ H Q => te σ H fun x H1 => ∃ a xs, x = .ref a ∧ ((SqL K H1 a xs ∧ ∀ p, H1 p = none → Q (.ref p) (upd H1 p (.lst xs.reverse))) ∨ (SqT K H1 a xs ∧ ∀ p, H1 p = none → Q (.ref p) (upd H1 p (.tup xs.reverse))))
theorem pe_revA {e : Expr} {te : TE} {k : Nat} {p1 p2 p3 pos : Pos} (he : PE X e te) : PE X (.Subscript e (.Slice none none (some (.UnaryOp .USub (.Constant (.int 1) k p1) p2)) p3) pos) (tRevA X.K te) := by
  refine ⟨fun pins s σ H Q I h => ?_⟩
  refine Subscript_ (thn (he.run pins s σ H _ I h) fun v s1 ⟨x, H1, I1, r1, q1⟩ => ?_)
  obtain ⟨a, xs, ex, q⟩ := q1
  subst ex
  cases r1
  have hst : PO X (some (.UnaryOp .USub (.Constant (.int 1) k p1) p2)) (tPart (tUn (rU fun i => .int (-i)) (tC (.int 1)))) := po_some (pe_un un_neg pe_int)
  refine wpAny_Slice (thn (po_none.run pins s1 σ H1 (fun o H2 => o = none ∧ H2 = H1) I1 ⟨rfl, rfl⟩) fun vl s2 ⟨l, H2, I2, pl, el, e2⟩ => ?_)
  subst el e2
  refine thn (po_none.run pins s2 σ H2 (fun o H3 => o = none ∧ H3 = H2) I2 ⟨rfl, rfl⟩) fun vu s3 ⟨u, H3, I3, pu, eu, e3⟩ => ?_
  subst eu e3
  refine thn (hst.run pins s3 σ H3 (fun o H4 => o = some (-1) ∧ H4 = H3) I3 ⟨1, rfl, -1, rfl, rfl, rfl⟩) fun vs s4 ⟨o, H4, I4, ps, eo, e4⟩ => ?_
  subst eo e4
  have I5 : Inv X pins σ H4 { s4 with heap := s4.heap.push { cls := .type "slice", data := .fields #[vl, vu, vs] } } := I4.kept (t' := s4.toks) fun b ob q => Heap.get?_push_of_some _ q
  show wpAny (model X.prog X.w) X.A (subscriptTail e (.Slice none none (some (.UnaryOp .USub (.Constant (.int 1) k p1) p2)) p3) (.ref a) (.ref s4.heap.objs.size)) (EP X pins σ Q) X.xe { s4 with heap := s4.heap.push { cls := .type "slice", data := .fields #[vl, vu, vs] } }
  rcases q with ⟨hx, q⟩ | ⟨hx, q⟩
  · obtain ⟨its, r, ht, hz⟩ := I5.list hx
    have hlen := r.length
    refine tail_any (ops := [.ref a, .ref s4.heap.objs.size]) ht.isList.typeIs (PySem.slot_list_getitem.lookup) ?_ (by with_unfolding_all rfl)
    refine wpAny_getItem_list_slice ht.isList (Heap.IsSliceOf.new _ vl vu vs) pl pu ps (by decide) ?_ (by rw [List.size_toArray]; omega)
    rw [PySem.W.krv_pick]
    refine ⟨.ref _, _, I5.laid (t' := s4.toks) (o := .lst xs.reverse) (fun b ob q => Heap.get?_push_of_some _ q) (Nat.le_refl _) ?_, rfl, q _ (I5.hok.fresh (Nat.le_refl _))⟩
    exact ⟨by rw [List.length_reverse]; exact hz, _, 0, r.reverse, Heap.get?_push_size _ rfl⟩
  · obtain ⟨its, r, ht, hz⟩ := I5.tuple hx
    have hlen := r.length
    refine tail_any (ops := [.ref a, .ref s4.heap.objs.size]) ht.typeIs (PyProof.Rows.slot_tuple_getitem.lookup) ?_ (by with_unfolding_all rfl)
    refine getItem_tuple_rev ht (Heap.IsSliceOf.new _ vl vu vs) pl pu ps ?_ (by rw [List.size_toArray]; omega)
    refine ⟨.ref _, _, I5.laid (t' := s4.toks) (o := .tup xs.reverse) (fun b ob q => Heap.get?_push_of_some _ q) (Nat.le_refl _) ?_, rfl, q _ (I5.hok.fresh (Nat.le_refl _))⟩
    exact ⟨by rw [List.length_reverse]; exact hz, _, r.reverse, IsTup.new _ _⟩
def rRev (ra : DE) : DE := fun δ m P PX => ra δ m (fun x m1 => match x with
  | .tup ds => P (.tup ds.reverse) m1
  | x => match asL m1 x with
    | some ds => P (.lst ds.reverse) m1
    | none => False) PX
theorem RpL.rev {K : PySem.W.Frag} {H : Hp} {vs : List V} {ds : List D} (r : RpL K H vs ds) : RpL K H vs.reverse ds.reverse := by
  induction vs generalizing ds with
  | nil => cases r; exact .nil
  | cons v vs ih =>
    cases r with
    | cons q r =>
      rw [List.reverse_cons, List.reverse_cons]
      exact (ih r).append (.cons q .nil)
theorem pd_rev {k : Nat} {p1 p2 p3 pos : Pos} (ha : PE X a (lE (kw X) W ra)) : PE X (.Subscript a (.Slice none none (some (.UnaryOp .USub (.Constant (.int 1) k p1) p2)) p3) pos) (lE (kw X) W (rRev ra)) := by
  refine PE.imp (pe_revA ha) fun σ H Q h => ?_
  obtain ⟨F, H0, m, δ, P, PX, ok, rs, h, g, gx⟩ := h
  refine ⟨F, H0, m, δ, _, PX, ok, rs, h, fun x H1 H01 m1 d s1 ok1 r1 h1 => ?_, gx⟩
  dsimp only at h1
  split at h1
  · obtain ⟨p, vs, rfl, q1, rv⟩ := tup_rp ok1 r1
    exact ⟨p, vs, rfl, .inr ⟨q1, fun z hz => (g.mono s1).tup ok1 hz rv.rev h1⟩⟩
  · split at h1
    · rename_i ds e
      obtain ⟨p, vs, rfl, q1, rv⟩ := asL_rp ok1 r1 e
      exact ⟨p, vs, rfl, .inl ⟨q1, fun z hz => (g.mono s1).lst ok1 hz rv.rev h1⟩⟩
    · exact h1.elim
end
end DL
/-! # a, b = a list -/
namespace DL
open PySem L2
/-! ### abs(i) -/
end DL
/-! # max(xs, default=d) -/
namespace DL
open PySem L2
section
variable {prog : Program} {w : World} {A : Around} {R : Result → Shared → Prop} {I : Addr} {fp wr : List Addr} {n : Nat} {P : Nat → Value → Prop} {St : Nat → Heap → Prop} {kw : List (Str × Value)}
abbrev bObj (its : Array Value) (c : Nat) : Obj := { cls := .type "list", dict := none, data := .seq its c, slots := #[] }
theorem nmML : (toString "max" ++ toString ".loop" : String) = "max.loop" := by decide
theorem mxGo (W : Walks prog w A.in1 I fp wr n P St) (bt : Nat → Nat → Bool) (cm : CmpOf prog w A.in1 .Gt P bt) (B : Addr) (nB : B ∉ fp) : ∀ (k j : Nat) (s : Shared) (vb : Value) (c : Nat), n - (j + 1) = k → j + 1 ≤ n → St (j + 1) s.heap → P (argBest bt j) vb → s.heap.get? B = some (bObj #[vb, vb] c) →
    (∀ v h' tk, P (argBest bt (n - 1)) v → (∀ b o, b ∉ wr → b ≠ B → s.heap.get? b = some o → h'.get? b = some o) → R (.ok (.ret v)) { s with heap := h', toks := tk }) → codeAny (model prog w) A (.builtin "max.loop" ⟨[.ref I, .none, .ref B], kw⟩) R s := by
  have nW : B ∉ wr := fun h => nB (W.sub _ h)
  intro k
  induction k with
  | zero =>
    intro j s vb c ek hj st pb gB r
    have en : j + 1 = n := by omega
    refine codeAny_builtin (F.entry_max_loop) ?_; rw [Around.under_plainId (F.plain_max_loop) _]
    show wpAny _ A.in1 (seqItems? (.ref B) >>= _) _ _ s
    refine wpAny_bind (wpAny_seqItems gB rfl ?_); show wpAny _ A.in1 (tryCatch (pyNext (.ref I)) _ >>= _) _ _ s
    refine wpAny_bind (wpAny_tryCatch (W.done s _ _ (en ▸ st) fun h' tk kp => ?_))
    have gB' := kp B _ nW gB
    show wpAny _ A.in1 (updateSeq B (fun _ => #[]) >>= _) _ _ _
    refine wpAny_bind (wpAny_updateSeq gB' rfl (wpAny_bind (wpAny_letGo (wpAny_pure ?_))))
    exact r vb _ tk (by rw [← en]; exact pb) fun b o h1 h2 e => (Heap.get?_update_other _ _ (Ne.symm h2)).trans (kp b o h1 e)
  | succ k ih =>
    intro j s vb c ek hj st pb gB r
    have lt : j + 1 < n := by omega
    refine codeAny_builtin (F.entry_max_loop) ?_; rw [Around.under_plainId (F.plain_max_loop) _]
    show wpAny _ A.in1 (seqItems? (.ref B) >>= _) _ _ s
    refine wpAny_bind (wpAny_seqItems gB rfl ?_); show wpAny _ A.in1 (tryCatch (pyNext (.ref I)) _ >>= _) _ _ s
    refine wpAny_bind (wpAny_tryCatch (W.item (j + 1) s _ _ lt st fun v h' tk pv st' kp => ?_))
    have gB' := kp B _ nW gB
    show wpAny _ A.in1 (tryCatch (holding [v, v] (richCompare .Gt v vb >>= _)) _ >>= _) _ _ _
    refine wpAny_bind (wpAny_tryCatch (wpAny_holding (wpAny_bind (cm (j + 1) (argBest bt j) v vb _ _ _ pv pb (wpAny_bind (wpAny_holding (wpAny_truthy_bool (wpAny_bind (wpAny_letGo (wpAny_pure ?_))))))))))
    cases hb : bt (j + 1) (argBest bt j) with
    | true =>
      simp only [if_true]
      refine wpAny_bind (wpAny_updateSeq gB' rfl (wpAny_bind (wpAny_letGo ?_)))
      rw [nmML]
      refine wpAny_pure ⟨plainId_quiet F.plain_max_loop _, ih (j + 1) _ v _ (by omega) lt (W.frame _ _ _ st' fun b hf o e => ?_) (by simp only [argBest, hb, if_true]; exact pv) (Heap.get?_update_self _ gB' rfl) fun v' h2 tk2 p2 kp2 => ?_⟩
      · exact (Heap.get?_update_other _ _ (fun h : B = b => nB (by rw [h]; exact hf))).trans e
      · exact r v' h2 tk2 p2 fun b o x1 x2 e => kp2 b o x1 x2 ((Heap.get?_update_other _ _ (Ne.symm x2)).trans (kp b o x1 e))
    | false =>
      simp only [Bool.false_eq_true, if_false]
      refine wpAny_bind (wpAny_letGo ?_); rw [nmML]
      refine wpAny_pure ⟨plainId_quiet F.plain_max_loop _, ih (j + 1) _ vb c (by omega) lt st' (by simp only [argBest, hb, Bool.false_eq_true, if_false]; exact pb) gB' fun v' h2 tk2 p2 kp2 => ?_⟩
      exact r v' h2 tk2 p2 fun b o x1 x2 e => kp2 b o x1 x2 (kp b o x1 e)
/-- the first turn -/
theorem mxAt {nm : Str} {d : Value} (W : Walks prog w A.in1 I fp wr n P St) (bt : Nat → Nat → Bool) (cm : CmpOf prog w A.in1 .Gt P bt) (B : Addr) (nB : B ∉ fp) {s : Shared} {c : Nat} (st : St 0 s.heap) (gB : s.heap.get? B = some (bObj #[] c))
    (r : ∀ v h' tk, (if n = 0 then v = d else P (argBest bt (n - 1)) v) → (∀ b o, b ∉ wr → b ≠ B → s.heap.get? b = some o → h'.get? b = some o) → R (.ok (.ret v)) { s with heap := h', toks := tk }) : codeAny (model prog w) A (.builtin "max.loop" ⟨[.ref I, .none, .ref B], [(nm, d)]⟩) R s := by
  have nW : B ∉ wr := fun h => nB (W.sub _ h)
  refine codeAny_builtin (F.entry_max_loop) ?_; rw [Around.under_plainId (F.plain_max_loop) _]
  show wpAny _ A.in1 (seqItems? (.ref B) >>= _) _ _ s
  refine wpAny_bind (wpAny_seqItems gB rfl ?_); show wpAny _ A.in1 (tryCatch (pyNext (.ref I)) _ >>= _) _ _ s
  by_cases h0 : n = 0
  · refine wpAny_bind (wpAny_tryCatch (W.done s _ _ (by rw [h0]; exact st) fun h' tk kp => ?_))
    show wpAny _ A.in1 (rule _ >>= _) _ _ _
    refine wpAny_bind (wpAny_rule (wpAny_pure ?_))
    exact r d h' tk (by rw [if_pos h0]) fun b o h1 _ e => kp b o h1 e
  · refine wpAny_bind (wpAny_tryCatch (W.item 0 s _ _ (by omega) st fun v h' tk pv st' kp => ?_))
    have gB' := kp B _ nW gB
    show wpAny _ A.in1 (updateSeq B (fun _ => #[v, v]) >>= _) _ _ _
    refine wpAny_bind (wpAny_updateSeq gB' rfl ?_)
    rw [nmML]
    refine wpAny_pure ⟨plainId_quiet F.plain_max_loop _, mxGo W bt cm B nB _ 0 _ v _ rfl (by omega) (W.frame _ _ _ st' fun b hf o e => ?_) pv (Heap.get?_update_self _ gB' rfl) fun v' h2 tk2 p2 kp2 => ?_⟩
    · exact (Heap.get?_update_other _ _ (fun h : B = b => nB (by rw [h]; exact hf))).trans e
    · exact r v' h2 tk2 (by rw [if_neg h0]; exact p2) fun b o x1 x2 e => kp2 b o x1 x2 ((Heap.get?_update_other _ _ (Ne.symm x2)).trans (kp b o x1 e))
end
theorem args_maxD (a d : Value) : argsOk "max" ⟨[a], [(Str.ofString "default", d)]⟩ := by unfold argsOk; kernel_rfl
section
variable {prog : Program} {w : World} {A : Around} {E : Value → Shared → Prop} {s : Shared}
theorem maxD_walk {x d : Value} {Q : Value → Shared → Prop}
    (h : wpAny (model prog w) A.in1 (pyIter x) (fun it s2 => ∃ I fp wr n P St bt, it = .ref I ∧ Walks prog w A.in1 I fp wr n P St ∧ St 0 s2.heap ∧ (∀ b ∈ fp, b < s2.heap.objs.size) ∧ CmpOf prog w A.in1 .Gt P bt ∧
      ∀ v h' tk, (if n = 0 then v = d else P (argBest bt (n - 1)) v) → (∀ b o, b ∉ wr → s2.heap.get? b = some o → h'.get? b = some o) → Q v { s2 with heap := h', toks := tk }) E s) :
    wpAny (model prog w) A (call (.builtin "max") [x] [(Str.ofString "default", d)]) Q E s := by
  refine wpAny_call (codeAny_call_builtin F.plain_max F.entry_max ?_)
  have body : wpAny (model prog w) A.in1 (Builtin.«max» ⟨[x], [(Str.ofString "default", d)]⟩) (fun fin s' => match fin with
      | .done f => (match (Except.ok f : Result) with | .ok (.ret v) => Q v s' | .ok _ => False | .error e => E e s')
      | .again c' => c'.quiet = true ∧ codeAny (model prog w) A c' (fun r s' => match r with | .ok (.ret v) => Q v s' | .ok _ => False | .error e => E e s') s') E s := by
    show wpAny _ A.in1 (Builtin.Builtins.bindParams "max" ["key", "default"] 0 ⟨[], [(Str.ofString "default", d)]⟩ >>= _) _ _ s
    refine wpAny_bind (wpAny_of_eq (show Builtin.Builtins.bindParams "max" ["key", "default"] 0 ⟨[], [(Str.ofString "default", d)]⟩ = pure [none, some d] from rfl) ?_)
    refine wpAny_bind (wpAny_pure (wpAny_bind (wpAny_mono h (fun it s2 h2 => ?_) fun _ _ e => e)))
    obtain ⟨I, fp, wr, n, P, St, bt, rfl, W, st, hf, cm, q⟩ := h2
    refine wpAny_bind (wpAny_newObj_type ?_)
    have nf : s2.heap.objs.size ∉ fp := fun hm => Nat.lt_irrefl _ (hf _ hm)
    rw [nmML]
    refine wpAny_pure ⟨plainId_quiet F.plain_max_loop _, mxAt (d := d) W bt cm s2.heap.objs.size nf (W.frame _ _ _ st fun b _ o e => Heap.get?_push_of_some _ e) (Heap.get?_push_size _ rfl) fun v h' tk pv kp => ?_⟩
    exact q v h' tk pv fun b o hb e => kp b o hb (Nat.ne_of_lt (Heap.lt_size e)) (Heap.get?_push_of_some _ e)
  have ha := args_maxD x d
  simp only [checkBuiltinCall, F.kind_max]
  cases hs : Manifest.signature? "max" with
  | none => exact wpAny_pure body
  | some sig =>
    have ha' : Bind.checkArgs "max" sig ⟨[x], [(Str.ofString "default", d)]⟩ = pure () := by simpa only [argsOk, hs] using ha
    simp only [ha']
    exact wpAny_pure body
end
section
variable {prog : Program} {w : World} {A : Around} {E : Value → Shared → Prop} {s : Shared} {l : Addr}
theorem maxD_list {xs : Array (Int × Tok)} {d : Value} {Q : Value → Shared → Prop} (hh : A.handled = none) (hl : s.heap.IsList l (intItems xs))
    (h : ∀ v h' tk, (if xs.size = 0 then v = d else (intItems xs)[argBest (fun i j => decide (numAt xs i > numAt xs j)) (xs.size - 1)]? = some v) → (∀ b o, s.heap.get? b = some o → h'.get? b = some o) → Q v { s with heap := h', toks := tk }) :
    wpAny (model prog w) A (call (.builtin "max") [.ref l] [(Str.ofString "default", d)]) Q E s := by
  refine maxD_walk (iter_intList hl fun s2 e st hf hI => ?_)
  subst e
  have sz : (intItems xs).size = xs.size := by simp [intItems]
  refine ⟨_, _, _, _, _, _, _, rfl, Walks.list (A := A.in1) hh _ l hI (intItems xs), st, hf, CmpOf.ints_gt (numAt xs) (fun _ _ => intItems_at), fun v h' tk pv kp => ?_⟩
  rw [sz] at pv
  exact h v h' tk pv (old_kept kp)
theorem maxD_raw {its : List Value} {ns : List Int} {d : Value} {Q : Value → Shared → Prop} (hh : A.handled = none) (hl : s.heap.IsList l its.toArray) (hi : PyProof.Rows.IntsAre its ns)
    (h0 : ns = [] → ∀ h' tk, (∀ b o, s.heap.get? b = some o → h'.get? b = some o) → Q d { s with heap := h', toks := tk })
    (h1 : ∀ h' tk M t', (∀ b o, s.heap.get? b = some o → h'.get? b = some o) → M ∈ ns → (∀ a, a ∈ ns → a ≤ M) → Q (.int M t') { s with heap := h', toks := tk }) :
    wpAny (model prog w) A (call (.builtin "max") [.ref l] [(Str.ofString "default", d)]) Q E s := by
  obtain ⟨xs, e⟩ := hi.allInts.items
  have hn : numsOf (intItems xs).toList = ns := by rw [← e]; exact hi.numsOf
  rw [nums_intItems] at hn; subst hn; rw [e] at hl
  refine maxD_list hh hl fun v h' tk pv kp => ?_
  by_cases hz : xs.size = 0
  · rw [if_pos hz] at pv
    subst pv
    exact h0 (by rw [List.map_eq_nil_iff, ← List.length_eq_zero_iff, Array.length_toList]; exact hz) h' tk kp
  · rw [if_neg hz] at pv
    obtain ⟨t, rfl⟩ := intItems_at pv
    obtain ⟨p1, p2⟩ := argBest_gt (numAt xs) (xs.size - 1)
    refine h1 h' tk _ t kp ?_ fun a ha => ?_
    · rw [numAt_eq]; exact PySem.getD_mem (by rw [List.length_map, Array.length_toList]; omega)
    · obtain ⟨j, hj, rfl⟩ := mem_getD ha
      rw [List.length_map, Array.length_toList] at hj
      rw [← numAt_eq]; exact p2 j (by omega)
end
def rMaxD (K : PySem.W.Frag) : List V → List V → Hp → VK → Prop := fun vs zs H Q => ∃ (a : Addr) (ns : List Int) (d : V), vs = [V.ref a] ∧ zs = [d] ∧ SqL K H a (ns.map V.int) ∧ (ns = [] → Q d H) ∧ ∀ M, M ∈ ns → (∀ a, a ∈ ns → a ≤ M) → Q (.int M) H
theorem cr_maxD0 {X : Cx} (hc : X.calm = true) : CallRK X (.builtin "max") [Str.ofString "default"] (rMaxD X.K) := by
  intro pins s σ H vs zs us ws Q I r rz h
  obtain ⟨a, ns, d, rfl, rfl, hs, q0, q1⟩ := h
  obtain ⟨its, rv, hl, _⟩ := I.list hs
  rw [Vals.ref1 r]
  obtain ⟨w1, rfl, e1⟩ := vals1 rz
  exact maxD_raw (I.ok.hd hc) hl.isList rv.ints (fun e h' tk kp => ⟨d, H, I.kept kp, e1, q0 e⟩) fun h' tk m t' kp h1 h2 => ⟨.int _, H, I.kept kp, ⟨_, rfl⟩, q1 m h1 h2⟩
/-- max(xs, default=d) -/
def rMaxK (qs qk : DA) : DE := fun δ m P PX => qs δ m (fun xs m1 => qk δ m1 (fun zs m2 => match xs, zs with
  | [x], [d] => match asI m2 x with
    | some [] => P d m2
    | some (n :: ns) => P (.int (mostI n ns)) m2
    | none => False
  | _, _ => False) PX) PX
section
variable {X : Cx} {W : WX} {e : Expr} {es : List Expr} {qs qk : DA} {p pos : Pos} {kws : List Keyword}
theorem pd_maxD {x : Str} (hc : X.calm = true) (hm : X.mg x = none) (hv : bootBuiltins x = some (.builtin "max")) (ha : PA X (e :: es) (lA (kw X) W qs)) (hk : PK X kws (lA (kw X) W qk)) (hg : Gl X x := by rfl) (hn : x ≠ "__name__" := by decide) (hdb : (x == ("__debug__" : Str)) = false := by decide)
    (he : backTo pos (starEach (e :: es) X.env) = (false, eval e X.env) :: backTo pos (starEach es X.env) := by rfl) (hpl : (backTo pos (starEach (e :: es) X.env)).any (·.1) = false := by rfl)
    (hall : (backToKw pos (keywordEach kws X.env)).all (·.1.isSome) = true := by rfl) (hno : (backToKw pos (keywordEach kws X.env)).any (·.1.isNone) = false := by rfl) (hks : (backToKw pos (keywordEach kws X.env)).filterMap (·.1) = [Str.ofString "default"] := by rfl) :
    PE X (.Call (.Name x p) (e :: es) kws pos) (lE (kw X) W (rMaxK qs qk)) := by
  refine PE.imp (pe_callBK (cr_maxD0 hc) hg hm hv ha hk hn hdb he hpl hall hno hks) fun σ H Q h => ?_
  obtain ⟨F, H0, m, δ, P, PX, ok, rs, h, g, gx⟩ := h
  refine ⟨F, H0, m, δ, _, PX, ok, rs, h, fun vs H1 H01 m1 ds s1 ok1 r1 h1 => ⟨F, H01, m1, δ, _, PX, ok1, rs.mono s1, h1, fun zs H2 H02 m2 ks s2 ok2 r2 h2 => ?_, gx.mono s1⟩, gx⟩
  dsimp only at h2
  split at h2
  · rename_i y d
    obtain ⟨v, rfl, q⟩ := r1.one
    obtain ⟨u, rfl, qd⟩ := r2.one
    have g2 := g.mono (s1.trans s2)
    split at h2
    · rename_i e1
      obtain ⟨pa, rfl, hq⟩ := asI_rp ok2 (q.mono s2) e1
      exact ⟨pa, [], u, rfl, rfl, hq, fun _ => g2.id ok2 qd h2, fun M hM => by cases hM⟩
    · rename_i n ns e1
      obtain ⟨pa, rfl, hq⟩ := asI_rp ok2 (q.mono s2) e1
      obtain ⟨l1, l2⟩ := mostI_spec ns n
      refine ⟨pa, _, u, rfl, rfl, hq, (fun z => by cases z), fun k h1 h3 => ?_⟩
      rw [show k = mostI n ns from Int.le_antisymm (l2 _ h1) (h3 _ l1)]
      exact g2.id ok2 (.int _) h2
    · exact h2.elim
  · exact h2.elim
end
/-! ### range(i, j); list(xs), a list of ours -/
section
variable {X : Cx} {W : WX} {tg a b e : Expr} {es : List Expr} {qs : DA} {p pos : Pos}
def cLstM : DC := fun xs m P => match xs with
  | [.tup ds] => ∀ q, m q = none → P (.adr q) (mset m q (.lst ds))
  | [x] => match asL m x with
    | some ds => ∀ q, m q = none → P (.adr q) (mset m q (.lst ds))
    | none => False
  | _ => False
theorem listM_ok {K : KW} : CalD K (fun xs H Q => ∃ p ys, xs = [.ref p] ∧ (SqL K H p ys ∨ SqT K H p ys) ∧ ∀ l, H l = none → Q (.ref l) (upd H l (.lst ys))) cLstM := by
  intro F H0 m H vs ds P Q ok r h g
  unfold cLstM at h
  split at h
  · obtain ⟨v, rfl, q⟩ := r.one
    obtain ⟨p, ws, rfl, q2, r2⟩ := tup_rp ok q
    exact ⟨p, ws, rfl, .inr q2, fun l hl => g.lstM ok hl r2 h⟩
  · obtain ⟨v, rfl, q⟩ := r.one
    split at h
    · rename_i es e1
      obtain ⟨p, ws, rfl, q2, r2⟩ := asL_rp ok q e1
      exact ⟨p, ws, rfl, .inl q2, fun l hl => g.lstM ok hl r2 h⟩
    · exact h.elim
  · exact h.elim
theorem pd_listOfM {x : Str} (hm : X.mg x = none) (hv : bootBuiltins x = some (.type "list")) (ha : PA X (e :: es) (lA (kw X) W qs)) (hg : Gl X x := by rfl) (hn : x ≠ "__name__" := by decide) (hdb : (x == ("__debug__" : Str)) = false := by decide)
    (he : starEach (e :: es) X.env = (false, eval e X.env) :: starEach es X.env := by rfl) (hpl : (backTo pos (starEach es X.env)).any (·.1) = false := by rfl) : PE X (.Call (.Name x p) (e :: es) [] pos) (lE (kw X) W (rCB cLstM qs)) := pd_callTy call_list_of listM_ok hm hv ha hg hn hdb he hpl
end
/-! ### x = [.. for .. for ..]; s.upper(); what is never reached -/
section
variable {X : Cx} {W : WX} {tg tg1 a c o : Expr} {ifs ifs1 : List Expr} {scope : Scope} {own : List (Str × Nat)} {ri ri1 : DI} {g g1 : TG} {rg rg1 : DG} {qt qt1 : DT} {re ra : DE} {pos apos : Pos}
theorem ds_setLc2 {elt iter iter1 : Expr} {js jo js1 : List Nat} {i : Nat} {y : Str} {py spos : Pos} (hc : X.calm = true) (hN : X.N.Nodup) (hsw : swapsWith (.ListComp elt [⟨tg, iter, ifs, 0⟩, ⟨tg1, iter1, ifs1, 0⟩] scope pos) (some (.Name y py)) spos.line X.env = pure true) (hi : PI X tg iter (lI (kw X) W ri)) (ok : BlkOk X.N X.env.scope scope own) (go : Gok (kw X) jo g rg) (go1 : Gok (kw X) js1 g1 rg1) (hj : own.map (·.2) = js)
    (hg : ∀ (s : Shared) (H : Hp) (C : Addr) (cl : List (Str × Addr)) (fp : List Addr), PG (X.blk s H scope (compEnvC scope cl C X.env) fp) tg g) (ht : ∀ (s : Shared) (H : Hp) (C : Addr) (cl : List (Str × Addr)) (fp : List Addr), PTs (X.blk s H scope (compEnvC scope cl C X.env) fp) ifs (lT (kw X) noW qt))
    (hi1 : ∀ (s : Shared) (H : Hp) (C : Addr) (cl : List (Str × Addr)) (fp : List Addr), PI (X.blk s H scope (compEnvC scope cl C X.env) fp) tg1 iter1 (lI (kw X) noW ri1))
    (hg1 : ∀ (s : Shared) (H : Hp) (C : Addr) (cl : List (Str × Addr)) (fp : List Addr), PG (X.blk s H scope (compEnvC scope cl C X.env) fp) tg1 g1) (ht1 : ∀ (s : Shared) (H : Hp) (C : Addr) (cl : List (Str × Addr)) (fp : List Addr), PTs (X.blk s H scope (compEnvC scope cl C X.env) fp) ifs1 (lT (kw X) noW qt1))
    (he : ∀ (s : Shared) (H : Hp) (C : Addr) (cl : List (Str × Addr)) (fp : List Addr), PE (X.blk s H scope (compEnvC scope cl C X.env) fp) elt (lE (kw X) noW re)) (hjo : ∀ i ∈ jo, i ∈ js := by decide) (hj1 : ∀ i ∈ js1, i ∈ js := by decide) (hy : X.N[i]? = some y := by rfl) (hyl : X.env.scope.names.lookup y = some .local := by rfl) (hs : ∀ x, foldedSetIterable iter X.env x = pure x := by intro _; rfl) (hs1 : ∀ env x, foldedSetIterable iter1 env x = pure x := by intro _ _; rfl) :
    PS X (.Assign [.Name y py] (.ListComp elt [⟨tg, iter, ifs, 0⟩, ⟨tg1, iter1, ifs1, 0⟩] scope pos) spos) (lS (kw X) W (sSet i (rLc2 ri js rg qt ri1 js1 rg1 qt1 re))) := by
  subst hj
  refine PS.imp (ps_setLc2 (i := i) hc hN hy hyl hsw hi ok hj1 hg ht hi1 hg1 ht1 he hs hs1) fun Dn σ H h => ?_
  obtain ⟨F, H0, m, δ, DD, ok, rs, h, gd⟩ := h
  unfold sSet rLc2 at h
  refine lc2_lift go hjo go1 lc_fin (Q := fun x H1 => gName i x σ H1 Dn.nx) ⟨F, H0, m, δ, fun d m1 => DD.nx (δ.set i (some d)) m1, fun c fs m1 => DD.xx c fs δ m1, ok, rs, h, fun v H1 H01 m1 d s1 ok1 r1 h1 => gd.nx _ _ _ _ _ s1 ok1 ((rs.mono s1).set r1 i) h1, gd.xx.at_ rs⟩
end
end DL
/-! # sorted(a tuple of texts) -/
namespace DL
open PySem L2
open PyProof.Rows (seqObj sortedAll)
section
variable {prog : Program} {w : World} {A : Around} {E : Value → Shared → Prop} {s : Shared}
abbrev hp1 (h : Heap) (vs : List Value) : Heap := (h.push (seqObj "list" #[] 0)).update h.objs.size (Obj.mapSeq (· ++ vs.toArray))
theorem coll_tup {l : Addr} {vs : List Value} {Q : List Value → Shared → Prop} (hl : PyProof.Rows.IsTup s.heap l vs.toArray) (z : vs.length ≤ sizeLine) (h : Q vs { s with heap := hp1 s.heap vs }) : wpAny (model prog w) A (collect (.ref l)) Q E s := by
  obtain ⟨o, ho, hc, n, hd⟩ := id hl
  unfold collect
  refine wpAny_bind (wpAny_runValue (codeAny_builtin PyProof.Rows.entry_proto_collect' ?_))
  show wpAny _ _ (newList [] >>= fun x => again (.builtin "list.__iadd__" ⟨[x, .ref l], []⟩)) _ _ s
  refine wpAny_bind (wpAny_newList (wpAny_pure ⟨Code.quiet_builtin _ (by decide +kernel), codeAny_builtin PyProof.Rows.entry_list_iadd' ?_⟩))
  show wpAny _ _ (Builtin.List.listExtendWith (.ref s.heap.objs.size) (.ref l) (.ref s.heap.objs.size)) _ _ (({ s with heap := s.heap.push (seqObj "list" #[] 0) } : Shared))
  unfold Builtin.List.listExtendWith
  have ho' : (s.heap.push (seqObj "list" #[] 0)).get? l = some o := Heap.get?_push_of_some _ ho
  refine wpAny_bind (wpAny_typeOf (T := "tuple") ⟨o, ho', hc⟩ ?_)
  have ht : (Value.type "tuple" == Value.type "tuple") = true := by rfl
  rw [if_pos (by rw [ht]; simp)]
  refine wpAny_bind (PyProof.Rows.listItems_at ho' hd (wpAny_bind (PyProof.Rows.listItems_at (xs := #[]) (n := 0) (Heap.get?_push_size _ rfl) rfl ?_)))
  rw [if_neg (by simp)]
  refine wpAny_bind (PyProof.Rows.listUpdate_at (xs := #[]) (n := 0) (Heap.get?_push_size _ rfl) rfl (wpAny_pure ?_) (Nat.zero_le _) (by show (#[] ++ vs.toArray).size ≤ sizeLine + 1; simp only [Array.size_append, List.size_toArray, List.length_nil]; omega))
  show wpAny (model prog w) A (load s.heap.objs.size >>= fun o => match o.data with | .seq xs _ => pure xs.toList | _ => unsupported "internal:collect") Q E (({ s with heap := hp1 s.heap vs } : Shared))
  refine wpAny_bind (wpAny_load (PyProof.Rows.get?_update_seq (Heap.get?_push_size _ rfl) _) ?_)
  show wpAny _ _ (pure ((#[] : Array Value) ++ vs.toArray).toList) Q E _
  rw [show ((#[] : Array Value) ++ vs.toArray).toList = vs by simp]
  exact wpAny_pure h
end
end DL
/-! # == and != of lists whose items may change -/
namespace DL
open PySem L2
end DL
namespace DL
open PySem L2
/-! ### a comprehension of any number of clauses: bodies -/
abbrev TB := St → Hp → (Hp → Prop) → Prop
end DL
namespace DL
open PySem L2
/-! ### over data -/
end DL
/-! # != of two lists that hold the same objects -/
namespace DL
open PySem L2
end DL
/-! # zip of a list and a tuple -/
namespace DL
open PySem L2
end DL
/-! # enumerate of a tuple -/
namespace DL
open PySem L2
end DL
/-! # xs.index(x); {k: v for ..}; sorted(set(a list of tuples of whole numbers)) -/
namespace DL
open PySem L2
section
variable {X : Cx} {W : WX} {a b c o tg : Expr} {ra rb rc : DE} {pos apos p : Pos} {e : Expr} {es : List Expr} {qs : DA}
/-! ### xs.index(x), flat -/
def rIdx (ra : DE) (rb : DE) : DE := fun δ m P PX => ra δ m (fun x m1 => (∃ ds, asL m1 x = some ds) ∧ rb δ m1 (fun y m2 => match asL m2 x with
  | some ds => (flatD y = true ∧ ds.all flatD = true) ∧ match ds.findIdx? (fun z => deq z y) with
    | some j => P (.int (j : Nat)) m2
    | none => False
  | none => False) PX) PX
theorem pd_idx (ho : PE X o (lE (kw X) W ra)) (ha : PE X a (lE (kw X) W rb)) (hbase : attributeBase o "index" X.env (eval o X.env) = eval o X.env := by rfl)
    (hfew : ((backTo pos (starEach [a] X.env)).all (fun x => !x.1) && (backToKw pos (keywordEach [] X.env)).all (fun x => x.1.isSome) && decide (([a] : List Expr).length + ([] : List Keyword).length + (if ([] : List Keyword).isEmpty then 0 else 1) < 30)) = true := by rfl)
    (hline : (apos.endLine == pos.line) = true := by rfl) (hs : starEach [a] X.env = (false, eval a X.env) :: starEach [] X.env := by rfl) (hplain : (backTo pos (starEach [] X.env)).any (·.1) = false := by rfl) :
    PE X (.Call (.Attribute o "index" apos) [a] [] pos) (lE (kw X) W (rIdx ra rb)) := by
  refine PE.imp (pe_bm PySem.F.plainAttrs_list PySem.F.slot_list_index PySem.F.type_list_index mt_index ho (pa_cons ha pa_nil hs) hbase hfew hline hs hplain) fun σ H Q h => ?_
  obtain ⟨F, H0, m, δ, P, PX, ok, rs, h, g, gx⟩ := h
  refine ⟨F, H0, m, δ, _, PX, ok, rs, h, fun x H1 H01 m1 d s1 ok1 r1 h1 => ?_, gx⟩
  obtain ⟨⟨ds0, e0⟩, h1⟩ := h1
  obtain ⟨p0, vs0, rfl, q0, _⟩ := asL_rp ok1 r1 e0
  refine ⟨.inl ⟨rfl, _, q0⟩, F, H01, m1, δ, _, PX, ok1, rs.mono s1, h1, fun y H2 H02 m2 d2 s2 ok2 r2 h2 => ?_, gx.mono s1⟩
  dsimp only at h2
  split at h2
  · rename_i ds e1
    obtain ⟨⟨f1, f2⟩, h2⟩ := h2
    split at h2
    · rename_i j e2
      obtain ⟨p1, vs, z, q, rv⟩ := asL_rp ok2 (r1.mono s2) e1
      cases z
      obtain ⟨hj, hj1, hj2⟩ := List.findIdx?_eq_some_iff_getElem.mp e2
      have eds : ds[j]? = some ds[j] := List.getElem?_eq_getElem hj
      obtain ⟨v, ev, rvj⟩ := rv.get eds
      have fall := List.all_eq_true.mp f2
      refine ⟨_, vs, y, j, v, rfl, rfl, q, flat_rp r2 f1, flatL_rp rv f2, ev, by rw [flat_eq rvj r2 (fall _ (List.getElem_mem hj)) f1]; exact hj1, fun k z' hk ez => ?_, (g.mono (s1.trans s2)).id ok2 (.int _) h2⟩
      obtain ⟨d', ed, rd⟩ := rv.getV ez
      have hkl : k < ds.length := by omega
      rw [List.getElem?_eq_getElem hkl] at ed
      cases ed
      rw [flat_eq rd r2 (fall _ (List.getElem_mem hkl)) f1]
      simpa using hj2 k hk
    · exact h2.elim
  · exact h2.elim
/-! ### {k: v for ..}, keys whole numbers or texts -/
theorem Ok.reFD {K : KW} {F H0 H : Hp} {m : Mu} {q : Addr} {o u : HO} (ok : Ok K (upd F q o) H0 m H) : Ok K (upd F q u) H0 m (upd H q u) := by
  obtain ⟨c1, c2, c3⟩ := ok.fr q o upd_same
  refine ⟨fun b z e => ?_, fun a z e => ?_, fun a z e => ?_, fun P y l => have t := ok.tab P y l; have n := t.ne_frame upd_same; t.step (fun _ _ z => z) t.h0 ((upd_ne n).trans ((upd_ne n).symm.trans t.hF)) (upd_ne n)⟩
  · rw [upd_ne (ne_of_none e c2)]; exact ok.same b z e
  · have ha : a ≠ q := fun y => by rw [y, c3] at e; cases e
    obtain ⟨d1, d2⟩ := ok.cell a z e
    exact ⟨d1, d2.mono (Same.refl _) (upd_ne ha)⟩
  · by_cases ha : a = q
    · subst ha; rw [upd_same] at e ⊢; exact ⟨e, c2, c3⟩
    · rw [upd_ne ha] at e ⊢
      exact ok.fr a z (by rw [upd_ne ha]; exact e)
variable {ifs : List Expr} {scope : Scope} {own : List (Str × Nat)} {ri : DI} {g : TG} {rg : DG} {qt : DT} {rk rv : DE}
end
end DL
/-! # sorted(set(..)) of tuples of whole numbers -/
namespace DL
open PySem L2
/-! ### the order of tuples -/
/-! ### the model's comparison of tuples -/
theorem perm_lift {α β : Type} (f : α → β) {l m : List β} (h : l.Perm m) : ∀ L : List α, m = L.map f → ∃ L' : List α, L'.Perm L ∧ l = L'.map f := by
  induction h with
  | nil => intro L e; cases L with | nil => exact ⟨[], .nil, rfl⟩ | cons a l => cases e
  | cons x _ ih =>
    intro L e
    cases L with
    | nil => cases e
    | cons a L =>
      rw [List.map_cons] at e
      injection e with e1 e2
      obtain ⟨L', p, e3⟩ := ih L e2
      exact ⟨a :: L', p.cons a, by rw [List.map_cons, e1, e3]⟩
  | swap x y l =>
    intro L e
    match L, e with
    | a :: b :: L, e =>
      simp only [List.map_cons] at e
      injection e with e1 e
      injection e with e2 e3
      exact ⟨b :: a :: L, List.Perm.swap _ _ _, by simp only [List.map_cons]; rw [e1, e2, e3]⟩
  | trans _ _ ih1 ih2 =>
    intro L e
    obtain ⟨L2, p2, e2⟩ := ih2 L e
    obtain ⟨L1, p1, e1⟩ := ih1 L2 e2
    exact ⟨L1, p1.trans p2, e1⟩
/-! ### over data -/
def tupI (ns : List Int) : D := .tup (ns.map .int)
end DL
/-! # x in a tuple of data -/
namespace DL
open PySem L2
end DL
namespace DL
open PySem L2
/-! ### own == of instances, lists of them; own len -/
/-- all that is there and not in H0 -/
def Frm (H0 H : Hp) : Hp := fun a => match H0 a with
  | none => H a
  | some _ => none
theorem Frm.ok {K : KW} (NL : NoLam K.fr) {H0 H : Hp} (s : Same H0 H) : Ok K (Frm H0 H) H0 (fun _ => none) H := by
  refine ⟨s, fun a o e => (by cases e), fun a o e => ?_, fun P q l => (NL P q l).elim⟩
  unfold Frm at e
  split at e
  · rename_i z
    exact ⟨e, z, rfl⟩
  · cases e
theorem Frm.ext {K : KW} {H0 H H0' H' : Hp} {m' : Mu} (s : Same H0 H) (s' : Same H0 H0') (ok : Ok K (Frm H0 H) H0' m' H') : Ext H H' := by
  intro a o e
  cases z : H0 a with
  | none => exact (ok.fr a o (by unfold Frm; rw [z]; exact e)).1
  | some o' =>
    have := s a o' z
    rw [e] at this
    cases this
    exact ok.same a o (s' a o z)
theorem Ok.ext {K : KW} {F H0 H H' : Hp} {m : Mu} (ok : Ok K F H0 m H) (e : Ext H H') : Ok K F H0 m H' := by
  refine ⟨fun a o h => e a o (ok.same a o h), fun a o h => ?_, fun a o h => ?_, fun a o h => ?_⟩
  · obtain ⟨c1, c2⟩ := ok.cell a o h
    obtain ⟨u, hu⟩ := c2.some
    exact ⟨c1, c2.mono (Same.refl _) ((e a u hu).trans hu.symm)⟩
  · obtain ⟨c1, c2, c3⟩ := ok.fr a o h
    exact ⟨e a o c1, c2, c3⟩
  · exact (ok.tab a o h).step (fun _ _ z => z) (ok.tab a o h).h0 (ok.tab a o h).hF (let ⟨_, h1, _⟩ := (ok.tab a o h).tab; (e a _ h1).trans h1.symm)
def EqI (n : Str) (sp : SpD) (d e : D) : Prop := ∃ fs gs, d = .ins n fs ∧ e = .ins n gs ∧ sp [d, e] (fun _ => none) (fun r _ => r = .bl true) (fun _ _ _ => False)
def EqLs (n : Str) (sp : SpD) (ds es : List D) : Prop := ds.length = es.length ∧ ∀ (i : Nat) d e, ds[i]? = some d → es[i]? = some e → EqI n sp d e
theorem EqLs.refl {n : Str} {sp : SpD} {ds : List D} (h : ∀ d, d ∈ ds → EqI n sp d d) : EqLs n sp ds ds := ⟨rfl, fun i d e h1 h2 => by
  rw [h1] at h2
  cases h2
  exact h d (List.mem_of_getElem? h1)⟩
end DL
namespace DL
open PySem L2
/-! ### text * int -/
end DL
namespace DL
open PySem L2
/-! ### keys -/
mutual
inductive KeyV (K : PySem.W.Frag) (H : Hp) : V → NestedKey → Prop
  | non : KeyV K H .non .none
  | bl (b : Bool) : KeyV K H (.bl b) (.num (if b = true then 1 else 0))
  | int (i : Int) : KeyV K H (.int i) (.num i)
  | str (x : Str) : KeyV K H (.str x) (.text x)
  | tup {a : Addr} {vs : List V} {ks : List NestedKey} : SqT K H a vs → KeyVs K H vs ks → KeyV K H (.ref a) (.tup ks)
inductive KeyVs (K : PySem.W.Frag) (H : Hp) : List V → List NestedKey → Prop
  | nil : KeyVs K H [] []
  | cons {v : V} {vs : List V} {k : NestedKey} {ks : List NestedKey} : KeyV K H v k → KeyVs K H vs ks → KeyVs K H (v :: vs) (k :: ks)
end
mutual
theorem keyV_of {K : PySem.W.Frag} {H0 H : Hp} (s : Same H0 H) : ∀ {v : V} {d : D}, Rp K H0 v d → kyB d = true → KeyV K H v (nk d)
  | _, _, .non, _ => by simp only [nk]; exact .non
  | _, _, .bl b, _ => by rw [nk]; exact .bl b
  | _, _, .int i, _ => by rw [nk]; exact .int i
  | _, _, .str x, _ => by rw [nk]; exact .str x
  | _, _, .ty n, h => by simp [kyB] at h
  | _, _, .adr a, h => by simp [kyB] at h
  | _, _, .glb _, h => by simp [kyB] at h
  | _, _, .exc _ _ _ _, h => by simp [kyB] at h
  | _, _, .dct _ _ _, h => by simp [kyB] at h
  | _, _, .ins _ _ _ _, h => by simp [kyB] at h
  | _, _, .lst _ _, h => by simp [kyB] at h
  | _, _, .tup q r, h => by rw [kyB] at h; rw [nk]; exact .tup (seqT_mono s q) (keyVs_of s r h)
theorem keyVs_of {K : PySem.W.Frag} {H0 H : Hp} (s : Same H0 H) : ∀ {vs : List V} {ds : List D}, RpL K H0 vs ds → kyBs ds = true → KeyVs K H vs (nks ds)
  | _, _, .nil, _ => by rw [nks]; exact .nil
  | _, _, .cons q r, h => by
    rw [kyBs, Bool.and_eq_true] at h
    rw [nks]
    exact .cons (keyV_of s q h.1) (keyVs_of s r h.2)
end
mutual
theorem keyV_is {X : Cx} {pins : List (Addr × Obj)} {σ : St} {H : Hp} {s : Shared} (I : L2.Inv X pins σ H s) : ∀ {v : V} {k : NestedKey} {u : Value}, KeyV X.K H v k → RelV v u → NestedIs s.heap k u
  | _, _, _, .non, r => by cases (show _ = Value.none from r); exact .none
  | _, _, _, .bl b, r => by cases (show _ = Value.bool b from r); exact .bool rfl
  | _, _, _, .int i, r => by obtain ⟨t, rfl⟩ := (show ∃ t, _ = Value.int i t from r); exact .int i t
  | _, _, _, .str x, r => by obtain ⟨t, rfl⟩ := (show ∃ t, _ = Value.str x t from r); exact .text x t
  | _, _, _, .tup q t, r => by
    cases (show _ = Value.ref _ from r)
    obtain ⟨its, rv, ⟨o, ho, hc, n, hd⟩, _⟩ := I.tuple q
    exact .tup ho hc hd (by rw [List.toList_toArray]; exact keyVs_is I t rv)
theorem keyVs_is {X : Cx} {pins : List (Addr × Obj)} {σ : St} {H : Hp} {s : Shared} (I : L2.Inv X pins σ H s) : ∀ {vs : List V} {ks : List NestedKey} {us : List Value}, KeyVs X.K H vs ks → Vals vs us → NestedAll s.heap ks us
  | _, _, _, .nil, r => by cases r; exact .nil
  | _, _, _, .cons q t, r => by
    cases r with
    | cons r1 r2 => exact .cons (keyV_is I q r1) (keyVs_is I t r2)
end
/-! ### lists with keys -/
section
variable {β : Type}
def lkL (L : List (NestedKey × Addr × β)) (k : NestedKey) : Option β := (L.find? fun e => decide (e.1 = k)).map (·.2.2)
def putL (L : List (NestedKey × Addr × β)) (k : NestedKey) (b : Addr) (v : β) : List (NestedKey × Addr × β) := if (lkL L k).isSome then L.map (fun e => if e.1 = k then (e.1, e.2.1, v) else e) else L ++ [(k, b, v)]
theorem putL_len (L : List (NestedKey × Addr × β)) (k : NestedKey) (b : Addr) (v : β) : (putL L k b v).length ≤ L.length + 1 := by
  unfold putL; split <;> simp
end
theorem lk_at (xs : List (NestedKey × Addr × Value)) (k : NestedKey) : lkL xs k = (atKey xs k).map (·.2) := by
  unfold lkL atKey
  cases xs.find? fun e => decide (e.1 = k) <;> rfl
theorem put_st (xs : List (NestedKey × Addr × Value)) (k : NestedKey) (b : Addr) (v : Value) : putL xs k b v = storedH xs k b v := by
  unfold putL storedH
  rw [lk_at, Option.isSome_map]
  split
  · congr 1
  · rfl
theorem pr_keys {L : List (NestedKey × Addr × V)} {xs : List (NestedKey × Addr × Value)} (r : Paired RE L xs) : L.map (·.1) = xs.map (·.1) := by
  induction r with
  | nil => rfl
  | cons h _ ih => rw [List.map_cons, List.map_cons, h.1, ih]
theorem pr_val {L : List (NestedKey × Addr × V)} {xs : List (NestedKey × Addr × Value)} (r : Paired RE L xs) (k : NestedKey) : (lkL L k = none ∧ lkL xs k = none) ∨ ∃ v u, lkL L k = some v ∧ lkL xs k = some u ∧ RelV v u := by
  induction r with
  | nil => exact .inl ⟨rfl, rfl⟩
  | @cons e x L xs h _ ih =>
    by_cases hk : e.1 = k
    · refine .inr ⟨e.2.2, x.2.2, ?_, ?_, h.2.2⟩
      · unfold lkL; rw [List.find?_cons_of_pos (by simp [hk])]; rfl
      · unfold lkL; rw [List.find?_cons_of_pos (by simp [← h.1, hk])]; rfl
    · have e1 : lkL (e :: L) k = lkL L k := by unfold lkL; rw [List.find?_cons_of_neg (by simp [hk])]
      have e2 : lkL (x :: xs) k = lkL xs k := by unfold lkL; rw [List.find?_cons_of_neg (by simp [← h.1, hk])]
      rw [e1, e2]
      exact ih
theorem pr_map {L : List (NestedKey × Addr × V)} {xs : List (NestedKey × Addr × Value)} (r : Paired RE L xs) {k : NestedKey} {v : V} {u : Value} (rv : RelV v u) : Paired RE (L.map (fun e => if e.1 = k then (e.1, e.2.1, v) else e)) (xs.map (fun e => if e.1 = k then (e.1, e.2.1, u) else e)) := by
  induction r with
  | nil => exact .nil
  | @cons e x L xs h _ ih =>
    rw [List.map_cons, List.map_cons]
    refine .cons ?_ ih
    by_cases hk : e.1 = k
    · rw [if_pos hk, if_pos (h.1 ▸ hk)]; exact ⟨h.1, h.2.1, rv⟩
    · rw [if_neg hk, if_neg (h.1 ▸ hk)]; exact h
theorem pr_app {L L2 : List (NestedKey × Addr × V)} {xs xs2 : List (NestedKey × Addr × Value)} (r : Paired RE L xs) (r2 : Paired RE L2 xs2) : Paired RE (L ++ L2) (xs ++ xs2) := by
  induction r with
  | nil => exact r2
  | cons h _ ih => exact .cons h ih
theorem pr_put {L : List (NestedKey × Addr × V)} {xs : List (NestedKey × Addr × Value)} (r : Paired RE L xs) (k : NestedKey) (b : Addr) {v : V} {u : Value} (rv : RelV v u) : Paired RE (putL L k b v) (putL xs k b u) := by
  unfold putL
  rcases pr_val r k with ⟨h1, h2⟩ | ⟨v', u', h1, h2, _⟩
  · rw [h1, h2]
    exact pr_app r (.cons ⟨rfl, rfl, rv⟩ .nil)
  · rw [h1, h2]
    exact pr_map r rv
/-! ### the dict on the machine -/
def KsOk (K : PySem.W.Frag) (H : Hp) (L : List (NestedKey × Addr × V)) : Prop := ∀ e ∈ L, KeyV K H (.ref e.2.1) e.1 ∧ e.1.depth ≤ 8
def RdG (w : World) (H : Hp) (a : Addr) (L : List (NestedKey × Addr × V)) : Prop := H a = some (DGO w a L) ∨ ∃ o, H a = some (.frz o (DGO w a L))
section
variable {X : Cx} {pins : List (Addr × Obj)} {σ : St} {H : Hp} {s : Shared} {a : Addr} {L : List (NestedKey × Addr × V)}
theorem dg_raw (I : L2.Inv X pins σ H s) (e : RdG X.w H a L) : DGp X.w a L s.heap := by
  rcases e with e | ⟨o, e⟩
  · exact (I.hok a _ e).1
  · exact (I.hok a _ e).2.1
theorem dg_at (I : L2.Inv X pins σ H s) (e : RdG X.w H a L) (hk : KsOk X.K H L) : ∃ xs, Paired RE L xs ∧ (a == sysModules) = false ∧ L.length ≤ sizeLine ∧ s.heap.DictOfH (nestedKind X.prog X.w) a xs := by
  obtain ⟨h1, h2, xs, r, nd, o, es, ep, g1, g2, g3, g4⟩ := dg_raw I e
  refine ⟨xs, r, h1, h2, o, es, ep, g1, g2, g3, g4, fun x hx => ?_, nd⟩
  obtain ⟨e, he, q⟩ : ∃ e ∈ L, RE e x := by
    clear hk h2 nd g4 e
    induction r with
    | nil => cases hx
    | cons h _ ih =>
      rcases List.mem_cons.mp hx with rfl | hx
      · exact ⟨_, List.mem_cons_self, h⟩
      · obtain ⟨e, he, q⟩ := ih hx
        exact ⟨e, List.mem_cons_of_mem _ he, q⟩
  obtain ⟨k1, k2⟩ := hk e he
  rw [← q.1, ← q.2.1]
  exact ⟨keyV_is I k1 rfl, k2⟩
theorem dg_new {P : Program} {w : World} {H' : Hp} {h' : Heap} {xs : List (NestedKey × Addr × Value)} (z : L.length ≤ sizeLine) (hd : (a == sysModules) = false) (r : Paired RE L xs) (dd : h'.DictOfH (nestedKind P w) a xs) : ObjOk P w H' h' a (DGO w a L) := by
  obtain ⟨o, es, ep, g1, g2, g3, g4, _, nd⟩ := dd
  exact ⟨⟨hd, z, xs, r, nd, o, es, ep, g1, g2, g3, g4⟩, ⟨o, g1⟩, fun h1 h2 ⟨a1, a2, ys, a3, a4, o', es', ep', b1, b⟩ k => ⟨a1, a2, ys, a3, a4, o', es', ep', k _ b1, b⟩⟩
end
theorem room8 {k : Nat} {A : Around} (r : Room k A) : A.in1.units + 8 < cLine := by have := r.un; show A.units + 1 + 8 < cLine; omega
section
variable {X : Cx}
/-- d[k], there -/
def rGetG (K : PySem.W.Frag) (w : World) : R2 := fun x y H Q => ∃ a b L k v, x = .ref a ∧ y = .ref b ∧ RdG w H a L ∧ KsOk K H L ∧ KeyV K H y k ∧ k.depth ≤ 8 ∧ lkL L k = some v ∧ Q v H
/-- k in d -/
def rInG (K : PySem.W.Frag) (w : World) (neg : Bool) : R2 := fun x y H Q => ∃ a b L k, x = .ref b ∧ y = .ref a ∧ RdG w H a L ∧ KsOk K H L ∧ KeyV K H x k ∧ k.depth ≤ 8 ∧ Q (.bl (if neg then !(lkL L k).isSome else (lkL L k).isSome)) H
theorem pr_some {L : List (NestedKey × Addr × V)} {xs : List (NestedKey × Addr × Value)} (r : Paired RE L xs) (k : NestedKey) : (atKey xs k).isSome = (lkL L k).isSome := by
  rw [← Option.isSome_map (f := (·.2)), ← lk_at]
  rcases pr_val r k with ⟨h1, h2⟩ | ⟨v', u', h1, h2, _⟩ <;> rw [h1, h2] <;> rfl
theorem op_inG (hu : X.A.in1.units + 8 < cLine) : OpR X (compareOp .In) (rInG X.K X.w false) := by
  intro pins s σ H x y v u Q I rx ry h
  obtain ⟨a, b, L, k, rfl, rfl, e, hk, kv, kd, q⟩ := h
  cases rx
  cases ry
  obtain ⟨xs, r, hd, z, dd⟩ := dg_at I e hk
  refine wpAny_in_heap (knd := nestedKind X.prog X.w) (k := k) hu ⟨keyV_is I kv rfl, kd⟩ hd dd ?_
  rw [pr_some r k]
  exact ⟨.bl _, H, I.tok _, rfl, q⟩
theorem op_notInG (hu : X.A.in1.units + 8 < cLine) : OpR X (compareOp .NotIn) (rInG X.K X.w true) := by
  intro pins s σ H x y v u Q I rx ry h
  obtain ⟨a, b, L, k, rfl, rfl, e, hk, kv, kd, q⟩ := h
  cases rx
  cases ry
  obtain ⟨xs, r, hd, z, dd⟩ := dg_at I e hk
  refine PyProof.Rows.wpAny_notIn_heap (knd := nestedKind X.prog X.w) (k := k) hu ⟨keyV_is I kv rfl, kd⟩ hd dd ?_
  rw [pr_some r k]
  exact ⟨.bl _, H, I.tok _, rfl, q⟩
/-- d[y] as an expression -/
def tGetG (K : PySem.W.Frag) (w : World) (td ty : TE) : TE := fun σ H Q => td σ H fun x H1 => ty σ H1 fun y H2 => rGetG K w x y H2 Q
theorem pe_getG {o i : Expr} {pos : Pos} {td ty : TE} (hu : X.A.in1.units + 8 < cLine) (ho : PE X o td) (hi : PE X i ty) (hs : NoSl i) : PE X (.Subscript o i pos) (tGetG X.K X.w td ty) := by
  refine ⟨fun pins s σ H Q I h => ?_⟩
  refine subD_of PySem.F.slot_dict_getitem.lookup hs (thn (ho.run pins s σ H _ I h) fun u s1 ⟨x, H1, I1, rx, q1⟩ => thn (hi.run pins s1 σ H1 _ I1 q1) fun iv s2 ⟨y, H2, I2, ry, a, b, L, k, v, ex, ey, e, hk, kv, kd, hl, q2⟩ => ?_)
  subst ex ey
  obtain rfl : u = Value.ref a := rx
  obtain rfl : iv = Value.ref b := ry
  obtain ⟨xs, r, hd, z, dd⟩ := dg_at I2 e hk
  obtain ⟨v', u', h1, h2, rv⟩ : ∃ v u, lkL L k = some v ∧ lkL xs k = some u ∧ RelV v u := by
    rcases pr_val r k with ⟨h1, _⟩ | h
    · rw [hl] at h1; cases h1
    · exact h
  rw [hl] at h1
  cases h1
  rw [lk_at] at h2
  obtain ⟨p, hp, rfl⟩ := Option.map_eq_some_iff.mp h2
  exact ⟨dd.typeIs, wpAny_getItem_heap (knd := nestedKind X.prog X.w) hu ⟨keyV_is I2 kv rfl, kd⟩ dd hp ⟨v, H2, I2.tok _, rv, q2⟩⟩
/-- d[k] = v -/
def rSetG (K : PySem.W.Frag) (w : World) : V → V → V → Hp → (Hp → Prop) → Prop := fun o i v H Q => ∃ a b L k, o = .ref a ∧ i = .ref b ∧ H a = some (DGO w a L) ∧ KsOk K H L ∧ KeyV K H i k ∧ k.depth ≤ 8 ∧ L.length < sizeLine ∧ Q (upd H a (DGO w a (putL L k b v)))
theorem dg_put {pins : List (Addr × Obj)} {σ : St} {H : Hp} {s : Shared} {a b : Addr} {L : List (NestedKey × Addr × V)} {xs : List (NestedKey × Addr × Value)} {k : NestedKey} {v : V} {u : Value} {h' : Heap} (t' : Nat) (I : L2.Inv X pins σ H s) (e : H a = some (DGO X.w a L)) (hd : (a == sysModules) = false) (r : Paired RE L xs) (rv : RelV v u) (z : L.length < sizeLine)
    (dd : h'.DictOfH (nestedKind X.prog X.w) a (storedH xs k b u)) (hs : Heap.SameBut a s.heap h') : L2.Inv X pins σ (upd H a (DGO X.w a (putL L k b v))) { s with heap := h', toks := t' } := by
  have he : ∃ q, h'.get? a = some q := let ⟨q, _, _, hq, _⟩ := dd; ⟨q, hq⟩
  rw [← put_st] at dd
  exact d_write I (by rw [e]; exact True.intro) hs he (dg_new (Nat.le_trans (putL_len L k b v) z) hd (pr_put r k b rv) dd)
theorem set_dg (hu : X.A.in1.units + 8 < cLine) : PSet X (rSetG X.K X.w) := by
  intro pins s σ H o i v ov iv u Q I ro ri rv h
  obtain ⟨a, b, L, k, rfl, rfl, e, hk, kv, kd, z, q⟩ := h
  cases ro
  cases ri
  obtain ⟨xs, r, hd, z2, dd⟩ := dg_at I (.inl e) hk
  have hz : xs.length ≤ sizeLine := by
    have := congrArg List.length (pr_keys r)
    rw [List.length_map, List.length_map] at this
    omega
  exact wpAny_setItem_heap (knd := nestedKind X.prog X.w) (hsz := hz) hu ⟨keyV_is I kv rfl, kd⟩ dd fun h' dd' hs => ⟨_, dg_put _ I e hd r rv z dd' hs, q⟩
/-- {} -/
def tNewG (w : World) : TE := fun _ H Q => ∀ p, H p = none → Q (.ref p) (upd H p (DGO w p []))
theorem dg_empty {P : Program} {w : World} {H : Hp} (h : Heap) (hb : sysModules < h.objs.size) : ObjOk P w H (h.push { cls := .type "dict", data := .dict #[] }) h.objs.size (DGO w h.objs.size []) :=
  dg_new (xs := []) (Nat.zero_le _) (beq_eq_false_iff_ne.mpr (Ne.symm (Nat.ne_of_lt hb))) .nil (Heap.DictOfH.new h)
theorem pe_newG {pos : Pos} : PE X (.Dict [] [] pos) (tNewG X.w) := ⟨fun pins s σ H Q I h =>
  wpAny_Dict_empty ⟨.ref s.heap.objs.size, _, I.laid (a := s.heap.objs.size) (o := DGO X.w s.heap.objs.size []) (t' := s.toks) (fun _ _ q => Heap.get?_push_of_some _ q) (Nat.le_refl _) (dg_empty s.heap I.big), rfl, h _ (I.hok.fresh (Nat.le_refl _))⟩⟩
end
end DL
namespace DL
open PySem L2
/-! ### dicts of ours whose keys are tuples -/
@[irreducible] def valG (kvs : List (D × D)) (k : D) : Option D := (kvs.find? fun p => decide (nk p.1 = nk k)).map (·.2)
@[irreducible] def putG (kvs : List (D × D)) (k d : D) : List (D × D) := if (valG kvs k).isSome then kvs.map (fun p => if nk p.1 = nk k then (p.1, d) else p) else kvs ++ [(k, d)]
theorem valG_nil {k : D} : valG [] k = none := by unfold valG; rfl
theorem valG_pos {p : D × D} {r : List (D × D)} {k : D} (e : nk p.1 = nk k) : valG (p :: r) k = some p.2 := by unfold valG; rw [List.find?_cons_of_pos (by simp [e])]; rfl
theorem valG_neg {p : D × D} {r : List (D × D)} {k : D} (e : ¬ nk p.1 = nk k) : valG (p :: r) k = valG r k := by unfold valG; rw [List.find?_cons_of_neg (by simp [e])]
theorem putG_new {kvs : List (D × D)} {k d : D} (h : valG kvs k = none) : putG kvs k d = kvs ++ [(k, d)] := by unfold putG; rw [h]; rfl
theorem valG_mem {kvs : List (D × D)} {k d : D} (h : valG kvs k = some d) : ∃ p ∈ kvs, nk p.1 = nk k ∧ p.2 = d := by
  unfold valG at h
  obtain ⟨p, hp, e⟩ := Option.map_eq_some_iff.mp h
  exact ⟨p, List.mem_of_find?_eq_some hp, by simpa using List.find?_some hp, e⟩
theorem valG_none {kvs : List (D × D)} {k : D} : valG kvs k = none ↔ ∀ p ∈ kvs, nk p.1 ≠ nk k := by
  unfold valG
  rw [Option.map_eq_none_iff, List.find?_eq_none]
  constructor
  · intro h p hp e; exact h p hp (by simp [e])
  · intro h p hp e; exact h p hp (by simpa using e)
abbrev RG (K : KW) (H0 : Hp) (e : NestedKey × Addr × V) (p : D × D) : Prop := e.1 = nk p.1 ∧ ktB p.1 = true ∧ Rp K H0 (.ref e.2.1) p.1 ∧ Rp K H0 e.2.2 p.2
theorem ktB_tup {d : D} (h : ktB d = true) : kyB d = true ∧ (nk d).depth ≤ 8 ∧ ∃ ds, d = .tup ds := by
  cases d with
  | tup ds =>
    unfold ktB at h
    rw [Bool.and_eq_true, decide_eq_true_eq] at h
    exact ⟨by rw [kyB]; exact h.1, h.2, ds, rfl⟩
  | _ => cases h
theorem ktB_ref {K : PySem.W.Frag} {H : Hp} {v : V} {d : D} (h : ktB d = true) (r : Rp K H v d) : ∃ b, v = .ref b := by
  obtain ⟨_, _, ds, rfl⟩ := ktB_tup h
  cases r
  exact ⟨_, rfl⟩
section
variable {K : KW} {F H0 H : Hp} {m : Mu} {L : List (NestedKey × Addr × V)} {kvs : List (D × D)}
theorem rg_ks (s : Same H0 H) (r : Paired (RG K H0) L kvs) : KsOk K H L := by
  intro e he
  induction r with
  | nil => cases he
  | @cons e' p L kvs h _ ih =>
    rcases List.mem_cons.mp he with rfl | he
    · obtain ⟨h1, h2, h3, _⟩ := h
      obtain ⟨k1, k2, _⟩ := ktB_tup h2
      rw [h1]
      exact ⟨keyV_of s h3 k1, k2⟩
    · exact ih he
theorem rg_val (r : Paired (RG K H0) L kvs) (k : D) : (lkL L (nk k) = none ∧ valG kvs k = none) ∨ ∃ v d, lkL L (nk k) = some v ∧ valG kvs k = some d ∧ Rp K H0 v d := by
  induction r with
  | nil => exact .inl ⟨rfl, valG_nil⟩
  | @cons e p L kvs h _ ih =>
    by_cases hk : e.1 = nk k
    · refine .inr ⟨e.2.2, p.2, ?_, valG_pos (h.1 ▸ hk), h.2.2.2⟩
      unfold lkL; rw [List.find?_cons_of_pos (by simp [hk])]; rfl
    · have e1 : lkL (e :: L) (nk k) = lkL L (nk k) := by unfold lkL; rw [List.find?_cons_of_neg (by simp [hk])]
      rw [e1, valG_neg (h.1 ▸ hk)]
      exact ih
theorem rg_put (r : Paired (RG K H0) L kvs) {k d : D} {b : Addr} {v : V} (hk : ktB k = true) (rk : Rp K H0 (.ref b) k) (rv : Rp K H0 v d) : Paired (RG K H0) (putL L (nk k) b v) (putG kvs k d) := by
  have app : ∀ {L : List (NestedKey × Addr × V)} {kvs : List (D × D)}, Paired (RG K H0) L kvs → Paired (RG K H0) (L ++ [(nk k, b, v)]) (kvs ++ [(k, d)]) := by
    intro L kvs r
    induction r with
    | nil => exact .cons ⟨rfl, hk, rk, rv⟩ .nil
    | cons h _ ih => exact .cons h ih
  have mp : ∀ {L : List (NestedKey × Addr × V)} {kvs : List (D × D)}, Paired (RG K H0) L kvs → Paired (RG K H0) (L.map (fun e => if e.1 = nk k then (e.1, e.2.1, v) else e)) (kvs.map (fun p => if nk p.1 = nk k then (p.1, d) else p)) := by
    intro L kvs r
    induction r with
    | nil => exact .nil
    | @cons e p L kvs h _ ih =>
      rw [List.map_cons, List.map_cons]
      refine .cons ?_ ih
      by_cases hk : e.1 = nk k
      · rw [if_pos hk, if_pos (h.1 ▸ hk)]; exact ⟨h.1, h.2.1, h.2.2.1, rv⟩
      · rw [if_neg hk, if_neg (h.1 ▸ hk)]; exact h
  unfold putL putG
  rcases rg_val r k with ⟨h1, h2⟩ | ⟨v', u', h1, h2, _⟩
  · rw [h1, h2]; exact app r
  · rw [h1, h2]; exact mp r
theorem rgg_len (r : Paired (RG K H0) L kvs) : L.length = kvs.length := by
  induction r with
  | nil => rfl
  | cons _ _ ih => rw [List.length_cons, List.length_cons, ih]
end
/-- a dict of ours -/
def dgOf (m : Mu) : D → Option (List (D × D))
  | .adr a => match m a with
    | some (.dgt kvs) => some kvs
    | some (.dgl _ kvs) => some kvs
    | _ => none
  | _ => none
theorem dgOf_adr {m : Mu} {a : Addr} {kvs : List (D × D)} (h : m a = some (.dgt kvs)) : dgOf m (.adr a) = some kvs := by unfold dgOf; dsimp only; rw [h]
theorem dgOf_rp {K : KW} {F H0 H : Hp} {m : Mu} {v : V} {d : D} {kvs : List (D × D)} (ok : Ok K F H0 m H) (r : Rp K H0 v d) (h : dgOf m d = some kvs) : ∃ a L, d = .adr a ∧ v = .ref a ∧ RdG K.w H a L ∧ Paired (RG K H0) L kvs := by
  cases d with
  | adr a =>
    cases r
    unfold dgOf at h
    dsimp only at h
    split at h
    · rename_i ds' e
      cases h
      obtain ⟨_, L, hv, rv⟩ := ok.cell a _ e
      exact ⟨a, L, rfl, rfl, .inl hv, rv⟩
    · rename_i o ds' e
      cases h
      obtain ⟨_, L, hv, rv⟩ := ok.cell a _ e
      exact ⟨a, L, rfl, rfl, .inr ⟨o, hv⟩, rv⟩
    · cases h
  | _ => cases h
section
variable {X : Cx} {W : WX} {a b c : Expr} {ra rb rc : DE} {pos : Pos}
/-! ### k in d -/
def oInG (neg : Bool) : DO := fun x y m P => match dgOf m y with
  | some kvs => ktB x = true ∧ P (.bl (if neg then !(valG kvs x).isSome else (valG kvs x).isSome)) m
  | none => False
theorem inG_ok {K : KW} (neg : Bool) : OpD K (rInG K K.w neg) (oInG neg) := by
  intro F H0 m H x y dx dy P Q ok rx ry h g
  unfold oInG at h
  split at h
  · rename_i kvs e
    obtain ⟨a, L, rfl, rfl, hv, rv⟩ := dgOf_rp ok ry e
    obtain ⟨b, rfl⟩ := ktB_ref h.1 rx
    obtain ⟨k1, k2, _⟩ := ktB_tup h.1
    refine ⟨a, b, L, nk dx, rfl, rfl, hv, rg_ks ok.same rv, keyV_of ok.same rx k1, k2, g.id ok (.bl _) ?_⟩
    have : (lkL L (nk dx)).isSome = (valG kvs dx).isSome := by
      rcases rg_val rv dx with ⟨h1, h2⟩ | ⟨v', u', h1, h2, _⟩ <;> rw [h1, h2] <;> rfl
    rw [this]
    exact h.2
  · exact h.elim
theorem pd_inG (hu : X.A.in1.units + 8 < cLine) (ha : PE X a (lE (kw X) W ra)) (hb : PE X b (lE (kw X) W rb)) (hm : behindInMarks .In b = false := by first | exact nomark _ | rfl) : PE X (.Compare a [.In] [b] pos) (lE (kw X) W (rOp (oInG false) ra rb)) := pd_cmp (op_inG hu) (inG_ok (K := kw X) false) ha hb hm
theorem dt_notInG (hu : X.A.in1.units + 8 < cLine) (ha : PE X a (lE (kw X) W ra)) (hb : PE X b (lE (kw X) W rb)) (hm : behindInMarks .NotIn b = false := by first | exact nomark _ | rfl) : PT X (.Compare a [.NotIn] [b] pos) (lT (kw X) W (rTst (rOp (oInG true) ra rb))) := dt_cmp (op_notInG hu) (inG_ok (K := kw X) true) ha hb hm
/-! ### d[k] -/
def oGetG : DO := fun x y m P => match dgOf m x with
  | some kvs => ktB y = true ∧ match valG kvs y with
    | some d => P d m
    | none => False
  | none => False
theorem pd_getG (hu : X.A.in1.units + 8 < cLine) (ha : PE X a (lE (kw X) W ra)) (hb : PE X b (lE (kw X) W rb)) (hs : NoSl b := by intro _ _; rfl) : PE X (.Subscript a b pos) (lE (kw X) W (rOp oGetG ra rb)) := by
  refine PE.imp (pe_getG hu ha hb hs) fun σ H Q h => ?_
  obtain ⟨F, H0, m, δ, P, PX, ok, rs, h, g, gx⟩ := h
  refine ⟨F, H0, m, δ, _, PX, ok, rs, h, fun x H1 H01 m1 d1 s1 ok1 r1 h1 => ⟨F, H01, m1, δ, _, PX, ok1, rs.mono s1, h1, fun y H2 H02 m2 d2 s2 ok2 r2 h2 => ?_, gx.mono s1⟩, gx⟩
  dsimp only at h2
  unfold oGetG at h2
  split at h2
  · rename_i kvs e
    obtain ⟨p, L, rfl, rfl, hv, rv⟩ := dgOf_rp ok2 (r1.mono s2) e
    obtain ⟨hk, h2⟩ := h2
    split at h2
    · rename_i d e2
      obtain ⟨q, rfl⟩ := ktB_ref hk r2
      obtain ⟨k1, k2, _⟩ := ktB_tup hk
      rcases rg_val rv d2 with ⟨_, h3⟩ | ⟨v', u', h3, h4, r4⟩
      · rw [e2] at h3; cases h3
      · rw [e2] at h4
        cases h4
        exact ⟨p, q, L, nk d2, v', rfl, rfl, hv, rg_ks ok2.same rv, keyV_of ok2.same r2 k1, k2, h3, g _ _ _ _ _ (s1.trans s2) ok2 r4 h2⟩
    · exact h2.elim
  · exact h2.elim
/-! ### d[k] = v -/
def sSetG (rv ro ri : DE) : DS := fun DD δ m => rv δ m (fun v m1 => ro δ m1 (fun o m2 => ri δ m2 (fun i m3 => match o with
  | .adr p => match m3 p with
    | some (.dgt kvs) => ktB i = true ∧ kvs.length < sizeLine ∧ DD.nx δ (mset m3 p (.dgt (putG kvs i v)))
    | _ => False
  | _ => False) fun c fs m1 => DD.xx c fs δ m1) fun c fs m1 => DD.xx c fs δ m1) fun c fs m1 => DD.xx c fs δ m1
theorem ds_setG {o i : Expr} {ro ri rv : DE} {p2 : Pos} (hu : X.A.in1.units + 8 < cLine) (hv : PE X a (lE (kw X) W rv)) (ho : PE X o (lE (kw X) W ro)) (hi : PE X i (lE (kw X) W ri))
    (hA : ∀ v, assign (.Subscript o i p2) X.env v = (do
      let ov ← holding [v] (eval o X.env)
      let iv ← holding [v, ov] (eval i X.env)
      standAt p2
      holding [v, ov, iv] (setItem ov iv v)
      release [v, ov, iv] []) := by intro _; rfl)
    (hs : swapsWithSole [.Subscript o i p2] a pos.line X.env = pure false := by rfl) (hw : swappedStores [.Subscript o i p2] a X.env = pure none := by rfl) (h1 : (assignEach [.Subscript o i p2] X.env).map (·.2) = [assign (.Subscript o i p2) X.env] := by rfl) :
    PS X (.Assign [.Subscript o i p2] a pos) (lS (kw X) W (sSetG rv ro ri)) := by
  refine PS.imp (ps_asg hv (pg_sub ho hi (set_dg hu) hA) hs hw h1) fun Dn σ H h => ?_
  obtain ⟨F, H0, m, δ, DD, ok, rs, h, g⟩ := h
  refine ⟨F, H0, m, δ, _, _, ok, rs, h, fun v H1 H01 m1 d1 s1 ok1 r1 h1 => ⟨F, H01, m1, δ, _, _, ok1, rs.mono s1, h1, fun o H2 H02 m2 d2 s2 ok2 r2 h2 => ⟨F, H02, m2, δ, _, _, ok2, (rs.mono s1).mono s2, h2, fun iv H3 H03 m3 d3 s3 ok3 r3 h3 => ?_, ((g.mono s1).mono s2).xx.at_ ((rs.mono s1).mono s2)⟩, (g.mono s1).xx.at_ (rs.mono s1)⟩, g.xx.at_ rs⟩
  dsimp only at h3
  split at h3
  · rename_i q
    cases r2
    split at h3
    · rename_i kvs e1
      obtain ⟨hk, hz, h3⟩ := h3
      obtain ⟨_, L, hv3, rv3⟩ := ok3.cell q _ e1
      obtain ⟨b, rfl⟩ := ktB_ref hk r3
      obtain ⟨k1, k2, _⟩ := ktB_tup hk
      have s123 := (s1.trans s2).trans s3
      refine ⟨q, b, L, nk d3, rfl, rfl, hv3, rg_ks ok3.same rv3, keyV_of ok3.same r3 k1, k2, by rw [rgg_len rv3]; exact hz, ?_⟩
      exact g.nx _ _ _ _ _ s123 (ok3.write (o := .dgt (putG kvs d3 d1)) e1 ⟨_, upd_same, rg_put rv3 hk r3 ((r1.mono s2).mono s3)⟩) (rs.mono s123) h3
    · exact h3.elim
  · exact h3.elim
/-! ### d.setdefault(k, v) -/
/-! ### {} -/
def rNewG : DE := fun _ m P _ => ∀ q, m q = none → P (.adr q) (mset m q (.dgt []))
theorem pd_newG : PE X (.Dict [] [] pos) (lE (kw X) W rNewG) := by
  refine PE.imp pe_newG fun σ H Q h => ?_
  obtain ⟨F, H0, m, δ, P, PX, ok, rs, h, g, gx⟩ := h
  exact fun q hq => g _ _ _ _ _ (Same.refl _) (ok.newM (o := .dgt []) hq ⟨[], upd_same, .nil⟩) (.adr q) (h q (ok.free hq).2)
end
end DL
namespace DL
open PySem L2
open PyProof.Rows
/-! ### for k, v in d.items() -/
theorem pr_len {L : List (NestedKey × Addr × V)} {xs : List (NestedKey × Addr × Value)} (r : Paired RE L xs) : L.length = xs.length := by
  have := congrArg List.length (pr_keys r)
  rwa [List.length_map, List.length_map] at this
end DL
namespace DL
open PySem L2
open PyProof.Rows
/-! ### list(d.values()), list(d.keys()) -/
/-! ### x += e -/
end DL
namespace DL
open PySem L2
open PyProof.Rows
theorem Ok.claim {K : KW} {F H0 H : Hp} {m : Mu} {q : Addr} {o : MO} (ok : Ok K F H0 m H) (h0 : H0 q = none) (hF : F q = none) (r : MRep K H0 H q o) : Ok K F H0 (mset m q o) H := by
  refine ⟨ok.same, fun a u e => ?_, fun a u e => ?_, ok.tab⟩
  · by_cases ha : a = q
    · subst ha; rw [mset_same] at e; cases e; exact ⟨h0, r⟩
    · rw [mset_ne ha] at e; exact ok.cell a u e
  · obtain ⟨c1, c2, c3⟩ := ok.fr a u e
    have ha : a ≠ q := fun z => by rw [z, hF] at e; cases e
    exact ⟨c1, c2, by rw [mset_ne ha]; exact c3⟩
/-! ### {k: v} with a tuple as the key -/
end DL
namespace DL
open PySem L2
open PyProof.Rows
/-! ### x.pop(0) of a list that may change -/
end DL
/-! # a tuple times nought or one -/
namespace DL
open PySem L2 PySem.Spec PyProof.Rows
end DL
/-! # sets of texts: made of a list, sorted -/
namespace DL
open PySem L2
open PyProof.Rows
def txK (e : Int × Value) : Str := match e.2 with
  | .str k _ => k
  | _ => Str.empty
def TxE (w : World) (e : Int × Value) : Prop := ∃ k u, e = (hashStr w k, Value.str k u)
/-- the texts that a set's payload holds, each once -/
structure TxSet (w : World) (en : Array (Int × Value)) (tb : SetTable) (S : Str → Bool) : Prop where
  el : ∀ e ∈ en.toList, TxE w e
  once : (en.toList.map txK).Nodup
  mem : ∀ k, S k = true ↔ k ∈ en.toList.map txK
  few : en.size < scanBound
  fit : tb.fits en.size = true
  ris : Ris tb.place.toList
  led : w.params.followText "set-order" = true ∨ tb.led = true
def SetX (w : World) (h : Heap) (a : Addr) (S : Str → Bool) (n : Nat) : Prop :=
  ∃ o en ep tb, h.get? a = some o ∧ o.ExactSet ∧ o.data = .set en ep tb ∧ TxSet w en tb S ∧ en.size = n
section
variable {P : Program} {w : World} {A : Around} {E : Value → Shared → Prop} {s : Shared} {a : Addr} {S : Str → Bool} {n : Nat}
theorem SetX.at {h h' : Heap} (R : SetX w h a S n) (k : ∀ o, h.get? a = some o → h'.get? a = some o) : SetX w h' a S n := by
  obtain ⟨o, en, ep, tb, ho, r⟩ := R
  exact ⟨o, en, ep, tb, k o ho, r⟩
theorem TxSet.perm {en en' : Array (Int × Value)} {tb tb' : SetTable} (F : TxSet w en tb S) (p : en'.toList.Perm en.toList) (hf : tb'.fits en'.size = true) (hr : Ris tb'.place.toList) (hl : tb'.led = tb.led) : TxSet w en' tb' S where
  el := fun e he => F.el e (p.mem_iff.mp he)
  once := (p.map txK).nodup_iff.mpr F.once
  mem := fun k => (F.mem k).trans (p.map txK).mem_iff.symm
  few := by
    have : en'.size = en.size := by rw [← Array.length_toList, p.length_eq, Array.length_toList]
    rw [this]; exact F.few
  fit := hf
  ris := hr
  led := F.led.imp id fun z => hl.trans z
end
end DL
/-! # set(a list of texts) -/
namespace DL
open PySem L2
open PyProof.Rows
end DL
/-! # sorted(set(xs)) of texts -/
namespace DL
open PySem L2
/-! ### in the layer -/
end DL
namespace DL
open PySem L2
open PyProof.Rows
/-! ### a def whose code object is known -/
/-! ### a lambda, called -/
/-! ### records of ours that are not tracked -/
structure Own1 (X : Cx) (pins : List (Addr × Obj)) (H : Hp) (b : Addr) : Prop where
  h : H b = none
  nl : b ≠ X.env.locals
  nf : b ∉ X.fs
  sz : b ∈ X.ex ∨ X.s_0.heap.objs.size ≤ b
  nc : ∀ x c, X.env.cells.lookup x = some c → c ≠ b
  np : ∀ p ∈ X.pn ++ pins, p.1 ≠ b
section
variable {X : Cx} {pins : List (Addr × Obj)} {σ : L2.St} {H H' : Hp} {s : Shared}
theorem Own1.to {b : Addr} (O : Own1 X pins H b) (h : H' b = none) : Own1 X pins H' b := ⟨h, O.nl, O.nf, O.sz, O.nc, O.np⟩
theorem Own1.pin {b : Addr} {o : Obj} (O : Own1 X pins H b) (e : s.heap.get? b = some o) (hc : ∀ v, o.data ≠ .cell v) (I : L2.Inv X pins σ H s) : L2.Inv X ((b, o) :: pins) σ H s :=
  I.pins_of fun p hp => by
    rcases List.mem_cons.mp hp with rfl | hp
    · exact ⟨e, O.h, O.nl, O.nf, hc⟩
    · exact I.pin p (List.mem_append_right _ hp)
theorem Own1.more {b a : Addr} {o : Obj} (O : Own1 X pins H b) (hne : a ≠ b) : Own1 X ((a, o) :: pins) H b := ⟨O.h, O.nl, O.nf, O.sz, O.nc, fun p hp => by
  rcases List.mem_append.mp hp with z | z
  · exact O.np p (List.mem_append_left _ z)
  · rcases List.mem_cons.mp z with rfl | z
    · exact hne
    · exact O.np p (List.mem_append_right _ z)⟩
end
/-! ### the lambda is made -/
end DL
namespace DL
open PySem L2
open PyProof.Rows
/-! ### min(d.keys(), key=lambda a: ..) -/
section
variable {X : Cx} {pins : List (Addr × Obj)} {σ : L2.St} {F H0 H : Hp} {m : Mu} {s : Shared} {δ : DSt} {f c' : Addr} {q : Str} {params : Arguments} {body : Expr} {scope : Scope} {pm ctv : Value} {N fr : List Str} {a : Str} {k : Nat} {js : List Nat} {rb : DE}
/-- what the list of the best so far holds -/
def BstA (K : PySem.W.Frag) (H0 : Hp) : Option (D × Int) → Array Value → Prop
  | none, arr => arr = #[]
  | some b, arr => ∃ v u t, arr = #[u, .int b.2 t] ∧ RelV v u ∧ Rp K H0 v b.1
theorem BstA.mono {K : PySem.W.Frag} {H0 H0' : Hp} {b : Option (D × Int)} {arr : Array Value} (s : Same H0 H0') (h : BstA K H0 b arr) : BstA K H0' b arr := by
  cases b with
  | none => exact h
  | some b => obtain ⟨v, u, t, e, r, p⟩ := h; exact ⟨v, u, t, e, r, p.mono s⟩
end
/-! ### the rule -/
/-- the table of the def whose code object is cd; its name -/
structure LamF (K : PySem.W.Frag) (mg : Str → Option Value) (base : Heap) (cd : Value) (q : Str) : Prop where
  ex : ∃ c P, cd = .ref c ∧ LamX.TabB base mg c P ∧ LamT K P q ∧ ∀ P' q', LamT K P' q' → P' = P ∧ q' = q
end DL
namespace DL
open PySem L2
open PyProof.Rows
/-! ### the end of a law whose text makes one lambda -/
structure LamK (K : PySem.W.Frag) (c P : Addr) (q : Str) : Prop where
  hd : PySem.W.codeHdIn K c P = true
  cd : PySem.W.codeIn K (.ref c) q = true
  nm : q ∈ lamNs
  only : ∀ c' n, n ∈ lamNs → PySem.W.codeIn K (.ref c') n = true → c' = c
theorem mem_of_look {c : Addr} {o : Obj} : ∀ {K : List (Addr × Obj)}, K.lookup c = some o → (c, o) ∈ K
  | [], h => by cases h
  | (a, z) :: K, h => by
    rw [List.lookup_cons] at h
    split at h
    · rename_i e
      rw [beq_iff_eq.mp e, Option.some.inj h]
      exact List.mem_cons_self
    · exact List.mem_cons_of_mem _ (mem_of_look h)
theorem codeIn_mem {K : PySem.W.Frag} {c : Addr} {n : Str} (h : PySem.W.codeIn K (.ref c) n = true) : ∃ o, (c, o) ∈ K := by
  unfold PySem.W.codeIn at h
  cases e : K.lookup c with
  | none => simp [e] at h
  | some o => exact ⟨o, mem_of_look e⟩
theorem codeIn_uniq {K : PySem.W.Frag} {c : Value} {n n' : Str} (h : PySem.W.codeIn K c n = true) (h' : PySem.W.codeIn K c n' = true) : n = n' := by
  unfold PySem.W.codeIn at h h'
  split at h
  · split at h
    · rename_i vs _ hk
      simp only [hk] at h'
      split at h
      · rename_i a m t r e
        simp only [e] at h'
        rw [← beq_iff_eq.mp h, ← beq_iff_eq.mp h']
      · cases h
    · cases h
  · cases h
theorem codeHd_uniq {K : PySem.W.Frag} {c P P' : Addr} (h : PySem.W.codeHdIn K c P = true) (h' : PySem.W.codeHdIn K c P' = true) : P = P' := by
  unfold PySem.W.codeHdIn at h h'
  split at h
  · rename_i vs _ hk
    simp only [hk] at h'
    simp only [Bool.and_eq_true] at h h'
    obtain ⟨⟨⟨⟨⟨h1, _⟩, _⟩, _⟩, _⟩, _⟩ := h
    obtain ⟨⟨⟨⟨⟨h2, _⟩, _⟩, _⟩, _⟩, _⟩ := h'
    split at h1
    · rename_i P'' e
      simp only [e] at h2
      rw [← beq_iff_eq.mp h1, ← beq_iff_eq.mp h2]
    · cases h1
  · cases h
theorem LamK.T {K : PySem.W.Frag} {c P : Addr} {q : Str} (L : LamK K c P q) : LamT K P q := ⟨c, L.hd, L.cd, L.nm⟩
theorem LamK.uniq {K : PySem.W.Frag} {c P : Addr} {q : Str} (L : LamK K c P q) : ∀ P' q', LamT K P' q' → P' = P ∧ q' = q := fun P' q' ⟨c', h1, h2, h3⟩ => by
  have e := L.only c' q' h3 h2
  subst e
  exact ⟨codeHd_uniq h1 L.hd, codeIn_uniq h2 L.cd⟩
def LamAll (K : PySem.W.Frag) (mg : Str → Option Value) (base : Heap) (q : Str) : Prop := ∀ cd, PySem.W.codeIn K cd q = true → LamF K mg base cd q
theorem LamK.all {K : PySem.W.Frag} {mg : Str → Option Value} {base : Heap} {c P : Addr} {q : Str} (L : LamK K c P q) (TB : LamX.TabB base mg c P) : LamAll K mg base q := fun cd h => by
  obtain ⟨c', rfl⟩ : ∃ c', cd = .ref c' := by
    unfold PySem.W.codeIn at h
    split at h
    · exact ⟨_, rfl⟩
    · cases h
  have e := L.only c' q L.nm h
  subst e
  exact ⟨c', P, rfl, TB, L.T, L.uniq⟩
def NoLamB (K : PySem.W.Frag) : Bool := K.all fun p => !(lamNs.any fun n => PySem.W.codeIn K (.ref p.1) n)
theorem noLam_by {K : PySem.W.Frag} (h : NoLamB K = true) : NoLam K := fun P q ⟨c, _, hc, hn⟩ => by
  obtain ⟨o, ho⟩ := codeIn_mem hc
  have := List.all_eq_true.mp h _ ho
  rw [Bool.not_eq_true', List.any_eq_false] at this
  exact absurd hc (by simpa using this q hn)
end DL
namespace DL
open PySem L2
open PyProof.Rows
/-! ### d == {} -/
/-! ### the least by a key -/
end DL
namespace DL
open PySem L2
/-! ### xs.index(x), deep -/
end DL
namespace DL
open PySem L2
open PyProof.Rows
/-! ### sorted(a list of tuples of whole numbers) -/
end DL
namespace DL
open PySem L2
/-! ### a list of ours becomes data while its name stays -/
theorem RpS.swap {K : PySem.W.Frag} {H0 : Hp} {σ : St} {δ : DSt} {d : D} {i : Nat} (r : RpS K H0 σ δ) (h : ∀ v, σ[i]? = some (some v) → Rp K H0 v d) (hi : ∃ v, σ[i]? = some (some v)) : RpS K H0 σ (δ.set i (some d)) := by
  obtain ⟨v, hv⟩ := hi
  have := r.set (h v hv) i
  have e : σ.set i (some v) = σ := by
    apply List.ext_getElem?
    intro j
    rw [List.getElem?_set]
    by_cases z : i = j
    · subst z
      rw [if_pos rfl, if_pos (List.getElem?_eq_some_iff.mp hv).1, hv]
    · rw [if_neg z]
  rwa [e] at this
end DL
namespace DL
open PySem L2
/-! ### a, b = x, y -/
end DL
namespace DL
open PySem L2
open PyProof.Rows
/-! ### list(d.keys()), sorted(d.keys()) -/
end DL
namespace DL
open PySem L2
open PyProof.Rows
/-! ### sorted(d.keys()), the keys tuples of whole numbers -/
end DL
namespace DL
open PySem L2
open PyProof.Rows PySem.W
/-! ### sorted(xs, key=sum, reverse=True), xs a list of tuples of whole numbers -/
end DL
namespace DL
open PySem L2
/-! ### x in a list or a tuple, as the case may be, the items nested -/
end DL
namespace DL
open PySem L2
open PyProof.Rows
/-! ### for k in d.keys(), d with tuples as keys -/
end DL
/-! # zip of a tuple and a list -/
namespace DL
open PySem L2
end DL
/-! # a tuple times a whole number that is not negative -/
namespace DL
open PySem L2 PySem.Spec PyProof.Rows
end DL
/-! # a refusal with a field of its own: its __init__ calls TrialError.__init__ -/
namespace DL
open PySem L2
/-! ### what the text must tell -/
/-! ### a tuple of things of ours becomes data -/
end DL
namespace DL
open PySem L2
open PyProof.Rows
/-! ### sorted(d.keys()), the keys nested tuples -/
mutual
def nestP : PyData → Bool
  | .int _ => true
  | .tuple xs => nestPs xs
  | _ => false
def nestPs : List PyData → Bool
  | [] => true
  | x :: xs => nestP x && nestPs xs
end
section
variable {h h' : Heap}
mutual
theorem reads_move (keep : ∀ b o, h.get? b = some o → o.cls = .type "tuple" → h'.get? b = some o) : ∀ (d : PyData) (v : Value) (as : List Addr), nestP d = true → Reads h v d as → Reads h' v d as
  | .int i, v, as, _, r => by cases r; exact .int _ _
  | .tuple xs, v, as, hn, r => by
    cases r with
    | tuple h1 h2 h3 h4 => exact .tuple (keep _ _ h1 h2) h2 h3 (readsAll_move keep xs _ _ (by simpa [nestP] using hn) h4)
  | .none, _, _, hn, _ => by simp [nestP] at hn
  | .bool _, _, _, hn, _ => by simp [nestP] at hn
  | .str _, _, _, hn, _ => by simp [nestP] at hn
  | .list _, _, _, hn, _ => by simp [nestP] at hn
  | .dict _, _, _, hn, _ => by simp [nestP] at hn
theorem readsAll_move (keep : ∀ b o, h.get? b = some o → o.cls = .type "tuple" → h'.get? b = some o) : ∀ (xs : List PyData) (vs : List Value) (as : List Addr), nestPs xs = true → ReadsAll h vs xs as → ReadsAll h' vs xs as
  | [], _, _, _, r => by cases r; exact .nil
  | x :: xs, _, _, hn, r => by
    have hn : (nestP x && nestPs xs) = true := by simpa [nestPs] using hn
    rw [Bool.and_eq_true] at hn
    cases r with
    | cons r1 r2 => exact .cons (reads_move keep x _ _ hn.1 r1) (readsAll_move keep xs _ _ hn.2 r2)
end
end
theorem swo_dat (k : Value → PyData) : SrtO.Swo fun v u => PySem.W.dataLt (k v) (k u) := by
  refine ⟨fun x y h1 => ?_, fun x y z h1 h2 => ?_⟩
  · cases e : PySem.W.dataLt (k y) (k x) with
    | false => rfl
    | true =>
      have t := (listOrd itemOrd).trans _ _ _ h1 e
      have i := (listOrd itemOrd).irrefl (PySem.W.keyToks (k x))
      rw [i] at t; cases t
  · cases e : PySem.W.dataLt (k z) (k x) with
    | false => rfl
    | true =>
      rcases (listOrd itemOrd).negTrans (PySem.W.keyToks (k z)) (PySem.W.keyToks (k y)) (PySem.W.keyToks (k x)) e with t | t
      · have h2 : (listOrd itemOrd).blt (PySem.W.keyToks (k z)) (PySem.W.keyToks (k y)) = false := h2
        rw [h2] at t; cases t
      · have h1 : (listOrd itemOrd).blt (PySem.W.keyToks (k y)) (PySem.W.keyToks (k x)) = false := h1
        rw [h1] at t; cases t
section
variable {prog : Program} {w : World} {A : Around} {s : Shared}
theorem dat_sortable {a : Addr} {vs : List Value} {k : Value → PyData} (h2 : 2 ≤ vs.length) (hp : ∀ v ∈ vs, (∃ as, Reads s.heap v (k v) as) ∧ nestP (k v) = true ∧ ∃ x r, k v = .tuple (x :: r)) (hal : ∀ v ∈ vs, ∀ u ∈ vs, PySem.W.alike (k v) (k u) = true) (hu : ∀ v ∈ vs, A.units + (k v).depth < cLine) (ha : ∀ o, s.heap.get? a = some o → o.cls ≠ .type "tuple") : SrtO.SortableO prog w A s a vs fun v u => PySem.W.dataLt (k v) (k u) := by
  intro h' keep
  have hr : ∀ v ∈ vs, ∃ as, Reads h' v (k v) as := fun v hv => by
    obtain ⟨⟨as, r⟩, hn, _⟩ := hp v hv
    exact ⟨as, reads_move (fun b o q c => keep b o (fun z => by subst z; exact ha o q c) q) _ _ _ hn r⟩
  have each : PySem.W.EachIs (fun v d => ∃ as, Reads h' v d as) vs (vs.map k) := by
    refine PySem.W.EachIs.of_zip (List.length_map _).symm fun p hp' => ?_
    have e : ∀ (l : List Value), p ∈ l.zip (l.map k) → p.1 ∈ l ∧ p.2 = k p.1 := fun l => by
      induction l with
      | nil => intro z; cases z
      | cons v l ih =>
        intro z
        rw [List.map_cons, List.zip_cons_cons] at z
        rcases List.mem_cons.mp z with rfl | z
        · exact ⟨List.mem_cons_self, rfl⟩
        · exact ⟨List.mem_cons_of_mem _ (ih z).1, (ih z).2⟩
    obtain ⟨e1, e2⟩ := e vs hp'
    rw [e2]
    exact hr _ e1
  have al : PySem.W.AllAlike (vs.map k) := fun d hd d' hd' => by
    obtain ⟨v, hv, rfl⟩ := List.mem_map.mp hd
    obtain ⟨u, hu', rfl⟩ := List.mem_map.mp hd'
    exact hal v hv u hu'
  have S := PySem.W.SortsAt.data (prog := prog) (w := w) (A := A) (s := { s with heap := h' }) each al (.inl fun d hd => by
    obtain ⟨v, hv, rfl⟩ := List.mem_map.mp hd
    exact (hp v hv).2.2) (fun d hd => by
    obtain ⟨v, hv, rfl⟩ := List.mem_map.mp hd
    exact hu v hv)
  obtain ⟨kd, lt, kind⟩ := S.kind
  refine ⟨kd, fun Q E hq => kind h2 E hq, fun p q hm hm' => ?_⟩
  obtain ⟨as, r1⟩ := hr _ hm
  obtain ⟨bs, r2⟩ := hr _ hm'
  have k1 := PySem.W.dataKind_some (h := h') al (List.mem_map.mpr ⟨p.1, hm, rfl⟩) r1
  have k2 := PySem.W.dataKind_some (h := h') al (List.mem_map.mpr ⟨q.1, hm', rfl⟩) r2
  exact lt _ _ _ _ _ k1 k2 ⟨rfl, rfl⟩
end
end DL
namespace DL
open PySem L2
open PyProof.Rows
/-! ### sorted(d.items()), the keys tuples, what they hold whole numbers or tuples -/
section
variable {prog : Program} {w : World} {A : Around} {E : Value → Shared → Prop} {s : Shared} {r d : Addr} {es : Array DictEntry} {ep : Nat}
theorem sorted_items (hh : A.handled = none) (hv : s.heap.IsItemsView r d) (hm : s.heap.DictRaw d es ep) (hn : es.size ≤ sizeLine) {Q : Value → Shared → Prop}
    (h : ∀ (h₁ : Heap) (tk : Nat) (as : List Addr), (∀ b o, s.heap.get? b = some o → h₁.get? b = some o) → as.length = es.size → PySem.W.DilG es s.heap.objs.size h₁ as → ∃ ltv : Value → Value → Bool, SrtO.Swo ltv ∧
      (∀ (h₂ : Heap) (a : Addr), 2 ≤ (as.map Value.ref).length → h₂.get? a = some (seqObj "list" (as.map Value.ref).toArray 0) → (∀ b o, h₁.get? b = some o → h₂.get? b = some o) → SrtO.SortableO prog w A.in1.in1 { s with heap := h₂, toks := tk } a (as.map Value.ref) ltv) ∧
      ∀ (out : List Value) (h' : Heap) (D : Addr) (c : Nat), SrtO.Stb ltv out (as.map Value.ref) → (∀ b o, h₁.get? b = some o → h'.get? b = some o) → h'.get? D = some (seqObj "list" out.toArray c) → h₁.objs.size ≤ D → Q (.ref D) { s with heap := h', toks := tk }) :
    wpAny (model prog w) A (call (.builtin "sorted") [.ref r]) Q E s := by
  refine Calls.call_function_entry kind_sorted plain_sorted entry_sorted (args_sorted1 _) ?_
  unfold Builtin.«sorted»
  refine wpAny_bind (m := checkCount "sorted" 1 1 _) (wpAny_pure ?_)
  refine wpAny_bind (PySem.W.dil_collect (A := A.in1) hh hv hm hn fun h' tk as hk hl hG => ?_)
  obtain ⟨ltv, O, hS, h⟩ := h h' tk as hk hl hG
  have hl2 : (as.map Value.ref).length = es.size := by rw [List.length_map]; exact hl
  refine wpAny_bind (wpAny_newList ?_ (by rw [hl2]; exact hn))
  have hoL : (h'.push (seqObj "list" (as.map Value.ref).toArray 0)).get? h'.objs.size = some (seqObj "list" (as.map Value.ref).toArray 0) := Heap.get?_push_size _ rfl
  have keep : ∀ b o, h'.get? b = some o → (h'.push (seqObj "list" (as.map Value.ref).toArray 0)).get? b = some o := fun b o q => Heap.get?_push_of_some _ q
  show wpAny _ _ _ _ _ { s with heap := h'.push (seqObj "list" (as.map Value.ref).toArray 0), toks := tk }
  refine wpAny_bind (wpAny_holding (wpAny_call_entry slot_list_sort ⟨_, hoL, rfl⟩ entry_list_sort (SrtO.list_sort_ord O hoL (by rw [hl2]; exact hn) (fun h2 => hS _ _ h2 hoL keep) fun out hs hb => ⟨_, rfl, ?_⟩) (args_list_sort _)))
  obtain ⟨c, hc⟩ := sortedHeap_at (vs := as.map Value.ref) (out := out.toArray) hoL
  refine wpAny_pure ⟨_, rfl, h out _ _ c hb (fun b o q => ?_) hc (Nat.le_refl _)⟩
  rw [sortedHeap_old (Nat.ne_of_lt (Heap.lt_size q)) (Heap.lt_size (keep b o q))]
  exact keep b o q
end
section
variable {X : Cx} {pins : List (Addr × Obj)} {σ : L2.St} {H H' : Hp} {s : Shared} {h' : Heap}
/-- several new objects laid and tracked -/
theorem inv_many {t' : Nat} (I : L2.Inv X pins σ H s) (k : ∀ b u, s.heap.get? b = some u → h'.get? b = some u) (ext : ∀ b u, H b = some u → H' b = some u)
    (new : ∀ b u, H' b = some u → H b = some u ∨ (s.heap.get? b = none ∧ ObjOk X.prog X.w H' h' b u)) : L2.Inv X pins σ H' { s with heap := h', toks := t' } := by
  refine I.un (h' := h') (t' := t') ⟨fun b o e n _ _ => k b o e, fun b o e n _ _ => ⟨o.slots, k b o e⟩, fun b o e n _ => ?_, fun b o e _ => ⟨o, k b o e⟩, fun b xs q => ext b _ q, fun b o u q => ext b _ q, fun b ps q => ⟨#[], by rw [ext b _ q]; simp⟩⟩ fun b u e => ?_
  · cases e' : H' b with
    | none => rfl
    | some u =>
      rcases new b u e' with z | ⟨z, _⟩
      · rw [n] at z; cases z
      · rw [e] at z; cases z
  · rcases new b u e with z | ⟨_, z⟩
    · exact (I.hok b u z).stay (fun c v _ q => k c v q) (fun c q => ext c _ q) fun c xs q => ext c _ q
    · exact z
end
/-- pairs laid -/
def putsH (H : Hp) : List (Addr × V × V) → Hp
  | [] => H
  | (a, k, v) :: l => upd (putsH H l) a (.tup [k, v])
theorem putsH_old {H : Hp} : ∀ {l : List (Addr × V × V)} {b : Addr}, b ∉ l.map (·.1) → putsH H l b = H b
  | [], _, _ => rfl
  | (a, k, v) :: l, b, h => by
    rw [List.map_cons, List.mem_cons, not_or] at h
    show upd _ _ _ b = _
    rw [upd_ne h.1, putsH_old h.2]
theorem putsH_inv {H : Hp} : ∀ {l : List (Addr × V × V)} {b : Addr} {u : HO}, putsH H l b = some u → H b = some u ∨ ∃ k v, (b, k, v) ∈ l ∧ u = .tup [k, v]
  | [], _, _, h => .inl h
  | (a, k, v) :: l, b, u, h => by
    by_cases e : b = a
    · subst e
      have : upd (putsH H l) b (.tup [k, v]) b = some u := h
      rw [upd_same] at this
      cases this
      exact .inr ⟨k, v, List.mem_cons_self, rfl⟩
    · have : upd (putsH H l) a (.tup [k, v]) b = some u := h
      rw [upd_ne e] at this
      rcases putsH_inv this with z | ⟨k', v', z, e'⟩
      · exact .inl z
      · exact .inr ⟨k', v', List.mem_cons_of_mem _ z, e'⟩
def tSrtIG (K : KW) (td : TE) : TE := fun σ H Q => td σ H fun x H1 => ∃ (d : Addr) (L : List (NestedKey × Addr × V)) (ks : List (V × V × PyData × PyData)), x = .ref d ∧ RdG K.w H1 d L ∧ L.map (fun e => (V.ref e.2.1, e.2.2)) = ks.map (fun q => (q.1, q.2.1)) ∧
  (∀ p ∈ ks, Dp K.fr H1 p.1 p.2.2.1 ∧ Dp K.fr H1 p.2.1 p.2.2.2 ∧ nestP p.2.2.1 = true ∧ nestP p.2.2.2 = true ∧ (PyData.tuple [p.2.2.1, p.2.2.2]).depth ≤ 10) ∧ (∀ p ∈ ks, ∀ q ∈ ks, PySem.W.alike (.tuple [p.2.2.1, p.2.2.2]) (.tuple [q.2.2.1, q.2.2.2]) = true) ∧
  ∀ (as : List Addr) (l' : List Addr) (p : Addr), as.length = ks.length → as.Nodup → (∀ a ∈ as, H1 a = none) → p ∉ as → H1 p = none → l'.Perm as → Q (.ref p) (upd (putsH H1 (as.zip (ks.map fun q => (q.1, q.2.1)))) p (.lst (l'.map V.ref)))
theorem re_get {L : List (NestedKey × Addr × V)} {xs : List (NestedKey × Addr × Value)} (r : Paired RE L xs) : ∀ {j : Nat} {x : NestedKey × Addr × Value}, xs[j]? = some x → ∃ e, L[j]? = some e ∧ RE e x := by
  induction r with
  | nil => intro j x h; simp at h
  | cons h _ ih =>
    intro j x e
    cases j with
    | zero => simp at e; subst e; exact ⟨_, rfl, h⟩
    | succ j => exact ih (by simpa using e)
theorem re_rel {e : NestedKey × Addr × V} {x : NestedKey × Addr × Value} (h : RE e x) : e.2.1 = x.2.1 ∧ RelV e.2.2 x.2.2 := ⟨h.2.1, h.2.2⟩
section
variable {X : Cx} {e : Expr} {te : TE} {apos cpos p pos : Pos}
theorem pe_srtItems (hu : X.A.units + 65 < cLine) (hc : X.calm = true) (he : PE X e te) (hg : Gl X "sorted") (hm : X.mg "sorted" = none) (hv : bootBuiltins "sorted" = some (.builtin "sorted")) (hbase : attributeBase e "items" X.env (eval e X.env) = eval e X.env := by rfl) (hline : (apos.endLine == cpos.line) = true := by rfl)
    (hs : starEach [.Call (.Attribute e "items" apos) [] [] cpos] X.env = (false, eval (.Call (.Attribute e "items" apos) [] [] cpos) X.env) :: starEach [] X.env := by rfl) :
    PE X (.Call (.Name "sorted" p) [.Call (.Attribute e "items" apos) [] [] cpos] [] pos) (tSrtIG (kw X) te) := by
  refine ⟨fun pins s σ H Q I hq => ?_⟩
  refine wpAny_Call_Name_kw (L2.ld_blt I hg hm hv ?_)
  refine PyProof.Rows.callWith_builtin1 ?_ hs rfl
  rw [hs]
  show wpAny _ _ (spliced ((false, eval (.Call (.Attribute e "items" apos) [] [] cpos) X.env) :: backTo pos (starEach [] X.env))) _ _ s
  refine Calls.spliced_cons ?_
  refine wpAny_Call_method (T := "dict") (id := "dict.items") hbase rfl hline F.plainAttrs_dict F.slot_dict_items F.type_dict_items (thn (he.run pins s σ H _ I hq) fun u s1 ⟨x, H1, I1, rx, d, L, ks, ex, hd, ek, hks, hal, q⟩ => ?_)
  subst ex
  obtain rfl : u = Value.ref d := rx
  obtain ⟨g1, g2, xs, r, nd, o, es, ep, ho, hx, hdt, g4⟩ := dg_raw I1 hd
  have raw : s1.heap.DictRaw d es ep := ⟨o, ho, hx, hdt⟩
  have hz : es.size = L.length := by rw [← Array.length_toList, g4, List.length_map, pr_len r]
  have I2 : L2.Inv X pins σ H1 { s1 with heap := s1.heap.push { cls := .type "dict_items", data := .fields #[.ref d] } } := I1.kept (t' := s1.toks) fun b ob q => Heap.get?_push_of_some _ q
  refine ⟨raw.typeIs, fun b q => (by cases q; exact ⟨o, ho, hx.2.1⟩), ?_⟩
  show wpAny _ _ (callWith cpos (.builtin "dict.items") [.ref d] [] []) _ X.xe s1
  refine method_meetsIn F.slot_dict_items F.entry_dict_items rfl (PySem.evalArgs_none ⟨rfl, raw.typeIs, F.args_dict_items_1 _, _, DT.meetsItems (es := es) (ep := ep) g1, ⟨o, ho, hx, hdt⟩, ?_⟩)
  refine Calls.spliced_nil ?_
  have lk : ks.length = L.length := by
    have := congrArg List.length ek
    rw [List.length_map, List.length_map] at this
    exact this.symm
  refine sorted_items (I1.ok.hd hc) ⟨_, Heap.get?_push_size _ rfl, rfl, rfl⟩ (raw.push _) (by omega) fun h₁ tk as hk hl hG => ?_
  have at_ : ∀ (j : Nat) (a : Addr), as[j]? = some a → ∃ q, ks[j]? = some q ∧ ∃ kv vv, h₁.get? a = some { cls := .type "tuple", data := .seq #[kv, vv] } ∧ RelV q.1 kv ∧ RelV q.2.1 vv := by
    intro j a hj
    obtain ⟨hj2, ob⟩ := hG.pairs j a hj
    have e1 : (xs.map (dgEnt X.w))[j]? = some es[j] := by rw [← g4, Array.getElem?_toList, Array.getElem?_eq_getElem hj2]
    rw [List.getElem?_map] at e1
    cases ex : xs[j]? with
    | none => rw [ex] at e1; cases e1
    | some x =>
      rw [ex] at e1
      have e1 : dgEnt X.w x = es[j] := Option.some.inj e1
      obtain ⟨y, hy, ry⟩ := re_get r ex
      obtain ⟨y1, y2⟩ := re_rel ry
      have e2 : (L.map fun e => (V.ref e.2.1, e.2.2))[j]? = some (V.ref y.2.1, y.2.2) := by rw [List.getElem?_map, hy]; rfl
      rw [ek, List.getElem?_map] at e2
      cases eq : ks[j]? with
      | none => rw [eq] at e2; cases e2
      | some q =>
        rw [eq] at e2
        have e2 : (q.1, q.2.1) = (V.ref y.2.1, y.2.2) := Option.some.inj e2
        have e3 : q.1 = V.ref y.2.1 := (Prod.mk.inj e2).1
        have e4 : q.2.1 = y.2.2 := (Prod.mk.inj e2).2
        refine ⟨q, rfl, es[j].key, es[j].val, ob, ?_, ?_⟩
        · rw [e3, ← e1, y1]; rfl
        · rw [e4, ← e1]; exact y2
  have rd : ∀ (j : Nat) (a : Addr) q, as[j]? = some a → ks[j]? = some q → ∃ bs, Reads h₁ (.ref a) (.tuple [q.2.2.1, q.2.2.2]) bs := by
    intro j a q ha hq
    obtain ⟨q', hq', kv, vv, ob, r1, r2⟩ := at_ j a ha
    rw [hq] at hq'
    cases hq'
    obtain ⟨d1, d2, n1, n2, _⟩ := hks q (List.mem_of_getElem? hq)
    obtain ⟨b1, x1⟩ := Dp.reads I2 _ _ kv d1 r1
    obtain ⟨b2, x2⟩ := Dp.reads I2 _ _ vv d2 r2
    exact ⟨_, .tuple ob rfl rfl (.cons (reads_move (fun b o q' _ => hk b o q') _ _ _ n1 x1) (.cons (reads_move (fun b o q' _ => hk b o q') _ _ _ n2 x2) .nil))⟩
  have nd : as.Nodup := hG.rise.imp fun h => Nat.ne_of_lt h
  have la : as.length = ks.length := by rw [hl, hz, lk]
  obtain ⟨kf, hkf⟩ : ∃ kf : Value → PyData, ∀ (j : Nat) (a : Addr) q, as[j]? = some a → ks[j]? = some q → kf (.ref a) = .tuple [q.2.2.1, q.2.2.2] := by
    classical
    refine ⟨fun v => if h : ∃ (t : Nat × Addr × (V × V × PyData × PyData)), as[t.1]? = some t.2.1 ∧ ks[t.1]? = some t.2.2 ∧ v = Value.ref t.2.1 then .tuple [h.choose.2.2.2.2.1, h.choose.2.2.2.2.2] else .none, fun j a q ha hq => ?_⟩
    have ex : ∃ (t : Nat × Addr × (V × V × PyData × PyData)), as[t.1]? = some t.2.1 ∧ ks[t.1]? = some t.2.2 ∧ Value.ref a = Value.ref t.2.1 := ⟨(j, a, q), ha, hq, rfl⟩
    show (if h : ∃ (t : Nat × Addr × (V × V × PyData × PyData)), as[t.1]? = some t.2.1 ∧ ks[t.1]? = some t.2.2 ∧ Value.ref a = Value.ref t.2.1 then PyData.tuple [h.choose.2.2.2.2.1, h.choose.2.2.2.2.2] else .none) = _
    rw [dif_pos ex]
    obtain ⟨h1, h2, h3⟩ := ex.choose_spec
    obtain ⟨b1, r1⟩ := rd _ _ _ h1 h2
    obtain ⟨b2, r2⟩ := rd j a q ha hq
    rw [← h3] at r1
    exact PySem.W.alike_unique _ _ _ _ _ (hal _ (List.mem_of_getElem? h2) _ (List.mem_of_getElem? hq)) r1 r2
  have each : ∀ v ∈ as.map Value.ref, ∃ j a q, as[j]? = some a ∧ ks[j]? = some q ∧ v = .ref a := fun v hv => by
    obtain ⟨a, ha, rfl⟩ := List.mem_map.mp hv
    obtain ⟨j, hj⟩ := List.mem_iff_getElem?.mp ha
    obtain ⟨q, hq, _⟩ := at_ j a hj
    exact ⟨j, a, q, hj, hq, rfl⟩
  refine ⟨_, swo_dat kf, fun h₂ a h2 hb kk => ?_, fun out h' D c hb kk hD hle => ?_⟩
  · refine dat_sortable (s := { s1 with heap := h₂, toks := tk }) h2 (fun v hv => ?_) (fun v hv u hu' => ?_) (fun v hv => ?_) fun o' e => ?_
    · obtain ⟨j, a, q, ha, hq, rfl⟩ := each v hv
      obtain ⟨bs, r1⟩ := rd j a q ha hq
      obtain ⟨_, _, n1, n2, _⟩ := hks q (List.mem_of_getElem? hq)
      rw [hkf j a q ha hq]
      have nn : nestP (.tuple [q.2.2.1, q.2.2.2]) = true := by simp [nestP, nestPs, n1, n2]
      exact ⟨⟨bs, reads_move (fun b o q' _ => kk b o q') _ _ _ nn r1⟩, nn, _, _, rfl⟩
    · obtain ⟨j, a, q, ha, hq, rfl⟩ := each v hv
      obtain ⟨j', a', q', ha', hq', rfl⟩ := each u hu'
      rw [hkf j a q ha hq, hkf j' a' q' ha' hq']
      exact hal q (List.mem_of_getElem? hq) q' (List.mem_of_getElem? hq')
    · obtain ⟨j, a, q, ha, hq, rfl⟩ := each v hv
      rw [hkf j a q ha hq]
      have := (hks q (List.mem_of_getElem? hq)).2.2.2.2
      simp only [units_in1]
      omega
    · have e' : some o' = some (seqObj "list" (as.map Value.ref).toArray 0) := e.symm.trans hb
      cases e'
      exact fun c => absurd (Value.type.inj c) (by decide)
  · obtain ⟨l', pL, e'⟩ := perm_lift Value.ref hb.perm as rfl
    have none_of : ∀ b : Addr, (s1.heap.push { cls := .type "dict_items", data := .fields #[.ref d] }).objs.size ≤ b → (s1.heap.push { cls := .type "dict_items", data := .fields #[.ref d] }).get? b = none := fun b hb => by
      cases e0 : (s1.heap.push { cls := .type "dict_items", data := .fields #[.ref d] }).get? b with
      | none => rfl
      | some o => exact absurd (Heap.lt_size e0) (Nat.not_lt.mpr hb)
    have big : (s1.heap.push { cls := .type "dict_items", data := .fields #[.ref d] }).objs.size ≤ D := by
      have h0 : (s1.heap.push { cls := .type "dict_items", data := .fields #[.ref d] }).get? s1.heap.objs.size = some { cls := .type "dict_items", data := .fields #[.ref d] } := Heap.get?_push_size _ rfl
      have h1 := Heap.lt_size (hk _ _ h0)
      rw [Heap.size_push]
      exact Nat.le_trans (Nat.succ_le_of_lt h1) hle
    have fD : H1 D = none := I2.hok.fresh big
    have fa : ∀ a ∈ as, H1 a = none := fun a ha => I2.hok.fresh (Nat.le_of_lt (hG.above a ha))
    have nD : D ∉ as := fun z => by
      exact absurd (Nat.lt_of_lt_of_le (hG.there z) hle) (Nat.lt_irrefl _)
    have zm : (as.zip (ks.map fun q => (q.1, q.2.1))).map (·.1) = as := List.map_fst_zip (by rw [List.length_map]; omega)
    refine ⟨.ref _, upd (putsH H1 (as.zip (ks.map fun q => (q.1, q.2.1)))) D (.lst (l'.map V.ref)), ?_, rfl, q as l' D la nd fa nD fD pL⟩
    refine inv_many (t' := tk) I2 (fun b u q' => kk b u (hk b u q')) (fun b u q' => ?_) fun b u q' => ?_
    · have n1 : b ≠ D := fun z => by rw [z, fD] at q'; cases q'
      rw [upd_ne n1, putsH_old (by rw [zm]; exact fun z => by rw [fa b z] at q'; cases q')]
      exact q'
    · by_cases n1 : b = D
      · subst n1
        rw [upd_same] at q'
        cases q'
        refine .inr ⟨none_of b big, ⟨by rw [List.length_map, pL.length_eq, la, lk]; exact g2, out, c, ?_, hD⟩⟩
        rw [e']
        clear hb e' pL hD
        induction l' with
        | nil => exact .nil
        | cons a l ih => exact .cons rfl ih
      · rw [upd_ne n1] at q'
        rcases putsH_inv q' with z | ⟨k, v, z, rfl⟩
        · exact .inl z
        · obtain ⟨j, hj⟩ := List.mem_iff_getElem?.mp z
          rw [List.getElem?_zip_eq_some] at hj
          obtain ⟨j1, j2⟩ := hj
          obtain ⟨q2, hq2, kv, vv, ob, r1, r2⟩ := at_ j b j1
          rw [List.getElem?_map, hq2] at j2
          cases j2
          refine .inr ⟨none_of b (Nat.le_of_lt (hG.above b (List.mem_of_getElem? j1))), ⟨show 2 ≤ sizeLine from by decide, [kv, vv], .cons r1 (.cons r2 .nil), ?_⟩⟩
          exact ⟨_, kk _ _ ob, rfl, _, rfl⟩
end
theorem putsH_at {H : Hp} : ∀ {l : List (Addr × V × V)} {b : Addr} {k v : V}, (l.map (·.1)).Nodup → (b, k, v) ∈ l → putsH H l b = some (.tup [k, v])
  | [], _, _, _, _, h => by cases h
  | (a, k', v') :: l, b, k, v, nd, h => by
    rw [List.map_cons, List.nodup_cons] at nd
    rcases List.mem_cons.mp h with e | h
    · cases e
      exact upd_same
    · have : b ≠ a := fun z => nd.1 (by rw [← z]; exact List.mem_map.mpr ⟨_, h, rfl⟩)
      show upd _ _ _ b = _
      rw [upd_ne this]
      exact putsH_at nd.2 h
theorem same_puts {H : Hp} : ∀ {l : List (Addr × V × V)}, (∀ a ∈ l.map (·.1), H a = none) → Same H (putsH H l) := fun {l} h b u e => by
  rw [putsH_old fun z => by rw [h b z] at e; cases e]
  exact e
theorem ok_puts {K : KW} {F H0 H : Hp} {m : Mu} (ok : Ok K F H0 m H) : ∀ {l : List (Addr × V × V)}, (l.map (·.1)).Nodup → (∀ a ∈ l.map (·.1), H a = none) → Ok K F (putsH H0 l) m (putsH H l)
  | [], _, _ => ok
  | (a, k, v) :: l, nd, h => by
    rw [List.map_cons, List.nodup_cons] at nd
    have := ok_puts ok nd.2 fun b hb => h b (by rw [List.map_cons]; exact List.mem_cons_of_mem _ hb)
    exact this.new (by rw [putsH_old nd.1]; exact h a (by rw [List.map_cons]; exact List.mem_cons_self)) _
/-- what may be sorted: pairs of nested tuples and whole numbers, alike -/
structure PairL (kvs : List (D × D)) : Prop where
  ok : ∀ p ∈ kvs, nestP (py p.1) = true ∧ nestP (py p.2) = true ∧ (PyData.tuple [py p.1, py p.2]).depth ≤ 10 ∧ (py p.1).canLay0 = true ∧ (py p.2).canLay0 = true
  alike : ∀ p ∈ kvs, ∀ q ∈ kvs, PySem.W.alike (.tuple [py p.1, py p.2]) (.tuple [py q.1, py q.2]) = true
def rSrtIG (ra : DE) : DE := fun δ m P PX => ra δ m (fun x m1 => match dgOf m1 x with
  | some kvs => PairL kvs ∧ ∀ l' : List D, l'.Perm (kvs.map fun p => D.tup [p.1, p.2]) → P (.lst l') m1
  | none => False) PX
theorem pairs_of {α β : Type} {R : α → β → Prop} {L : List α} {M : List β} (r : Paired R L M) : ∃ ts : List (α × β), ts.map (·.1) = L ∧ ts.map (·.2) = M ∧ ∀ t ∈ ts, R t.1 t.2 := by
  induction r with
  | nil => exact ⟨[], rfl, rfl, fun _ z => by cases z⟩
  | @cons a b L M h _ ih =>
    obtain ⟨ts, e1, e2, e3⟩ := ih
    exact ⟨(a, b) :: ts, by rw [List.map_cons, e1], by rw [List.map_cons, e2], fun t ht => by
      rcases List.mem_cons.mp ht with rfl | ht
      · exact h
      · exact e3 t ht⟩
section
variable {X : Cx} {W : WX} {a : Expr} {ra : DE} {apos cpos p pos : Pos}
theorem pd_srtIG (hu : X.A.units + 65 < cLine) (hc : X.calm = true) (hm : X.mg "sorted" = none) (hv : bootBuiltins "sorted" = some (.builtin "sorted")) (ha : PE X a (lE (kw X) W ra)) (hg : Gl X "sorted" := by rfl) (hbase : attributeBase a "items" X.env (eval a X.env) = eval a X.env := by rfl) (hline : (apos.endLine == cpos.line) = true := by rfl)
    (hs : starEach [.Call (.Attribute a "items" apos) [] [] cpos] X.env = (false, eval (.Call (.Attribute a "items" apos) [] [] cpos) X.env) :: starEach [] X.env := by rfl) :
    PE X (.Call (.Name "sorted" p) [.Call (.Attribute a "items" apos) [] [] cpos] [] pos) (lE (kw X) W (rSrtIG ra)) := by
  refine PE.imp (pe_srtItems hu hc ha hg hm hv hbase hline hs) fun σ H Q h => ?_
  obtain ⟨F, H0, m, δ, P, PX, ok, rs, h, g, gx⟩ := h
  refine ⟨F, H0, m, δ, _, PX, ok, rs, h, fun x H1 H01 m1 d s1 ok1 r1 h1 => ?_, gx⟩
  dsimp only at h1
  split at h1
  · rename_i kvs e
    obtain ⟨nl, h1⟩ := h1
    obtain ⟨q, L, rfl, rfl, hv, rv⟩ := dgOf_rp ok1 r1 e
    obtain ⟨ts, e1, e2, e3⟩ := pairs_of rv
    have mem : ∀ t ∈ ts, t.2 ∈ kvs := fun t ht => by rw [← e2]; exact List.mem_map_of_mem ht
    refine ⟨q, L, ts.map (fun t => (V.ref t.1.2.1, t.1.2.2, py t.2.1, py t.2.2)), rfl, hv, ?_, fun p hp => ?_, fun p hp p' hp' => ?_, fun as l' b la nd fa nb hb pl => ?_⟩
    · rw [← e1, List.map_map, List.map_map]; rfl
    · obtain ⟨t, ht, rfl⟩ := List.mem_map.mp hp
      obtain ⟨n1, n2, n3, n4, n5⟩ := nl.ok _ (mem t ht)
      obtain ⟨_, _, r1, r2⟩ := e3 t ht
      exact ⟨dp_of (r1.mono ok1.same) n4, dp_of (r2.mono ok1.same) n5, n1, n2, n3⟩
    · obtain ⟨t, ht, rfl⟩ := List.mem_map.mp hp
      obtain ⟨t', ht', rfl⟩ := List.mem_map.mp hp'
      exact nl.alike _ (mem t ht) _ (mem t' ht')
    · rw [List.length_map] at la
      obtain ⟨Z, hZ⟩ : ∃ Z, Z = as.zip ((ts.map fun t => (V.ref t.1.2.1, t.1.2.2, py t.2.1, py t.2.2)).map fun q => (q.1, q.2.1)) := ⟨_, rfl⟩
      rw [← hZ]
      have zm : Z.map (·.1) = as := by rw [hZ]; exact List.map_fst_zip (Nat.le_of_eq (by rw [List.length_map, List.length_map, la]))
      have okP := ok_puts ok1 (l := Z) (by rw [zm]; exact nd) (by rw [zm]; exact fa)
      have sp : Same H01 (putsH H01 Z) := same_puts (by rw [zm]; exact fun a ha => (ok1.free (fa a ha)).1)
      have hz1 : (as.zip ts).map (·.1) = as := List.map_fst_zip (by omega)
      have hz2 : (as.zip ts).map (·.2) = ts := List.map_snd_zip (by omega)
      have pl2 : l'.Perm ((as.zip ts).map fun t : Addr × ((NestedKey × Addr × V) × (D × D)) => t.1) := by rw [hz1]; exact pl
      obtain ⟨M, pM, eM⟩ := perm_lift (fun t : Addr × ((NestedKey × Addr × V) × (D × D)) => t.1) pl2 (as.zip ts) rfl
      have rr : ∀ M1 : List (Addr × ((NestedKey × Addr × V) × (D × D))), (∀ t ∈ M1, t ∈ as.zip ts) → RpL (kw X) (putsH H01 Z) ((M1.map (·.1)).map V.ref) (M1.map fun t => D.tup [t.2.2.1, t.2.2.2]) := by
        intro M1
        induction M1 with
        | nil => intro _; exact .nil
        | cons t M1 ih =>
          intro hp
          have ht := hp t List.mem_cons_self
          obtain ⟨j, hj⟩ := List.mem_iff_getElem?.mp ht
          have hj' := List.getElem?_zip_eq_some.mp hj
          obtain ⟨_, _, r1, r2⟩ := e3 t.2 (List.mem_of_getElem? hj'.2)
          have hz : (t.1, V.ref t.2.1.2.1, t.2.1.2.2) ∈ Z := by
            rw [hZ]
            refine List.mem_iff_getElem?.mpr ⟨j, List.getElem?_zip_eq_some.mpr ⟨hj'.1, ?_⟩⟩
            rw [List.getElem?_map, List.getElem?_map, hj'.2]
            rfl
          have at_ : putsH H01 Z t.1 = some (.tup [V.ref t.2.1.2.1, t.2.1.2.2]) := putsH_at (by rw [zm]; exact nd) hz
          exact .cons (.tup (SqT.of at_) (.cons (r1.mono sp) (.cons (r2.mono sp) .nil))) (ih fun q hq => hp q (List.mem_cons_of_mem _ hq))
      rw [eM]
      refine (g.mono (s1.trans sp)).lst okP (by rw [putsH_old (by rw [zm]; exact nb)]; exact hb) (rr M fun t ht => pM.mem_iff.mp ht) (h1 _ ?_)
      rw [← e2, List.map_map]
      have := pM.map fun t => D.tup [t.2.2.1, t.2.2.2]
      have e5 : (as.zip ts).map (fun t => D.tup [t.2.2.1, t.2.2.2]) = ts.map fun t => D.tup [t.2.1, t.2.2] := by
        conv => rhs; rw [← hz2, List.map_map]
        rfl
      rw [e5] at this
      exact this
  · exact h1.elim
end
end DL
/-! # sorted(a tuple of whole numbers) -/
namespace DL
open PySem L2
open PyProof.Rows (seqObj sortedAll)
section
variable {prog : Program} {w : World} {A : Around} {E : Value → Shared → Prop} {s : Shared}
theorem srt_tupI {l : Addr} {vs : List Value} {ns : List Int} {Q : Value → Shared → Prop} (hl : PyProof.Rows.IsTup s.heap l vs.toArray) (hI : PyProof.Rows.IntsAre vs ns) (z : vs.length ≤ sizeLine)
    (h : ∀ out : List Value, PyProof.Rows.IntsAre out (out.map SrtO.iv) → (out.map SrtO.iv).Perm ns → (out.map SrtO.iv).Pairwise (· ≤ ·) → Q (.ref (s.heap.objs.size + 1)) { s with heap := sortedAll s.heap vs out.toArray }) : wpAny (model prog w) A (call (.builtin "sorted") [.ref l]) Q E s := by
  refine Calls.call_function_entry PyProof.Rows.kind_sorted PyProof.Rows.plain_sorted PyProof.Rows.entry_sorted (PyProof.Rows.args_sorted1 _) ?_
  unfold Builtin.«sorted»
  refine wpAny_bind (m := checkCount "sorted" 1 1 _) (wpAny_pure (wpAny_bind (coll_tup hl z (wpAny_bind (wpAny_newList ?_ z)))))
  have sz : (hp1 s.heap vs).objs.size = s.heap.objs.size + 1 := by rw [Heap.size_update, PyProof.Rows.size_push']
  have oL : ((hp1 s.heap vs).push (seqObj "list" vs.toArray 0)).get? (s.heap.objs.size + 1) = some (seqObj "list" vs.toArray 0) := by rw [← sz]; exact Heap.get?_push_size _ rfl
  show wpAny _ _ _ _ _ (({ s with heap := (hp1 s.heap vs).push (seqObj "list" vs.toArray 0) } : Shared))
  rw [sz]
  refine wpAny_bind (wpAny_holding (wpAny_call_entry PyProof.Rows.slot_list_sort ⟨_, oL, rfl⟩ PyProof.Rows.entry_list_sort (SrtO.list_sort_ord SrtO.swo_int oL z (fun h2 => SrtO.ints_sortable hI h2) fun out a1 a2 => ⟨_, rfl, ?_⟩) (PyProof.Rows.args_list_sort _)))
  obtain ⟨k1, k2, k3⟩ := SrtO.ints_out hI a1 a2
  exact wpAny_pure ⟨_, rfl, h out k1 k2 k3⟩
end
def rSrtTI (K : PySem.W.Frag) : List V → Hp → VK → Prop := fun vs H Q => ∃ (a : Addr) (ns : List Int), vs = [V.ref a] ∧ SqT K H a (ns.map V.int) ∧ ns.length ≤ 1000000 ∧ ∀ (ys : List Int) (p : Addr), ys.Perm ns → ys.Pairwise (· ≤ ·) → H p = none → Q (.ref p) (upd H p (.lst (ys.map V.int)))
theorem cr_srtTI {X : Cx} : CallR X (.builtin "sorted") (rSrtTI X.K) := by
  intro pins s σ H vs us Q I r h
  obtain ⟨a, ns, rfl, hs, hn, q⟩ := h
  obtain ⟨its, rv, hl, _⟩ := I.tuple hs
  rw [Vals.ref1 r]
  have l0 := rv.length
  rw [List.length_map] at l0
  refine srt_tupI hl rv.ints (by rw [← l0]; exact Nat.le_trans hn (by decide)) fun out k1 k2 k3 => ?_
  obtain ⟨ep, he⟩ := PyProof.Rows.sortedAll_at s.heap its out.toArray
  have hlen : ((out.map SrtO.iv).map V.int).length ≤ sizeLine := by rw [List.length_map, k2.length_eq]; exact Nat.le_trans hn (by decide)
  exact ⟨.ref _, upd H (s.heap.objs.size + 1) (.lst ((out.map SrtO.iv).map V.int)), I.laid (t' := s.toks) (fun _ _ => PyProof.Rows.sortedAll_old) (Nat.le_succ _) ⟨hlen, out, ep, vals_of_ints k1, he⟩, rfl, q _ _ k2 k3 (I.hok.fresh (Nat.le_succ _))⟩
def cSrtTI : DC := fun xs m P => match xs with
  | [.tup ds] => match intsD ds with
    | some ns => ns.length ≤ 1000000 ∧ P (.lst ((srtI ns).map .int)) m
    | none => False
  | _ => False
theorem srtTI_ok {K : KW} : CalD K (rSrtTI K) cSrtTI := by
  intro F H0 m H vs ds P Q ok r h g
  unfold cSrtTI at h
  split at h
  · obtain ⟨v, rfl, q⟩ := r.one
    split at h
    · rename_i ns e1
      obtain ⟨p, ws, rfl, q2, r2⟩ := tup_rp ok q
      rw [intsD_eq e1] at r2
      have e2 : ws = ns.map V.int := rpl_ints_back r2
      subst e2
      exact ⟨p, ns, rfl, q2, h.1, fun ys l h1 h2 hl => by
        have e : ys = srtI ns := perm_asc_ext (h1.trans (srtI_perm ns).symm) h2 (srtI_asc ns)
        subst e
        exact g.lst ok hl (rpl_ints _) h.2⟩
    · exact h.elim
  · exact h.elim
section
variable {X : Cx} {W : WX} {e : Expr} {es : List Expr} {qs : DA} {p pos : Pos}
theorem pd_srtTI {x : Str} (hm : X.mg x = none) (hv : bootBuiltins x = some (.builtin "sorted")) (ha : PA X (e :: es) (lA (kw X) W qs)) (hg : Gl X x := by rfl) (hn : x ≠ "__name__" := by decide) (hdb : (x == ("__debug__" : Str)) = false := by decide)
    (he : starEach (e :: es) X.env = (false, eval e X.env) :: starEach es X.env := by rfl) (hpl : (backTo pos (starEach es X.env)).any (·.1) = false := by rfl) : PE X (.Call (.Name x p) (e :: es) [] pos) (lE (kw X) W (rCB cSrtTI qs)) := pd_callB cr_srtTI srtTI_ok hm hv ha hg hn hdb he hpl
end
end DL
namespace DL
open PySem L2
open PyProof.Rows
/-! ### f(..), f a local name that holds one of two defs -/
end DL
namespace DL
open PySem L2
open PyProof.Rows
/-! ### sorted(a list of nested tuples) -/
end DL
/-! # sorted(set(xs)), xs a list of tuples of whole numbers, long, but few of them unlike -/
namespace DL
open PySem L2
open PyProof.Rows
section
variable {P : Program} {w : World} {A : Around} {E : Value → Shared → Prop} {s : Shared}
def HasT (P : Program) (w : World) (h : Heap) (a : Addr) (ks : List (Addr × List Int)) (i : Nat) : Prop := ∃ L es ep t, SetTR P w h a L es ep t ∧ Got ks i L
theorem HasT.keep {h h' h0 : Heap} {a : Addr} {ks : List (Addr × List Int)} {i : Nat} (x : HasT P w h a ks i) (ha : ∀ o, h.get? a = some o → h'.get? a = some o) (hk : ∀ p ∈ ks, IsT P w h0 p.2 p.1) (kp : ∀ b o, h0.get? b = some o → h'.get? b = some o) : HasT P w h' a ks i := by
  obtain ⟨L, es, ep, t, R, g⟩ := x
  exact ⟨L, es, ep, t, R.keep ha fun p hp => isT_keep (hk p (List.mem_of_mem_take (g.sub p hp))) kp, g⟩
end
/-! ### over data -/
end DL
/-! # sorted(set(x)), x a tuple of tuples of whole numbers -/
namespace DL
open PySem L2
open PyProof.Rows
end DL
/-! # set(..) and sorted(set(..)) of a tuple of whole numbers -/
namespace DL
open PySem L2
section
open PyProof.Rows
variable {P : Program} {w : World} {A : Around} {E : Value → Shared → Prop} {s : Shared}
theorem set_tupI {l : Addr} {xs : Array Value} (ns : List Int) {Q : Value → Shared → Prop} (calm : A.handled = none) (il : s.heap.IsTuple l xs) (hin : IntsAre xs.toList ns) (few : ns.length + 1 < scanBound)
    (fin : ∀ (g : Heap) (tk c : Nat), SetR w g s.heap.objs.size (fun j => decide (j ∈ ns)) c → c ≤ ns.length → (∀ b u, s.heap.get? b = some u → g.get? b = some u) → Q (.ref s.heap.objs.size) { s with heap := g, toks := tk }) :
    wpAny (model P w) A (call (.type "set") [.ref l]) Q E s := by
  have size : xs.size = ns.length := by rw [← Array.length_toList]; exact IntsAre.length hin
  obtain ⟨_, _, k1⟩ := F.called_set.mro
  have k2 := F.called_set.made; have k3 := F.called_set.sub; have k4 := F.called_set.notType
  have k5 := F.called_set.canCreate; have k6 := F.typeCall_set_1 (.ref l)
  refine wpAny_call (codeAny_of_tree (show wpAny _ _ (callAny (.type "set") _) _ _ _ from ?_))
  refine wpAny_pure ⟨Code.quiet_builtin _ (by decide +kernel), codeAny_builtin F.entry_type_call ?_⟩; rw [Around.under_plain (weight_type_call_type "set" [.ref l] []) rfl]
  repeat (any_goals (first | assumption | wp_step)); skip
  refine codeAny_mono (L2.code_set_led1 (.ref l) (E := E) (Q₁ := fun y z => y = .ref s.heap.objs.size ∧ z = { s with heap := s.heap.push (voidSet w) }) ⟨rfl, rfl⟩) fun r1 s1 z1 => ?_
  match r1, z1 with
  | .error e, z1 => exact z1
  | .ok (.ret y), ⟨ey, es⟩ =>
    subst ey es
    have new : (s.heap.push (voidSet w)).get? s.heap.objs.size = some (voidSet w) := Heap.get?_push_size _ rfl
    have is : Shared.TypeIs { s with heap := s.heap.push (voidSet w) } (.ref s.heap.objs.size) "set" := ⟨_, new, rfl⟩
    have k7 := F.called_set.init.lookup; have k8 := F.called_set.init.bind (.ref s.heap.objs.size)
    repeat (any_goals (first | assumption | wp_step)); skip
    refine codeAny_mono (codeAny_call_builtin (R := wants (fun y z => y = .none ∧ ∃ g tk c, z = { s with heap := g, toks := tk } ∧ SetR w g s.heap.objs.size (fun j => decide (j ∈ ns)) c ∧ c ≤ ns.length ∧ (∀ b u, s.heap.get? b = some u → g.get? b = some u)) E) F.called_set.init.plain F.entry_set_init (check_set_init_1 is ?_)) fun r2 s2 z2 => ?_
    · obtain ⟨⟨oc, od, odt, osl⟩, go, gc, gn, gd⟩ := il
      simp only at gc gd; subst gc; subst gd
      have go2 : (s.heap.push (voidSet w)).get? l = some ⟨.type "tuple", od, .seq xs gn, osl⟩ := Heap.get?_push_of_some _ go
      have il2 : (s.heap.push (voidSet w)).IsTuple l xs := ⟨_, go2, rfl, gn, rfl⟩
      have k9 := F.sub_tuple_set; have k10 := F.sub_tuple_frozenset; have k11 : (Value.type "tuple" == Value.type "dict") = false := by decide
      unfold Builtin.«set.__init__» noKeywords Builtin.Frozenset.updateFrom; generalize hit : pyIter = it
      wp_walk; subst hit
      refine wpAny_pyIter_tuple il2 (wpAny_bind (wpAny_runValue ?_))
      have lt : l < s.heap.objs.size := Heap.lt_size go
      have sz : (s.heap.push (voidSet w)).objs.size = s.heap.objs.size + 1 := Heap.size_push ..
      have off : s.heap.objs.size ∉ [(s.heap.push (voidSet w)).objs.size, l] := by
        rw [sz]; intro z; rcases List.mem_cons.mp z with z | z
        · exact absurd z (Nat.ne_of_lt (Nat.lt_succ_self _))
        · exact Nat.lt_irrefl _ (show l < l from (List.mem_singleton.mp z) ▸ lt)
      refine L2.set_update_ints ((Walks.tuple (by simp [calm]) _ l (by rw [sz]; exact Nat.ne_of_lt (Nat.lt_succ_of_lt lt)) xs).toS) s.heap.objs.size off ns size few (fun i v hv => ?_) (xs.size - 0) 0 _ (by omega) (Nat.zero_le _) ⟨⟨_, Heap.get?_push_size _ rfl, rfl, rfl⟩, il2.push _⟩ ⟨0, Nat.le_refl 0, L2.setR_new_at (Heap.get?_push_of_some _ new)⟩ fun s3 c3 mv le3 in3 => ?_
      · have hi : i < ns.length := by rw [← size]; exact (Array.getElem?_eq_some_iff.mp hv).1
        obtain ⟨t, e⟩ := IntsAre.int_at hin i v (by rw [Array.getElem?_toList]; exact hv)
        exact ⟨ns[i], t, List.getElem?_eq_getElem hi, by rw [e, List.getD_eq_getElem?_getD, List.getElem?_eq_getElem hi] <;> rfl⟩
      · obtain ⟨g3, gens3, dr3, tk3, os3⟩ := s3
        obtain rfl : gens3 = s.gens := mv.gens
        obtain rfl : dr3 = s.drawn := mv.drawn
        obtain rfl : os3 = s.os := mv.os
        refine wpAny_pure (show wpAny _ _ (ret Value.none) _ _ _ from wpAny_pure ⟨rfl, g3, tk3, c3, rfl, in3, by omega, fun b u e => ?_⟩)
        have lb : b < s.heap.objs.size := Heap.lt_size e
        refine mv.heap b u (fun z => ?_) (Heap.get?_push_of_some _ (Heap.get?_push_of_some _ e))
        rcases List.mem_cons.mp z with z | z
        · exact absurd z (Nat.ne_of_lt lb)
        · exact absurd ((List.mem_singleton.mp z).trans sz) (Nat.ne_of_lt (Nat.lt_succ_of_lt lb))
    · match r2, z2 with
      | .error e, z2 => exact z2
      | .ok (.ret y), ⟨ey, g, tk, c, es, in2, le2, kp2⟩ =>
        subst ey es
        repeat (any_goals (first | assumption | wp_step)); skip
        exact fin _ _ _ in2 le2 kp2
end
theorem isTuple_of {h : Heap} {a : Addr} {vs : Array Value} (x : PyProof.Rows.IsTup h a vs) : h.IsTuple a vs := by
  obtain ⟨o, h1, h2, n, h3⟩ := x
  exact ⟨o, h1, h2, n, h3⟩
/-- at its place in the layer -/
def rSetTI (K : PySem.W.Frag) (w : World) : List V → Hp → VK → Prop := fun vs H Q => ∃ (a : Addr) (ns : List Int), vs = [V.ref a] ∧ SqT K H a (ns.map V.int) ∧ ns.length < 1000 ∧
  ∀ (p : Addr) (c : Nat), c ≤ ns.length → H p = none → Q (.ref p) (upd H p (SetO w p (fun j => decide (j ∈ ns)) c))
theorem cr_setTI {X : Cx} (hc : X.calm = true) : CallR X (.type "set") (rSetTI X.K X.w) := by
  intro pins s σ H vs us Q I r h
  obtain ⟨a, ns, rfl, hs, hl, q⟩ := h
  obtain ⟨its, rv, pl, hz⟩ := I.tuple hs
  rw [Vals.ref1 r]
  refine set_tupI ns (I.ok.hd hc) (isTuple_of pl) (by simpa using rv.ints) (by unfold scanBound; omega) fun g tk c R lc kp => ?_
  have hn : H s.heap.objs.size = none := I.hok.fresh (Nat.le_refl _)
  exact ⟨.ref _, upd H s.heap.objs.size (SetO X.w s.heap.objs.size (fun j => decide (j ∈ ns)) c), I.laid kp (Nat.le_refl _) (setO_new R), rfl, q _ _ lc hn⟩
def tupIs : D → Option (List Int)
  | .tup ds => intsD ds
  | _ => none
theorem tupIs_rp {K : KW} {F H0 H : Hp} {m : Mu} {v : V} {d : D} {ns : List Int} (ok : Ok K F H0 m H) (r : Rp K H0 v d) (h : tupIs d = some ns) : ∃ p, v = .ref p ∧ SqT K H p (ns.map V.int) := by
  unfold tupIs at h
  split at h
  · obtain ⟨p, ws, rfl, q2, r2⟩ := tup_rp ok r
    rw [intsD_eq h] at r2
    rw [rpl_ints_back r2] at q2
    exact ⟨p, rfl, q2⟩
  · cases h
section
variable {X : Cx} {W : WX} {e : Expr} {es : List Expr} {qs : DA} {p pos : Pos}
def rSrtSTI (qs : DA) : DE := fun δ m P PX => qs δ m (fun xs m1 => match xs with
  | [x] => match tupIs x with
    | some ns => ns.length < 1000 ∧ P (.lst ((srtU ns).map .int)) m1
    | none => False
  | _ => False) PX
theorem srtSTI_core {σ : St} {H : Hp} {Q : VK} {K : KW} {w : World} (h : lE K W (rSrtSTI qs) σ H Q) : tCB (rSortedSetA w) (fun σ H R => (tCB (rSetTI K w) (lA K W qs)) σ H fun x H1 => R [x] H1) σ H Q := by
  obtain ⟨F, H0, m, δ, P, PX, ok, rs, h, g, gx⟩ := h
  refine ⟨F, H0, m, δ, _, PX, ok, rs, h, fun xs H1 H01 m1 ds s1 ok1 r1 h1 => ?_, gx⟩
  dsimp only at h1
  split at h1
  · rename_i x
    split at h1
    · rename_i ns e1
      obtain ⟨v, rfl, q⟩ := r1.one
      obtain ⟨pa, rfl, hq⟩ := tupIs_rp ok1 q e1
      refine ⟨pa, ns, rfl, hq, by omega, fun p c hc hp => ⟨p, _, c, rfl, upd_same, by omega, fun ks l h2 h3 h4 hl => ?_⟩⟩
      have e : ks = srtU ns := asc_ext h2 (srtU_asc ns) fun k => by rw [h3, mem_srtU]; simp
      subst e
      have ok2 := ok1.new hp (SetO w p (fun j => decide (j ∈ ns)) c)
      exact (g.mono (s1.trans (same_new (ok1.free hp).1))).lst ok2 hl (rpl_ints _) h1.2
    · exact h1.elim
  · exact h1.elim
theorem pd_srtSTI {p2 q2 : Pos} (hc : X.calm = true) (hm1 : X.mg "sorted" = none) (hm2 : X.mg "set" = none) (hv1 : bootBuiltins "sorted" = some (.builtin "sorted")) (hv2 : bootBuiltins "set" = some (.type "set")) (ha : PA X (e :: es) (lA (kw X) W qs))
    (hg1 : Gl X "sorted" := by rfl) (hg2 : Gl X "set" := by rfl) (he : starEach (e :: es) X.env = (false, eval e X.env) :: starEach es X.env := by rfl) (hpl : (backTo q2 (starEach es X.env)).any (·.1) = false := by rfl)
    (he2 : starEach [.Call (.Name "set" p2) (e :: es) [] q2] X.env = (false, eval (.Call (.Name "set" p2) (e :: es) [] q2) X.env) :: starEach [] X.env := by rfl) (hpl2 : (backTo pos (starEach [] X.env)).any (·.1) = false := by rfl) :
    PE X (.Call (.Name "sorted" p) [.Call (.Name "set" p2) (e :: es) [] q2] [] pos) (lE (kw X) W (rSrtSTI qs)) :=
  PE.imp (pe_callB (cr_sortedSetA hc) hg1 hm1 hv1 (pa_cons (pe_callTy (cr_setTI hc) hg2 hm2 hv2 ha (by decide) (by decide) he hpl) pa_nil he2) (by decide) (by decide) he2 hpl2) fun _ _ _ h => srtSTI_core h
end
end DL
namespace DL
open PySem L2
open PyProof.Rows
/-! ### {k: v for ..} over nothing: a dict whose keys are tuples -/
end DL
namespace DL
open PySem L2
open PyProof.Rows
/-! ### d.setdefault(k, v), the keys texts or whole numbers -/
end DL
namespace DL
open PySem L2
open PySem.Spec
open PyProof.Rows
/-! ### {k: v for ..}, the keys tuples -/
/-- the turn's store -/
def putAt (K : PySem.W.Frag) (w : World) (D : Addr) (y z : V) (H : Hp) (N : Hp → Prop) : Prop := ∃ b L k, y = .ref b ∧ H D = some (DGO w D L) ∧ KsOk K H L ∧ KeyV K H y k ∧ k.depth ≤ 8 ∧ L.length < sizeLine ∧ N (upd H D (DGO w D (putL L k b z)))
theorem putAt_run {X : Cx} {pins : List (Addr × Obj)} {σ : L2.St} {H : Hp} {s : Shared} {E : Value → Shared → Prop} {D : Addr} {y z : V} {u r : Value} {N : Hp → Prop} {Q : Unit → Shared → Prop} (hu : X.A.units + 8 < cLine) (I : L2.Inv X pins σ H s) (ry : RelV y u) (rz : RelV z r)
    (h : putAt X.K X.w D y z H N) (hQ : ∀ s' H', L2.Inv X pins σ H' s' → N H' → Q () s') : wpAny (model X.prog X.w) X.A (dictSet D u r) Q E s := by
  obtain ⟨b, L, k, rfl, e, hk, kv, kd, z1, q⟩ := h
  cases ry
  obtain ⟨xs, rl, hd, z2, dd⟩ := dg_at I (.inl e) hk
  have hz : xs.length ≤ sizeLine := by
    have := congrArg List.length (pr_keys rl)
    rw [List.length_map, List.length_map] at this
    omega
  exact wpAny_dictSet_heap (knd := nestedKind X.prog X.w) (hsz := hz) hu ⟨keyV_is I kv rfl, kd⟩ dd fun h' dd' hs => hQ _ _ (dg_put _ I e hd rl rz z1 dd' hs) q
def turnG (K : PySem.W.Frag) (w : World) (g : TG) (tt : TT) (tk tv : TE) (vs : List Nat) (σ : L2.St) (D : Addr) (N : Hp → Prop) (x : V) (H : Hp) : Prop :=
  g x (wipe σ vs) H fun σ2 H2 => wipe σ2 vs = wipe σ vs ∧ tt σ2 H2 fun b H3 => if b = true then tk σ2 H3 fun y H4 => tv σ2 H4 fun z H5 => putAt K w D y z H5 N else N H3
def tDcG (K : PySem.W.Frag) (w : World) (wi : TI) (g : TG) (tt : TT) (tk tv : TE) (vs : List Nat) : TE := fun σ H Q => wi σ H fun J H1 => ∀ D, H1 D = none → ∃ V : Nat → Nat → Hp → Prop, (∃ m, V 0 m (upd H1 D (DGO w D []))) ∧ ∀ i m H, V i m H →
  (J.stop i H ∧ Q (.ref D) H) ∨ (J.go i H ∧ ∃ N : Hp → Prop, (∀ H', N H' → ∃ m', m' < m ∧ V (i + 1) m' H') ∧ ∀ x H', J.yld i H x H' → turnG K w g tt tk tv vs σ D N x H')
/-- the block's loop, in the block's own context -/
theorem loopG {Y : Cx} {tg iter kx vx : Expr} {ifs : List Expr} {scope : Scope} {pos : Pos} {fp : List Addr} {it D : Addr} {tn : Nat → Heap → Prop} {J : It} {g : TG} {tt : TT} {tk tv : TE} {vs : List Nat} {σ : L2.St} {V : Nat → Nat → Hp → Prop} {Qd : Hp → Prop} {R : Result → Shared → Prop}
    (T : Turn Y.prog Y.w Y.K tg J fp it tn) (hu : Y.A.units + 8 < cLine) (hc : Y.calm = true) (hx : Y.xe = fun _ _ => False) (pg : PG Y tg g) (pt : PTs Y ifs tt) (pk : PE Y kx tk) (pe : PE Y vx tv)
    (stat : ∀ {σ' : L2.St} {H' : Hp} {s' : Shared}, L2.Inv Y [] σ' H' s' → (∀ b ∈ fp, H' b = none) → ∀ b ∈ fp, FpOk Y [] H' b)
    (turn : ∀ i m H, V i m H → (J.stop i H ∧ Qd H) ∨ (J.go i H ∧ ∃ N : Hp → Prop, (∀ H', N H' → ∃ m', m' < m ∧ V (i + 1) m' H') ∧ ∀ x H', J.yld i H x H' → turnG Y.K Y.w g tt tk tv vs σ D N x H'))
    (fin : ∀ s' H', L2.Inv Y [] (wipe σ vs) H' s' → Qd H' → R (.ok .next) s') {m0 : Nat} {H0 : Hp} {s0 : Shared} (I0 : L2.Inv Y [] (wipe σ vs) H0 s0) (t0 : tn 0 s0.heap) (n0 : ∀ b ∈ fp, H0 b = none) (v0 : V 0 m0 H0) :
    codeAny (model Y.prog Y.w) Y.A (.compLoop (.DictComp kx vx [⟨tg, iter, ifs, 0⟩] scope pos) 0 (.ref it) (.ref D) Y.env) R s0 := by
  have F : ∀ {α : Type} {t : Sem α} {Q Q' : α → Shared → Prop} {E : Value → Shared → Prop} {s : Shared}, wpAny (model Y.prog Y.w) Y.A t Q Y.xe s → (∀ a s, Q a s → Q' a s) → wpAny (model Y.prog Y.w) Y.A t Q' E s := fun h hq => by
    rw [hx] at h
    exact thnF h hq
  refine compLoop_anyD (fun n s' => ∃ i H', L2.Inv Y [] (wipe σ vs) H' s' ∧ tn i s'.heap ∧ (∀ b ∈ fp, H' b = none) ∧ V i n H') ?_ m0 ⟨0, H0, I0, t0, n0, v0⟩
  rintro n s1 ⟨i, H1, I1, t1, n1, v1⟩
  have f1 := stat I1 n1
  rcases turn i n H1 v1 with ⟨z, q⟩ | ⟨z, N, hN, step⟩
  · refine thnF (T.done Y rfl rfl rfl hc i [] s1 _ H1 (fun _ _ => False) I1 f1 t1 z) fun r s2 hr => ?_
    obtain ⟨rfl, I2⟩ := hr
    exact fin s2 H1 I2 q
  · refine thnF (T.item Y rfl rfl rfl hc i [] s1 _ H1 (fun _ _ => False) I1 f1 t1 z) fun r s2 hr => ?_
    obtain ⟨u, rfl, h2⟩ := hr
    refine thnF h2 fun _ s3 h3 => ?_
    obtain ⟨x, H3, I3, rx, y3, t3, n3⟩ := h3
    have at3 := T.obj _ _ t3
    have st := step x H3 y3
    unfold turnG at st
    refine F (pg.run _ s3 _ H3 x u _ (I3.pinned (stat I3 n3) at3) rx st) fun _ s4 h4 => ?_
    obtain ⟨σ4, H4, I4, hw, h4⟩ := h4
    -- what a turn leaves
    have ends : ∀ (s' : Shared) (H' : Hp), L2.Inv Y ([] ++ pinsAt fp s3.heap) σ4 H' s' → N H' → ∃ m', m' < n ∧ ∃ i H', L2.Inv Y [] (wipe σ vs) H' s' ∧ tn i s'.heap ∧ (∀ b ∈ fp, H' b = none) ∧ V i m' H' := fun s' H' I' hn => by
      obtain ⟨m', lt, v'⟩ := hN H' hn
      have same : ∀ b ∈ fp, ∀ o, s3.heap.get? b = some o → s'.heap.get? b = some o ∧ H' b = none := fun b hb o e => by
        have w := I'.pin (b, o) (List.mem_append_right _ (List.mem_append_right _ (mem_pinsAt hb e)))
        exact ⟨w.1, w.2.1⟩
      have len : (wipe σ vs).length = σ4.length := by rw [← hw, wipe_length]
      refine ⟨m', lt, i + 1, H', (I'.unpinned (pins := [])).weak len (fun j v e => ?_), T.keep _ _ _ t3 fun b hb o e => (same b hb o e).1, fun b hb => ?_, v'⟩
      · rw [← hw] at e; exact (wipe_some e).1
      · obtain ⟨o, e, _⟩ := at3 b hb
        exact (same b hb o e).2
    refine F (pt.run _ s4 σ4 H4 _ I4 h4) fun b s5 h5 => ?_
    obtain ⟨H5, I5, h5⟩ := h5
    cases b with
    | false => exact ends s5 H5 I5 h5
    | true =>
      rw [if_pos rfl] at h5 ⊢
      refine F (pk.run _ s5 σ4 H5 _ I5 h5) fun ku s6 h6 => ?_
      obtain ⟨yk, H6, I6, r6, h6⟩ := h6
      refine F (pe.run _ s6 σ4 H6 _ I6 h6) fun vu s7 h7 => ?_
      obtain ⟨yv, H7, I7, r7, h7⟩ := h7
      exact putAt_run hu I7 r6 r7 h7 ends
section
variable {X : Cx} {kx vx tg iter : Expr} {ifs : List Expr} {scope : Scope} {own : List (Str × Nat)} {pos pos' : Pos} {wi : TI} {g : TG} {tt : TT} {tk tv : TE}
/-- the whole comprehension, its dict born ahead of the block -/
theorem dcG_run {pins : List (Addr × Obj)} {s : Shared} {σ : L2.St} {H : Hp} {Q : VK} {use : Option (Value → Sem Unit)} {Qf : Value → Shared → Prop} (hu : X.A.units + 8 < cLine) (hc : X.calm = true) (hN : X.N.Nodup) (I : L2.Inv X pins σ H s) (hi : PI X tg iter wi) (ok : BlkOk X.N X.env.scope scope own)
    (hg : ∀ (s : Shared) (H : Hp) (C : Addr) (cl : List (Str × Addr)) (fp : List Addr), PG (X.blk s H scope (compEnvC scope cl C X.env) fp) tg g) (ht : ∀ (s : Shared) (H : Hp) (C : Addr) (cl : List (Str × Addr)) (fp : List Addr), PTs (X.blk s H scope (compEnvC scope cl C X.env) fp) ifs tt)
    (hk : ∀ (s : Shared) (H : Hp) (C : Addr) (cl : List (Str × Addr)) (fp : List Addr), PE (X.blk s H scope (compEnvC scope cl C X.env) fp) kx tk) (he : ∀ (s : Shared) (H : Hp) (C : Addr) (cl : List (Str × Addr)) (fp : List Addr), PE (X.blk s H scope (compEnvC scope cl C X.env) fp) vx tv)
    (hs : ∀ x, foldedSetIterable iter X.env x = pure x) (h : tDcG X.K X.w wi g tt tk tv (own.map (·.2)) σ H Q)
    (out : ∀ D C s' m H', L2.Inv X pins σ H' s' → Q (.ref D) H' → s'.heap.Ns C m → FpOk X pins H' C → compPost (model X.prog X.w) X.A X.xe use Qf (.ref D) C (.ok .next) s') :
    wpAny (model X.prog X.w) X.A (comprehension (.DictComp kx vx [⟨tg, iter, ifs, 0⟩] scope pos) scope X.env pos' newDict false (eval iter X.env) use) Qf X.xe s := by
  have free : ∀ y ∈ scope.names, y.2 = .free → ∃ c, X.env.cells.lookup y.1 = some c := fun y hy e => (ok.free y hy e).elim (fun k => I.ok.has _ (.inl k)) fun k => I.ok.has _ (.inr k)
  refine wpAny_comprehension_free (use := use) rfl hs (closure_ok free) ok.kind (fun y hy e => by rw [ok.uniq y hy, e]) (thn (hi.run pins s σ H _ I h) fun xv s1 h1 => thn h1 fun itv s2 h2 => ?_)
  obtain ⟨it, fp, tn, J, H2, rfl, I2, T, t2, f2, q⟩ := h2
  refine wpAny_newObj_type (newEnv_comp ?_)
  have hD := I2.hok.fresh (Nat.le_refl s2.heap.objs.size)
  obtain ⟨V, ⟨m0, v0⟩, turn⟩ := q s2.heap.objs.size hD
  -- the dict
  have I3 := I2.laid (a := s2.heap.objs.size) (o := DGO X.w s2.heap.objs.size []) (h' := s2.heap.push { cls := .type "dict", data := .dict #[] }) (t' := s2.toks) (fun _ _ q => Heap.get?_push_of_some _ q) (Nat.le_refl _) (dg_empty s2.heap I2.big)
  have below : ∀ b ∈ fp, b < s2.heap.objs.size := fun b hb => by
    obtain ⟨o, e, _⟩ := T.obj _ _ t2 b hb
    exact Heap.lt_size e
  have f3 : ∀ b ∈ fp, FpOk X pins (upd H2 s2.heap.objs.size (DGO X.w s2.heap.objs.size [])) b ∧ b < (s2.heap.push { cls := .type "dict", data := .dict #[] }).objs.size := fun b hb => by
    have lt := below b hb
    refine ⟨⟨by rw [upd_ne (Nat.ne_of_lt lt)]; exact (f2 b hb).1, (f2 b hb).2⟩, by rw [Heap.size_push]; exact Nat.lt_succ_of_lt lt⟩
  have t3 : tn 0 (s2.heap.push { cls := .type "dict", data := .dict #[] }) := T.keep _ _ _ t2 fun b _ o e => Heap.get?_push_of_some _ e
  -- the block
  have I4 := block_start (s := { s2 with heap := s2.heap.push { cls := .type "dict", data := .dict #[] } }) I3 ok hN f3
  have t4 : tn 0 (pushCells ((s2.heap.push { cls := .type "dict", data := .dict #[] }).push { cls := .type "dict", data := .dict #[] }) scope.names) := T.keep _ _ _ t3 fun b _ o e => pushCells_keeps _ _ _ _ (Heap.get?_push_of_some _ e)
  generalize hs3 : ({ s2 with heap := s2.heap.push { cls := .type "dict", data := .dict #[] } } : Shared) = s3 at *
  have e3 : s2.heap.push { cls := .type "dict", data := .dict #[] } = s3.heap := by rw [← hs3]
  rw [e3] at t4 f3
  generalize hD2 : s2.heap.objs.size = D at *
  generalize hH3 : upd H2 D (DGO X.w D []) = H3 at *
  have nfp : ∀ b ∈ fp, H3 b = none := fun b hb => (f3 b hb).1.1
  generalize hcl : cellsFrom (s3.heap.objs.size + 1) scope.names (cloFrom X.env.cells scope.names []) = cl at I4
  have loop : codeAny (model X.prog X.w) X.A (.compLoop (.DictComp kx vx [⟨tg, iter, ifs, 0⟩] scope pos) 0 (.ref it) (.ref D) (compEnvC scope cl s3.heap.objs.size X.env)) (compPost (model X.prog X.w) X.A X.xe use Qf (.ref D) s3.heap.objs.size) { s3 with heap := pushCells (s3.heap.push { cls := .type "dict", data := .dict #[] }) scope.names } := by
    refine loopG (Y := X.blk s3 H3 scope (compEnvC scope cl s3.heap.objs.size X.env) fp) (m0 := m0) T hu hc rfl (hg ..) (ht ..) (hk ..) (he ..) (fun I' hn b hb => ?_) turn (fun s5 H5 I5 q5 => ?_) I4 t4 nfp v0
    · exact ⟨hn b hb, (I'.ok.exf b hb).1, I'.ok.exfs b hb, .inl hb, fun x c e => (I'.ok.exf b hb).2 x c e, fun p hp => absurd (show p ∈ ([] : List (Addr × Obj)) ++ [] from hp) (by simp)⟩
    · obtain ⟨m, ns, _⟩ := I5.loc
      have ns : s5.heap.Ns s3.heap.objs.size m := ns
      have none5 : H5 s3.heap.objs.size = none := I5.free
      exact out D _ s5 m H5 (I3.call' (ch := fp) I5.os I5.base I5.hok I5.bare fun b hb => let w := (f3 b hb).1; ⟨w.2.2.2.1, w.2.1, w.2.2.2.2.1, w.2.2.2.2.2⟩) q5 ns (I3.fpOk (Nat.le_refl _) none5)
  subst hcl
  exact codeAny_compStart_dict loop (T.self X.A 0 _ _ _ t4 loop)
/-- as a value -/
theorem pe_dcG (hu : X.A.units + 8 < cLine) (hc : X.calm = true) (hN : X.N.Nodup) (hi : PI X tg iter wi) (ok : BlkOk X.N X.env.scope scope own)
    (hg : ∀ (s : Shared) (H : Hp) (C : Addr) (cl : List (Str × Addr)) (fp : List Addr), PG (X.blk s H scope (compEnvC scope cl C X.env) fp) tg g) (ht : ∀ (s : Shared) (H : Hp) (C : Addr) (cl : List (Str × Addr)) (fp : List Addr), PTs (X.blk s H scope (compEnvC scope cl C X.env) fp) ifs tt)
    (hk : ∀ (s : Shared) (H : Hp) (C : Addr) (cl : List (Str × Addr)) (fp : List Addr), PE (X.blk s H scope (compEnvC scope cl C X.env) fp) kx tk) (he : ∀ (s : Shared) (H : Hp) (C : Addr) (cl : List (Str × Addr)) (fp : List Addr), PE (X.blk s H scope (compEnvC scope cl C X.env) fp) vx tv)
    (hs : ∀ x, foldedSetIterable iter X.env x = pure x := by intro _; rfl) : PE X (.DictComp kx vx [⟨tg, iter, ifs, 0⟩] scope pos) (tDcG X.K X.w wi g tt tk tv (own.map (·.2))) := by
  refine ⟨fun pins s σ H Q I h => ?_⟩
  rw [arm_eval_DictComp]
  refine dcG_run hu hc hN I hi ok hg ht hk he hs h fun D C s' m H' I' q hn f => ⟨m, hn, fun h' sb => ?_⟩
  obtain ⟨_, c1, _, c3, c4, c5⟩ := id f
  exact ⟨.ref D, H', I'.turned (t' := s'.toks) (fun b o hb e => (sb.2 b hb).trans e) f.1 c1 c3 c4 c5, rfl, q⟩
end
end DL
namespace DL
open PySem L2
open PyProof.Rows
/-! ### {k: v for ..}, the keys tuples: the reading -/
def rComG0 (Ph : Mu → Prop) (rg : DG) (qt : DT) (rk rv : DE) (δ : DSt) (P : List (D × D) → Mu → Prop) : List D → List (D × D) → Mu → Prop
  | [], acc, m => Ph m ∧ P acc m
  | d :: ds, acc, m => Ph m ∧ rg d δ m fun δ' m' => qt δ' m' (fun k m1 => match k with
    | true => rk δ' m1 (fun y m2 => rv δ' m2 (fun z m3 => ktB y = true ∧ acc.length < sizeLine ∧ rComG0 Ph rg qt rk rv δ P ds (putG acc y z) m3) noX) noX
    | false => rComG0 Ph rg qt rk rv δ P ds acc m1) noX
@[irreducible] def rComG (Ph : Mu → Prop) (rg : DG) (qt : DT) (rk rv : DE) (δ : DSt) (P : List (D × D) → Mu → Prop) (ds : List D) (acc : List (D × D)) (m : Mu) : Prop := rComG0 Ph rg qt rk rv δ P ds acc m
section
variable {Ph : Mu → Prop} {rg : DG} {qt : DT} {rk rv : DE} {δ : DSt} {P : List (D × D) → Mu → Prop} {d : D} {ds : List D} {acc : List (D × D)} {m : Mu}
theorem rComG_nil : rComG Ph rg qt rk rv δ P [] acc m = (Ph m ∧ P acc m) := by unfold rComG; rfl
theorem rComG_cons : rComG Ph rg qt rk rv δ P (d :: ds) acc m = (Ph m ∧ rg d δ m fun δ' m' => qt δ' m' (fun k m1 => match k with
    | true => rk δ' m1 (fun y m2 => rv δ' m2 (fun z m3 => ktB y = true ∧ acc.length < sizeLine ∧ rComG Ph rg qt rk rv δ P ds (putG acc y z) m3) noX) noX
    | false => rComG Ph rg qt rk rv δ P ds acc m1) noX) := by
  have e : rComG Ph rg qt rk rv δ P ds = rComG0 Ph rg qt rk rv δ P ds := by funext acc m; unfold rComG; rfl
  rw [e]
  unfold rComG
  rfl
end
def rDcG (ri : DI) (js : List Nat) (rg : DG) (qt : DT) (rk rv : DE) : DE := fun δ m P PX => ri δ m (fun Ph ds m1 => rComG Ph rg qt rk rv (wipeD δ js) (fun acc m2 => ∀ q, m2 q = none → P (.adr q) (mset m2 q (.dgt acc))) ds [] m1) PX
theorem rgs_mono {K : KW} {H H' : Hp} {L : List (NestedKey × Addr × V)} {kvs : List (D × D)} (s : Same H H') (r : Paired (RG K H) L kvs) : Paired (RG K H') L kvs := by
  induction r with
  | nil => exact .nil
  | cons h _ ih => exact .cons ⟨h.1, h.2.1, h.2.2.1.mono s, h.2.2.2.mono s⟩ ih
theorem dcG_lift {K : KW} {W : WX} {ri : DI} {g : TG} {rg : DG} {qt : DT} {rk rv : DE} {js : List Nat} (go : Gok K js g rg) {σ : L2.St} {H : Hp} {Q : VK}
    (h : lE K W (rDcG ri js rg qt rk rv) σ H Q) : tDcG K.fr K.w (lI K W ri) g (lT K noW qt) (lE K noW rk) (lE K noW rv) js σ H Q := by
  obtain ⟨F, H0, m, δ, P, PX, ok, rs, h, gv, gx⟩ := h
  refine ⟨F, H0, m, δ, _, _, ok, rs, h, fun J H1 H01 m1 Ph ds s1 ok1 it ph h1 q hq => ?_, gx⟩
  have hF : F q = none := ok1.freeF hq
  obtain ⟨Pf, hPf⟩ : ∃ Pf : List (D × D) → Mu → Prop, Pf = fun acc m2 => ∀ q, m2 q = none → P (.adr q) (mset m2 q (.dgt acc)) := ⟨_, rfl⟩
  rw [← hPf] at h1
  refine ⟨fun i k H' => ∃ H0' m' L acc, Same H01 H0' ∧ Ok K (upd F q (DGO K.w q L)) H0' m' H' ∧ Paired (RG K H0') L acc ∧ i + k = ds.length ∧ rComG Ph rg qt rk rv (wipeD δ js) Pf (ds.drop i) acc m', ⟨ds.length, H01, m1, [], [], Same.refl _, ok1.addF hq, .nil, by omega, h1⟩, ?_⟩
  rintro i k H2 ⟨H02, m2, L, acc, s2, ok2, rl, hik, h2⟩
  by_cases lt : i < ds.length
  · rw [List.drop_eq_getElem_cons lt, rComG_cons] at h2
    obtain ⟨ph2, h2⟩ := h2
    obtain ⟨go1, yl⟩ := (it _ i H2 H02 m2 s2 ok2 ph2).1 _ (List.getElem?_eq_getElem lt)
    refine .inr ⟨go1, fun H' => ∃ H0' m' L acc, Same H01 H0' ∧ Ok K (upd F q (DGO K.w q L)) H0' m' H' ∧ Paired (RG K H0') L acc ∧ rComG Ph rg qt rk rv (wipeD δ js) Pf (ds.drop (i + 1)) acc m', fun H' ⟨H0', m', L', acc', z1, z2, z3, z4⟩ => ⟨k - 1, by omega, H0', m', L', acc', z1, z2, z3, by omega, z4⟩, fun x H' y => ?_⟩
    obtain ⟨H03, s3, ok3, r3⟩ := yl x H' y
    refine go _ H03 m2 H' _ _ x _ _ _ ok3 ((rs.wipe js).mono (s1.trans (s2.trans s3))) r3 h2 fun σ4 δ4 rs4 hw4 h4 => ⟨by rw [hw4, wipe_twice], ?_⟩
    refine ⟨_, H03, m2, δ4, _, noX, ok3, rs4, h4, fun b H5 H05 m5 s5 ok5 h5 => ?_, fun _ _ _ _ _ _ _ _ _ z => z⟩
    cases b with
    | false =>
      rw [if_neg Bool.false_ne_true]
      exact ⟨H05, m5, L, acc, (s2.trans s3).trans s5, ok5, rgs_mono s5 (rgs_mono s3 rl), h5⟩
    | true =>
      rw [if_pos rfl]
      refine ⟨_, H05, m5, δ4, _, noX, ok5, rs4.mono s5, h5, fun y H6 H06 m6 d6 s6 ok6 r6 h6 => ?_, fun _ _ _ _ _ _ _ _ _ z => z⟩
      refine ⟨_, H06, m6, δ4, _, noX, ok6, (rs4.mono s5).mono s6, h6, fun z H7 H07 m7 d7 s7 ok7 r7 h7 => ?_, fun _ _ _ _ _ _ _ _ _ z => z⟩
      obtain ⟨kt, sz, h7⟩ := h7
      have rl7 := rgs_mono s7 (rgs_mono s6 (rgs_mono s5 (rgs_mono s3 rl)))
      obtain ⟨b, rfl⟩ := ktB_ref kt r6
      obtain ⟨k1, k2, _⟩ := ktB_tup kt
      exact ⟨b, L, nk d6, rfl, (ok7.fr q _ upd_same).1, rg_ks ok7.same rl7, keyV_of ok7.same (r6.mono s7) k1, k2, by rw [rgg_len rl7]; exact sz, H07, m7, putL L (nk d6) b z, putG acc d6 d7, (((s2.trans s3).trans s5).trans s6).trans s7, ok7.reFD, rg_put rl7 kt (r6.mono s7) r7, h7⟩
  · obtain rfl : i = ds.length := by omega
    rw [List.drop_length, rComG_nil] at h2
    obtain ⟨ok3, w1, w2, w3⟩ := ok2.unframe hF
    refine .inl ⟨(it _ _ H2 H02 m2 s2 ok2 h2.1).2 rfl, ?_⟩
    have h3 := h2.2
    rw [hPf] at h3
    exact gv _ _ _ _ _ (s1.trans s2) (ok3.claim (o := .dgt acc) w2 hF ⟨L, w1, rl⟩) (.adr q) (h3 q w3)
section
variable {X : Cx} {W : WX} {tg : Expr} {pos : Pos} {ifs : List Expr} {scope : Scope} {own : List (Str × Nat)} {ri : DI} {g : TG} {rg : DG} {qt : DT} {rk rv : DE}
theorem pd_dcG {kx vx iter : Expr} {js : List Nat} (hu : X.A.in1.units + 8 < cLine) (hc : X.calm = true) (hN : X.N.Nodup) (hi : PI X tg iter (lI (kw X) W ri)) (ok : BlkOk X.N X.env.scope scope own) (go : Gok (kw X) js g rg) (hj : own.map (·.2) = js)
    (hg : ∀ (s : Shared) (H : Hp) (C : Addr) (cl : List (Str × Addr)) (fp : List Addr), PG (X.blk s H scope (compEnvC scope cl C X.env) fp) tg g) (ht : ∀ (s : Shared) (H : Hp) (C : Addr) (cl : List (Str × Addr)) (fp : List Addr), PTs (X.blk s H scope (compEnvC scope cl C X.env) fp) ifs (lT (kw X) noW qt))
    (hk : ∀ (s : Shared) (H : Hp) (C : Addr) (cl : List (Str × Addr)) (fp : List Addr), PE (X.blk s H scope (compEnvC scope cl C X.env) fp) kx (lE (kw X) noW rk)) (he : ∀ (s : Shared) (H : Hp) (C : Addr) (cl : List (Str × Addr)) (fp : List Addr), PE (X.blk s H scope (compEnvC scope cl C X.env) fp) vx (lE (kw X) noW rv))
    (hs : ∀ x, foldedSetIterable iter X.env x = pure x := by intro _; rfl) :
    PE X (.DictComp kx vx [⟨tg, iter, ifs, 0⟩] scope pos) (lE (kw X) W (rDcG ri js rg qt rk rv)) := by
  subst hj
  have hu' : X.A.units + 8 < cLine := by have e : X.A.in1.units = X.A.units + 1 := rfl; omega
  exact PE.imp (pe_dcG hu' hc hN hi ok hg ht hk he hs) fun _ _ _ h => dcG_lift go h
end
end DL
namespace DL
open PySem L2
/-! ### != of tuples whose items are lists that may change -/
end DL
namespace DL
open PySem L2
open PyProof.Rows
/-! ### d[k] = v, the keys texts or whole numbers -/
end DL
namespace DL
open PySem L2 PySem.Spec PyProof.Rows
/-! ### the law's own frame, where nothing is under way: repr of data -/
/-- a def's promise to a caller with nothing under way -/
structure RunG (P : Program) (w : World) (K : PySem.W.Frag) (mg : Str → Option Value) (base : Heap) (k : Nat) (f : Addr) (fd : FuncData) (ps : List Str) (sp : Sp) : Prop where
  go : ∀ (A : Around) (out : List Env) (z : Shared) (G : Hp) (ar : Args) (us : List Value) (vs : List V) (Q : VK) (E : XK), A.guards = some [] → Room k A → Env0 P w K mg base A out z G → BindsTo z fd ar (ps.zip us) → Vals vs us → sp vs G Q E → codeAny (model P w) A (.call (.ref f) ar) (CR (L2.CX P w) out P w G z Q E) z
section
variable {P : Program} {w : World} {K : PySem.W.Frag} {mg : Str → Option Value} {base : Heap}
theorem runG_of {x qual : Str} {st : Stmt} {f : Addr} {fd : FuncData} {N ps : List Str} {k : Nat} {sp : Sp} (F : Fun K x qual st f fd) (S : FnScope N ps (defScope st)) (ln : ∀ vs G Q E, sp vs G Q E → vs.length = ps.length)
    (hb : ∀ (cdv : Value) (A : Around) (out : List Env) (z : Shared) (G : Hp) (vs : List V) (Q : VK) (E : XK), A.guards = some [] → Room k (A.deeper (envOfC qual (defScope st) z.heap.objs.size f cdv)) → sp vs G Q E →
      ∃ t, PSs (cxOf (L2.CX P w) P w K mg base N qual (defScope st) f cdv A out z G E) (defBody st) t ∧ t { nx := fun _ G' => Q .non G', rt := Q } (start N vs) G) : RunG P w K mg base (k + 1) f fd ps sp := by
  obtain ⟨oc, od, kV, doc, pm, an, cdv, ct, osl, rfl, lk, hcd⟩ := F.ex
  constructor
  intro A out z G ar us vs Q E hg hr e0 bd rv hsp
  have hlen := ln _ _ _ _ hsp
  have inK : K.In z.heap := e0.mod.kin.keeps fun p u e => (e0.bs p u e).1
  have nolim : z.heap.NoLimit := e0.mod.nolimit.keeps fun p u e => (e0.bs p u e).1
  have kinds : ∀ y ∈ ps.zip us, (defScope st).names.lookup y.1 = some .local ∨ ((defScope st).names.lookup y.1 = some .cell ∧ ((cellsFrom (z.heap.objs.size + 1) (defScope st).names []).lookup y.1).isSome = true) := by
    rintro ⟨n, v⟩ hy
    exact (S.par n (List.of_mem_zip hy).1).elim .inl fun q => .inr ⟨q, PySem.W.cellsFrom_some _ _ _ (.inl q)⟩
  apply codeAny_call_function hr.depth (inK _ _ lk) rfl S.co S.gen rfl (PySem.W.codeRec_of inK hcd) (bd _ _ _ _ ?_)
  apply wpAny_newFunctionEnv_cells S.kind kinds
  intro env he z1 ic
  subst he
  refine And.intro (nolim.keeps ic.toInCall.keep) (codeAny_func ?_)
  obtain ⟨t, ht, hq⟩ := hb cdv A out z G vs Q E hg (hr.deeper _) hsp
  have I0 : Inv (cxOf (L2.CX P w) P w K mg base N qual (defScope st) f cdv A out z G E) [] (start N vs) G z1 := inv_start S hr.hd e0 hlen rv ic
  have stop : ∀ {σ' : L2.St} {G' : Hp} {v : V} {u : Value} {z' : Shared}, Inv (cxOf (L2.CX P w) P w K mg base N qual (defScope st) f cdv A out z G E) [] σ' G' z' → RelV v u → Q v G' → CE out P w G z Q u z' := by
    intro σ' G' v u z' J rv' q
    exact ⟨v, G', J.os, J.bare, J.base, J.hok, rv', q⟩
  refine wpAny_mono (ht.run [] z1 (start N vs) G _ I0 hq) (fun fl z' hs => ?_) fun e z' hs => hs
  match fl, hs with
  | .ret u, ⟨v, σ', G', J, rv', q⟩ => exact stop J rv' q
  | .next, ⟨σ', G', J, q⟩ => exact stop (v := V.non) (u := Value.none) J rfl q
  | .brk, ⟨_, _, _, q⟩ => exact q.elim
  | .cont, ⟨_, _, _, q⟩ => exact q.elim
/-- the law's def, seen from the top -/
structure LawG (P : Program) (w : World) (K : PySem.W.Frag) (mg : Str → Option Value) (base : Heap) (k : Nat) (st : Stmt) (x : Str) : Prop where
  ex : ∃ f fd, mg "law" = some (.ref f) ∧ Fun K "law" "law" st f fd ∧ RunG P w K mg base k f fd [x] (lP ⟨K, w⟩ spLaw)
theorem lawG_ok {st : Stmt} {N : List Str} {x : Str} {k : Nat} {r : DS} (G : FunAt K mg "law" "law" st) (S : FnScope N [x] (defScope st)) (hlen : ∀ ds m Q PX, spLaw ds m Q PX → ds.length = [x].length)
    (hd : ∀ (f : Addr) (cdv : Value) (A : Around) (out : List Env) (z : Shared) (H : Hp) (E : XK), A.guards = some [] → Room k (A.deeper (envOfC "law" (defScope st) z.heap.objs.size f cdv)) →
      PSs (cxOf (L2.CX P w) P w K mg base N "law" (defScope st) f cdv A out z H E) (defBody st) (lS ⟨K, w⟩ (fun c d _ H => E c d H) r))
    (hp : ∀ ds m Q PX, spLaw ds m Q PX → r (dEnds Q PX) (dstart N ds) m) : LawG P w K mg base (k + 1) st x := by
  obtain ⟨f, fd, e, G⟩ := G
  refine ⟨f, fd, e, G, runG_of G S (fun vs H Q E h => ?_) fun cdv A out z H vs Q E hg hr h => ⟨_, hd f cdv A out z H E hg hr, ?_⟩⟩
  · obtain ⟨F, H0, m, ds, Q', PX, ok, rl, h, _⟩ := h
    exact rl.length.trans (hlen _ _ _ _ h)
  · obtain ⟨F, H0, m, ds, Q', PX, ok, rl, h, g, gx⟩ := h
    exact ⟨F, H0, m, _, _, ok, rps_start rl, hp ds m Q' PX h, ⟨fun σ' H' H0' m' δ' s ok' _ z => g _ _ _ _ _ s ok' .non z, g, fun _ _ _ _ _ _ _ _ z => z.elim, fun _ _ _ _ _ _ _ _ z => z.elim, fun c xd σ' H' H0' m' fs δ' s ok' _ x z => gx c xd H' H0' m' fs s ok' x z⟩⟩
end
theorem law_mkG {P : Program} {w : World} {K : PySem.W.Frag} {mg : Str → Option Value} {k : Nat} {x : Str} {st : Stmt} {fa : Addr} (B : BindAll "law" "law" st [x]) (FA : FunAt K mg "law" "law" st) (hfa : mg "law" = some (.ref fa))
    (G : ∀ base : Heap, K.In base → base.Ns mainGlobals mg → LawG P w K mg base k st x) :
    ∃ fd : FuncData, (∀ (z : Shared) (u : Value), BindsTo z fd ⟨[u], []⟩ [(x, u)]) ∧ ∀ base : Heap, K.In base → base.Ns mainGlobals mg → RunG P w K mg base k fa fd [x] (lP ⟨K, w⟩ spLaw) := by
  obtain ⟨f0, fd0, e0, F0⟩ := FA
  rw [hfa] at e0
  cases e0
  obtain ⟨oc, od, kV, doc, pm, an, cdv, ct, osl, rfl, lk, hcd⟩ := id F0.ex
  refine ⟨_, fun s u => BindsTo.of_eq (B kV doc pm an cdv ct [u] rfl), fun base hK hN => ?_⟩
  obtain ⟨f, fd, e, G1, G2⟩ := (G base hK hN).ex
  rw [hfa] at e
  cases e
  obtain ⟨oc', od', kV', doc', pm', an', cdv', ct', osl', e', lk', hcd'⟩ := id G1.ex
  rw [lk] at lk'
  cases lk'
  exact G2
/-- the law called from the top -/
theorem law_callG {P : Program} {w : World} {K : PySem.W.Frag} {mg mb : Str → Option Value} {k : Nat} {fa a : Addr} {fd : FuncData} {x : Str} {sp : Sp} {z : Shared} {vs : List Value} {ns : List Int}
    (KX : K.In z.heap) (hns : z.heap.Ns mainGlobals mg) (hb : z.heap.Ns builtinsNs mb) (hbb : ∀ x : Str, x ≠ "__name__" → mb x = bootBuiltins x) (hlim : z.heap.NoLimit) (hgen : z.gens = #[])
    (ha : z.heap.get? a = some { cls := .type "list", data := .seq vs.toArray }) (hi : IntsAre vs ns) (hl : ns.length ≤ sizeLine) (hr : Room k callerA)
    (F : ∀ base : Heap, K.In base → base.Ns mainGlobals mg → RunG P w K mg base k fa fd [x] sp) (bd : ∀ (z : Shared) (u : Value), BindsTo z fd ⟨[u], []⟩ [(x, u)])
    (hsp : ∀ G : Hp, Only G → SqL K G a (ns.map V.int) → sp [.ref a] G (fun v _ => v = .bl true) fun _ _ _ => False)
    (hCX : ∀ G e s', L2.CX P w [] G z (fun _ _ _ => False) e s' → False) :
    codeAny (model P w) callerA (.call (.ref fa) ⟨[.ref a], []⟩) (fun r s' => r = .ok (.ret (.bool true)) ∧ OldK z.heap s'.heap ∧ s'.os = z.os ∧ AllBare s'.gens) z := by
  have rv := vals_ints hi
  have main : ∀ G : Hp, Only G → SqL K G a (ns.map V.int) → HOk P w G z.heap → (∀ b, G b ≠ none → b = a) → (G a ≠ none → K.lookup a = none) →
      codeAny (model P w) callerA (.call (.ref fa) ⟨[.ref a], []⟩) (fun r s' => r = .ok (.ret (.bool true)) ∧ OldK z.heap s'.heap ∧ s'.os = z.os ∧ AllBare s'.gens) z := by
    intro G only sq hok alone apart
    -- what is tracked is the script, no dict and nothing of the module's
    have noDict : ∀ {b : Addr} {o : Obj} {es : Array DictEntry} {ep : Nat}, z.heap.get? b = some o → o.data = .dict es ep → G b = none := by
      intro b o es ep e d
      by_cases q : G b = none
      · exact q
      · obtain rfl := alone b q
        rw [ha] at e
        cases e
        exact absurd (show Data.seq vs.toArray _ = Data.dict es ep from d) (by intro y; cases y)
    have ns' : ∀ {b : Addr} {m : Str → Option Value}, z.heap.Ns b m → (hidT z.heap G).Ns b m := by
      rintro b m ⟨o, es, ep, e, d, r⟩
      exact ⟨o, es, ep, hidT_get e (noDict e d), d, r⟩
    have inK : K.In (hidT z.heap G) := by
      intro b o e
      refine hidT_get (KX b o e) ?_
      by_cases q : G b = none
      · exact q
      · obtain rfl := alone b q
        rw [apart q] at e
        cases e
    obtain ⟨mc, c1, c2⟩ := hlim
    have env : Env0 P w K mg (hidT z.heap G) callerA [] z G := ⟨rfl, ⟨inK, ns' hns, ⟨mb, ns' hb, hbb⟩, ⟨mc, ns' c1, c2⟩⟩, fun _ _ e => of_hidT e, Nat.le_of_eq (hidT_size _ _), trivial, (fun b y => by cases y), hok, .of_eq hgen⟩
    refine codeAny_mono ((F _ inK (ns' hns)).go callerA [] z G ⟨[.ref a], []⟩ [.ref a] [.ref a] _ _ rfl hr env (bd z (.ref a)) (.cons rfl .nil) (hsp G only sq)) fun r s' h => ?_
    match r, h with
    | .error e, h => exact (hCX G e s' h).elim
    | .ok .next, h => exact False.elim h
    | .ok .brk, h => exact False.elim h
    | .ok .cont, h => exact False.elim h
    | .ok (.ret u), h =>
      obtain ⟨v, G', os, bare, un, hok', rr, q⟩ := h
      obtain rfl : v = V.bl true := q
      obtain rfl : u = Value.bool true := rr
      refine ⟨rfl, OldK.of_keep fun b o e => ?_, os, bare⟩
      cases y : G b with
      | none => exact un.keep b o e y (fun t => absurd (show b ∈ ([] : List Addr) from t) (by simp)) (by simp)
      | some u =>
        rcases only b with t | ⟨ob, xs, t⟩
        · rw [y] at t; cases t
        · have t2 := un.frzs b ob _ t
          obtain ⟨e1, _⟩ := hok b _ t
          obtain ⟨e2, _⟩ := hok' b _ t2
          rw [e] at e1
          cases e1
          exact e2
  have lenV := hi.length
  cases hk : K.lookup a with
  | some o =>
    have e := KX a o hk
    rw [ha] at e
    cases e
    exact main (fun _ => none) (fun _ => .inl rfl) (.inr ⟨_, vs.toArray, _, hk, rfl, rfl, rfl, by rw [List.size_toArray, lenV]; exact hl, by simpa using rv⟩) (fun b u y => by cases (show (none : Option HO) = some u from y)) (fun b y => absurd rfl y) fun y => absurd rfl y
  | none =>
    have at_ : ∀ b, (if b = a then some (HO.frz { cls := .type "list", data := .seq vs.toArray } (.lst (ns.map V.int))) else none) ≠ none → b = a := fun b y => by
      by_cases t : b = a
      · exact t
      · exact absurd (if_neg t) y
    refine main (fun b => if b = a then some (.frz { cls := .type "list", data := .seq vs.toArray } (.lst (ns.map V.int))) else none) (fun b => ?_) (.inl (.inr ⟨{ cls := .type "list", data := .seq vs.toArray }, if_pos rfl⟩)) (fun b u y => ?_) at_ fun _ => hk
    · by_cases t : b = a
      · exact .inr ⟨_, _, if_pos t⟩
      · exact .inl (if_neg t)
    · obtain rfl := at_ b (fun t => by rw [show (if b = a then some (HO.frz { cls := .type "list", data := .seq vs.toArray } (.lst (ns.map V.int))) else none) = some u from y] at t; cases t)
      cases (if_pos rfl).symm.trans y
      exact ⟨ha, by rw [List.length_map]; exact hl, vs, _, rv, ha⟩
theorem walk_ofG {l : PySem.W.OpenLaw} {n k : Nat} {q : Program} {loose : List Str} {XP : (Str → Option Value) → Heap → Prop} {YP : World → Heap → Prop} {d : DefRec} {K : Params → PySem.W.Frag} {sp : World → Sp} {x : Str}
    (hn : l.most = some n) (hn2 : n ≤ sizeLine) (hdf : d.params.defaults = []) (hr : Room k callerA) (hY : ∀ (w : World) (h : Heap), YP w h → (K w.params).In h)
    (F : ∀ (w : World) (mg : Str → Option Value) (fa : Addr) (h : Heap), (K w.params).In h → h.Ns mainGlobals mg → mg d.name = some (.ref fa) → ∃ fd : FuncData, (∀ (z : Shared) (u : Value), BindsTo z fd ⟨[u], []⟩ [(x, u)]) ∧ ∀ base : Heap, (K w.params).In base → base.Ns mainGlobals mg → RunG l.prog w (K w.params) mg base k fa fd [x] (sp w))
    (hsp : ∀ (w : World) (G : Hp) (a : Addr) (ns : List Int), ns.length ≤ n → Only G → SqL (K w.params) G a (ns.map V.int) → sp w [.ref a] G (fun v _ => v = .bl true) fun _ _ _ => False)
    (hCX : ∀ (w : World) (G : Hp) (z : Shared) (e : Value) (s' : Shared), L2.CX l.prog w [] G z (fun _ _ _ => False) e s' → False) :
    PySem.W.WalkO q loose XP YP l.row.toRowW d [] (fun f vs => PySem.call f vs) := by
  refine Att.attach_call hn hdf fun w s₀ s₁ mg mb fa o pm cd doc a vs ns G Y ho hd hcd hmg hobj hints hlen hg => ?_
  obtain ⟨fd, bd, hF⟩ := F w mg fa _ (hY w _ Y) G.T.g hmg
  exact law_callG (hY w _ Y) G.T.g G.T.b G.T.builtins G.T.nolimit hg hobj hints (Nat.le_trans hlen hn2) hr hF bd (fun H hO hS => hsp w H a ns hlen hO hS) fun H e s' => hCX w H s₁ e s'
end DL
namespace DL
open PySem L2
local macro_rules | `(tactic| walk_at "dl") => `(tactic| ((conv => whnf); try dsimp only))
/-! ### looks -/
inductive Lk where
  | any | is (n : Int) | frm (n : Int) | upto (n : Int) | inn (a b : Int) | one (ns : List Int) | but (l : Lk)
def Lk.d : Lk → D
  | .any => .tup [.str "any"]
  | .is n => .tup [.str "is", .int n]
  | .frm n => .tup [.str "from", .int n]
  | .upto n => .tup [.str "to", .int n]
  | .inn a b => .tup [.str "in", .int a, .int b]
  | .one ns => .tup [.str "one", .tup (ns.map .int)]
  | .but l => .tup [.str "but", l.d]
def Lk.dep : Lk → Nat
  | .but l => l.dep + 1
  | _ => 1
def Lk.nums : Lk → List Int
  | .any => []
  | .is n => [n]
  | .frm n => [n]
  | .upto n => [n]
  | .inn a b => [a, b]
  | .one ns => ns
  | .but l => l.nums
def Lk.few : Lk → Prop
  | .one ns => ns.length ≤ 4
  | .but l => l.few
  | _ => True
/-- numbers of a fit size -/
def Nm (n : Int) : Prop := n.natAbs < 2 ^ 1900
structure Lk.Ok (l : Lk) : Prop where
  nm : ∀ n ∈ l.nums, Nm n
  few : l.few
  dp : l.dep ≤ 2
theorem Lk.Ok.but {l : Lk} (ok : (Lk.but l).Ok) : l.Ok := ⟨ok.nm, ok.few, Nat.le_trans (Nat.le_succ _) ok.dp⟩
def Lk.text : Lk → Str
  | .any => "*"
  | .is n => dig n
  | .frm n => dig n ++ (".." : Str)
  | .upto n => (".." : Str) ++ dig n
  | .inn a b => dig a ++ (".." : Str) ++ dig b
  | .one ns => ("{" : Str) ++ Txt.join "," (ns.map dig) ++ ("}" : Str)
  | .but l => ("!" : Str) ++ l.text
theorem Nm.len {n : Int} (h : Nm n) : (dig n).length ≤ 1901 := PySem.int_text_length_le (k := 1900) (by decide) (PySem.Flt.log2_lt_of (by decide) h) |> fun h => by
  have e : (dig n).length = (toString n).length := by
    show (Str.ofString (toString n)).cps.size = _
    rw [← Array.length_toList, PyProof.Rows.signs_ofString, List.length_map]
    rfl
  rw [e]; exact h
/-! ### two looks written alike are alike -/
/-! ### looks as data -/
theorem pur_ints (ns : List Int) : purL (ns.map .int) = true := purL_all fun d hd => by obtain ⟨n, _, rfl⟩ := List.mem_map.mp hd; rw [pur]
theorem fit_txt (s : String) (n : Nat) : fitD n (.str (Str.ofString s)) := by
  have h : ∀ c ∈ (Str.ofString s).cps.toList, c < 1114112 := fun c hc => by
    rw [PyProof.Rows.signs_ofString] at hc
    obtain ⟨ch, _, rfl⟩ := List.mem_map.mp hc
    have := ch.valid
    simp only [UInt32.isValidChar, Nat.isValidChar] at this
    show ch.val.toNat < 1114112
    omega
  cases n <;> exact h
end DL
namespace DL
open PySem L2
local macro_rules | `(tactic| walk_at "dl") => `(tactic| ((conv => whnf); try dsimp only))
abbrev sp__law_cell_at : SpD := spCellAt
abbrev rd__law_cell_at : DS := rdCellAt
theorem ln__law_cell_at : ∀ ds m Q PX, sp__law_cell_at ds m Q PX → ds.length = 2 := by rintro ds m Q PX ⟨d, k, rfl, _⟩; rfl
theorem pu__law_cell_at : ∀ ds m Q PX, sp__law_cell_at ds m Q PX → rd__law_cell_at (dEnds Q PX) (dstart ["_law_script", "_law_k"] ds) m := cellAt_pure _ _
abbrev sp__law_well : SpD := spWellK
abbrev rd__law_well : DS := rdWell
theorem ln__law_well : ∀ ds m Q PX, sp__law_well ds m Q PX → ds.length = 1 := by rintro ds m Q PX ⟨d, rfl, _⟩; rfl
theorem pu__law_well : ∀ ds m Q PX, sp__law_well ds m Q PX → rd__law_well (dEnds Q PX) (dstart ["_law_cell"] ds) m := fun ds m Q PX h => well_pure _ ds m Q PX (wellK_well h)
abbrev sp__law_draw : SpD := spDrawK
abbrev rd__law_draw : DS := rdDraw
theorem ln__law_draw : ∀ ds m Q PX, sp__law_draw ds m Q PX → ds.length = 2 := by rintro ds m Q PX ⟨d, k, rfl, _⟩; rfl
theorem pu__law_draw : ∀ ds m Q PX, sp__law_draw ds m Q PX → rd__law_draw (dEnds Q PX) (dstart ["_law_well_here", "_law_many", "_law_number", "_law_digit"] ds) m := fun ds m Q PX h => draw_pure _ _ _ _ ds m Q PX (drawK_draw h)
/-- one draw of a number below many, at its place in a reading -/
theorem Dr.num {w : Addr} {n : Nat} {m : Mu} {P P2 : DK} {many : Int} {R : D → Prop} (h : Dr w n R m P) (hn : 1 ≤ n) (h0 : 0 < many) (h1 : many.natAbs < 2 ^ 200)
    (h2 : ∀ (r : Int) m', 0 ≤ r → r < many → Kp [w] m m' → Dr w (n - 1) R m' P → P2 (.int r) m') : spDrawK [.adr w, .int many] m P2 fun _ _ _ => False := by
  obtain ⟨k, wl, hk, h⟩ := h
  refine ⟨w, many, rfl, h0, h1, k, wl, by omega, fun d m' hr kp wl' => ?_⟩
  obtain ⟨r, r0, r1, rfl⟩ := hr
  exact h2 r m' r0 r1 kp ⟨k + 1, wl', by omega, fun d2 m2 hd kp2 w2 => h d2 m2 hd (kp.trans kp2) (by rw [show k + 1 + (n - 1) = k + n by omega] at w2; exact w2)⟩
theorem Dr.sub {w : Addr} {n j : Nat} {m : Mu} {P P2 : DK} {R R2 : D → Prop} (h : Dr w n R m P) (hn : j ≤ n) (h2 : ∀ d m', R2 d → Kp [w] m m' → Dr w (n - j) R m' P → P2 d m') : Dr w j R2 m P2 := by
  obtain ⟨k, wl, hk, h⟩ := h
  refine ⟨k, wl, by omega, fun d m' hr kp wl' => h2 d m' hr kp ⟨k + j, wl', by omega, fun d2 m2 hd kp2 w2 => h d2 m2 hd (kp.trans kp2) (by rw [show k + j + (n - j) = k + n by omega] at w2; exact w2)⟩⟩
theorem Dr.done {w : Addr} {n : Nat} {m : Mu} {P : DK} {R : D → Prop} {d : D} (h : Dr w n R m P) (hd : R d) : P d m := by
  obtain ⟨k, wl, hk, h⟩ := h
  exact h d m hd (Kp.refl _ _) (wl.mono (by omega))
theorem Dr.imp {w : Addr} {n : Nat} {m : Mu} {P P2 : DK} {R R2 : D → Prop} (h : Dr w n R m P) (h1 : ∀ d, R2 d → R d) (h2 : ∀ d m', Kp [w] m m' → R2 d → P d m' → P2 d m') : Dr w n R2 m P2 := by
  obtain ⟨k, wl, hk, h⟩ := h
  exact ⟨k, wl, hk, fun d m' hd kp w' => h2 d m' kp hd (h d m' (h1 d hd) kp w')⟩
/-- something else of ours is new -/
theorem Dr.new {w : Addr} {n : Nat} {m m1 : Mu} {P : DK} {R : D → Prop} (h : Dr w n R m P) (kp : Kp [] m m1) : Dr w n R m1 P := by
  obtain ⟨k, wl, hk, h⟩ := h
  exact ⟨k, wl.keep kp (by simp), hk, fun d m' hd kp2 w' => h d m' hd ((kp.more (by simp)).trans kp2) w'⟩
/-- items that can be told by their place -/
def sqD : D → Option (List D)
  | .lst xs => some xs
  | .tup xs => some xs
  | _ => none
/-- .. of ours, too -/
def Sq (m : Mu) (w : Addr) (X : D) (xs : List D) : Prop := sqD X = some xs ∨ ∃ q, X = .adr q ∧ q ≠ w ∧ m q = some (.lst xs)
def sp__law_one : SpD := fun ds m P _ => ∃ (w : Addr) (X : D) (xs : List D), ds = [.adr w, X] ∧ Sq m w X xs ∧ 0 < xs.length ∧ xs.length ≤ 1000000 ∧ Dr w 1 (fun d => d ∈ xs) m P
def rd__law_one : DS :=
    sRet (rOp oIx (rV 1) (rCall sp__law_draw [] (rCons (rV 0) (rCons (rCB cLen (rCons (rV 1) (rNil))) (rNil)))))
theorem ln__law_one : ∀ ds m Q PX, sp__law_one ds m Q PX → ds.length = 2 := by rintro ds m Q PX ⟨d, k, _, rfl, _⟩; rfl
theorem pu__law_one : ∀ ds m Q PX, sp__law_one ds m Q PX → rd__law_one (dEnds Q PX) (dstart ["_law_well_here", "_law_some"] ds) m := by
  rintro ds m Q PX ⟨w, X, xs, rfl, hX, h0, h1, h⟩
  have pw : (2 : Nat) ^ 200 > 1000000 := by decide
  have fin : spDrawK [.adr w, .int (xs.length : Nat)] m (fun y m2 => oIx X y m2 Q) PX := by
    obtain ⟨k, wl, hk, h⟩ := h
    refine ⟨w, _, rfl, by omega, by omega, k, wl, hk, fun d m' hd kp w' => ?_⟩
    obtain ⟨r, r0, r1, rfl⟩ := hd
    obtain ⟨x, e1, e2⟩ := atI_some r0 r1
    have hq := h x m' (List.mem_of_getElem? e2) kp w'
    rcases hX with hX | ⟨q, rfl, hw, hX⟩
    · cases X with
      | lst ys => cases hX; show (match atI xs r with | some d => Q d m' | none => False); rw [e1]; exact hq
      | tup ys => cases hX; show (match atI xs r with | some d => Q d m' | none => False); rw [e1]; exact hq
      | _ => cases hX
    · show (match asL m' (.adr q) with | some ds => _ | none => False)
      rw [asL_adr (kp q _ (by simpa using hw) hX)]
      show (match atI xs r with | some d => Q d m' | none => False)
      rw [e1]; exact hq
  rcases hX with hX | ⟨q, rfl, hw, hX⟩
  · cases X with
    | lst ys => cases hX; exact fin
    | tup ys => cases hX; exact fin
    | _ => cases hX
  · walk_at "dl"
    rw [asL_adr hX]
    exact fin
/-- whole numbers below 2 ^ b -/
def Bd (b : Nat) (n : Int) : Prop := n.natAbs < 2 ^ b
theorem Bd.nm {b : Nat} {n : Int} (h : Bd b n) (hb : b ≤ 1900 := by decide) : Nm n := Nat.lt_of_lt_of_le h (Nat.pow_le_pow_right (by decide) hb)
theorem Bd.mono {b c : Nat} {n : Int} (h : Bd b n) (hb : b ≤ c := by omega) : Bd c n := Nat.lt_of_lt_of_le h (Nat.pow_le_pow_right (by decide) hb)
/-! ### each once -/
theorem dat_pur {m : Mu} {d : D} (h : pur d = true) : dat m d = d := by
  cases d <;> first | rfl | (simp [pur] at h)
end DL
namespace DL
open PySem L2
local macro_rules | `(tactic| walk_at "dl") => `(tactic| ((conv => whnf); try dsimp only))
def Lk.uniq : Lk → Prop
  | .one ns => ns.Nodup
  | .but l => l.uniq
  | _ => True
structure Lk.Good (b : Nat) (l : Lk) : Prop where
  nm : ∀ n ∈ l.nums, Bd b n
  few : l.few
  dp : l.dep ≤ 2
  un : l.uniq
theorem Lk.Good.ok {b : Nat} {l : Lk} (h : l.Good b) (hb : b ≤ 1900 := by decide) : l.Ok := ⟨fun n hn => (h.nm n hn).nm hb, h.few, h.dp⟩
theorem Wl.some {m : Mu} {w : Addr} {k : Nat} (h : Wl m w k) : m w ≠ none := by
  obtain ⟨a, b, c, e, _⟩ := h.ex
  rw [e]; exact fun z => by cases z
/-! ### a number by its figures -/
/-! ### a look as it is written, word by word -/
end DL
namespace DL
open PySem L2
local macro_rules | `(tactic| walk_at "dl") => `(tactic| ((conv => whnf); try dsimp only))
local macro_rules | `(tactic| walk_at "sd") => `(tactic| first | trivial | exact Nat.zero_le _ | assumption | decide | omega | exact len_line (by first | decide | omega | (simp; done) | (simp; omega)) | (simp; done) | (simp; omega) | exact ⟨by decide, by decide, by decide⟩ | exact .inl ⟨by decide, by decide⟩ | exact .inl ⟨by omega, by omega⟩ | exact wide_div (b := 64) (by decide) (by decide) (by decide) (by decide))
local macro_rules | `(tactic| walk_at "go") => `(tactic| ((conv => whnf); (try dsimp only); repeat ((with_reducible refine And.intro ?_ ?_); (focus (walk_at "sd")); (conv => whnf); (try dsimp only))))
local macro_rules | `(tactic| walk_at "th") => `(tactic| repeat' (first | assumption | exact thD_txt _ _ | exact thD_int | exact thD_non | exact thD_bl | (refine thD_mono _ _ _ ?_ (by assumption); decide) | refine List.forall_mem_cons.mpr (And.intro ?_ ?_) | exact List.forall_mem_nil _ | refine thD_tup (by simp) ?_ | refine thD_lst (by simp) ?_))
local macro_rules | `(tactic| walk_at "ln") => `(tactic| (intro ds m Q PX h; repeat (obtain ⟨_, h⟩ := h); subst_vars; rfl))
section
/-! ### comprehensions that begin with something; two fors -/
/-! ### looks: which numbers fit, where they turn -/
def Lk.fits : Lk → Int → Bool
  | .any, _ => true
  | .is k, n => decide (n = k)
  | .frm k, n => decide (k ≤ n)
  | .upto k, n => decide (n ≤ k)
  | .inn a b, n => decide (a ≤ n) && decide (n ≤ b)
  | .one ns, n => ns.any fun k => decide (k = n)
  | .but l, n => !l.fits n
theorem dep_pos (l : Lk) : 1 ≤ l.dep := by cases l <;> simp [Lk.dep]
def Lk.edges (l : Lk) : List Int := l.nums.flatMap fun n => [n, n + 1]
/-! ### turns, samples -/
def Lk.turns (l : Lk) : List Int := (srtU l.edges).filter fun n => l.fits n != l.fits (n - 1)
/-! ### == of lists of whole numbers, of pure data -/
theorem fit_lst_ints (ns : List Int) (n : Nat) : fitD (n + 1) (.lst (ns.map .int)) := fun d hd => by obtain ⟨k, _, rfl⟩ := List.mem_map.mp hd; cases n <;> trivial
theorem pur_lst_ints (ns : List Int) : pur (.lst (ns.map .int)) = true := by rw [pur]; exact pur_ints ns
theorem shpI {m : Mu} {ns : List Int} : shp (dat m (.lst (ns.map .int))) := by rw [dat_pur (pur_lst_ints ns)]; exact shp_of (fit_lst_ints ns 1)
theorem shpN {m : Mu} : shp (dat m (.lst [])) := shpI (ns := [])
/-! ### the sample that a number is like -/
/-! ### the mathematics of turning -/
theorem turn_edge : ∀ (l : Lk) (n : Int), l.fits n ≠ l.fits (n - 1) → n ∈ l.edges := by
  have mem : ∀ (ns : List Int) (n : Int), (n ∈ ns ∨ n - 1 ∈ ns) → n ∈ ns.flatMap fun k => [k, k + 1] := fun ns n h => by
    rw [List.mem_flatMap]
    rcases h with h | h
    · exact ⟨n, h, by simp⟩
    · exact ⟨n - 1, h, by simp⟩
  intro l
  induction l with
  | any => intro n h; exact absurd rfl h
  | is k => intro n h; refine mem _ n ?_; simp only [Lk.fits, ne_eq, decide_eq_decide] at h; simp only [Lk.nums, List.mem_singleton]; omega
  | frm k => intro n h; refine mem _ n ?_; simp only [Lk.fits, ne_eq, decide_eq_decide] at h; simp only [Lk.nums, List.mem_singleton]; omega
  | upto k => intro n h; refine mem _ n ?_; simp only [Lk.fits, ne_eq, decide_eq_decide] at h; simp only [Lk.nums, List.mem_singleton]; omega
  | inn a b =>
    intro n h; refine mem _ n ?_
    simp only [Lk.fits, ne_eq, ← Bool.decide_and, decide_eq_decide] at h
    simp only [Lk.nums, List.mem_cons, List.not_mem_nil, or_false]; omega
  | one ns =>
    intro n h
    refine mem _ n ?_
    show n ∈ ns ∨ n - 1 ∈ ns
    by_cases h1 : n ∈ ns
    · exact .inl h1
    · by_cases h2 : n - 1 ∈ ns
      · exact .inr h2
      · refine absurd ?_ h
        have e : ∀ k : Int, k ∉ ns → (Lk.one ns).fits k = false := fun k hk => by
          show (ns.any fun j => decide (j = k)) = false
          rw [List.any_eq_false]
          exact fun j hj z => hk (of_decide_eq_true z ▸ hj)
        rw [e _ h1, e _ h2]
  | but l ih => intro n h; exact ih n fun z => h (by show (!l.fits n) = !l.fits (n - 1); rw [z])
theorem mem_turns (l : Lk) (n : Int) : n ∈ l.turns ↔ l.fits n ≠ l.fits (n - 1) := by
  unfold Lk.turns
  rw [List.mem_filter, mem_srtU]
  constructor
  · rintro ⟨_, h⟩ e; rw [e] at h; simp at h
  · intro h; exact ⟨turn_edge l n h, by simpa using h⟩
theorem srtU_id {l : List Int} (h : l.Pairwise (· < ·)) : srtU l = l := asc_ext (srtU_asc l) h fun x => mem_srtU x l
/-- where nothing turns between -/
theorem fits_const (l : Lk) (a : Int) : ∀ (k : Nat), (∀ j : Int, a < j → j ≤ a + k → j ∉ l.turns) → l.fits (a + k) = l.fits a
  | 0, _ => by simp
  | k + 1, h => by
    have ih := fits_const l a k fun j h1 h2 => h j h1 (by omega)
    have h1 := h (a + (k + 1 : Nat)) (by omega) (Int.le_refl _)
    rw [mem_turns, Decidable.not_not] at h1
    rw [h1, ← ih]
    congr 1
    omega
theorem fits_same (l : Lk) {a b : Int} (hab : a ≤ b) (h : ∀ j : Int, a < j → j ≤ b → j ∉ l.turns) : l.fits b = l.fits a := by
  have := fits_const l a (b - a).toNat (fun j h1 h2 => h j h1 (by omega))
  have e : a + ((b - a).toNat : Int) = b := by omega
  rw [e] at this
  exact this
end
end DL
namespace DL
open PySem L2
local macro_rules | `(tactic| walk_at "dl") => `(tactic| ((conv => whnf); try dsimp only))
local macro_rules | `(tactic| walk_at "sd") => `(tactic| first | trivial | exact Nat.zero_le _ | assumption | decide | omega | exact len_line (by first | decide | omega | (simp; done) | (simp; omega)) | (simp; done) | (simp; omega) | exact ⟨by decide, by decide, by decide⟩ | exact .inl ⟨by decide, by decide⟩ | exact .inl ⟨by omega, by omega⟩ | exact wide_div (b := 64) (by decide) (by decide) (by decide) (by decide))
local macro_rules | `(tactic| walk_at "go") => `(tactic| ((conv => whnf); (try dsimp only); repeat ((with_reducible refine And.intro ?_ ?_); (focus (walk_at "sd")); (conv => whnf); (try dsimp only))))
local macro_rules | `(tactic| walk_at "th") => `(tactic| repeat' (first | assumption | exact thD_txt _ _ | exact thD_int | exact thD_non | exact thD_bl | exact thD_mono _ _ _ (by decide) (by assumption) | refine List.forall_mem_cons.mpr (And.intro ?_ ?_) | exact List.forall_mem_nil _ | refine thD_tup (by simp) ?_ | refine thD_lst (by simp) ?_))
local macro_rules | `(tactic| walk_at "ln") => `(tactic| (intro ds m Q PX h; repeat (obtain ⟨_, h⟩ := h); subst_vars; rfl))
/-! ### things of any kind -/
def thD : Nat → D → Prop
  | _, .non => True
  | _, .bl _ => True
  | _, .int _ => True
  | _, .str x => x.length ≤ 100000 ∧ ∀ c ∈ x.cps.toList, c < 1114112
  | n + 1, .lst ds => ds.length ≤ 10000 ∧ ∀ d ∈ ds, thD n d
  | n + 1, .tup ds => ds.length ≤ 10000 ∧ ∀ d ∈ ds, thD n d
  | _, _ => False
theorem thD_fit : ∀ (n : Nat) (d : D), thD n d → fitD n d := by
  intro n
  induction n with
  | zero => intro d h; cases d <;> first | trivial | exact h.2 | exact h
  | succ n ih =>
    intro d h
    cases d with
    | lst ds => exact fun d hd => ih d (h.2 d hd)
    | tup ds => exact fun d hd => ih d (h.2 d hd)
    | str x => exact h.2
    | _ => first | trivial | exact h
theorem thD_mono : ∀ (n k : Nat) (d : D), n ≤ k → thD n d → thD k d := by
  intro n
  induction n with
  | zero => intro k d _ h; cases d <;> first | (cases k <;> exact h) | cases h
  | succ n ih =>
    intro k d hk h
    cases k with
    | zero => omega
    | succ k =>
      cases d with
      | lst ds => exact ⟨h.1, fun d hd => ih k d (by omega) (h.2 d hd)⟩
      | tup ds => exact ⟨h.1, fun d hd => ih k d (by omega) (h.2 d hd)⟩
      | _ => first | trivial | exact h
def Thg (d : D) : Prop := thD 20 d ∨ ∃ kvs, d = .dct kvs
def isWhole : D → Bool
  | .int _ => true
  | _ => false
theorem Thg.cases_ {d : D} (h : Thg d) {p : D → Prop} (h1 : p .non) (h2 : ∀ b, p (.bl b)) (h3 : ∀ i, p (.int i)) (h4 : ∀ x, x.length ≤ 100000 → (∀ c ∈ x.cps.toList, c < 1114112) → p (.str x)) (h5 : ∀ ds, ds.length ≤ 10000 → (∀ d ∈ ds, thD 19 d) → p (.lst ds)) (h6 : ∀ ds, ds.length ≤ 10000 → (∀ d ∈ ds, thD 19 d) → p (.tup ds)) (h7 : ∀ kvs, p (.dct kvs)) : p d := by
  rcases h with h | ⟨kvs, rfl⟩
  · cases d with
    | non => exact h1
    | bl b => exact h2 b
    | int i => exact h3 i
    | str x => exact h4 x h.1 h.2
    | lst ds => exact h5 ds h.1 h.2
    | tup ds => exact h6 ds h.1 h.2
    | _ => cases h
  · exact h7 kvs
theorem thg_of {n : Nat} {d : D} (h : thD n d) (hn : n ≤ 20 := by decide) : Thg d := .inl (thD_mono n 20 d hn h)
def sp_is_whole : SpD := fun ds m P _ => ∃ d, ds = [d] ∧ Thg d ∧ P (.bl (isWhole d)) m
def rd_is_whole : DS :=
    sRet (rAndV (rCB cIsi (rCons (rV 0) (rCons (rC (.ty "int")) (rNil)))) (rNotV (rCB cIsi (rCons (rV 0) (rCons (rC (.ty "bool")) (rNil))))))
theorem ln_is_whole : ∀ ds m Q PX, sp_is_whole ds m Q PX → ds.length = 1 := fun ds m Q PX h => by (repeat (obtain ⟨_, h⟩ := h)); subst_vars; rfl
theorem pu_is_whole : ∀ ds m Q PX, sp_is_whole ds m Q PX → rd_is_whole (dEnds Q PX) (dstart ["thing"] ds) m := by
  rintro ds m Q PX ⟨d, rfl, hd, h⟩
  revert h
  refine hd.cases_ (p := fun d => Q (.bl (isWhole d)) m → rd_is_whole (dEnds Q PX) (dstart ["thing"] [d]) m) ?_ ?_ ?_ ?_ ?_ ?_ ?_ <;> (intros; walk_at "go"; assumption)
abbrev sp__law_is_whole : SpD := sp_is_whole
def rd__law_is_whole : DS :=
    sRet (rAndV (rCB cIsi (rCons (rV 0) (rCons (rC (.ty "int")) (rNil)))) (rNotV (rCB cIsi (rCons (rV 0) (rCons (rC (.ty "bool")) (rNil))))))
theorem ln__law_is_whole : ∀ ds m Q PX, sp__law_is_whole ds m Q PX → ds.length = 1 := ln_is_whole
theorem pu__law_is_whole : ∀ ds m Q PX, sp__law_is_whole ds m Q PX → rd__law_is_whole (dEnds Q PX) (dstart ["_law_thing"] ds) m := pu_is_whole
/-! ### no two alike -/
noncomputable def ndB (xs : List D) : Bool := @decide xs.Nodup (Classical.propDecidable _)
theorem ndB_iff {xs : List D} : ndB xs = true ↔ xs.Nodup := @decide_eq_true_iff _ (Classical.propDecidable _)
/-! ### looks, read by their form -/
noncomputable def oneB (xs : List D) : Bool := decide (xs.length ≤ 4) && (xs.all isWhole && ndB xs)
noncomputable def oneD : D → Bool
  | .tup xs => oneB xs
  | _ => false
noncomputable def lkB (w : Str) (rest : List D) : Bool :=
  if w = "any" then rest.isEmpty else if w = "one" then (match rest with | [x] => oneD x | _ => false)
  else if w = "is" ∨ w = "from" ∨ w = "to" then decide (rest.length = 1) && rest.all isWhole else if w = "in" then decide (rest.length = 2) && rest.all isWhole else false
noncomputable def plB : D → Bool
  | .tup (.str w :: rest) => lkB w rest
  | _ => false
noncomputable def lookB : D → Bool
  | .tup [.str w, x] => if w = "but" then plB x else lkB w [x]
  | d => plB d
theorem all_whole (ns : List Int) : (ns.map D.int).all isWhole = true := by simp [isWhole]
theorem nd_ints (ns : List Int) : ndB (ns.map .int) = decide ns.Nodup := by
  rw [Bool.eq_iff_iff, ndB_iff, decide_eq_true_eq]
  exact ⟨fun h => (List.pairwise_map.mp h).imp fun z e => z (by rw [e]), fun h => List.Pairwise.map _ (fun a b z e => z (D.int.inj e)) h⟩
/-! ### is_plain, is_look -/
theorem shpT {n : Nat} {d : D} {m : Mu} (h : thD n d) (hn : n ≤ 60 := by decide) : shp (dat m d) := by
  cases d <;> first | exact shp_of (thD_fit _ _ h) hn | (cases n <;> cases h)
theorem deq_tup_nil {xs : List D} : deq (.tup xs) (.tup []) = xs.isEmpty := by
  unfold deq
  rw [py, py, PyData.eqv]
  cases xs with
  | nil => rw [pyL, PyData.eqvAll]; rfl
  | cons d l => rw [pyL, pyL, PyData.eqvAll]; rfl
theorem deq_lst_nil {xs : List D} : deq (.lst xs) (.lst []) = xs.isEmpty := by
  unfold deq
  rw [py, py, PyData.eqv]
  cases xs with
  | nil => rw [pyL, PyData.eqvAll]; rfl
  | cons d l => rw [pyL, pyL, PyData.eqvAll]; rfl
theorem lkB_num (rest : List D) : ∀ q ∈ ([("any", 0), ("is", 1), ("from", 1), ("to", 1), ("in", 2)] : List (Str × Nat)), lkB q.1 rest = (decide (rest.length = q.2) && rest.all isWhole) := by
  intro q hq
  simp only [List.mem_cons, List.not_mem_nil, or_false] at hq
  rcases hq with rfl | rfl | rfl | rfl | rfl
  · show lkB "any" rest = _
    unfold lkB
    rw [if_pos rfl]
    cases rest <;> simp
  · show lkB "is" rest = _
    unfold lkB
    rw [if_neg (by decide), if_neg (by decide), if_pos (by decide)]
  · show lkB "from" rest = _
    unfold lkB
    rw [if_neg (by decide), if_neg (by decide), if_pos (by decide)]
  · show lkB "to" rest = _
    unfold lkB
    rw [if_neg (by decide), if_neg (by decide), if_pos (by decide)]
  · show lkB "in" rest = _
    unfold lkB
    rw [if_neg (by decide), if_neg (by decide), if_neg (by decide), if_pos (by decide)]
theorem lkB_one (rest : List D) : lkB "one" rest = (match rest with | [x] => oneD x | _ => false) := by
  unfold lkB
  rw [if_neg (by decide), if_pos rfl]
/-! ### the same read by the law -/
/-- looks are looks -/
theorem Lk.plB {l : Lk} (h : l.dep = 1) (h2 : l.few) (h3 : l.uniq) : DL.plB l.d = true := by
  cases l with
  | any => exact (lkB_num _ ("any", 0) (by decide)).trans rfl
  | is n => exact (lkB_num _ ("is", 1) (by decide)).trans rfl
  | frm n => exact (lkB_num _ ("from", 1) (by decide)).trans rfl
  | upto n => exact (lkB_num _ ("to", 1) (by decide)).trans rfl
  | inn a b => exact (lkB_num _ ("in", 2) (by decide)).trans rfl
  | one ns =>
    refine (lkB_one _).trans ?_
    show oneB (ns.map .int) = true
    unfold oneB
    have hn : ns.Nodup := h3
    rw [all_whole, nd_ints, List.length_map, decide_eq_true (show ns.length ≤ 4 from h2), decide_eq_true hn]
    rfl
  | but l => have := dep_pos l; simp [Lk.dep] at h; omega
theorem Lk.Good.look {b : Nat} {l : Lk} (h : l.Good b) : lookB l.d = true := by
  have hd := h.dp
  cases l with
  | but l =>
    have := dep_pos l
    have hd1 : l.dep = 1 := by simp only [Lk.dep] at hd; omega
    show (if ("but" : Str) = "but" then DL.plB l.d else lkB "but" [l.d]) = true
    rw [if_pos rfl]
    exact Lk.plB hd1 h.few h.un
  | any => exact Lk.plB (l := .any) rfl h.few h.un
  | is n => exact Lk.plB (l := .is n) rfl h.few h.un
  | frm n => exact Lk.plB (l := .frm n) rfl h.few h.un
  | upto n => exact Lk.plB (l := .upto n) rfl h.few h.un
  | inn x y => exact Lk.plB (l := .inn x y) rfl h.few h.un
  | one ns => exact Lk.plB (l := .one ns) rfl h.few h.un
theorem thD_txt (s : String) (n : Nat) (h : (Str.ofString s).length ≤ 100000 := by decide) : thD n (.str (Str.ofString s)) := by
  have := fit_txt s 0
  cases n <;> exact ⟨h, this⟩
theorem thD_int {n : Nat} {i : Int} : thD n (.int i) := by cases n <;> trivial
theorem thD_tup {n : Nat} {ds : List D} (hl : ds.length ≤ 10000) (h : ∀ d ∈ ds, thD n d) : thD (n + 1) (.tup ds) := ⟨hl, h⟩
theorem thD_lst {n : Nat} {ds : List D} (hl : ds.length ≤ 10000) (h : ∀ d ∈ ds, thD n d) : thD (n + 1) (.lst ds) := ⟨hl, h⟩
theorem thD_non {n : Nat} : thD n .non := by cases n <;> trivial
theorem thD_bl {n : Nat} {b : Bool} : thD n (.bl b) := by cases n <;> trivial
theorem Lk.th : ∀ (l : Lk), l.few → thD (l.dep + 1) l.d
  | .any, _ => ⟨by simp, fun d hd => by rw [List.mem_singleton.mp hd]; exact thD_txt _ _⟩
  | .is k, _ => ⟨by simp, fun d hd => by simp only [List.mem_cons, List.not_mem_nil, or_false] at hd; rcases hd with rfl | rfl <;> first | exact thD_txt _ _ | exact thD_int⟩
  | .frm k, _ => ⟨by simp, fun d hd => by simp only [List.mem_cons, List.not_mem_nil, or_false] at hd; rcases hd with rfl | rfl <;> first | exact thD_txt _ _ | exact thD_int⟩
  | .upto k, _ => ⟨by simp, fun d hd => by simp only [List.mem_cons, List.not_mem_nil, or_false] at hd; rcases hd with rfl | rfl <;> first | exact thD_txt _ _ | exact thD_int⟩
  | .inn a b, _ => ⟨by simp, fun d hd => by simp only [List.mem_cons, List.not_mem_nil, or_false] at hd; rcases hd with rfl | rfl | rfl <;> first | exact thD_txt _ _ | exact thD_int⟩
  | .one ns, hf => ⟨by simp, fun d hd => by
    simp only [List.mem_cons, List.not_mem_nil, or_false] at hd
    rcases hd with rfl | rfl
    · exact thD_txt _ _
    · exact ⟨by rw [List.length_map]; exact Nat.le_trans hf (by decide), fun d hd => by obtain ⟨k, _, rfl⟩ := List.mem_map.mp hd; exact thD_int⟩⟩
  | .but l, hf => ⟨by simp, fun d hd => by
    simp only [List.mem_cons, List.not_mem_nil, or_false] at hd
    rcases hd with rfl | rfl
    · exact thD_txt _ _
    · exact Lk.th l hf⟩
end DL
namespace DL
open PySem L2
local macro_rules | `(tactic| walk_at "dl") => `(tactic| ((conv => whnf); try dsimp only))
local macro_rules | `(tactic| walk_at "sd") => `(tactic| first | trivial | exact Nat.zero_le _ | assumption | decide | omega | exact len_line (by first | decide | omega | (simp; done) | (simp; omega)) | (simp; done) | (simp; omega) | exact ⟨by decide, by decide, by decide⟩ | exact .inl ⟨by decide, by decide⟩ | exact .inl ⟨by omega, by omega⟩ | exact wide_div (b := 64) (by decide) (by decide) (by decide) (by decide))
local macro_rules | `(tactic| walk_at "go") => `(tactic| ((conv => whnf); (try dsimp only); repeat ((with_reducible refine And.intro ?_ ?_); (focus (walk_at "sd")); (conv => whnf); (try dsimp only))))
local macro_rules | `(tactic| walk_at "th") => `(tactic| repeat' (first | assumption | exact thD_txt _ _ | exact thD_int | exact thD_non | exact thD_bl | (refine thD_mono _ _ _ ?_ (by assumption); decide) | refine List.forall_mem_cons.mpr (And.intro ?_ ?_) | exact List.forall_mem_nil _ | refine thD_tup (by simp) ?_ | refine thD_lst (by simp) ?_))
local macro_rules | `(tactic| walk_at "ln") => `(tactic| (intro ds m Q PX h; repeat (obtain ⟨_, h⟩ := h); subst_vars; rfl))
section
/-! ### what is told of a look that is checked -/
theorem thD_nil {n : Nat} : thD (n + 1) (.tup []) := ⟨by simp, fun _ z => by cases z⟩
end
section
theorem cells {c0 : Int} {ns : List Int} {lo hi : Option Int} : ∀ d ∈ [D.int c0] ++ cutD (ns.map .int) lo hi, ∃ c, d = .int c := by
  intro d hd
  rcases List.mem_append.mp hd with hd | hd
  · exact ⟨c0, List.mem_singleton.mp hd⟩
  · unfold cutD at hd
    obtain ⟨c, _, rfl⟩ := List.mem_map.mp (List.mem_of_mem_drop (List.mem_of_mem_take hd))
    exact ⟨c, rfl⟩
end
section
/-! ### names -/
def low (c : Nat) : Bool := decide (97 ≤ c) && decide (c ≤ 122)
def nmB (x : Str) : Bool := decide (1 ≤ x.length) && (decide (x.length ≤ 8) && x.cps.toList.all low)
def nmD : D → Bool
  | .str x => nmB x
  | _ => false
/-! ### asks -/
end
section
section
variable {Ph : Mu → Prop} {rg : DG} {re : DE} {δ : DSt} {P : List D → Mu → Prop}
theorem comp_on {α : Type} {m : Mu} (ps : List α) (g f : α → D) (hn : ps.length ≤ 16777216) (ph : Ph m) (he : ∀ x ∈ ps, ∀ Q : DK, Q (f x) m → rg (g x) δ m fun δ' m' => re δ' m' Q noX) (h : P (ps.map f) m) : rComp Ph rg qYes re δ P (ps.map g) [] m := by
  refine comp_inv (fun i acc m' => m' = m ∧ acc = (ps.take i).map f) (fun i acc m' h => ?_) (by rw [List.length_map]; exact hn) (fun i d acc m' e h => ?_) (fun acc m' h => ?_) ⟨rfl, by simp⟩
  · rw [h.2, List.length_map, List.length_take]; omega
  · obtain ⟨rfl, rfl⟩ := h
    rw [List.getElem?_map] at e
    cases ei : ps[i]? with
    | none => rw [ei] at e; cases e
    | some x =>
      rw [ei] at e
      cases e
      refine ⟨ph, fun Kt Kf h1 h2 => ?_⟩
      refine he x (List.mem_of_getElem? ei) _ (h1 _ _ ⟨rfl, ?_⟩)
      rw [List.take_add_one, ei, List.map_append]
      rfl
  · obtain ⟨rfl, rfl⟩ := h
    refine ⟨ph, ?_⟩
    rw [List.length_map, List.take_length]
    exact h
end
/-! ### what is asked, what is wished -/
def oS : Option Str → D
  | none => .non
  | some x => .str x
def oN : Option Int → D
  | none => .non
  | some x => .int x
def oL : Option (List Lk) → D
  | none => .non
  | some ls => .tup (ls.map Lk.d)
def askD (a b : Str) (ts : List Int) : D := .tup [.str a, .str b, .tup (ts.map .int)]
/-! ### a wish -/
def wFs (p d l n le mo : D) : List (Str × D) := [("part", p), ("deed", d), ("looks", l), ("name", n), ("least", le), ("most", mo)]
end
section
structure Ws where
  part : Str
  deed : Option Str
  looks : Option (List Lk)
  name : Str
  least : Int
  most : Option Int
def Ws.d (w : Ws) : D := .ins "Wish" (wFs (.str w.part) (oS w.deed) (oL w.looks) (.str w.name) (.int w.least) (oN w.most))
end
section
theorem rg_get {n : Nat} {lo : Int} {i : Nat} {d : D} (h : (rangeD lo n)[i]? = some d) : i < n ∧ d = .int (lo + i) := by
  unfold rangeD at h
  rw [List.getElem?_map] at h
  by_cases hi : i < n
  · rw [List.getElem?_range hi] at h; cases h; exact ⟨hi, rfl⟩
  · rw [List.getElem?_eq_none (by rw [List.length_range]; omega)] at h; cases h
theorem rg_len (lo : Int) (n : Nat) : (rangeD lo n).length = n := by unfold rangeD; rw [List.length_map, List.length_range]
end
section
theorem nm_len {x : Str} (h : nmB x = true) : 1 ≤ x.length ∧ x.length ≤ 8 ∧ x.cps.toList.all low = true := by
  unfold nmB at h
  rw [Bool.and_eq_true, Bool.and_eq_true, decide_eq_true_eq, decide_eq_true_eq] at h
  exact ⟨h.1, h.2.1, h.2.2⟩
theorem nm_low {x : Str} (h : x.cps.toList.all low = true) : ∀ c ∈ x.cps.toList, c < 1114112 := fun c hc => by
  have := List.all_eq_true.mp h c hc
  unfold low at this
  rw [Bool.and_eq_true, decide_eq_true_eq, decide_eq_true_eq] at this
  omega
theorem thD_nm {n : Nat} {x : Str} (h : nmB x = true) : thD n (.str x) := by
  obtain ⟨_, h2, h3⟩ := nm_len h
  cases n <;> exact ⟨by omega, nm_low h3⟩
theorem thD_ints {n : Nat} {ts : List Int} (h : ts.length ≤ 10000) : thD (n + 1) (.tup (ts.map .int)) := ⟨by rw [List.length_map]; exact h, fun d hd => by obtain ⟨k, _, rfl⟩ := List.mem_map.mp hd; exact thD_int⟩
end
section
/-! ### wishes, good ones -/
structure Ws.Pre (W : Ws) : Prop where
  part : nmB W.part = true
  deed : ∀ x, W.deed = some x → nmB x = true
  looks : ∀ ls, W.looks = some ls → ls.length ≤ 2 ∧ ∀ l ∈ ls, l.Good 142
  name : nmB W.name = true
  least : 0 ≤ W.least ∧ W.least ≤ 4
  most : ∀ h, W.most = some h → 0 ≤ h ∧ h ≤ 4
structure Ws.Ok (W : Ws) : Prop extends W.Pre where
  cnt : ∀ h, W.most = some h → W.least ≤ h
def Ws.row (W : Ws) : D := .tup [.str W.part, oS W.deed, oL W.looks, .str W.name, .int W.least, oN W.most]
theorem Lk.Good.th {b : Nat} {l : Lk} (h : l.Good b) : thD 3 l.d := thD_mono _ 3 _ (by have := h.dp; omega) (l.th h.few)
theorem Ws.Pre.nm {W : Ws} (h : W.Pre) : (nmD (.str W.part) && ((isNone (oS W.deed) || nmD (oS W.deed)) && nmD (.str W.name))) = true := by
  show (nmB W.part && ((isNone (oS W.deed) || nmD (oS W.deed)) && nmB W.name)) = true
  rw [h.part, h.name, Bool.true_and, Bool.and_true]
  cases e : W.deed with
  | none => rfl
  | some x => exact h.deed x e
end
section
theorem deqP {m : Mu} {x y : D} {b : Bool} (hx : pur x = true) (hy : pur y = true) (hb : b = true ↔ x = y) : deq (dat m x) (dat m y) = b := by
  rw [dat_pur hx, dat_pur hy, Bool.eq_iff_iff, deq_iff hx hy, hb]
end
end DL
namespace DL
open PySem L2 PySem.Spec PyProof.Rows
/-! ### repr of data, where nothing is under way -/
mutual
theorem dp_plain {K : PySem.W.Frag} {H : Hp} : ∀ {v : V} {d : PyData}, Dp K H v d → d.hasDict = false
  | _, _, .non => by simp only [PyData.hasDict]
  | _, _, .bl _ => by simp only [PyData.hasDict]
  | _, _, .int _ => by simp only [PyData.hasDict]
  | _, _, .str _ => by simp only [PyData.hasDict]
  | _, _, .lst _ r => by simp only [PyData.hasDict]; exact dp_plainL r
  | _, _, .tup _ r => by simp only [PyData.hasDict]; exact dp_plainL r
theorem dp_plainL {K : PySem.W.Frag} {H : Hp} : ∀ {vs : List V} {ds : List PyData}, DpAll K H vs ds → PyData.hasDictAll ds = false
  | _, _, .nil => by simp only [PyData.hasDictAll]
  | _, _, .cons r rs => by simp only [PyData.hasDictAll, dp_plain r, dp_plainL rs, Bool.or_false]
end
section
variable {X : Cx}
def rReprD (K : PySem.W.Frag) : List V → Hp → VK → Prop := fun xs H Q =>
  (∃ x d, xs = [x] ∧ Dp K H x d ∧ SeqAt.shaped d = true ∧ d.showable = true ∧ d.shown.length ≤ sizeLine ∧ Q (.str d.shown) H) ∨ ∃ a, xs = [.ref a] ∧ H a = some (.dK []) ∧ Q (.str (PyData.shown (.dict []))) H
theorem call_reprD (hg : X.A.guards = some []) (hu : X.A.units + 66 < cLine) : CallR X (.builtin "repr") (rReprD X.K) := by
  intro pins s σ H xs us Q I r h
  rcases h with ⟨x, d, rfl, hd, hs, hw, hz, q⟩ | ⟨a, rfl, hd, q⟩
  · obtain ⟨u, rfl, ru⟩ := vals1 r
    obtain ⟨as, rd⟩ := Dp.reads I d x u hd ru
    have dep := SeqAt.depth_of_shaped hs
    have nd := dp_plain hd
    cases hd with
    | non =>
      obtain rfl : u = Value.none := ru
      simp only [PyData.shown] at q
      exact PySem.P.repr_of_none ⟨.str _, H, I.tok _, ⟨_, rfl⟩, q⟩
    | bl b =>
      obtain rfl : u = Value.bool b := ru
      simp only [PyData.shown] at q
      exact PySem.P.repr_of_bool ⟨.str _, H, I.tok _, ⟨_, rfl⟩, q⟩
    | int i =>
      obtain ⟨t, rfl⟩ := ru
      simp only [PyData.shown] at q
      exact PySem.P.repr_of_int (by simpa only [PyData.showable, decide_eq_true_eq] using hw) ⟨.str _, H, I.tok _, ⟨_, rfl⟩, q⟩
    | str y =>
      obtain ⟨t, rfl⟩ := ru
      simp only [PyData.shown] at q hz
      exact PySem.P.repr_of_str ⟨.str _, H, I.tok _, ⟨_, rfl⟩, q⟩ hz
    | lst h1 h2 =>
      obtain rfl := show u = Value.ref _ from ru
      exact repr_of_reads' rd hw (fun z => by rw [nd] at z; cases z) hg (by omega) (fun _ _ e => e) (fun h' t tk kp => ⟨.str _, H, I.kept kp, ⟨_, rfl⟩, q⟩) hz
    | tup h1 h2 =>
      obtain rfl := show u = Value.ref _ from ru
      exact repr_of_reads' rd hw (fun z => by rw [nd] at z; cases z) hg (by omega) (fun _ _ e => e) (fun h' t tk kp => ⟨.str _, H, I.kept kp, ⟨_, rfl⟩, q⟩) hz
  · obtain ⟨u, rfl, ru⟩ := vals1 r
    obtain rfl : u = Value.ref a := ru
    obtain ⟨_, hsm, vs, rel, o, es, ep, ho, hx, hdt, _, hp, _⟩ := dk_of I.hok hd
    cases rel
    have he : es.toList = [] := by
      generalize es.toList = l at hp
      cases hp
      rfl
    have rd : Reads s.heap (.ref a) (.dict []) [a] := by
      refine Reads.dict (as := []) (bs := []) ho hx.1 hdt ?_ ?_ <;> (rw [he]; exact .nil)
    refine repr_of_reads' rd (by simp only [PyData.showable, PyData.showableKv]) (fun _ z => ?_) hg (by simp only [PyData.depth, PyData.depthKv]; omega) (fun _ _ e => e) (fun h' t tk kp => ⟨.str _, H, I.kept kp, ⟨_, rfl⟩, q⟩) (by decide +kernel)
    rw [List.mem_singleton.mp z] at hsm
    simp at hsm
/-! on data -/
def repOk (d : D) : Prop := d = .dct [] ∨ (shp d ∧ (py d).showable = true ∧ (py d).shown.length ≤ sizeLine)
@[irreducible] def repD (d : D) : Str := (py d).shown
def cRepr : DC := fun xs m P => match xs with
  | [x] => repOk (dat m x) ∧ P (.str (repD (dat m x))) m
  | _ => False
theorem repr_ok {K : KW} : CalD K (rReprD K.fr) cRepr := by
  intro F H0 m H vs ds P Q ok r h g
  unfold cRepr at h
  split at h
  · rename_i x
    obtain ⟨v, rfl, q⟩ := r.one
    obtain ⟨h1, h2⟩ := h
    have rq := dat_rp ok q
    rcases h1 with e | ⟨h1, h3, h4⟩
    · rw [e] at rq
      cases rq with
      | dct h5 h6 h7 =>
        rename_i a kv
        have : kv = [] := List.map_eq_nil_iff.mp h6
        subst this
        refine .inr ⟨_, rfl, h5, ?_⟩
        have e2 : PyData.shown (.dict []) = repD (dat m x) := by rw [e]; unfold repD; rw [py]
        rw [e2]
        exact g.id ok (.str _) h2
    · refine .inl ⟨_, _, rfl, dp_of rq (SeqAt.canLay_of_shaped h1), h1, h3, h4, ?_⟩
      have e2 : (py (dat m x)).shown = repD (dat m x) := by unfold repD; rfl
      rw [e2]
      exact g.id ok (.str _) h2
  · exact h.elim
theorem pd_repr {W : WX} {x : Str} {p pos : Pos} {e : Expr} {es : List Expr} {qs : DA} (hgu : X.A.guards = some []) (hu : X.A.units + 66 < cLine) (hm : X.mg x = none) (hv : bootBuiltins x = some (.builtin "repr")) (ha : PA X (e :: es) (lA (kw X) W qs)) (hg : Gl X x := by rfl) (hn : x ≠ "__name__" := by decide) (hdb : (x == ("__debug__" : Str)) = false := by decide)
    (he : starEach (e :: es) X.env = (false, eval e X.env) :: starEach es X.env := by rfl) (hpl : (backTo pos (starEach es X.env)).any (·.1) = false := by rfl) : PE X (.Call (.Name x p) (e :: es) [] pos) (lE (kw X) W (rCB cRepr qs)) := pd_callB (call_reprD hgu hu) repr_ok hm hv ha hg hn hdb he hpl
end
/-! what may be shown -/
mutual
def shoD : D → Prop
  | .non => True
  | .bl _ => True
  | .int n => n.natAbs < 10 ^ 100
  | .str x => x.length ≤ 100 ∧ ∀ c ∈ x.cps.toList, c < 1114112
  | .lst ds => shoL ds
  | .tup ds => shoL ds
  | _ => False
def shoL : List D → Prop
  | [] => True
  | d :: ds => shoD d ∧ shoL ds
end
mutual
def wtD : D → Nat
  | .int _ => 334
  | .str x => x.length
  | .lst ds => wtL ds
  | .tup ds => wtL ds
  | _ => 0
def wtL : List D → Nat
  | [] => 0
  | d :: ds => wtD d + 1 + wtL ds
end
theorem log_small {n : Int} (h : n.natAbs < 10 ^ 100) : n.natAbs.log2 < 333 := by
  by_cases z : n.natAbs = 0
  · rw [z]; decide
  · rw [Nat.log2_lt z]
    exact Nat.lt_of_lt_of_le h (by decide +kernel)
mutual
theorem sho_ok : ∀ d : D, shoD d → (py d).showable = true ∧ (py d).leavesShort 101 = true ∧ (py d).weight ≤ wtD d
  | .non, _ => by rw [py]; simp [PyData.showable, PyData.leavesShort, PyData.weight, wtD]
  | .bl _, _ => by rw [py]; simp [PyData.showable, PyData.leavesShort, PyData.weight, wtD]
  | .int n, h => by
    have h : n.natAbs < 10 ^ 100 := by rw [shoD] at h; exact h
    have l := log_small h
    rw [py]
    refine ⟨?_, ?_, ?_⟩
    · simp only [PyData.showable, decide_eq_true_eq]; omega
    · simp only [PyData.leavesShort, PyData.shown]
      exact decide_eq_true (by rw [PySem.ofString_length]; exact int_text_length_le10 (k := 100) (by decide) h)
    · simp only [PyData.weight, wtD]
      split <;> omega
  | .str x, h => by
    rw [shoD] at h
    rw [py]
    refine ⟨by simp only [PyData.showable], ?_, ?_⟩
    · simp only [PyData.leavesShort, List.all_eq_true, decide_eq_true_eq]
      intro c hc
      have := h.2 c hc
      omega
    · simp only [PyData.weight, wtD]
      exact Nat.le_refl _
  | .lst ds, h => by
    rw [shoD] at h
    obtain ⟨a, b, c⟩ := sho_okL ds h
    rw [py]
    simp only [PyData.showable, PyData.leavesShort, PyData.weight, wtD]
    exact ⟨a, b, c⟩
  | .tup ds, h => by
    rw [shoD] at h
    obtain ⟨a, b, c⟩ := sho_okL ds h
    rw [py]
    simp only [PyData.showable, PyData.leavesShort, PyData.weight, wtD]
    exact ⟨a, b, c⟩
  | .ty _, h => by simp [shoD] at h
  | .adr _, h => by simp [shoD] at h
  | .glb _, h => by simp [shoD] at h
  | .exc _ _ _ _ _, h => by simp [shoD] at h
  | .dct _, h => by simp [shoD] at h
  | .ins _ _, h => by simp [shoD] at h
theorem sho_okL : ∀ ds : List D, shoL ds → PyData.showableAll (pyL ds) = true ∧ PyData.leavesShortAll 101 (pyL ds) = true ∧ PyData.weightAll (pyL ds) ≤ wtL ds
  | [], _ => by rw [pyL]; simp [PyData.showableAll, PyData.leavesShortAll, PyData.weightAll, wtL]
  | d :: ds, h => by
    rw [shoL] at h
    obtain ⟨a1, a2, a3⟩ := sho_ok d h.1
    obtain ⟨b1, b2, b3⟩ := sho_okL ds h.2
    rw [pyL]
    simp only [PyData.showableAll, PyData.leavesShortAll, PyData.weightAll, wtL, a1, a2, b1, b2]
    exact ⟨rfl, rfl, by omega⟩
end
theorem rep_of {d : D} (h1 : shp d) (h2 : shoD d) (h3 : wtD d ≤ 100000) : repOk d := by
  obtain ⟨a, b, c⟩ := sho_ok d h2
  refine .inr ⟨h1, a, ?_⟩
  have := PyData.shown_le 101 (by decide) (py d) b
  exact Nat.le_trans this (by rw [sizeLine_eq]; omega)
theorem shoL_all {ds : List D} (h : ∀ d ∈ ds, shoD d) : shoL ds := by
  induction ds with
  | nil => rw [shoL]; trivial
  | cons a l ih => rw [shoL]; exact ⟨h a List.mem_cons_self, ih fun d hd => h d (List.mem_cons_of_mem _ hd)⟩
theorem wtL_le {ds : List D} {k : Nat} (h : ∀ d ∈ ds, wtD d ≤ k) : wtL ds ≤ (k + 1) * ds.length := by
  induction ds with
  | nil => rw [wtL]; simp
  | cons a l ih =>
    rw [wtL, List.length_cons, Nat.mul_add]
    have := h a List.mem_cons_self
    have := ih fun d hd => h d (List.mem_cons_of_mem _ hd)
    omega
theorem units66 {k : Nat} {A : Around} (r : Room k A) : A.units + 66 < cLine := by have := r.un; omega
end DL
namespace DL
open PySem L2
local macro_rules | `(tactic| walk_at "dl") => `(tactic| ((conv => whnf); try dsimp only))
local macro_rules | `(tactic| walk_at "sd") => `(tactic| first | trivial | exact Nat.zero_le _ | assumption | decide | omega | exact len_line (by first | decide | omega | (simp; done) | (simp; omega)) | (simp; done) | (simp; omega) | exact ⟨by decide, by decide, by decide⟩ | exact .inl ⟨by decide, by decide⟩ | exact .inl ⟨by omega, by omega⟩ | exact wide_div (b := 64) (by decide) (by decide) (by decide) (by decide))
local macro_rules | `(tactic| walk_at "go") => `(tactic| ((conv => whnf); (try dsimp only); repeat ((with_reducible refine And.intro ?_ ?_); (focus (walk_at "sd")); (conv => whnf); (try dsimp only))))
local macro_rules | `(tactic| walk_at "th") => `(tactic| repeat' (first | assumption | exact thD_txt _ _ | exact thD_int | exact thD_non | exact thD_bl | (refine thD_mono _ _ _ ?_ (by assumption); decide) | refine List.forall_mem_cons.mpr (And.intro ?_ ?_) | exact List.forall_mem_nil _ | refine thD_tup (by simp) ?_ | refine thD_lst (by simp) ?_))
local macro_rules | `(tactic| walk_at "ln") => `(tactic| (intro ds m Q PX h; repeat (obtain ⟨_, h⟩ := h); subst_vars; rfl))
section
/-! ### the fewest rows that part -/
def lowOf (c : List Nat) : Nat := match c.getLast? with
  | none => 0
  | some x => x + 1
def nexts (n : Nat) (c : List Nat) : List Nat := (List.range n).filter fun k => decide (lowOf c ≤ k)
def lots (n : Nat) : Nat → List (List Nat)
  | 0 => [[]]
  | s + 1 => (lots n s).flatMap fun c => (nexts n c).map fun k => c ++ [k]
def natD (k : Nat) : D := .int (k : Int)
def natT (c : List Nat) : List D := c.map natD
def colD (b : List Bool) : D := .lst (b.map .bl)
def tabD (T : List (List Bool)) : D := .lst (T.map colD)
def hits (col : List Bool) (c : List Nat) : Bool := c.any fun k => (col[k]?).getD false
def partsAll (T : List (List Bool)) (c : List Nat) : Bool := T.all fun col => hits col c
def fewGo (T : List (List Bool)) (n : Nat) : List Nat → Option (List Nat)
  | [] => none
  | s :: ss => match (lots n s).find? (partsAll T) with
    | some c => some c
    | none => fewGo T n ss
def few (T : List (List Bool)) (n : Nat) : Option (List Nat) := fewGo T n (List.range (n + 1))
theorem lots_len : ∀ (n s : Nat), ∀ c ∈ lots n s, c.length = s ∧ ∀ k ∈ c, k < n
  | n, 0, c, h => by
    rw [List.mem_singleton.mp h]
    exact ⟨rfl, fun _ z => by cases z⟩
  | n, s + 1, c, h => by
    obtain ⟨c0, h0, h1⟩ := List.mem_flatMap.mp h
    obtain ⟨k, hk, rfl⟩ := List.mem_map.mp h1
    obtain ⟨i1, i2⟩ := lots_len n s c0 h0
    have hk' := List.mem_range.mp (List.mem_filter.mp hk).1
    refine ⟨by rw [List.length_append, i1]; rfl, fun x hx => ?_⟩
    rcases List.mem_append.mp hx with hx | hx
    · exact i2 x hx
    · rw [List.mem_singleton.mp hx]; exact hk'
theorem lots_few : ∀ n, n ≤ 10 → ∀ s, s ≤ 11 → (lots n s).length ≤ 1000 := by decide +kernel
theorem few_in {T : List (List Bool)} {n : Nat} : ∀ {ss : List Nat} {c : List Nat}, fewGo T n ss = some c → partsAll T c = true ∧ ∃ s ∈ ss, c ∈ lots n s
  | [], c, h => by cases h
  | s :: ss, c, h => by
    unfold fewGo at h
    split at h
    · rename_i c' e
      cases h
      exact ⟨List.find?_some e, s, List.mem_cons_self, List.mem_of_find?_eq_some e⟩
    · obtain ⟨h1, s', h2, h3⟩ := few_in h
      exact ⟨h1, s', List.mem_cons_of_mem _ h2, h3⟩
theorem few_le {T : List (List Bool)} {n s : Nat} {c : List Nat} (hc : c ∈ lots n s) (hp : partsAll T c = true) : ∀ {ss : List Nat}, s ∈ ss → ss.Pairwise (· < ·) → ∃ c', fewGo T n ss = some c' ∧ c'.length ≤ s
  | [], h, _ => by cases h
  | t :: ss, h, hs => by
    unfold fewGo
    cases e : (lots n t).find? (partsAll T) with
    | some c' =>
      refine ⟨c', rfl, ?_⟩
      rw [(lots_len n t c' (List.mem_of_find?_eq_some e)).1]
      rcases List.mem_cons.mp h with h | h
      · omega
      · exact Nat.le_of_lt ((List.pairwise_cons.mp hs).1 s h)
    | none =>
      rcases List.mem_cons.mp h with h | h
      · subst h
        have := List.find?_eq_none.mp e c hc
        exact (this hp).elim
      · exact few_le hc hp h (List.pairwise_cons.mp hs).2
end
section
theorem natT_len (c : List Nat) : (natT c).length = c.length := List.length_map _
theorem at_nat {xs : List D} {k : Nat} {d : D} (h : xs[k]? = some d) : atI xs (k : Int) = some d := by
  obtain ⟨hl, _⟩ := List.getElem?_eq_some_iff.mp h
  obtain ⟨x, e1, e2⟩ := atI_some (xs := xs) (i := (k : Int)) (by omega) (by omega)
  rw [e1, ← e2]
  exact h
theorem col_at {col : List Bool} {k : Nat} (h : k < col.length) : atI (col.map D.bl) (k : Int) = some (.bl ((col[k]?).getD false)) := by
  refine at_nat ?_
  rw [List.getElem?_map, List.getElem?_eq_getElem h]; rfl
def sp_is_parted : SpD := fun ds m P _ => ∃ (col : List Bool) (c : List Nat), ds = [colD col, .tup (natT c)] ∧ c.length ≤ 1000 ∧ (∀ k ∈ c, k < col.length) ∧ P (.bl (hits col c)) m
def rd_is_parted : DS :=
    sRet (rCB cAny (rCons (rLc (iAny (rV 1)) [2] (gN 2) (qYes) (rOp oIx (rV 0) (rV 2))) (rNil)))
theorem ln_is_parted : ∀ ds m Q PX, sp_is_parted ds m Q PX → ds.length = 2 := fun ds m Q PX h => by (repeat (obtain ⟨_, h⟩ := h)); subst_vars; rfl
theorem pu_is_parted : ∀ ds m Q PX, sp_is_parted ds m Q PX → rd_is_parted (dEnds Q PX) (dstart ["column", "chosen", "row"] ds) m := by
  rintro ds m Q PX ⟨col, c, rfl, hl, hc, h⟩
  walk_at "go"
  refine comp_on c natD (fun k => .bl ((col[k]?).getD false)) (by omega) trivial (fun k hk Q q => ?_) ?_
  · walk_at "dl"
    rw [col_at (hc k hk)]
    exact q
  walk_at "dl"
  rw [show c.map (fun k => D.bl ((col[k]?).getD false)) = (c.map fun k => (col[k]?).getD false).map D.bl from by rw [List.map_map]; rfl, boolsD_map]
  dsimp only
  rw [List.any_map]
  exact h
def notP (T : List (List Bool)) (c : List Nat) : Option Nat := T.findIdx? fun col => !hits col c
theorem notP_none {T : List (List Bool)} {c : List Nat} : notP T c = none ↔ partsAll T c = true := by
  unfold notP partsAll
  rw [List.findIdx?_eq_none_iff, List.all_eq_true]
  exact ⟨fun h col hc => by have := h col hc; simpa using this, fun h col hc => by rw [h col hc]; rfl⟩
def oK (x : Option Nat) : D := match x with
  | some k => natD k
  | none => .non
def sp_not_parted : SpD := fun ds m P _ => ∃ (T : List (List Bool)) (c : List Nat), ds = [tabD T, .tup (natT c)] ∧ T.length ≤ 1000 ∧ c.length ≤ 1000 ∧ (∀ col ∈ T, ∀ k ∈ c, k < col.length) ∧ P (oK (notP T c)) m
def rd_not_parted : DS :=
    sSeq (sFor (iEnumD (rCons (rV 0) (rNil))) (gT [2, 3]) (sIf (rNot (rTru (rCall sp_is_parted [] (rCons (rV 3) (rCons (rV 1) (rNil)))))) (sRet (rV 2)) (sNext)))
    (sRet (rC .non))
theorem ln_not_parted : ∀ ds m Q PX, sp_not_parted ds m Q PX → ds.length = 2 := fun ds m Q PX h => by (repeat (obtain ⟨_, h⟩ := h)); subst_vars; rfl
theorem fi_drop {α : Type} (p : α → Bool) : ∀ (xs : List α) (i : Nat), (∀ x ∈ xs.take i, p x = false) → i ≤ xs.length → xs.findIdx? p = ((xs.drop i).findIdx? p).map (· + i)
  | xs, 0, _, _ => by simp
  | [], i + 1, _, h => by simp at h
  | x :: xs, i + 1, h, hl => by
    have hx : p x = false := h x (by simp)
    have ih := fi_drop p xs i (fun y hy => h y (by simp [hy])) (by simpa using hl)
    rw [List.findIdx?_cons, hx, List.drop_succ_cons, ih]
    simp [Option.map_map]
    congr 1
theorem pu_not_parted : ∀ ds m Q PX, sp_not_parted ds m Q PX → rd_not_parted (dEnds Q PX) (dstart ["parts", "chosen", "at", "column"] ds) m := by
  rintro ds m Q PX ⟨T, c, rfl, hT, hl, hc, h⟩
  walk_at "go"
  refine loop_inv (fun i δ m' => m' = m ∧ (i ≤ T.length ∧ ∀ x ∈ T.take i, (!hits x c) = false) ∧ ∃ a2 a3, δ = [some (tabD T), some (.tup (natT c)), a2, a3]) (fun i d δ m' e hh => ?_) (fun δ m' hh => ?_) ⟨rfl, ⟨Nat.zero_le _, fun _ z => by simp at z⟩, _, _, rfl⟩
  · obtain ⟨rfl, ⟨hi, hno⟩, a2, a3, rfl⟩ := hh
    rw [enumD_get, List.getElem?_map] at e
    cases ei : T[i]? with
    | none => rw [ei] at e; cases e
    | some col =>
    rw [ei] at e
    cases e
    have hi2 := (List.getElem?_eq_some_iff.mp ei).1
    refine ⟨trivial, fun Nx k1 => ?_⟩
    walk_at "go"
    refine ⟨col, c, rfl, hl, hc col (List.mem_of_getElem? ei), ?_⟩
    cases eh : hits col c with
    | true =>
      walk_at "go"
      refine k1 _ _ ⟨rfl, ⟨by omega, fun x hx => ?_⟩, _, _, rfl⟩
      rw [List.take_add_one, ei] at hx
      rcases List.mem_append.mp hx with hx | hx
      · exact hno x hx
      · rw [List.mem_singleton.mp hx, eh]; rfl
    | false =>
      have e2 : notP T c = some i := by
        unfold notP
        rw [fi_drop _ T i hno hi]
        rw [show T.drop i = col :: T.drop (i + 1) from by
          obtain ⟨hi, hw⟩ := List.getElem?_eq_some_iff.mp ei
          rw [List.drop_eq_getElem_cons hi, hw], List.findIdx?_cons, eh]
        simp
      rw [e2] at h
      walk_at "go"
      rw [show ((0 + i : Nat) : Int) = (i : Nat) by omega]
      exact h
  · obtain ⟨rfl, ⟨_, hno⟩, a2, a3, rfl⟩ := hh
    refine ⟨trivial, ?_⟩
    rw [enumD_length, List.length_map, List.take_length] at hno
    have e2 : notP T c = none := by
      unfold notP
      rw [List.findIdx?_eq_none_iff]
      exact hno
    rw [e2] at h
    walk_at "go"
    exact h
end
section
section
variable {Ph : Mu → Prop} {qt : DT} {re : DE} {δ : DSt} {P : List D → Mu → Prop} {j j1 : Nat} {m : Mu}
theorem comp_accf (p : D → Bool) (f : D → D) (ph : Ph m) : ∀ {ds acc : List D}, acc.length + ds.length ≤ 16777216 →
    (∀ d ∈ ds, ∀ (Kt : DK) (Kf : Mu → Prop), (p d = true → Kt (f d) m) → (p d = false → Kf m) → qt (δ.set j (some d)) m (fun k m1 => match k with | true => re (δ.set j (some d)) m1 Kt noX | false => Kf m1) noX) → P (acc ++ (ds.filter p).map f) m → rComp Ph (gN j) qt re δ P ds acc m
  | [], acc, _, _, h => by rw [rComp_nil]; exact ⟨ph, by simpa using h⟩
  | d :: ds, acc, hl, he, h => by
    rw [rComp_cons]
    refine ⟨ph, ?_⟩
    simp only [List.length_cons] at hl
    refine he d List.mem_cons_self _ _ (fun e => ⟨?_, ?_⟩) fun e => ?_
    · rw [sizeLine_eq]; omega
    · refine comp_accf p f ph (by rw [List.length_append]; simp; omega) (fun x z => he x (List.mem_cons_of_mem _ z)) ?_
      rw [List.filter_cons, if_pos e] at h
      simpa using h
    · refine comp_accf p f ph (by omega) (fun x z => he x (List.mem_cons_of_mem _ z)) ?_
      rw [List.filter_cons, if_neg (by rw [e]; decide)] at h
      exact h
theorem comp2_ff {ri1 : DI} {js1 : List Nat} (g : D → List D) (p : D → D → Bool) (f : D → D → D) (ph : Ph m) : ∀ {ds acc : List D}, acc.length + (ds.flatMap g).length ≤ 16777216 → (∀ d ∈ ds, ∀ P' : (Mu → Prop) → List D → Mu → Prop, P' (fun _ => True) (g d) m → ri1 (δ.set j (some d)) m P' noX) →
    (∀ d ∈ ds, ∀ e ∈ g d, ∀ (Kt : DK) (Kf : Mu → Prop), (p d e = true → Kt (f d e) m) → (p d e = false → Kf m) → qt ((wipeD (δ.set j (some d)) js1).set j1 (some e)) m (fun k m1 => match k with | true => re ((wipeD (δ.set j (some d)) js1).set j1 (some e)) m1 Kt noX | false => Kf m1) noX) →
    P (acc ++ ds.flatMap fun d => ((g d).filter (p d)).map (f d)) m → rComp2 Ph (gN j) qYes ri1 js1 (gN j1) qt re δ P ds acc m
  | [], acc, _, _, _, h => by rw [rComp2_nil]; exact ⟨ph, by simpa using h⟩
  | d :: ds, acc, hl, hi, he, h => by
    rw [rComp2_cons]
    refine ⟨ph, ?_⟩
    show ri1 (δ.set j (some d)) m _ noX
    refine hi d List.mem_cons_self _ ?_
    simp only [List.flatMap_cons, List.length_append] at hl
    refine comp_accf (p d) (f d) trivial (by omega) (he d List.mem_cons_self) ?_
    have hf : ((g d).filter (p d)).length ≤ (g d).length := List.length_filter_le _ _
    exact comp2_ff g p f ph (by rw [List.length_append, List.length_map]; omega) (fun e z => hi e (List.mem_cons_of_mem _ z)) (fun e z => he e (List.mem_cons_of_mem _ z)) (by simpa using h)
end
theorem flat_const3 {α β : Type} (r : List β) : ∀ l : List α, (l.flatMap fun _ => r).length = l.length * r.length
  | [] => by simp
  | x :: l => by rw [List.flatMap_cons, List.length_append, flat_const3 r l, List.length_cons, Nat.succ_mul]; omega
def unN : D → List Nat
  | .tup ds => ds.map fun d => match d with | .int i => i.toNat | _ => 0
  | _ => []
theorem unN_tup (c : List Nat) : unN (.tup (natT c)) = c := by
  show (c.map natD).map _ = c
  rw [List.map_map]
  induction c with
  | nil => rfl
  | cons k c ih => exact congrArg (k :: ·) ih
def lotD (n s : Nat) : D := .lst ((lots n s).map fun c => .tup (natT c))
def sp_lots_of : SpD := fun ds m P _ => ∃ (n s : Nat), ds = [natD n, natD s] ∧ n ≤ 10 ∧ s ≤ 11 ∧ P (lotD n s) m
def rd_lots_of : DS :=
    sSeq (sSet 2 (rLst (rCons (rTup (rNil)) (rNil))))
    (sSeq (sFor (iRange (rCons (rV 1) (rNil))) (gN 3) (sSet 2 (rLc2 (iAny (rV 2)) [4, 5] (gN 4) (qYes) (iRange (rCons (rV 0) (rNil))) [5] (gN 5) (rOr (rTst (rOp oEq (rV 4) (rTup (rNil)))) (rTst (rOp oGt (rV 5) (rOp oIx (rV 4) (rNeg (rC (.int 1))))))) (rOp oAdd (rV 4) (rTup (rCons (rV 5) (rNil)))))))
    (sRet (rV 2)))
theorem ln_lots_of : ∀ ds m Q PX, sp_lots_of ds m Q PX → ds.length = 2 := fun ds m Q PX h => by (repeat (obtain ⟨_, h⟩ := h)); subst_vars; rfl
theorem last_nat {c : List Nat} {x : Nat} (h : c.getLast? = some x) : atI (natT c) (-1) = some (natD x) := by
  have hc : c ≠ [] := fun z => by rw [z] at h; cases h
  have hl : 0 < c.length := List.length_pos_iff.mpr hc
  unfold atI ixN
  rw [if_neg (by decide), natT_len]
  rw [if_pos (by omega)]
  rw [List.getLast?_eq_getElem?] at h
  show (natT c)[_]? = _
  unfold natT
  rw [List.getElem?_map, show ((-1 : Int) + (c.length : Int)).toNat = c.length - 1 by omega, h]; rfl
theorem pu_lots_of : ∀ ds m Q PX, sp_lots_of ds m Q PX → rd_lots_of (dEnds Q PX) (dstart ["many", "size", "found", "turn", "one", "row"] ds) m := by
  rintro ds m Q PX ⟨n, s, rfl, hn, hs, h⟩
  obtain ⟨N, hN⟩ : ∃ N : Int, N = (n : Int) := ⟨_, rfl⟩
  obtain ⟨S, hS⟩ : ∃ S : Int, S = (s : Int) := ⟨_, rfl⟩
  show rd_lots_of (dEnds Q PX) [some (.int (n : Int)), some (.int (s : Int)), none, none, none, none] m
  rw [← hN, ← hS]
  walk_at "go"
  refine loop_inv (fun i δ m' => m' = m ∧ ∃ a3 a4 a5, δ = [some (.int N), some (.int S), some (lotD n i), a3, a4, a5]) (fun i d δ m' e hh => ?_) (fun δ m' hh => ?_) ⟨rfl, _, _, _, rfl⟩
  · obtain ⟨rfl, a3, a4, a5, rfl⟩ := hh
    obtain ⟨hi, rfl⟩ := rg_get e
    have hi11 : i < 11 := by omega
    have hf := lots_few n hn i (by omega)
    refine ⟨trivial, fun Nx k1 => ?_⟩
    walk_at "go"
    refine comp2_ff (fun _ => rangeD 0 n) (fun d e => match e with | .int k => decide (((lowOf (unN d) : Nat) : Int) ≤ k) | _ => false) (fun d e => .tup (natT (unN d) ++ [e])) trivial ?_ (fun d hd P' h' => ?_) (fun d hd e he Kt Kf ht hf => ?_) ?_
    · rw [flat_const3, rg_len, List.length_map]
      have : (lots n i).length * n ≤ 1000 * 10 := Nat.mul_le_mul hf hn
      show 0 + _ ≤ _
      omega
    · have e0 : rangeD 0 n = rangeD 0 N.toNat := by rw [show N.toNat = n by omega]
      rw [e0] at h'
      walk_at "go"
      exact h'
    · obtain ⟨c, hc, rfl⟩ := List.mem_map.mp hd
      obtain ⟨k, hk⟩ := List.getElem?_of_mem he
      obtain ⟨hkn, rfl⟩ := rg_get hk
      obtain ⟨c1, c2⟩ := lots_len n i c hc
      dsimp only at ht hf
      rw [unN_tup] at ht hf
      have tc : thD 2 (.tup (natT c)) := ⟨by rw [natT_len]; omega, fun d hd => by obtain ⟨x, _, rfl⟩ := List.mem_map.mp hd; exact thD_int⟩
      have lc := natT_len c
      walk_at "go"
      refine ⟨shpT tc, shpT (n := 1) thD_nil, ?_⟩
      rw [if_neg (by decide)]
      show (match deq (.tup (natT c)) (.tup []) with | true => _ | false => _)
      rw [deq_tup_nil]
      cases c with
      | nil =>
        walk_at "go"
        exact ht (decide_eq_true (by show (0 : Int) ≤ _; omega))
      | cons y r =>
        cases eg : (y :: r).getLast? with
        | none => simp at eg
        | some x =>
          have el : lowOf (y :: r) = x + 1 := by unfold lowOf; rw [eg]
          rw [el] at ht hf
          have ea := last_nat eg
          walk_at "dl"
          rw [ea]
          obtain ⟨K, hK⟩ : ∃ K : Int, K = 0 + (k : Int) := ⟨_, rfl⟩
          obtain ⟨Y, hY⟩ : ∃ Y : Int, Y = (x : Int) := ⟨_, rfl⟩
          rw [← hK] at ht hf
          show (match decide ((x : Int) < 0 + (k : Int)) with | true => _ | false => _)
          rw [← hK, ← hY]
          by_cases hlt : Y < K
          · rw [decide_eq_true hlt]
            walk_at "dl"
            refine ⟨len_line (by simp), ?_⟩
            walk_at "dl"
            refine ⟨len_line (by rw [natT_len, c1]; simp; omega), ?_⟩
            exact ht (decide_eq_true (by omega))
          · rw [decide_eq_false hlt]
            exact hf (decide_eq_false (by omega))
    · refine k1 _ _ ⟨rfl, some (.int (0 + (i : Int))), a4, a5, ?_⟩
      have : (List.map (fun c => D.tup (natT c)) (lots n i)).flatMap (fun d => ((rangeD 0 n).filter (fun e => match e with | .int k => decide (((lowOf (unN d) : Nat) : Int) ≤ k) | _ => false)).map (fun e => D.tup (natT (unN d) ++ [e]))) = (lots n (i + 1)).map fun c => .tup (natT c) := by
        show _ = ((lots n i).flatMap fun c => (nexts n c).map fun k => c ++ [k]).map fun c => D.tup (natT c)
        rw [List.flatMap_map, List.map_flatMap]
        congr 1
        funext c
        rw [unN_tup, List.map_map]
        unfold nexts rangeD
        rw [List.filter_map, List.map_map]
        have e1 : (fun e => match e with | D.int k => decide (((lowOf c : Nat) : Int) ≤ k) | _ => false) ∘ (fun i : Nat => D.int (0 + (i : Int))) = fun k => decide (lowOf c ≤ k) := by
          funext k
          show decide (((lowOf c : Nat) : Int) ≤ 0 + (k : Int)) = decide (lowOf c ≤ k)
          rw [decide_eq_decide]; omega
        rw [e1]
        congr 1
        funext k
        show D.tup (natT c ++ [D.int (0 + (k : Int))]) = D.tup (natT (c ++ [k]))
        unfold natT
        rw [List.map_append, Int.zero_add]; rfl
      rw [List.nil_append, this]; rfl
  · obtain ⟨rfl, a3, a4, a5, rfl⟩ := hh
    refine ⟨trivial, ?_⟩
    rw [rg_len, show S.toNat = s by omega]
    walk_at "go"
    exact h
theorem most_same {n : Nat} : ∀ {ns : List Int} , (∀ k ∈ ns, k = (n : Int)) → mostI (n : Int) ns = n := by
  intro ns h
  obtain ⟨h1, h2⟩ := mostI_spec ns (n : Int)
  rcases List.mem_cons.mp h1 with e | e
  · exact e
  · exact h _ e
def oLots (m : Mu) (P : DK) : Option (List Nat) → Prop
  | none => P .non m
  | some c => ∀ q, m q = none → P (.adr q) (mset m q (.lst (natT c)))
structure TabOk (T : List (List Bool)) (n : Nat) : Prop where
  few : T.length ≤ 100
  small : n ≤ 10
  same : ∀ col ∈ T, col.length = n
  nil : T = [] → n = 0
def sp_fewest : SpD := fun ds m P _ => ∃ (T : List (List Bool)) (n : Nat), ds = [tabD T] ∧ TabOk T n ∧ oLots m P (few T n)
def rd_fewest : DS :=
    sSeq (sSet 1 (rMaxK (rCons (rLc (iAny (rV 0)) [4] (gN 4) (qYes) (rCB cLen (rCons (rV 4) (rNil)))) (rNil)) (rCons (rC (.int 0)) (rNil))))
    (sSeq (sFor (iRange (rCons (rOp oAdd (rV 1) (rC (.int 1))) (rNil))) (gN 2) (sFor (iAny (rCall sp_lots_of [] (rCons (rV 1) (rCons (rV 2) (rNil))))) (gN 3) (sIf (rTst (rOp (oIsN false) (rCall sp_not_parted [] (rCons (rV 0) (rCons (rV 3) (rNil)))) (rC .non))) (sRet (rCB cLstM (rCons (rV 3) (rNil)))) (sNext))))
    (sRet (rC .non)))
theorem ln_fewest : ∀ ds m Q PX, sp_fewest ds m Q PX → ds.length = 1 := fun ds m Q PX h => by (repeat (obtain ⟨_, h⟩ := h)); subst_vars; rfl
def T_fewest_2 : DS := sSeq (sFor (iRange (rCons (rOp oAdd (rV 1) (rC (.int 1))) (rNil))) (gN 2) (sFor (iAny (rCall sp_lots_of [] (rCons (rV 1) (rCons (rV 2) (rNil))))) (gN 3) (sIf (rTst (rOp (oIsN false) (rCall sp_not_parted [] (rCons (rV 0) (rCons (rV 3) (rNil)))) (rC .non))) (sRet (rCB cLstM (rCons (rV 3) (rNil)))) (sNext))))
    (sRet (rC .non))
theorem ints_map {α : Type} (f : α → Int) (xs : List α) : intsD (xs.map fun x => .int (f x)) = some (xs.map f) := by
  induction xs with
  | nil => rfl
  | cons x xs ih => rw [List.map_cons, intsD, ih]; rfl
theorem pu_fewest : ∀ ds m Q PX, sp_fewest ds m Q PX → rd_fewest (dEnds Q PX) (dstart ["parts", "many", "size", "chosen", "column"] ds) m := by
  rintro ds m Q PX ⟨T, n, rfl, hT, h⟩
  have t1 := hT.few
  have t2 := hT.small
  walk_at "go"
  refine comp_on T colD (fun col => .int (col.length : Int)) (by omega) trivial (fun col hc Q q => ?_) ?_
  · walk_at "go"
    rw [List.length_map]
    exact q
  have fin : ∀ N : Int, N = n → T_fewest_2 (dEnds Q PX) [some (tabD T), some (.int N), none, none, none] m := by
    intro N hN
    walk_at "go"
    refine loop_inv (fun i δ m' => m' = m ∧ few T n = fewGo T n ((List.range (n + 1)).drop i) ∧ ∃ a2 a3 a4, δ = [some (tabD T), some (.int N), a2, a3, a4]) (fun i d δ m' e hh => ?_) (fun δ m' hh => ?_) ⟨rfl, rfl, _, _, _, rfl⟩
    · obtain ⟨rfl, hf, a2, a3, a4, rfl⟩ := hh
      obtain ⟨hi, rfl⟩ := rg_get e
      have hin : i < n + 1 := by omega
      have hlf := lots_few n t2 i (by omega)
      have ed : (List.range (n + 1)).drop i = i :: (List.range (n + 1)).drop (i + 1) := by
        rw [List.drop_eq_getElem_cons (by rw [List.length_range]; exact hin), List.getElem_range]
      rw [ed, show fewGo T n (i :: (List.range (n + 1)).drop (i + 1)) = (match (lots n i).find? (partsAll T) with | some c => some c | none => fewGo T n ((List.range (n + 1)).drop (i + 1))) from rfl] at hf
      obtain ⟨I, hI⟩ : ∃ I : Int, I = 0 + (i : Int) := ⟨_, rfl⟩
      refine ⟨trivial, fun Nx k1 => ?_⟩
      rw [← hI]
      walk_at "go"
      refine ⟨n, i, by rw [show I = (i : Int) by omega, hN]; rfl, t2, by omega, ?_⟩
      walk_at "go"
      refine loop_inv (fun j δ m'' => m'' = m' ∧ (lots n i).find? (partsAll T) = ((lots n i).drop j).find? (partsAll T) ∧ ∃ a3, δ = [some (tabD T), some (.int N), some (.int I), a3, a4]) (fun j d δ m'' e hh => ?_) (fun δ m'' hh => ?_) ⟨rfl, rfl, _, rfl⟩
      · obtain ⟨rfl, hg, a3, rfl⟩ := hh
        rw [List.getElem?_map] at e
        cases ei : (lots n i)[j]? with
        | none => rw [ei] at e; cases e
        | some c =>
        rw [ei] at e
        cases e
        have hj := (List.getElem?_eq_some_iff.mp ei).1
        obtain ⟨c1, c2⟩ := lots_len n i c (List.mem_of_getElem? ei)
        rw [show (lots n i).drop j = c :: (lots n i).drop (j + 1) from by
          obtain ⟨hi, hw⟩ := List.getElem?_eq_some_iff.mp ei
          rw [List.drop_eq_getElem_cons hi, hw], List.find?_cons] at hg
        refine ⟨trivial, fun Nx2 k2 => ?_⟩
        walk_at "go"
        refine ⟨T, c, rfl, by omega, by omega, fun col hc k hk => by rw [hT.same col hc]; exact c2 k hk, ?_⟩
        cases ep : partsAll T c with
        | true =>
          rw [ep] at hg
          rw [hg] at hf
          rw [notP_none.mpr ep]
          rw [hf] at h
          walk_at "go"
          exact h
        | false =>
          rw [ep] at hg
          cases en : notP T c with
          | none => rw [notP_none.mp en] at ep; cases ep
          | some k =>
            walk_at "go"
            exact k2 _ _ ⟨rfl, hg, _, rfl⟩
      · obtain ⟨rfl, hg, a3, rfl⟩ := hh
        rw [List.length_map, List.drop_length] at hg
        rw [hg] at hf
        exact ⟨trivial, k1 _ _ ⟨rfl, hf, _, _, _, rfl⟩⟩
    · obtain ⟨rfl, hf, a2, a3, a4, rfl⟩ := hh
      refine ⟨trivial, ?_⟩
      rw [rg_len, show (N + 1).toNat = (List.range (n + 1)).length by rw [List.length_range]; omega, List.drop_length] at hf
      rw [hf] at h
      exact h
  walk_at "dl"
  have ai : asI m (.lst (T.map fun col => D.int (col.length : Int))) = some (T.map fun col => (col.length : Int)) := by
    show intsD _ = _
    exact ints_map _ _
  rw [ai]
  cases T with
  | nil => exact fin 0 (by rw [hT.nil rfl]; rfl)
  | cons col T =>
    have e0 : (col.length : Int) = n := by rw [hT.same col List.mem_cons_self]
    refine fin (mostI (col.length : Int) (T.map fun col => (col.length : Int))) ?_
    rw [e0]
    refine most_same fun k hk => ?_
    obtain ⟨x, hx, rfl⟩ := List.mem_map.mp hk
    rw [hT.same x (List.mem_cons_of_mem _ hx)]
end
section
/-! ### rooms: what is one -/
def strIs (s : Str) : D → Bool
  | .str x => decide (x = s)
  | _ => false
def thingB : D → Bool
  | .int _ => true
  | .tup [a, b] => strIs "last" a && isWhole b
  | _ => false
def placeB (n : Int) : D → Bool
  | .int i => decide (0 ≤ i) && decide (i < n)
  | _ => false
noncomputable def wayB (n : Int) : D → Bool
  | .tup [a, b] => lookB a && placeB n b
  | _ => false
end
section
def tupB (k : Nat) (f : D → Bool) : D → Bool
  | .tup xs => decide (xs.length ≤ k) && xs.all f
  | _ => false
noncomputable def askingB (n : Int) : List D → Bool
  | [a, b, c, e, f] => nmD a && (nmD b && (tupB 2 thingB c && (tupB 3 (wayB n) e && placeB n f)))
  | _ => false
def tellB : List D → Bool
  | [x] => thingB x
  | _ => false
noncomputable def roomB (n : Int) : D → Bool
  | .tup (w :: rest) => if strIs "tell" w then tellB rest else strIs "ask" w && askingB n rest
  | _ => false
noncomputable def roomsB : D → Bool
  | .tup rs => decide (1 ≤ rs.length) && (decide (rs.length ≤ 9) && rs.all (roomB rs.length))
  | _ => false
end
section
/-! ### programs of rooms and their runs -/
inductive Th where
  | num (n : Int)
  | last (n : Int)
def Th.d : Th → D
  | .num n => .int n
  | .last n => .tup [.str "last", .int n]
def Th.at : Th → Int → Int
  | .num n, _ => n
  | .last n, l => l + n
inductive Rm where
  | tell (t : Th)
  | ask (p e : Str) (ts : List Th) (ws : List (Lk × Int)) (o : Int)
def wyD (w : Lk × Int) : D := .tup [w.1.d, .int w.2]
def Rm.d : Rm → D
  | .tell t => .tup [.str "tell", t.d]
  | .ask p e ts ws o => .tup [.str "ask", .str p, .str e, .tup (ts.map Th.d), .tup (ws.map wyD), .int o]
def rmsD (rs : List Rm) : D := .tup (rs.map Rm.d)
def Th.B : Th → Prop
  | .num n => Bd 152 n
  | .last n => Bd 152 n
def Th.S : Th → Prop
  | .num n => Bd 142 n
  | .last n => Bd 142 n
theorem Th.S.b {t : Th} (h : t.S) : t.B := by cases t <;> exact Bd.mono h
def Rm.ths : Rm → List Th
  | .tell t => [t]
  | .ask _ _ ts _ _ => ts
structure Rm.Ok (n : Nat) (r : Rm) : Prop where
  tb : ∀ t ∈ r.ths, t.B
  nm : ∀ p e ts ws o, r = .ask p e ts ws o → (nmB p = true ∧ nmB e = true) ∧ ts.length ≤ 2 ∧ (ws.length ≤ 3 ∧ ∀ w ∈ ws, w.1.Good 142 ∧ 0 ≤ w.2 ∧ w.2 < n) ∧ 0 ≤ o ∧ o < n
structure RsOk (rs : List Rm) : Prop where
  one : 1 ≤ rs.length
  few : rs.length ≤ 9
  ok : ∀ r ∈ rs, r.Ok rs.length
abbrev Ask := Str × Str × List Int
def askT (a : Ask) : D := askD a.1 a.2.1 a.2.2
def Rm.asks : Rm → Int → Option Ask
  | .ask p e ts _ _, l => some (p, e, ts.map (·.at l))
  | .tell _, _ => none
def Rm.told : Rm → Int → Option Int
  | .ask _ _ _ _ _, _ => none
  | .tell t, l => some (t.at l)
def wTo (n : Int) (o : Int) : List (Lk × Int) → Int
  | [] => o
  | w :: ws => if w.1.fits n then w.2 else wTo n o ws
def Rm.to : Rm → Int → Int
  | .ask _ _ _ ws o, n => wTo n o ws
  | .tell _, _ => 0
def rmAt (rs : List Rm) (k : Int) : Rm := (rs[k.toNat]?).getD (.tell (.num 0))
theorem rm_at {rs : List Rm} {k : Int} (h0 : 0 ≤ k) (h1 : k < rs.length) : rmAt rs k ∈ rs ∧ atI (rs.map Rm.d) k = some (rmAt rs k).d := by
  obtain ⟨x, a1, a2⟩ := atI_some (xs := rs.map Rm.d) h0 (by rw [List.length_map]; exact h1)
  rw [List.getElem?_map] at a2
  cases e : rs[k.toNat]? with
  | none => rw [e] at a2; cases a2
  | some r =>
    rw [e] at a2; cases a2
    unfold rmAt
    rw [e]
    exact ⟨List.mem_of_getElem? e, a1⟩
theorem wTo_ok {n o : Int} {k : Nat} : ∀ {ws : List (Lk × Int)}, (∀ w ∈ ws, w.1.Good 142 ∧ 0 ≤ w.2 ∧ w.2 < k) → 0 ≤ o → o < k → 0 ≤ wTo n o ws ∧ wTo n o ws < k
  | [], _, h0, h1 => ⟨h0, h1⟩
  | w :: ws, h, h0, h1 => by
    unfold wTo
    split
    · exact (h w List.mem_cons_self).2
    · exact wTo_ok (fun w hw => h w (List.mem_cons_of_mem _ hw)) h0 h1
theorem Rm.Ok.to {n : Nat} {r : Rm} (h : r.Ok n) (hn : 0 < n) (a : Int) : 0 ≤ r.to a ∧ r.to a < n := by
  cases r with
  | tell t => exact ⟨Int.le_refl 0, by show (0 : Int) < n; omega⟩
  | ask p e ts ws o =>
    obtain ⟨_, _, h2, h3⟩ := h.nm p e ts ws o rfl
    exact wTo_ok h2.2 h3.1 h3.2
def runR (rs : List Rm) : List Int → Int → Int → List Ask × Option Int
  | [], k, l => match (rmAt rs k).asks l with
    | some a => ([a], none)
    | none => ([], (rmAt rs k).told l)
  | n :: ns, k, l => match (rmAt rs k).asks l with
    | some a => (a :: (runR rs ns ((rmAt rs k).to n) n).1, (runR rs ns ((rmAt rs k).to n) n).2)
    | none => ([], (rmAt rs k).told l)
theorem Th.th {n : Nat} (t : Th) : thD (n + 1) t.d := by
  cases t with
  | num k => exact thD_int
  | last k => exact thD_tup (by simp) (by walk_at "th")
theorem Th.is (t : Th) : thingB t.d = true := by
  cases t with
  | num k => rfl
  | last k => show (decide (Str.ofString "last" = Str.ofString "last") && true) = true; simp
end
section
theorem RsOk.th {rs : List Rm} (h : RsOk rs) : thD 7 (rmsD rs) := by
  refine ⟨by rw [List.length_map]; have := h.few; omega, fun d hd => ?_⟩
  obtain ⟨r, hr, rfl⟩ := List.mem_map.mp hd
  have ho := h.ok r hr
  cases r with
  | tell t =>
    have := t.th (n := 4)
    exact thD_tup (by simp) (by walk_at "th")
  | ask p e ts ws o =>
    obtain ⟨⟨h1, h2⟩, h3, ⟨h4, h5⟩, _⟩ := ho.nm p e ts ws o rfl
    have t1 : thD 5 (.str p) := thD_nm h1
    have t2 : thD 5 (.str e) := thD_nm h2
    have t3 : thD 5 (.tup (ts.map Th.d)) := ⟨by rw [List.length_map]; omega, fun d hd => by
      obtain ⟨t, _, rfl⟩ := List.mem_map.mp hd
      exact t.th⟩
    have t4 : thD 5 (.tup (ws.map wyD)) := ⟨by rw [List.length_map]; omega, fun d hd => by
      obtain ⟨w, hw, rfl⟩ := List.mem_map.mp hd
      have g : thD 3 w.1.d := (h5 w hw).1.th
      exact thD_tup (by simp) (by walk_at "th")⟩
    exact thD_tup (by simp) (by walk_at "th")
theorem RsOk.is {rs : List Rm} (h : RsOk rs) : roomsB (rmsD rs) = true := by
  show (decide (1 ≤ (rs.map Rm.d).length) && (decide ((rs.map Rm.d).length ≤ 9) && (rs.map Rm.d).all (roomB (rs.map Rm.d).length))) = true
  rw [List.length_map, decide_eq_true h.one, decide_eq_true h.few, Bool.true_and, Bool.true_and, List.all_eq_true]
  intro d hd
  obtain ⟨r, hr, rfl⟩ := List.mem_map.mp hd
  have ho := h.ok r hr
  cases r with
  | tell t =>
    show (if strIs "tell" (.str "tell") then tellB [t.d] else strIs "ask" (.str "tell") && askingB rs.length [t.d]) = true
    rw [if_pos (by simp [strIs])]
    exact t.is
  | ask p e ts ws o =>
    obtain ⟨⟨h1, h2⟩, h3, ⟨h4, h5⟩, h6, h7⟩ := ho.nm p e ts ws o rfl
    show (if strIs "tell" (.str "ask") then tellB [.str p, .str e, .tup (ts.map Th.d), .tup (ws.map wyD), .int o] else strIs "ask" (.str "ask") && askingB rs.length [.str p, .str e, .tup (ts.map Th.d), .tup (ws.map wyD), .int o]) = true
    rw [show strIs "tell" (.str "ask") = false from by decide +kernel, show strIs "ask" (.str "ask") = true from by decide +kernel, if_neg (by decide), Bool.true_and]
    show (nmB p && (nmB e && ((decide ((ts.map Th.d).length ≤ 2) && (ts.map Th.d).all thingB) && ((decide ((ws.map wyD).length ≤ 3) && (ws.map wyD).all (wayB rs.length)) && (decide (0 ≤ o) && decide (o < rs.length)))))) = true
    rw [h1, h2, List.length_map, List.length_map, decide_eq_true h3, decide_eq_true h4, decide_eq_true h6, decide_eq_true h7]
    simp only [Bool.true_and, Bool.and_true, Bool.and_eq_true, List.all_eq_true]
    refine ⟨fun d hd => ?_, fun d hd => ?_⟩
    · obtain ⟨t, _, rfl⟩ := List.mem_map.mp hd
      exact t.is
    · obtain ⟨w, hw, rfl⟩ := List.mem_map.mp hd
      obtain ⟨g1, g2, g3⟩ := h5 w hw
      show (lookB w.1.d && (decide (0 ≤ w.2) && decide (w.2 < rs.length))) = true
      rw [g1.look, decide_eq_true g2, decide_eq_true g3]; rfl
theorem rm_ask {r : Rm} {l : Int} {a : Ask} (h : r.asks l = some a) : r.told l = none := by
  cases r with
  | tell t => cases h
  | ask => rfl
theorem runR_cons (rs : List Rm) (n : Int) (ns : List Int) (k l : Int) : runR rs (n :: ns) k l = (match (rmAt rs k).asks l with
    | some a => (a :: (runR rs ns ((rmAt rs k).to n) n).1, (runR rs ns ((rmAt rs k).to n) n).2)
    | none => ([], (rmAt rs k).told l)) := rfl
theorem runR_nil (rs : List Rm) (k l : Int) : runR rs [] k l = (match (rmAt rs k).asks l with
    | some a => ([a], none)
    | none => ([], (rmAt rs k).told l)) := rfl
end
section
/-- so many things, drawn -/
theorem comp_dr {w : Addr} {rg : DG} {re : DE} {δ : DSt} {n c N : Nat} {m : Mu} {P0 : DK} {R : D → Prop} {R1 : D → Prop} {P : List D → Mu → Prop}
    (hn : n ≤ 1000) (hN : n * c ≤ N) (h : Dr w N R m P0)
    (he : ∀ (i : Nat) (m' : Mu) (Kt : DK), i < n → Dr w c R1 m' Kt → rg (.int (0 + (i : Int))) δ m' fun δ' m'' => re δ' m'' Kt noX)
    (k : ∀ acc m', acc.length = n → (∀ d ∈ acc, R1 d) → Kp [w] m m' → Dr w (N - n * c) R m' P0 → P acc m') : rComp (fun _ => True) rg qYes re δ P (rangeD 0 n) [] m := by
  obtain ⟨kk, wl, hk, h⟩ := h
  refine comp_inv (fun i acc m' => Wl m' w (kk + i * c) ∧ Kp [w] m m' ∧ acc.length = i ∧ ∀ d ∈ acc, R1 d) (fun i acc m' hh => ?_) (by rw [rg_len]; omega) (fun i d acc m' e hh => ?_) (fun acc m4 hh => ?_) ⟨by rw [Nat.zero_mul]; exact wl, Kp.refl _ _, rfl, fun _ z => by cases z⟩
  · rw [hh.2.2.1]; exact Nat.le_refl _
  · obtain ⟨wi, kpi, hl, hR⟩ := hh
    obtain ⟨hi, rfl⟩ := rg_get e
    have hi' : i < n := by omega
    have hc : i * c + c ≤ n * c := by rw [← Nat.succ_mul]; exact Nat.mul_le_mul_right _ hi'
    refine ⟨trivial, fun Kt Kf k1 _ => ?_⟩
    refine he i m' Kt hi' ⟨_, wi, by omega, fun d m5 hd kp5 w5 => ?_⟩
    refine k1 _ _ ⟨by rw [Nat.succ_mul, ← Nat.add_assoc]; exact w5, kpi.trans kp5, by rw [List.length_append, hl]; rfl, fun z hz => ?_⟩
    rcases List.mem_append.mp hz with hz | hz
    · exact hR z hz
    · rw [List.mem_singleton.mp hz]; exact hd
  · obtain ⟨w4, kp4, hl, hR⟩ := hh
    rw [rg_len] at hl w4
    exact ⟨trivial, k acc m4 hl hR kp4 ⟨_, w4, by omega, fun d m' hd kp w' => h d m' hd (kp4.trans kp) (by rw [show kk + n * c + (N - n * c) = kk + N by omega] at w'; exact w')⟩⟩
end
section
/-! ### runs walked (k55) -/
structure AsOk (a : Ask) : Prop where
  nm : nmB a.1 = true ∧ nmB a.2.1 = true
  few : a.2.2.length ≤ 2
theorem AsOk.th {a : Ask} (h : AsOk a) : thD 3 (askT a) := by
  have t1 := thD_nm (n := 2) h.nm.1
  have t2 := thD_nm (n := 2) h.nm.2
  have t3 : thD 2 (.tup (a.2.2.map .int)) := thD_ints (by have := h.few; omega)
  exact ⟨by simp, by walk_at "th"⟩
theorem Rm.Ok.asks {n : Nat} {r : Rm} (h : r.Ok n) {l : Int} {a : Ask} (e : r.asks l = some a) : AsOk a := by
  cases r with
  | tell t => cases e
  | ask p e' ts ws o =>
    cases e
    obtain ⟨h1, h2, _⟩ := h.nm p e' ts ws o rfl
    exact ⟨h1, by show (ts.map _).length ≤ 2; rw [List.length_map]; exact h2⟩
end
section
/-! ### loops and comprehensions over things of a kind -/
section
variable {α : Type} {Ph : Mu → Prop} {rg rg1 : DG} {qt qt1 : DT} {ri1 : DI} {js1 : List Nat} {re : DE} {δ : DSt} {P : List D → Mu → Prop} {m : Mu}
theorem comp_ty (dd : α → D) (f : α → List D) (L : Nat) (ph : Ph m) : ∀ {xs : List α} {acc : List D},
    (∀ x ∈ xs, ∀ (acc' : List D) (Cn : List D → Mu → Prop), acc'.length + (f x).length ≤ L → Cn (acc' ++ f x) m → rg (dd x) δ m fun δ' m' => qt δ' m' (fun k m1 => match k with
      | true => re δ' m1 (fun y m2 => acc'.length < sizeLine ∧ Cn (acc' ++ [y]) m2) noX
      | false => Cn acc' m1) noX) → acc.length + (xs.flatMap f).length ≤ L → P (acc ++ xs.flatMap f) m → rComp Ph rg qt re δ P (xs.map dd) acc m
  | [], acc, _, _, h => by rw [List.map_nil, rComp_nil]; exact ⟨ph, by simpa using h⟩
  | x :: xs, acc, hs, hl, h => by
    simp only [List.flatMap_cons, List.length_append] at hl
    rw [List.map_cons, rComp_cons]
    refine ⟨ph, hs x List.mem_cons_self acc _ (by omega) ?_⟩
    exact comp_ty dd f L ph (fun y hy => hs y (List.mem_cons_of_mem _ hy)) (by rw [List.length_append]; omega) (by simpa using h)
theorem comp2_ty (dd : α → D) (f : α → List D) (L : Nat) (ph : Ph m) : ∀ {xs : List α} {acc : List D},
    (∀ x ∈ xs, ∀ (acc' : List D) (Cn : List D → Mu → Prop), acc'.length + (f x).length ≤ L → Cn (acc' ++ f x) m → rg (dd x) δ m fun δ' m' => qt δ' m' (fun k m1 => match k with
      | true => ri1 δ' m1 (fun Ph1 ds1 m2 => rComp Ph1 rg1 qt1 re (wipeD δ' js1) (fun acc' m3 => Cn acc' m3) ds1 acc' m2) noX
      | false => Cn acc' m1) noX) → acc.length + (xs.flatMap f).length ≤ L → P (acc ++ xs.flatMap f) m → rComp2 Ph rg qt ri1 js1 rg1 qt1 re δ P (xs.map dd) acc m
  | [], acc, _, _, h => by rw [List.map_nil, rComp2_nil]; exact ⟨ph, by simpa using h⟩
  | x :: xs, acc, hs, hl, h => by
    simp only [List.flatMap_cons, List.length_append] at hl
    rw [List.map_cons, rComp2_cons]
    refine ⟨ph, hs x List.mem_cons_self acc _ (by omega) ?_⟩
    exact comp2_ty dd f L ph (fun y hy => hs y (List.mem_cons_of_mem _ hy)) (by rw [List.length_append]; omega) (by simpa using h)
end
end
section
/-! ### the answers that matter (k71) -/
def Th.pl : Th → Option Int
  | .num n => some n
  | .last _ => none
def Th.mo : Th → Option Int
  | .num _ => none
  | .last n => some n
def meetR (ts : List Th) : List Int := (ts.filterMap Th.pl).flatMap fun n => (ts.filterMap Th.mo).flatMap fun k => [n - k, n - k + 1]
def Rm.lks : Rm → List Lk
  | .tell _ => []
  | .ask _ _ _ ws _ => ws.map (·.1)
end
section
/-! ### like answers: like runs -/
/-- two numbers that no number of ts parts -/
def Alk (ts : List Int) (n x : Int) : Prop := ∀ t ∈ ts, (t ≤ n ↔ t ≤ x)
theorem Alk.symm {ts : List Int} {n x : Int} (h : Alk ts n x) : Alk ts x n := fun t ht => (h t ht).symm
theorem Alk.fits {ts : List Int} {n x : Int} (h : Alk ts n x) {l : Lk} (hl : ∀ t ∈ l.turns, t ∈ ts) : l.fits n = l.fits x := by
  have one : ∀ {n x : Int}, n ≤ x → Alk ts n x → l.fits n = l.fits x := fun {n x} hnx h => (fits_same l hnx fun j h1 h2 z => by
    have := h j (hl j z)
    omega).symm
  by_cases hnx : n ≤ x
  · exact one hnx h
  · exact (one (by omega) h.symm).symm
theorem Alk.meet {ts : List Int} {n x t : Int} (h : Alk ts n x) (h1 : t ∈ ts) (h2 : t + 1 ∈ ts) : n = t ↔ x = t := by
  have := h t h1
  have := h (t + 1) h2
  omega
theorem Alk.to {ts : List Int} {n x : Int} (h : Alk ts n x) {r : Rm} (hr : ∀ t ∈ r.lks.flatMap Lk.turns, t ∈ ts) : r.to n = r.to x := by
  cases r with
  | tell t => rfl
  | ask p e ths ws o =>
    show wTo n o ws = wTo x o ws
    have hw : ∀ w ∈ ws, ∀ t ∈ w.1.turns, t ∈ ts := fun w hw t ht => hr t (List.mem_flatMap.mpr ⟨w.1, List.mem_map.mpr ⟨w, hw, rfl⟩, ht⟩)
    clear hr
    induction ws with
    | nil => rfl
    | cons w ws ih =>
      unfold wTo
      rw [h.fits (hw w List.mem_cons_self), ih fun w' h' => hw w' (List.mem_cons_of_mem _ h')]
/-- two things are told alike at one last answer just where at the other -/
theorem th_alk {ts : List Int} {n x : Int} (h : Alk ts n x) {ths : List Th} (hm : ∀ t ∈ meetR ths, t ∈ ts) {s t : Th} (hs : s ∈ ths) (ht : t ∈ ths) : s.at n = t.at n ↔ s.at x = t.at x := by
  have key : ∀ {a k : Int}, Th.num a ∈ ths → Th.last k ∈ ths → (a = n + k ↔ a = x + k) := fun {a k} ha hk => by
    have h1 : a - k ∈ meetR ths := List.mem_flatMap.mpr ⟨a, List.mem_filterMap.mpr ⟨_, ha, rfl⟩, List.mem_flatMap.mpr ⟨k, List.mem_filterMap.mpr ⟨_, hk, rfl⟩, by simp⟩⟩
    have h2 : a - k + 1 ∈ meetR ths := List.mem_flatMap.mpr ⟨a, List.mem_filterMap.mpr ⟨_, ha, rfl⟩, List.mem_flatMap.mpr ⟨k, List.mem_filterMap.mpr ⟨_, hk, rfl⟩, by simp⟩⟩
    have := h.meet (hm _ h1) (hm _ h2)
    omega
  cases s with
  | num a =>
    cases t with
    | num b => exact Iff.rfl
    | last k => exact key hs ht
  | last k =>
    cases t with
    | num b =>
      show n + k = b ↔ x + k = b
      have := key ht hs
      omega
    | last j =>
      show n + k = n + j ↔ x + k = x + j
      omega
theorem ths_alk {ts : List Int} {n x : Int} (h : Alk ts n x) {ths : List Th} (hm : ∀ t ∈ meetR ths, t ∈ ts) : ∀ {as bs : List Th}, (∀ s ∈ as, s ∈ ths) → (∀ s ∈ bs, s ∈ ths) → (as.map (·.at n) = bs.map (·.at n) ↔ as.map (·.at x) = bs.map (·.at x))
  | [], [], _, _ => Iff.rfl
  | [], _ :: _, _, _ => by simp
  | _ :: _, [], _, _ => by simp
  | a :: as, b :: bs, ha, hb => by
    simp only [List.map_cons, List.cons.injEq]
    rw [th_alk h hm (ha a List.mem_cons_self) (hb b List.mem_cons_self), ths_alk h hm (fun s z => ha s (List.mem_cons_of_mem _ z)) (fun s z => hb s (List.mem_cons_of_mem _ z))]
/-- what two rooms say -/
theorem said_alk {ts : List Int} {n x : Int} (h : Alk ts n x) {ths : List Th} (hm : ∀ t ∈ meetR ths, t ∈ ts) {r q : Rm} (hr : ∀ s ∈ r.ths, s ∈ ths) (hq : ∀ s ∈ q.ths, s ∈ ths) :
    (r.asks n = q.asks n ↔ r.asks x = q.asks x) ∧ (r.told n = q.told n ↔ r.told x = q.told x) := by
  cases r with
  | tell s =>
    cases q with
    | tell t =>
      refine ⟨Iff.rfl, ?_⟩
      show some (s.at n) = some (t.at n) ↔ some (s.at x) = some (t.at x)
      rw [Option.some.injEq, Option.some.injEq]
      exact th_alk h hm (hr s List.mem_cons_self) (hq t List.mem_cons_self)
    | ask p e us ws o => exact ⟨by simp [Rm.asks], by simp [Rm.told]⟩
  | ask p e us ws o =>
    cases q with
    | tell t => exact ⟨by simp [Rm.asks], by simp [Rm.told]⟩
    | ask p' e' us' ws' o' =>
      refine ⟨?_, Iff.rfl⟩
      simp only [Rm.asks, Option.some.injEq, Prod.mk.injEq]
      have := ths_alk h hm (as := us) (bs := us') hr hq
      rw [this]
theorem asks_none {r : Rm} {n x : Int} : r.asks n = none ↔ r.asks x = none := by cases r <;> simp [Rm.asks]
/-- answers that are like one another, one by one -/
inductive AlkL (ts : List Int) : List Int → List Int → Prop
  | nil : AlkL ts [] []
  | cons {n x : Int} {ns xs : List Int} : Alk ts n x → AlkL ts ns xs → AlkL ts (n :: ns) (x :: xs)
structure Cov (ts : List Int) (ths : List Th) (rs : List Rm) : Prop where
  one : 1 ≤ rs.length
  ok : ∀ r ∈ rs, r.Ok rs.length
  tr : ∀ r ∈ rs, ∀ t ∈ r.lks.flatMap Lk.turns, t ∈ ts
  th : ∀ r ∈ rs, ∀ s ∈ r.ths, s ∈ ths
theorem Cov.at {ts : List Int} {ths : List Th} {rs : List Rm} (h : Cov ts ths rs) {k : Int} (k0 : 0 ≤ k) (k1 : k < rs.length) : rmAt rs k ∈ rs := (rm_at k0 k1).1
end
section
theorem AlkL.snoc {ts : List Int} {n x : Int} : ∀ {ns xs : List Int}, AlkL ts ns xs → Alk ts n x → AlkL ts (ns ++ [n]) (xs ++ [x])
  | _, _, .nil, h => .cons h .nil
  | _, _, .cons a t, h => .cons a (t.snoc h)
theorem AlkL.len {ts : List Int} : ∀ {ns xs : List Int}, AlkL ts ns xs → ns.length = xs.length
  | _, _, .nil => rfl
  | _, _, .cons _ t => by rw [List.length_cons, List.length_cons, t.len]
end
section
/-! ### demands of a plan, plans eased -/
abbrev Od := Str × Str × Str
def odD (o : Od) : D := .tup [.str o.1, .str o.2.1, .str o.2.2]
def lsD (x : Str) : D := .tup [.str "least", .str x]
def dems (ws : List Ws) (os : List Od) : List D := ((ws.filter fun W => decide (0 < W.least)).map fun W => lsD W.name) ++ os.map odD
structure PT (d : D) : Prop where
  p : pur d = true
  t : thD 5 d
structure OdOk (ns : List Str) (o : Od) : Prop where
  w : o.1 = "all" ∨ o.1 = "ready"
  a : o.2.1 ∈ ns
  b : o.2.2 ∈ ns
  ne : o.2.1 ≠ o.2.2
structure PnOk (ws : List Ws) (os : List Od) (ss : List Str) : Prop where
  few : ws.length ≤ 5
  ok : ∀ W ∈ ws, W.Ok
  nd : (ws.map Ws.name).Nodup
  many : os.length ≤ 12
  ods : ∀ o ∈ os, OdOk (ws.map Ws.name) o
  ondd : os.Nodup
  sfew : ss.length ≤ 4
  snd : ss.Nodup
  snm : ∀ x ∈ ss, nmB x = true
theorem PnOk.nm {ws : List Ws} {os : List Od} {ss : List Str} (h : PnOk ws os ss) {x : Str} (hx : x ∈ ws.map Ws.name) : nmB x = true := by
  obtain ⟨W, hW, rfl⟩ := List.mem_map.mp hx
  exact (h.ok W hW).name
theorem pt_od {o : Od} (h1 : o.1 = "all" ∨ o.1 = "ready") (h2 : nmB o.2.1 = true) (h3 : nmB o.2.2 = true) : PT (odD o) := by
  have t2 := thD_nm (n := 4) h2
  have t3 := thD_nm (n := 4) h3
  have t1 : thD 4 (.str o.1) := by rcases h1 with e | e <;> (rw [e]; exact thD_txt _ _)
  exact ⟨rfl, thD_tup (by simp) (by walk_at "th")⟩
theorem pt_ls {x : Str} (h : nmB x = true) : PT (lsD x) := by
  have t2 := thD_nm (n := 4) h
  exact ⟨rfl, thD_tup (by simp) (by walk_at "th")⟩
theorem PnOk.pt {ws : List Ws} {os : List Od} {ss : List Str} (h : PnOk ws os ss) : ∀ d ∈ dems ws os, PT d := by
  intro d hd
  rcases List.mem_append.mp hd with hd | hd
  · obtain ⟨W, hW, rfl⟩ := List.mem_map.mp hd
    exact pt_ls (h.ok W (List.mem_filter.mp hW).1).name
  · obtain ⟨o, ho, rfl⟩ := List.mem_map.mp hd
    have := h.ods o ho
    exact pt_od this.w (h.nm this.a) (h.nm this.b)
theorem PnOk.th {ws : List Ws} {os : List Od} {ss : List Str} (h : PnOk ws os ss) : thD 6 (.tup (os.map odD)) ∧ thD 6 (.tup (ss.map D.str)) := by
  constructor
  · refine ⟨by rw [List.length_map]; have := h.many; omega, fun d hd => ?_⟩
    obtain ⟨o, ho, rfl⟩ := List.mem_map.mp hd
    have := h.ods o ho
    exact (pt_od this.w (h.nm this.a) (h.nm this.b)).t
  · refine ⟨by rw [List.length_map]; have := h.sfew; omega, fun d hd => ?_⟩
    obtain ⟨x, hx, rfl⟩ := List.mem_map.mp hd
    exact thD_nm (h.snm x hx)
end
section
/-! ### samples of last answers (k61) -/
def moL (r : Rm) : List Int := r.ths.filterMap Th.mo
end
section
/-! ### two programs walked together (k72): the plain law -/
theorem Alk.trans {ts : List Int} {a b c : Int} (h : Alk ts a b) (k : Alk ts b c) : Alk ts a c := fun t ht => (h t ht).trans (k t ht)
/-- a place in both programs, and the last answer -/
abbrev Cf := Int × Int × Int
section
variable (a b : List Rm)
def saB (c : Cf) : Prop := (rmAt a c.1).asks c.2.2 = (rmAt b c.2.1).asks c.2.2 ∧ (rmAt a c.1).told c.2.2 = (rmAt b c.2.1).told c.2.2
def nxC (c : Cf) (n : Int) : Cf := ((rmAt a c.1).to n, (rmAt b c.2.1).to n, n)
def gdC : Cf → List Int → Prop
  | _, [] => True
  | c, n :: ns => saB a b c ∧ (rmAt a c.1).asks c.2.2 ≠ none ∧ gdC (nxC a b c n) ns
def enC : Cf → List Int → Cf
  | c, [] => c
  | c, n :: ns => enC (nxC a b c n) ns
def RgC (c : Cf) : Prop := (0 ≤ c.1 ∧ c.1 < a.length) ∧ 0 ≤ c.2.1 ∧ c.2.1 < b.length
def SmC (ts : List Int) (c d : Cf) : Prop := c.1 = d.1 ∧ c.2.1 = d.2.1 ∧ (Alk ts c.2.2 d.2.2 ∨ moL (rmAt a c.1) = [] ∧ moL (rmAt b c.2.1) = [])
def SpcR : Option (List Int) → Prop
  | some r => runR a r 0 0 ≠ runR b r 0 0 ∧ ∀ ns : List Int, ns.length < r.length → runR a ns 0 0 = runR b ns 0 0
  | none => ∀ ns : List Int, runR a ns 0 0 = runR b ns 0 0
end
section
variable {a b : List Rm}
theorem gd_snoc {n : Int} : ∀ {p : List Int} {c : Cf}, gdC a b c (p ++ [n]) ↔ gdC a b c p ∧ saB a b (enC a b c p) ∧ (rmAt a (enC a b c p).1).asks (enC a b c p).2.2 ≠ none
  | [], c => by simp [gdC, enC]
  | m :: p, c => by
    show (saB a b c ∧ _ ∧ gdC a b (nxC a b c m) (p ++ [n])) ↔ (saB a b c ∧ _ ∧ gdC a b (nxC a b c m) p) ∧ _
    rw [gd_snoc (p := p)]
    simp only [enC, and_assoc]
theorem en_snoc {n : Int} : ∀ {p : List Int} {c : Cf}, enC a b c (p ++ [n]) = nxC a b (enC a b c p) n
  | [], c => rfl
  | m :: p, c => en_snoc (p := p)
theorem run_diff : ∀ {p : List Int} {c : Cf}, gdC a b c p → ¬ saB a b (enC a b c p) → runR a p c.1 c.2.2 ≠ runR b p c.2.1 c.2.2
  | [], c, _, h => by
    intro e
    refine h ?_
    show saB a b c
    rw [runR_nil, runR_nil] at e
    unfold saB
    cases e1 : (rmAt a c.1).asks c.2.2 with
    | none =>
      cases e2 : (rmAt b c.2.1).asks c.2.2 with
      | none =>
        rw [e1, e2] at e
        exact ⟨rfl, (Prod.mk.inj e).2⟩
      | some q => rw [e1, e2] at e; cases (Prod.mk.inj e).1
    | some q =>
      cases e2 : (rmAt b c.2.1).asks c.2.2 with
      | none => rw [e1, e2] at e; cases (Prod.mk.inj e).1
      | some q' =>
        rw [e1, e2] at e
        have := (Prod.mk.inj e).1
        rw [(List.cons.inj this).1, rm_ask e1, rm_ask e2]
        exact ⟨rfl, rfl⟩
  | n :: p, c, g, h => by
    obtain ⟨g1, g2, g3⟩ := g
    intro e
    rw [runR_cons, runR_cons] at e
    cases e1 : (rmAt a c.1).asks c.2.2 with
    | none => exact g2 e1
    | some q =>
      have e2 := g1.1
      rw [e1] at e2
      rw [e1, ← e2] at e
      obtain ⟨x, y⟩ := Prod.mk.inj e
      exact run_diff g3 h (Prod.ext (List.cons.inj x).2 y)
theorem run_path : ∀ {ns : List Int} {c : Cf}, runR a ns c.1 c.2.2 ≠ runR b ns c.2.1 c.2.2 → ∃ p : List Int, p.length ≤ ns.length ∧ gdC a b c p ∧ ¬ saB a b (enC a b c p)
  | ns, c, h => by
    by_cases s : saB a b c
    · cases ns with
      | nil =>
        refine absurd ?_ h
        rw [runR_nil, runR_nil, s.1, s.2]
      | cons n ns =>
        rw [runR_cons, runR_cons] at h
        cases e1 : (rmAt a c.1).asks c.2.2 with
        | none =>
          refine absurd ?_ h
          rw [← s.1, e1, s.2]
        | some q =>
          have e2 := s.1
          rw [e1] at e2
          rw [e1, ← e2] at h
          have h' : runR a ns (nxC a b c n).1 (nxC a b c n).2.2 ≠ runR b ns (nxC a b c n).2.1 (nxC a b c n).2.2 := fun z => h (by
            show (q :: (runR a ns (nxC a b c n).1 (nxC a b c n).2.2).1, (runR a ns (nxC a b c n).1 (nxC a b c n).2.2).2) = (q :: (runR b ns (nxC a b c n).2.1 (nxC a b c n).2.2).1, (runR b ns (nxC a b c n).2.1 (nxC a b c n).2.2).2)
            rw [z])
          obtain ⟨p, h1, h2, h3⟩ := run_path h'
          exact ⟨n :: p, Nat.succ_le_succ h1, ⟨s, (fun z => by rw [e1] at z; cases z), h2⟩, h3⟩
    · exact ⟨[], Nat.zero_le _, trivial, s⟩
theorem asks_fix {r : Rm} (h : moL r = []) (n x : Int) : r.asks n = r.asks x ∧ r.told n = r.told x := by
  have key : ∀ ts : List Th, ts.filterMap Th.mo = [] → ts.map (·.at n) = ts.map (·.at x) := by
    intro ts
    induction ts with
    | nil => intro _; rfl
    | cons t ts ih =>
      intro h
      cases t with
      | num k => simp only [List.map_cons]; rw [ih (by simpa [Th.mo] using h)]; rfl
      | last k => simp [Th.mo] at h
  cases r with
  | tell t =>
    refine ⟨rfl, ?_⟩
    have := key [t] h
    show some (t.at n) = some (t.at x)
    simpa using this
  | ask p e ts ws o =>
    refine ⟨?_, rfl⟩
    show some (p, e, ts.map (·.at n)) = some (p, e, ts.map (·.at x))
    rw [key ts h]
end
theorem SmC.symm {a b : List Rm} {ts : List Int} {c d : Cf} (h : SmC a b ts c d) : SmC a b ts d c := by
  obtain ⟨h1, h2, h3⟩ := h
  refine ⟨h1.symm, h2.symm, ?_⟩
  rw [← h1, ← h2]
  exact h3.imp Alk.symm id
theorem SmC.trans {a b : List Rm} {ts : List Int} {c d e : Cf} (h : SmC a b ts c d) (k : SmC a b ts d e) : SmC a b ts c e := by
  obtain ⟨h1, h2, h3⟩ := h
  obtain ⟨k1, k2, k3⟩ := k
  refine ⟨h1.trans k1, h2.trans k2, ?_⟩
  rw [← h1, ← h2] at k3
  rcases h3 with h3 | h3
  · rcases k3 with k3 | k3
    · exact .inl (h3.trans k3)
    · exact .inr k3
  · exact .inr h3
theorem SmC.refl {a b : List Rm} {ts : List Int} {c : Cf} : SmC a b ts c c := ⟨rfl, rfl, .inl fun _ _ => Iff.rfl⟩
/-- two programs with the numbers their answers turn at -/
structure Two (a b : List Rm) (ts : List Int) (ths : List Th) : Prop where
  oa : RsOk a
  ob : RsOk b
  ca : Cov ts ths a
  cb : Cov ts ths b
  mt : ∀ t ∈ meetR ths, t ∈ ts
section
variable {a b : List Rm} {ts : List Int} {ths : List Th}
theorem Two.rg0 (w : Two a b ts ths) : RgC a b (0, 0, 0) := by
  have := w.oa.one
  have := w.ob.one
  exact ⟨⟨Int.le_refl 0, by show (0 : Int) < _; omega⟩, Int.le_refl 0, by show (0 : Int) < _; omega⟩
theorem Two.rgn (w : Two a b ts ths) {c : Cf} (h : RgC a b c) (n : Int) : RgC a b (nxC a b c n) :=
  ⟨(w.oa.ok _ (w.ca.at h.1.1 h.1.2)).to w.oa.one n, (w.ob.ok _ (w.cb.at h.2.1 h.2.2)).to w.ob.one n⟩
theorem Two.rge (w : Two a b ts ths) : ∀ {p : List Int} {c : Cf}, RgC a b c → RgC a b (enC a b c p)
  | [], _, h => h
  | n :: p, _, h => w.rge (p := p) (w.rgn h n)
theorem SmC.rg {c d : Cf} (h : SmC a b ts c d) (k : RgC a b d) : RgC a b c := by
  obtain ⟨h1, h2, _⟩ := h
  unfold RgC
  rw [h1, h2]
  exact k
theorem Two.sa (w : Two a b ts ths) {c d : Cf} (h : SmC a b ts c d) (k : RgC a b c) : saB a b c ↔ saB a b d := by
  obtain ⟨h1, h2, h3⟩ := h
  unfold saB
  rw [← h1, ← h2]
  rcases h3 with h3 | ⟨h3, h4⟩
  · have := said_alk h3 w.mt (w.ca.th _ (w.ca.at k.1.1 k.1.2)) (w.cb.th _ (w.cb.at k.2.1 k.2.2))
    rw [this.1, this.2]
  · obtain ⟨x1, x2⟩ := asks_fix h3 c.2.2 d.2.2
    obtain ⟨y1, y2⟩ := asks_fix h4 c.2.2 d.2.2
    rw [x1, x2, y1, y2]
theorem SmC.asks {c d : Cf} (h : SmC a b ts c d) : (rmAt a c.1).asks c.2.2 = none ↔ (rmAt a d.1).asks d.2.2 = none := by
  rw [h.1]; exact asks_none
theorem Two.nx (w : Two a b ts ths) {c d : Cf} (h : SmC a b ts c d) (k : RgC a b c) {n x : Int} (hn : Alk ts n x) : SmC a b ts (nxC a b c n) (nxC a b d x) := by
  refine ⟨?_, ?_, .inl hn⟩
  · show (rmAt a c.1).to n = (rmAt a d.1).to x
    rw [← h.1]
    exact hn.to (w.ca.tr _ (w.ca.at k.1.1 k.1.2))
  · show (rmAt b c.2.1).to n = (rmAt b d.2.1).to x
    rw [← h.2.1]
    exact hn.to (w.cb.tr _ (w.cb.at k.2.1 k.2.2))
/-- a walk that has looked behind the first `n` of its entries -/
structure Bfs (a b : List Rm) (ts S : List Int) (L : List (Cf × List Int)) (n : Nat) : Prop where
  ini : ∃ e : Cf × List Int, L[0]? = some e ∧ e.2 = [] ∧ SmC a b ts e.1 (0, 0, 0)
  pth : ∀ e ∈ L, gdC a b (0, 0, 0) e.2 ∧ SmC a b ts e.1 (enC a b (0, 0, 0) e.2)
  srt : L.Pairwise fun (e f : Cf × List Int) => e.2.length ≤ f.2.length
  lim : ∀ e : Cf × List Int, L[n]? = some e → ∀ f ∈ L, f.2.length ≤ e.2.length + 1
  ix : ∀ (i : Nat) (e : Cf × List Int), L[i]? = some e → e.2.length ≤ i
  cov : ∀ i, i < n → ∀ e : Cf × List Int, L[i]? = some e → saB a b e.1 → (rmAt a e.1.1).asks e.1.2.2 ≠ none → ∀ s ∈ S, ∃ f ∈ L, SmC a b ts f.1 (nxC a b e.1 s) ∧ f.2.length ≤ e.2.length + 1
theorem Bfs.rg {S : List Int} {L : List (Cf × List Int)} {n : Nat} (w : Two a b ts ths) (h : Bfs a b ts S L n) {e : Cf × List Int} (he : e ∈ L) : RgC a b e.1 :=
  (h.pth e he).2.rg (w.rge w.rg0)
theorem get_app {α : Type} {L N : List α} {i : Nat} {e : α} (h : (L ++ N)[i]? = some e) : L[i]? = some e ∨ L.length ≤ i ∧ e ∈ N := by
  by_cases hi : i < L.length
  · rw [List.getElem?_append_left hi] at h; exact .inl h
  · rw [List.getElem?_append_right (by omega)] at h; exact .inr ⟨by omega, List.mem_of_getElem? h⟩
theorem Bfs.step {S : List Int} {L N : List (Cf × List Int)} {n : Nat} {e : Cf × List Int} (w : Two a b ts ths) (h : Bfs a b ts S L n) (he : L[n]? = some e)
    (hn : ∀ x ∈ N, saB a b e.1 ∧ (rmAt a e.1.1).asks e.1.2.2 ≠ none ∧ ∃ s, x.2 = e.2 ++ [s] ∧ SmC a b ts x.1 (nxC a b e.1 s))
    (hc : saB a b e.1 → (rmAt a e.1.1).asks e.1.2.2 ≠ none → ∀ s ∈ S, ∃ x ∈ L ++ N, SmC a b ts x.1 (nxC a b e.1 s)) : Bfs a b ts S (L ++ N) (n + 1) where
  ini := by
    obtain ⟨x, h1, h2⟩ := h.ini
    refine ⟨x, ?_, h2⟩
    rw [List.getElem?_append_left (List.getElem?_eq_some_iff.mp h1).1]
    exact h1
  pth := fun x hx => by
    rcases List.mem_append.mp hx with hx | hx
    · exact h.pth x hx
    · obtain ⟨h1, h2, s, h3, h4⟩ := hn x hx
      have hm := List.mem_of_getElem? he
      obtain ⟨p1, p2⟩ := h.pth e hm
      have hr := h.rg w hm
      rw [h3]
      refine ⟨gd_snoc.mpr ⟨p1, (w.sa p2 hr).mp h1, fun z => h2 (p2.asks.mpr z)⟩, ?_⟩
      rw [en_snoc]
      exact h4.trans (w.nx p2 hr fun _ _ => Iff.rfl)
  srt := List.pairwise_append.mpr ⟨h.srt, by
      have : ∀ x ∈ N, x.2.length = e.2.length + 1 := fun x hx => by
        obtain ⟨_, _, s, h3, _⟩ := hn x hx
        rw [h3, List.length_append]; rfl
      clear hc hn
      induction N with
      | nil => exact List.Pairwise.nil
      | cons x N ih => exact List.pairwise_cons.mpr ⟨fun y hy => by rw [this x List.mem_cons_self, this y (List.mem_cons_of_mem _ hy)]; exact Nat.le_refl _, ih fun y hy => this y (List.mem_cons_of_mem _ hy)⟩, fun x hx y hy => by
      obtain ⟨_, _, s, h3, _⟩ := hn y hy
      rw [h3, List.length_append]
      exact h.lim e he x hx⟩
  lim := fun x hx y hy => by
    have hxl : e.2.length ≤ x.2.length := by
      rcases get_app hx with z | ⟨_, z⟩
      · obtain ⟨h1, e1⟩ := List.getElem?_eq_some_iff.mp he
        obtain ⟨h2, e2⟩ := List.getElem?_eq_some_iff.mp z
        have := List.pairwise_iff_getElem.mp h.srt n (n + 1) h1 h2 (Nat.lt_succ_self n)
        rw [e1, e2] at this
        exact this
      · obtain ⟨_, _, s, h3, _⟩ := hn x z
        rw [h3, List.length_append]; exact Nat.le_add_right _ _
    rcases List.mem_append.mp hy with hy | hy
    · have := h.lim e he y hy
      omega
    · obtain ⟨_, _, s, h3, _⟩ := hn y hy
      rw [h3, List.length_append]
      exact Nat.add_le_add_right hxl 1
  ix := fun i x hx => by
    rcases get_app hx with z | ⟨z1, z⟩
    · exact h.ix i x z
    · obtain ⟨_, _, s, h3, _⟩ := hn x z
      have h1 := (List.getElem?_eq_some_iff.mp he).1
      have h2 := h.ix n e he
      rw [h3, List.length_append]
      show e.2.length + 1 ≤ i
      omega
  cov := fun i hi x hx hs hq s hS => by
    by_cases hin : i < n
    · have hl : i < L.length := by
        have := (List.getElem?_eq_some_iff.mp he).1
        omega
      rw [List.getElem?_append_left hl] at hx
      obtain ⟨f, h1, h2⟩ := h.cov i hin x hx hs hq s hS
      exact ⟨f, List.mem_append_left _ h1, h2⟩
    · obtain rfl : i = n := by omega
      rw [List.getElem?_append_left (List.getElem?_eq_some_iff.mp he).1, he] at hx
      cases hx
      obtain ⟨f, h1, h2⟩ := hc hs hq s hS
      refine ⟨f, h1, h2, ?_⟩
      rcases List.mem_append.mp h1 with z | z
      · exact h.lim e he f z
      · obtain ⟨_, _, s', h3, _⟩ := hn f z
        rw [h3, List.length_append]; exact Nat.le_refl _
/-- what a walk has met -/
theorem Bfs.met {S : List Int} {L : List (Cf × List Int)} {n : Nat} (w : Two a b ts ths) (hS : ∀ x, ∃ s ∈ S, Alk ts x s) (h : Bfs a b ts S L n) (D : Nat)
    (hD : ∀ i e, L[i]? = some e → e.2.length < D → i < n) : ∀ (k : Nat) (p : List Int), p.length = k → p.length < D → gdC a b (0, 0, 0) p → ∃ i e, i < n ∧ L[i]? = some e ∧ SmC a b ts e.1 (enC a b (0, 0, 0) p) ∧ e.2.length ≤ p.length
  | 0, p, hk, hp, g => by
    cases List.length_eq_zero_iff.mp hk
    obtain ⟨e, h1, h2, h3⟩ := h.ini
    exact ⟨0, e, hD 0 e h1 (by rw [h2]; exact hp), h1, h3, by rw [h2]; exact Nat.le_refl _⟩
  | k + 1, p, hk, hp, g => by
    have hne : p ≠ [] := fun z => by rw [z] at hk; cases hk
    obtain ⟨q, x, rfl⟩ : ∃ q x, p = q ++ [x] := ⟨p.dropLast, p.getLast hne, (List.dropLast_concat_getLast hne).symm⟩
    rw [List.length_append] at hk hp
    have hk' : q.length = k := Nat.succ.inj hk
    obtain ⟨g1, g2, g3⟩ := gd_snoc.mp g
    obtain ⟨i, e, i1, i2, i3, i4⟩ := Bfs.met w hS h D hD k q hk' (Nat.lt_of_succ_lt hp) g1
    have hr := h.rg w (List.mem_of_getElem? i2)
    obtain ⟨s, s1, s2⟩ := hS x
    obtain ⟨f, f1, f2, f3⟩ := h.cov i i1 e i2 ((w.sa i3 hr).mpr g2) (fun z => g3 (i3.asks.mp z)) s s1
    obtain ⟨j, hj⟩ := List.getElem?_of_mem f1
    have fl : f.2.length ≤ q.length + 1 := Nat.le_trans f3 (Nat.succ_le_succ i4)
    refine ⟨j, f, hD j f hj (Nat.lt_of_le_of_lt fl hp), hj, ?_, by rw [List.length_append]; exact fl⟩
    rw [en_snoc]
    exact f2.trans (w.nx i3 hr s2.symm)
theorem Bfs.some {S : List Int} {L : List (Cf × List Int)} {n k : Nat} {e : Cf × List Int} (w : Two a b ts ths) (hS : ∀ x, ∃ s ∈ S, Alk ts x s) (h : Bfs a b ts S L n) (hk : k ≤ n) (he : L[k]? = some e)
    (h1 : ∀ i f, i < k → L[i]? = some f → saB a b f.1) (h2 : ¬ saB a b e.1) : SpcR a b (some e.2) := by
  have hm := List.mem_of_getElem? he
  obtain ⟨p1, p2⟩ := h.pth e hm
  refine ⟨run_diff (c := (0, 0, 0)) p1 fun z => h2 ((w.sa p2 (h.rg w hm)).mpr z), fun ns hl => Decidable.byContradiction fun hne => ?_⟩
  obtain ⟨p, q1, q2, q3⟩ := run_path (c := (0, 0, 0)) hne
  have hD : ∀ i f, L[i]? = Option.some f → f.2.length < e.2.length → i < k := fun i f hf hlt => by
    refine Decidable.byContradiction fun hik => ?_
    by_cases e1 : i = k
    · rw [e1, he] at hf; cases hf; omega
    · obtain ⟨l1, e1⟩ := List.getElem?_eq_some_iff.mp he
      obtain ⟨l2, e2⟩ := List.getElem?_eq_some_iff.mp hf
      have := List.pairwise_iff_getElem.mp h.srt k i l1 l2 (by omega)
      rw [e1, e2] at this
      omega
  obtain ⟨i, f, i1, i2, i3, i4⟩ := Bfs.met w hS h e.2.length (fun i f x y => Nat.lt_of_lt_of_le (hD i f x y) hk) p.length p rfl (by omega) q2
  exact q3 ((w.sa i3 (h.rg w (List.mem_of_getElem? i2))).mp (h1 i f (hD i f i2 (by omega)) i2))
theorem Bfs.none {S : List Int} {L : List (Cf × List Int)} {n : Nat} (w : Two a b ts ths) (hS : ∀ x, ∃ s ∈ S, Alk ts x s) (h : Bfs a b ts S L n) (hk : L.length ≤ n)
    (h1 : ∀ f ∈ L, saB a b f.1) : SpcR a b none := by
  refine fun ns => Decidable.byContradiction fun hne => ?_
  obtain ⟨p, q1, q2, q3⟩ := run_path (c := (0, 0, 0)) hne
  obtain ⟨i, f, i1, i2, i3, i4⟩ := Bfs.met w hS h (p.length + 1) (fun i f x y => Nat.lt_of_lt_of_le (List.getElem?_eq_some_iff.mp x).1 hk) p.length p rfl (Nat.lt_succ_self _) q2
  have hm := List.mem_of_getElem? i2
  exact q3 ((w.sa i3 (h.rg w hm)).mp (h1 f hm))
end
theorem nodup_le {α : Type} : ∀ {l m : List α}, l.Nodup → (∀ x ∈ l, x ∈ m) → l.length ≤ m.length
  | [], _, _, _ => Nat.zero_le _
  | x :: l, m, h, s => by
    obtain ⟨p, q, rfl⟩ := List.append_of_mem (s x List.mem_cons_self)
    have h2 := List.nodup_cons.mp h
    have := nodup_le (l := l) (m := p ++ q) h2.2 fun y hy => by
      have := s y (List.mem_cons_of_mem _ hy)
      rcases List.mem_append.mp this with z | z
      · exact List.mem_append_left _ z
      · rcases List.mem_cons.mp z with z | z
        · exact absurd (z ▸ hy) h2.1
        · exact List.mem_append_right _ z
    simp only [List.length_append, List.length_cons] at this ⊢
    omega
end
section
/-! ### papers of fewest (k77): the plain law -/
abbrev En := List Nat × Nat
def enT (e : En) : D := .tup [.tup (natT e.1), natD e.2]
def ris (c : List Nat) : Prop := c.Pairwise (· < ·)
theorem ris_nd {c : List Nat} (h : ris c) : c.Nodup := h.imp fun h => Nat.ne_of_lt h
def iN (c : List Nat) : List Int := c.map Int.ofNat
def insR (c : List Nat) (k : Nat) : List Nat := (srtI (iN (c ++ [k]))).map Int.toNat
theorem natT_iN (c : List Nat) : natT c = (iN c).map .int := by unfold natT iN natD; rw [List.map_map]; rfl
theorem insR_perm (c : List Nat) (k : Nat) : (insR c k).Perm (c ++ [k]) := by
  have h := (srtI_perm (iN (c ++ [k]))).map Int.toNat
  have e : (iN (c ++ [k])).map Int.toNat = c ++ [k] := by
    unfold iN
    rw [List.map_map]
    conv => rhs; rw [← List.map_id (c ++ [k])]
    exact List.map_congr_left fun x _ => rfl
  rw [e] at h
  exact h
theorem insR_mem {c : List Nat} {k x : Nat} : x ∈ insR c k ↔ x ∈ c ∨ x = k := by
  rw [(insR_perm c k).mem_iff]; simp
theorem insR_len (c : List Nat) (k : Nat) : (insR c k).length = c.length + 1 := by
  rw [(insR_perm c k).length_eq, List.length_append]; rfl
theorem insR_ris {c : List Nat} {k : Nat} (h : ris c) (hk : k ∉ c) : ris (insR c k) := by
  have nd : (insR c k).Nodup := (insR_perm c k).nodup_iff.mpr (List.nodup_append.mpr ⟨ris_nd h, by simp, fun x hx y hy => by
    rw [List.mem_singleton.mp hy]
    exact fun z => hk (z ▸ hx)⟩)
  have pos : ∀ x ∈ srtI (iN (c ++ [k])), 0 ≤ x := fun x hx => by
    have := (srtI_perm (iN (c ++ [k]))).mem_iff.mp hx
    obtain ⟨y, _, rfl⟩ := List.mem_map.mp this
    exact Int.natCast_nonneg y
  have asc := srtI_asc (iN (c ++ [k]))
  have le : (insR c k).Pairwise (· ≤ ·) := by
    unfold insR
    rw [List.pairwise_map]
    exact asc.imp fun {a b} h => by omega
  exact (List.Pairwise.and le nd).imp fun {a b} h => by have h1 := h.1; have h2 := h.2; omega
theorem insR_ints (c : List Nat) (k : Nat) : (srtI (iN (c ++ [k]))).map D.int = natT (insR c k) := by
  unfold insR natT
  rw [List.map_map]
  refine List.map_congr_left fun x hx => ?_
  have := (srtI_perm (iN (c ++ [k]))).mem_iff.mp hx
  obtain ⟨y, _, rfl⟩ := List.mem_map.mp this
  rfl
theorem lots_ris (n : Nat) : ∀ s, ∀ c ∈ lots n s, ris c
  | 0, c, h => by rw [List.mem_singleton.mp h]; exact List.Pairwise.nil
  | s + 1, c, h => by
    obtain ⟨c0, h0, h1⟩ := List.mem_flatMap.mp h
    obtain ⟨k, hk, rfl⟩ := List.mem_map.mp h1
    have r0 := lots_ris n s c0 h0
    have hk' := of_decide_eq_true (List.mem_filter.mp hk).2
    refine List.pairwise_append.mpr ⟨r0, List.pairwise_singleton _ _, fun x hx y hy => ?_⟩
    rw [List.mem_singleton.mp hy]
    unfold lowOf at hk'
    cases e : c0.getLast? with
    | none => rw [List.getLast?_eq_none_iff.mp e] at hx; cases hx
    | some z =>
      rw [e] at hk'
      have hk' : z + 1 ≤ k := hk'
      have : x ≤ z := by
        obtain ⟨d, rfl⟩ := List.getLast?_eq_some_iff.mp e
        rcases List.mem_append.mp hx with z1 | z1
        · exact Nat.le_of_lt ((List.pairwise_append.mp r0).2.2 x z1 z (List.mem_singleton.mpr rfl))
        · rw [List.mem_singleton.mp z1]; exact Nat.le_refl _
      omega
theorem lots_all {n : Nat} : ∀ (s : Nat) (c : List Nat), c.length = s → ris c → (∀ x ∈ c, x < n) → c ∈ lots n s
  | 0, c, e, _, _ => by rw [List.eq_nil_of_length_eq_zero e]; exact List.mem_singleton.mpr rfl
  | s + 1, c, e, r, b => by
    have hne : c ≠ [] := fun z => by rw [z] at e; cases e
    obtain ⟨d, k, rfl⟩ : ∃ d k, c = d ++ [k] := ⟨c.dropLast, c.getLast hne, (List.dropLast_concat_getLast hne).symm⟩
    obtain ⟨r1, _, r2⟩ := List.pairwise_append.mp r
    have ih := lots_all (n := n) s d (by simp at e; exact e) r1 fun x hx => b x (List.mem_append_left _ hx)
    refine List.mem_flatMap.mpr ⟨d, ih, List.mem_map.mpr ⟨k, List.mem_filter.mpr ⟨List.mem_range.mpr (b k (by simp)), decide_eq_true ?_⟩, rfl⟩⟩
    unfold lowOf
    cases e2 : d.getLast? with
    | none => exact Nat.zero_le _
    | some z =>
      have := r2 z (List.mem_of_getLast? e2) k (List.mem_singleton.mpr rfl)
      exact this
theorem ris_few {n : Nat} {c : List Nat} (r : ris c) (b : ∀ x ∈ c, x < n) : c.length ≤ n := by
  have := nodup_le (ris_nd r) (m := List.range n) fun x hx => List.mem_range.mpr (b x hx)
  rwa [List.length_range] at this
theorem few_min {T : List (List Bool)} {n : Nat} {c : List Nat} (r : ris c) (b : ∀ x ∈ c, x < n) (h : partsAll T c = true) : ∃ t, few T n = some t ∧ t.length ≤ c.length :=
  few_le (lots_all _ c rfl r b) h (List.mem_range.mpr (Nat.lt_succ_of_le (ris_few r b))) List.pairwise_lt_range
theorem few_is {T : List (List Bool)} {n : Nat} {t : List Nat} (h : few T n = some t) : partsAll T t = true ∧ ris t ∧ (∀ x ∈ t, x < n) ∧ t.length ≤ n := by
  obtain ⟨h1, s, h2, h3⟩ := few_in h
  have l := lots_len n s t h3
  exact ⟨h1, lots_ris n s t h3, l.2, by rw [l.1]; have := List.mem_range.mp h2; omega⟩
def colOf (T : List (List Bool)) (a : Nat) : List Bool := (T[a]?).getD []
def at1 (col : List Bool) (k : Nat) : Bool := (col[k]?).getD false
def EntOk (T : List (List Bool)) (n : Nat) (e : En) : Prop := ris e.1 ∧ (∀ x ∈ e.1, x < n) ∧ e.2 < T.length ∧ hits (colOf T e.2) e.1 = false
structure DueP (T : List (List Bool)) (n : Nat) (i : Int) (L : List En) : Prop where
  ok : ∀ e ∈ L, EntOk T n e
  st : 0 < i → [] ∈ L.map (·.1)
  cl : ∀ e ∈ L, (e.1.length : Int) < i - 1 → ∀ k, k < n → at1 (colOf T e.2) k = true → insR e.1 k ∈ L.map (·.1)
theorem hits_iff {col : List Bool} {c : List Nat} : hits col c = true ↔ ∃ k ∈ c, at1 col k = true := List.any_eq_true
theorem col_mem {T : List (List Bool)} {a : Nat} (h : a < T.length) : colOf T a ∈ T := by
  unfold colOf
  rw [List.getElem?_eq_getElem h]
  exact List.getElem_mem h
/-- what is let by bars all smaller lots -/
theorem due_bars {T : List (List Bool)} {n : Nat} {i : Int} {L : List En} (h : DueP T n i L) {c : List Nat} (r : ris c) (b : ∀ x ∈ c, x < n) (hp : partsAll T c = true) : i ≤ c.length := by
  refine Int.not_lt.mp fun hi => ?_
  have hit : ∀ e ∈ L, ∃ k ∈ c, at1 (colOf T e.2) k = true := fun e he => by
    have := (h.ok e he).2.2.1
    exact hits_iff.mp (List.all_eq_true.mp hp _ (col_mem this))
  have go : ∀ j, j ≤ c.length → ∃ e ∈ L, e.1.length = j ∧ ∀ x ∈ e.1, x ∈ c := by
    intro j
    induction j with
    | zero =>
      intro _
      obtain ⟨e, he, e1⟩ := List.mem_map.mp (h.st (by omega))
      exact ⟨e, he, by rw [e1]; rfl, fun x hx => by rw [e1] at hx; cases hx⟩
    | succ j ih =>
      intro hj
      obtain ⟨e, he, e1, e2⟩ := ih (by omega)
      obtain ⟨k, hk, hc⟩ := hit e he
      obtain ⟨f, hf, e3⟩ := List.mem_map.mp (h.cl e he (by omega) k (b k hk) hc)
      refine ⟨f, hf, by rw [e3, insR_len, e1], fun x hx => ?_⟩
      rw [e3] at hx
      rcases insR_mem.mp hx with z | z
      · exact e2 x z
      · rw [z]; exact hk
  obtain ⟨e, he, e1, e2⟩ := go c.length (Nat.le_refl _)
  obtain ⟨k, hk, hc⟩ := hit e he
  obtain ⟨o1, _, _, o4⟩ := h.ok e he
  have hn : k ∉ e.1 := fun z => by
    rw [hits_iff.mpr ⟨k, z, hc⟩] at o4; cases o4
  have := nodup_le (l := k :: e.1) (List.nodup_cons.mpr ⟨hn, ris_nd o1⟩) fun x hx => by
    rcases List.mem_cons.mp hx with z | z
    · rw [z]; exact hk
    · exact e2 x z
  rw [List.length_cons] at this
  omega
/-- no lot parts all: a column is nought throughout -/
theorem few_no {T : List (List Bool)} {n : Nat} (same : ∀ col ∈ T, col.length = n) (h : few T n = none) : ∃ col ∈ T, col.any id = false := by
  refine Classical.byContradiction fun z => ?_
  have hp : partsAll T (List.range n) = true := by
    refine List.all_eq_true.mpr fun col hc => hits_iff.mpr ?_
    have : col.any id = true := by
      cases e : col.any id with
      | true => rfl
      | false => exact absurd ⟨col, hc, e⟩ z
    obtain ⟨x, hx, ex⟩ := List.any_eq_true.mp this
    obtain ⟨k, hk⟩ := List.mem_iff_getElem?.mp hx
    have hl := (List.getElem?_eq_some_iff.mp hk).1
    refine ⟨k, List.mem_range.mpr (by rw [← same col hc]; exact hl), ?_⟩
    unfold at1
    rw [hk]
    exact ex
  obtain ⟨t, e, _⟩ := few_min (n := n) List.pairwise_lt_range (fun x hx => List.mem_range.mp hx) hp
  rw [h] at e; cases e
/-- the paper that shows it -/
def PapF (T : List (List Bool)) (n : Nat) (L : List En) : Prop := ∀ i : Int, (∀ t, few T n = some t → i ≤ t.length) → DueP T n i L
theorem pap_due {T : List (List Bool)} {n : Nat} {L : List En} (h : PapF T n L) (i : Int) : DueP T n i L ↔ ∀ t, few T n = some t → i ≤ t.length :=
  ⟨fun d t e => by obtain ⟨h1, h2, h3, _⟩ := few_is e; exact due_bars d h2 h3 h1, h i⟩
end
section
/-! ### papers of fewest (k77): one row more -/
theorem natT_app (c : List Nat) (k : Nat) : natT c ++ [natD k] = (iN (c ++ [k])).map .int := by rw [← natT_iN]; unfold natT; rw [List.map_append]; rfl
def sp_with_row : SpD := fun ds m P _ => ∃ (c : List Nat) (k : Nat), ds = [.tup (natT c), natD k] ∧ c.length ≤ 1000 ∧ P (.tup (natT (insR c k))) m
def rd_with_row : DS :=
    sRet (rCB cTup (rCons (rCB cSrtTI (rCons (rOp oAdd (rV 0) (rTup (rCons (rV 1) (rNil)))) (rNil))) (rNil)))
theorem ln_with_row : ∀ ds m Q PX, sp_with_row ds m Q PX → ds.length = 2 := fun ds m Q PX h => by repeat (first | (subst_vars; rfl; done) | (obtain ⟨_, h⟩ := h))
theorem pu_with_row : ∀ ds m Q PX, sp_with_row ds m Q PX → rd_with_row (dEnds Q PX) (dstart ["chosen", "row"] ds) m := by
  rintro ds m Q PX ⟨c, k, rfl, hl, h⟩
  have l1 := natT_len c
  have l2 : (iN (c ++ [k])).length = c.length + 1 := by unfold iN; rw [List.length_map, List.length_append]; rfl
  walk_at "go"
  rw [natT_app, intsD_map]
  refine ⟨by omega, ?_⟩
  rw [insR_ints]
  walk_at "go"
  exact h
def growL (col : List Bool) (n : Nat) : List Nat := (List.range n).filter (at1 col)
theorem growL_mem {col : List Bool} {n k : Nat} : k ∈ growL col n ↔ k < n ∧ at1 col k = true := by unfold growL; rw [List.mem_filter, List.mem_range]
theorem growL_len (col : List Bool) (n : Nat) : (growL col n).length ≤ n := Nat.le_trans (List.length_filter_le _ _) (by rw [List.length_range]; exact Nat.le_refl _)
theorem enum_col (col : List Bool) : enumD 0 (col.map D.bl) = (List.range col.length).map fun k => D.tup [natD k, .bl (at1 col k)] := by
  apply List.ext_getElem?
  intro i
  rw [enumD_get, List.getElem?_map, List.getElem?_map]
  by_cases h : i < col.length
  · rw [List.getElem?_eq_getElem h, List.getElem?_range h]
    simp only [Option.map_some, Nat.zero_add]
    unfold at1
    rw [List.getElem?_eq_getElem h]
    rfl
  · rw [List.getElem?_eq_none (by omega), List.getElem?_eq_none (by rw [List.length_range]; omega)]
    rfl
theorem col_at2 {T : List (List Bool)} {a : Nat} (h : a < T.length) : atI (T.map colD) (a : Int) = some (colD (colOf T a)) := by
  refine at_nat ?_
  rw [List.getElem?_map]
  unfold colOf
  rw [List.getElem?_eq_getElem h]
  rfl
def grD (T : List (List Bool)) (n : Nat) (e : En) : List D := (growL (colOf T e.2) n).map fun k => .tup (natT (insR e.1 k))
theorem filt_flat {α β : Type} (p : α → Bool) (f : α → β) : ∀ l : List α, (l.flatMap fun x => if p x then [f x] else []) = (l.filter p).map f
  | [] => rfl
  | x :: l => by
    rw [List.flatMap_cons, filt_flat p f l, List.filter_cons]
    cases p x <;> rfl
def sp_grown_by : SpD := fun ds m P _ => ∃ (T : List (List Bool)) (n : Nat) (e : En), ds = [tabD T, .tup (natT e.1), natD e.2] ∧ TabOk T n ∧ e.2 < T.length ∧ e.1.length ≤ 1000 ∧ P (.lst (grD T n e)) m
def rd_grown_by : DS :=
    sRet (rLc (iEnumD (rCons (rOp oIx (rV 0) (rV 2)) (rNil))) [3, 4] (gT [3, 4]) (rTru (rV 4)) (rCall sp_with_row [] (rCons (rV 1) (rCons (rV 3) (rNil)))))
theorem ln_grown_by : ∀ ds m Q PX, sp_grown_by ds m Q PX → ds.length = 3 := fun ds m Q PX h => by repeat (first | (subst_vars; rfl; done) | (obtain ⟨_, h⟩ := h))
theorem pu_grown_by : ∀ ds m Q PX, sp_grown_by ds m Q PX → rd_grown_by (dEnds Q PX) (dstart ["parts", "chosen", "at", "row", "is_true"] ds) m := by
  rintro ds m Q PX ⟨T, n, ⟨c, a⟩, rfl, ok, ha, hl, h⟩
  have hn := ok.small
  have hc : (colOf T a).length = n := ok.same _ (col_mem ha)
  walk_at "go"
  rw [col_at2 ha]
  walk_at "go"
  rw [enum_col, hc]
  refine comp_ty (fun k => D.tup [natD k, .bl (at1 (colOf T a) k)]) (fun k => if at1 (colOf T a) k then [D.tup (natT (insR c k))] else []) 16777216 trivial (fun k hk acc' Cn la kk => ?_) ?_ ?_
  · cases e : at1 (colOf T a) k with
    | false =>
      rw [e, if_neg (by simp), List.append_nil] at kk
      walk_at "go"
      exact kk
    | true =>
      rw [e, if_pos rfl] at kk la
      walk_at "go"
      refine ⟨c, k, rfl, hl, ?_⟩
      exact ⟨Nat.lt_of_lt_of_le (show acc'.length < 16777216 by simp at la; omega) (by decide), kk⟩
  · rw [filt_flat, List.length_map]
    have := growL_len (colOf T a) n
    unfold growL at this
    simp; omega
  · rw [List.nil_append, filt_flat]
    exact h
end
section
/-! ### papers of fewest (k77): the paper made -/
theorem nks_int7 : ∀ {a b : List Int}, nks (a.map D.int) = nks (b.map D.int) → a = b
  | [], [], _ => rfl
  | [], _ :: _, h => by simp [nks] at h
  | _ :: _, [], h => by simp [nks] at h
  | x :: a, y :: b, h => by
    simp only [List.map_cons, nks, List.cons.injEq, nk] at h
    rw [nks_int7 h.2, NestedKey.num.inj h.1]
theorem nk_st7 {a b : List Int} (h : nk (tupI a) = nk (tupI b)) : a = b := by
  unfold tupI at h
  simp only [nk, NestedKey.tup.injEq] at h
  exact nks_int7 h
theorem kyBs_int7 : ∀ a : List Int, kyBs (a.map D.int) = true
  | [] => rfl
  | b :: bs => by show (true && kyBs (bs.map D.int)) = true; rw [kyBs_int7 bs]; rfl
theorem dep_int7 : ∀ a : List Int, NestedKey.depthAll (nks (a.map D.int)) ≤ 1
  | [] => by decide
  | b :: bs => by
    have := dep_int7 bs
    show NestedKey.depthAll (nk (.int b) :: nks (bs.map D.int)) ≤ 1
    rw [NestedKey.depthAll]
    show max (NestedKey.depth (.num _)) _ ≤ 1
    rw [NestedKey.depth]
    omega
theorem kt_st7 (a : List Int) : ktB (tupI a) = true := by
  show (kyBs (a.map D.int) && decide ((nk (.tup (a.map D.int))).depth ≤ 8)) = true
  rw [kyBs_int7]
  refine decide_eq_true ?_
  have := dep_int7 a
  show NestedKey.depth (.tup (nks (a.map D.int))) ≤ 8
  rw [NestedKey.depth]
  omega
theorem nest_ints7 : ∀ s : List Int, nestPs (s.map .int) = true
  | [] => by rw [List.map_nil, nestPs]
  | i :: s => by rw [List.map_cons, nestPs, nest_ints7 s, nestP]; rfl
theorem alike_ints7 : ∀ s t : List Int, PySem.W.alikeAll (s.map .int) (t.map .int) = true
  | [], t => by rw [List.map_nil]; cases t <;> simp [PySem.W.alikeAll]
  | i :: s, [] => by simp [PySem.W.alikeAll]
  | i :: s, j :: t => by rw [List.map_cons, List.map_cons, PySem.W.alikeAll, alike_ints7 s t, PySem.W.alike]; rfl
theorem dep_ints7 : ∀ s : List Int, PyData.depthAll (s.map .int) ≤ 1
  | [] => by rw [List.map_nil, PyData.depthAll]; omega
  | i :: s => by
    have := dep_ints7 s
    rw [List.map_cons, PyData.depthAll, PyData.depth]
    omega
theorem lay_ints7 : ∀ s : List Int, PyData.canLayAll0 (s.map .int) = true
  | [] => by rw [List.map_nil, PyData.canLayAll0]
  | i :: s => by rw [List.map_cons, PyData.canLayAll0, lay_ints7 s, PyData.canLay0]; rfl
theorem natT_tupI (c : List Nat) : D.tup (natT c) = tupI (iN c) := by rw [natT_iN]; rfl
theorem iN_inj : ∀ {a b : List Nat}, iN a = iN b → a = b
  | [], [], _ => rfl
  | [], _ :: _, h => by cases h
  | _ :: _, [], h => by cases h
  | x :: a, y :: b, h => by
    unfold iN at h
    rw [List.map_cons, List.map_cons] at h
    injection h with h1 h2
    rw [iN_inj (a := a) (b := b) h2, Int.ofNat.inj h1]
theorem kt_nat (c : List Nat) : ktB (.tup (natT c)) = true := by rw [natT_tupI]; exact kt_st7 _
theorem nk_nat {a b : List Nat} (h : nk (.tup (natT a)) = nk (.tup (natT b))) : a = b := by
  rw [natT_tupI, natT_tupI] at h
  exact iN_inj (nk_st7 h)
theorem nd_get7 {α β : Type} {f : α → β} : ∀ {l : List α}, (l.map f).Nodup → ∀ {x y : α}, x ∈ l → y ∈ l → f x = f y → x = y
  | [], _, _, _, h, _, _ => by cases h
  | a :: l, nd, x, y, hx, hy, e => by
    obtain ⟨n1, n2⟩ := List.nodup_cons.mp nd
    rcases List.mem_cons.mp hx with ex | hx1
    · rcases List.mem_cons.mp hy with ey | hy1
      · rw [ex, ey]
      · rw [ex] at e
        exact absurd (List.mem_map.mpr ⟨y, hy1, e.symm⟩) n1
    · rcases List.mem_cons.mp hy with ey | hy1
      · rw [ey] at e
        exact absurd (List.mem_map.mpr ⟨x, hx1, e⟩) n1
      · exact nd_get7 n2 hx1 hy1 e
def kvE (e : En) : D × D := (.tup (natT e.1), natD e.2)
theorem py_nat (c : List Nat) : py (.tup (natT c)) = .tuple ((iN c).map .int) := by
  have h : ∀ s : List Int, pyL (s.map D.int) = s.map PyData.int := fun s => by
    induction s with
    | nil => rw [List.map_nil, pyL]; rfl
    | cons i s ih => rw [List.map_cons, pyL, py, ih]; rfl
  rw [natT_iN, py, h]
theorem pairs_en (F : List En) : PairL (F.map kvE) := by
  refine ⟨fun p hp => ?_, fun p hp q hq => ?_⟩
  · obtain ⟨e, _, rfl⟩ := List.mem_map.mp hp
    have h := dep_ints7 (iN e.1)
    show nestP (py (.tup (natT e.1))) = true ∧ nestP (py (.int (e.2 : Int))) = true ∧ (PyData.tuple [py (.tup (natT e.1)), py (.int (e.2 : Int))]).depth ≤ 10 ∧ (py (.tup (natT e.1))).canLay0 = true ∧ (py (.int (e.2 : Int))).canLay0 = true
    rw [py_nat, py]
    refine ⟨by rw [nestP, nest_ints7], by rw [nestP], ?_, by rw [PyData.canLay0, lay_ints7], by rw [PyData.canLay0]⟩
    rw [PyData.depth, PyData.depthAll, PyData.depthAll, PyData.depthAll, PyData.depth, PyData.depth]
    omega
  · obtain ⟨e, _, rfl⟩ := List.mem_map.mp hp
    obtain ⟨f, _, rfl⟩ := List.mem_map.mp hq
    show PySem.W.alike (.tuple [py (.tup (natT e.1)), py (.int (e.2 : Int))]) (.tuple [py (.tup (natT f.1)), py (.int (f.2 : Int))]) = true
    rw [py_nat, py_nat, py, py, PySem.W.alike, PySem.W.alikeAll, PySem.W.alikeAll, PySem.W.alike, PySem.W.alike, alike_ints7, PySem.W.alikeAll]
    rfl
theorem kvE_out {F : List En} {c : List Nat} (h : c ∉ F.map (·.1)) : valG (F.map kvE) (.tup (natT c)) = none := by
  rw [valG_none]
  intro q hq e
  obtain ⟨g, hg, rfl⟩ := List.mem_map.mp hq
  exact h (List.mem_map.mpr ⟨g, hg, nk_nat e⟩)
theorem kvE_in {F : List En} (nd : (F.map (·.1)).Nodup) {e : En} (h : e ∈ F) : valG (F.map kvE) (.tup (natT e.1)) = some (natD e.2) := by
  cases ev : valG (F.map kvE) (.tup (natT e.1)) with
  | none => exact absurd rfl (valG_none.mp ev _ (List.mem_map_of_mem (f := kvE) h))
  | some d =>
    obtain ⟨q, hq, e1, rfl⟩ := valG_mem ev
    obtain ⟨g, hg, rfl⟩ := List.mem_map.mp hq
    rw [nd_get7 nd hg h (nk_nat e1)]
    rfl
/-- how many a lot of so many may still grow to -/
def wt7 : Nat → Nat
  | 0 => 1957
  | 1 => 326
  | 2 => 65
  | 3 => 16
  | 4 => 5
  | 5 => 2
  | _ => 1
theorem wt7_one : ∀ s, 1 ≤ wt7 s
  | 0 => by decide
  | 1 => by decide
  | 2 => by decide
  | 3 => by decide
  | 4 => by decide
  | 5 => by decide
  | _ + 6 => by simp [wt7]
theorem wt7_step {s g : Nat} (hs : s ≤ 5) (hg : g + s ≤ 6) : g * wt7 (s + 1) + 1 ≤ wt7 s := by
  have : g ≤ 6 - s := by omega
  refine Nat.le_trans (Nat.succ_le_succ (Nat.mul_le_mul_right _ this)) ?_
  have h : s = 0 ∨ s = 1 ∨ s = 2 ∨ s = 3 ∨ s = 4 ∨ s = 5 := by omega
  rcases h with rfl | rfl | rfl | rfl | rfl | rfl <;> decide
def wtW (W : List (List Nat)) : Nat := (W.map fun c => wt7 c.length).sum
theorem wtW_len : ∀ W : List (List Nat), W.length ≤ wtW W
  | [] => Nat.le_refl _
  | c :: W => by
    have := wtW_len W
    have := wt7_one c.length
    unfold wtW at *
    rw [List.map_cons, List.sum_cons, List.length_cons]
    omega
theorem wtW_app (A B : List (List Nat)) : wtW (A ++ B) = wtW A + wtW B := by unfold wtW; rw [List.map_append, List.sum_append]
theorem wtW_same {s : Nat} : ∀ W : List (List Nat), (∀ c ∈ W, c.length = s) → wtW W = W.length * wt7 s
  | [], _ => by unfold wtW; simp
  | c :: W, h => by
    have := wtW_same W fun x hx => h x (List.mem_cons_of_mem _ hx)
    unfold wtW at *
    rw [List.map_cons, List.sum_cons, this, h c List.mem_cons_self, List.length_cons, Nat.succ_mul]
    omega
theorem grow_few {T : List (List Bool)} {n : Nat} {e : En} (h : EntOk T n e) : (growL (colOf T e.2) n).length + e.1.length ≤ n := by
  have nd : (growL (colOf T e.2) n ++ e.1).Nodup := List.nodup_append.mpr ⟨List.Pairwise.filter _ List.nodup_range, ris_nd h.1, fun x hx y hy z => by
    have h1 := (growL_mem.mp hx).2
    have := hits_iff.mpr ⟨x, z ▸ hy, h1⟩
    rw [h.2.2.2] at this
    cases this⟩
  have := nodup_le nd (m := List.range n) fun x hx => by
    rcases List.mem_append.mp hx with z | z
    · exact List.mem_range.mpr (growL_mem.mp z).1
    · exact List.mem_range.mpr (h.2.1 x z)
  rwa [List.length_append, List.length_range] at this
end
section
/-! ### papers of fewest (k77): the walk that makes the paper -/
theorem any_at {col : List Bool} (h : col.any id = false) (k : Nat) : at1 col k = false := by
  unfold at1
  cases e : col[k]? with
  | none => rfl
  | some b =>
    have := List.mem_of_getElem? e
    cases b with
    | false => rfl
    | true =>
      have : col.any id = true := List.any_eq_true.mpr ⟨true, this, rfl⟩
      rw [h] at this; cases this
theorem pap_none {T : List (List Bool)} {n j : Nat} (hj : j < T.length) (h : (colOf T j).any id = false) (i : Int) : DueP T n i [([], j)] where
  ok := fun e he => by
    cases List.mem_singleton.mp he
    exact ⟨List.Pairwise.nil, (fun _ z => by cases z), hj, rfl⟩
  st := fun _ => by simp
  cl := fun e he _ k _ hk => by
    cases List.mem_singleton.mp he
    rw [any_at h k] at hk; cases hk
/-- the walk's state: what is found, what is in line -/
structure FwI (T : List (List Bool)) (n t : Nat) (F : List En) (W : List (List Nat)) : Prop where
  nd : (F.map (·.1)).Nodup
  ok : ∀ e ∈ F, EntOk T n e ∧ e.1.length < t
  li : ∀ c ∈ W, ris c ∧ (∀ x ∈ c, x < n) ∧ c.length < t
  st : 0 < t → [] ∈ F.map (·.1) ∨ [] ∈ W
  cl : ∀ e ∈ F, e.1.length + 1 < t → ∀ k ∈ growL (colOf T e.2) n, insR e.1 k ∈ F.map (·.1) ∨ insR e.1 k ∈ W
def putE (F : List En) (e : En) : List En := if e.1 ∈ F.map (·.1) then F.map (fun f => if f.1 = e.1 then e else f) else F ++ [e]
theorem put_kvE {F : List En} (e : En) : putG (F.map kvE) (.tup (natT e.1)) (natD e.2) = (putE F e).map kvE := by
  unfold putE
  by_cases h : e.1 ∈ F.map (·.1)
  · rw [if_pos h]
    have hs : (valG (F.map kvE) (.tup (natT e.1))).isSome = true := by
      cases ev : valG (F.map kvE) (.tup (natT e.1)) with
      | some d => rfl
      | none =>
        obtain ⟨f, hf, ef⟩ := List.mem_map.mp h
        exact absurd (by rw [← ef]; rfl) (valG_none.mp ev _ (List.mem_map_of_mem (f := kvE) hf))
    unfold putG
    rw [if_pos hs, List.map_map, List.map_map]
    refine List.map_congr_left fun f _ => ?_
    show (if nk (D.tup (natT f.1)) = nk (.tup (natT e.1)) then (D.tup (natT f.1), natD e.2) else kvE f) = kvE (if f.1 = e.1 then e else f)
    by_cases z : f.1 = e.1
    · rw [if_pos (by rw [z]), if_pos z, z]; rfl
    · rw [if_neg (fun y => z (nk_nat y)), if_neg z]
  · rw [if_neg h, putG_new (kvE_out h), List.map_append]; rfl
theorem putE_keys (F : List En) (e : En) : (putE F e).map (·.1) = if e.1 ∈ F.map (·.1) then F.map (·.1) else F.map (·.1) ++ [e.1] := by
  unfold putE
  split
  · rw [List.map_map]
    refine List.map_congr_left fun f _ => ?_
    show (if f.1 = e.1 then e else f).1 = f.1
    split
    · rename_i z; exact z.symm
    · rfl
  · rw [List.map_append]; rfl
theorem putE_mem {F : List En} {e f : En} (h : f ∈ putE F e) : f = e ∨ f ∈ F ∧ f.1 ≠ e.1 := by
  unfold putE at h
  split at h
  · obtain ⟨g, hg, rfl⟩ := List.mem_map.mp h
    by_cases z : g.1 = e.1
    · rw [if_pos z]; exact .inl rfl
    · rw [if_neg z]; exact .inr ⟨hg, z⟩
  · rename_i z
    rcases List.mem_append.mp h with y | y
    · exact .inr ⟨y, fun x => z (List.mem_map.mpr ⟨f, y, x⟩)⟩
    · exact .inl (List.mem_singleton.mp y)
theorem putE_in (F : List En) (e : En) : e ∈ putE F e := by
  unfold putE
  split
  · rename_i h
    obtain ⟨f, hf, ef⟩ := List.mem_map.mp h
    exact List.mem_map.mpr ⟨f, hf, by rw [if_pos ef]⟩
  · exact List.mem_append_right _ (List.mem_singleton.mpr rfl)
theorem putE_sub {F : List En} {e : En} {c : List Nat} (h : c ∈ F.map (·.1)) : c ∈ (putE F e).map (·.1) := by
  rw [putE_keys]
  split
  · exact h
  · exact List.mem_append_left _ h
theorem putE_len (F : List En) (e : En) : (putE F e).length ≤ F.length + 1 := by
  unfold putE
  split
  · rw [List.length_map]; omega
  · rw [List.length_append]; exact Nat.le_refl _
theorem FwI.step {T : List (List Bool)} {n t a : Nat} {F : List En} {W : List (List Nat)} {c : List Nat} (h : FwI T n t F (c :: W)) (ha : EntOk T n (c, a)) (N : List (List Nat)) (hN : ∀ d ∈ N, ris d ∧ (∀ x ∈ d, x < n) ∧ d.length < t)
    (hg : c.length + 1 < t → ∀ k ∈ growL (colOf T a) n, insR c k ∈ (putE F (c, a)).map (·.1) ∨ insR c k ∈ N) : FwI T n t (putE F (c, a)) (W ++ N) where
  nd := by
    rw [putE_keys]
    split
    · exact h.nd
    · rename_i z
      exact List.nodup_append.mpr ⟨h.nd, by simp, fun x hx y hy e => by
        rw [List.mem_singleton.mp hy] at e
        exact z (e ▸ hx)⟩
  ok := fun e he => by
    rcases putE_mem he with rfl | ⟨z, _⟩
    · exact ⟨ha, (h.li c List.mem_cons_self).2.2⟩
    · exact h.ok e z
  li := fun d hd => by
    rcases List.mem_append.mp hd with z | z
    · exact h.li d (List.mem_cons_of_mem _ z)
    · exact hN d z
  st := fun ht => by
    rcases h.st ht with z | z
    · exact .inl (putE_sub z)
    · rcases List.mem_cons.mp z with z | z
      · exact .inl (List.mem_map.mpr ⟨_, putE_in F (c, a), z.symm⟩)
      · exact .inr (List.mem_append_left _ z)
  cl := fun e he hl k hk => by
    rcases putE_mem he with rfl | ⟨z, _⟩
    · rcases hg hl k hk with y | y
      · exact .inl y
      · exact .inr (List.mem_append_right _ y)
    · rcases h.cl e z hl k hk with y | y
      · exact .inl (putE_sub y)
      · rcases List.mem_cons.mp y with y | y
        · exact .inl (List.mem_map.mpr ⟨_, putE_in F (c, a), y.symm⟩)
        · exact .inr (List.mem_append_left _ y)
theorem FwI.pap {T : List (List Bool)} {n : Nat} {F : List En} {t : List Nat} (e : few T n = some t) (h : FwI T n t.length F []) {L : List En} (hp : L.Perm F) : PapF T n L := by
  intro i hi
  have hi := hi t e
  refine ⟨fun e he => (h.ok e (hp.mem_iff.mp he)).1, fun h0 => ?_, fun e he hl k hk hc => ?_⟩
  · rcases h.st (by omega) with z | z
    · exact (hp.map _).mem_iff.mpr z
    · cases z
  · rcases h.cl e (hp.mem_iff.mp he) (by omega) k (growL_mem.mpr ⟨hk, hc⟩) with z | z
    · exact (hp.map _).mem_iff.mpr z
    · cases z
/-- less than all cannot part all -/
theorem not_all {T : List (List Bool)} {n : Nat} {t c : List Nat} (e : few T n = some t) (r : ris c) (b : ∀ x ∈ c, x < n) (hl : c.length < t.length) : ∃ a, notP T c = some a ∧ EntOk T n (c, a) := by
  cases en : notP T c with
  | none =>
    obtain ⟨t', e', l'⟩ := few_min r b (notP_none.mp en)
    rw [e] at e'
    cases e'
    omega
  | some a =>
    refine ⟨a, rfl, r, b, ?_⟩
    unfold notP at en
    rw [List.findIdx?_eq_some_iff_getElem] at en
    obtain ⟨h1, h2, _⟩ := en
    refine ⟨h1, ?_⟩
    unfold colOf
    rw [List.getElem?_eq_getElem h1]
    simpa using h2
end
section
/-! ### papers of fewest (k77): fewest_paper -/
def lnW (W : List (List Nat)) : D := .lst (W.map fun c => .tup (natT c))
theorem fitN (c : List Nat) : fitD 5 (.tup (natT c)) := fun d hd => by
  obtain ⟨k, _, rfl⟩ := List.mem_map.mp hd
  trivial
theorem shpW (W : List (List Nat)) : shp (lnW W) := shp_of (n := 6) fun d hd => by
  obtain ⟨c, _, rfl⟩ := List.mem_map.mp hd
  exact fitN c
theorem putE_nd {F : List En} {e : En} (h : (F.map (·.1)).Nodup) : ((putE F e).map (·.1)).Nodup := by
  rw [putE_keys]
  split
  · exact h
  · rename_i z
    exact List.nodup_append.mpr ⟨h, by simp, fun x hx y hy e => by
      rw [List.mem_singleton.mp hy] at e
      exact z (e ▸ hx)⟩
theorem kp_own7 {m m' : Mu} {q : Addr} {o : MO} (h : Kp [] m m') (e : m q = none) : Kp [] m (mset m' q o) := fun x u hx ex => by
  have hxq : x ≠ q := fun z => by rw [z, e] at ex; cases ex
  rw [mset_ne hxq]
  exact h x u hx ex
theorem deq_bl7 (b : Bool) : deq (.bl b) (.bl false) = !b := by
  unfold deq
  rw [show py (.bl b) = .bool b from by rw [py], show py (.bl false) = .bool false from by rw [py]]
  cases b <;> rfl
theorem flat_bls7 (T : List (List Bool)) : (T.map fun col => D.bl (col.any id)).all flatD = true := by
  rw [List.all_map, List.all_eq_true]
  intro _ _
  rfl
def sp_fewest_paper : SpD := fun ds m P _ => ∃ (T : List (List Bool)) (n : Nat), ds = [tabD T] ∧ TabOk T n ∧ n ≤ 6 ∧ ∀ (m' : Mu) (L : List En), Kp [] m m' → L.length ≤ 1957 → PapF T n L → P (.lst (L.map enT)) m'
def rd_fewest_paper : DS :=
    sSeq (sSet 1 (rCall sp_fewest [] (rCons (rV 0) (rNil))))
    (sSeq (sIf (rTst (rOp (oIsN false) (rV 1) (rC .non))) (sRet (rLst (rCons (rTup (rCons (rTup (rNil)) (rCons (rIdx (rLc (iAny (rV 0)) [6] (gN 6) (qYes) (rCB cAny (rCons (rV 6) (rNil)))) (rC (.bl false))) (rNil)))) (rNil)))) (sNext))
    (sSeq (sSet 2 (rNewG))
    (sSeq (sSet 3 (rOp oMulQ (rLst (rCons (rTup (rNil)) (rNil))) (rCB cMin (rCons (rCB cLen (rCons (rV 1) (rNil))) (rCons (rC (.int 1)) (rNil))))))
    (sSeq (sWhile (rTst (rOp oNe (rV 3) (rLst (rNil)))) (sSeq (sStar 4 3 (rV 3))
    (sSeq (sSetG (rCall sp_not_parted [] (rCons (rV 0) (rCons (rV 4) (rNil)))) (rV 2) (rV 4))
    (sIf (rTst (rOp oLt (rCB cLen (rCons (rV 4) (rNil))) (rOp oSub (rCB cLen (rCons (rV 1) (rNil))) (rC (.int 1))))) (sSet 3 (rOp oAdd (rV 3) (rLc (iAny (rCall sp_grown_by [] (rCons (rV 0) (rCons (rV 4) (rCons (rOp oGetG (rV 2) (rV 4)) (rNil)))))) [5] (gN 5) (rTst (rOp (oInG true) (rV 5) (rV 2))) (rV 5)))) (sNext)))))
    (sRet (rSrtIG (rV 2)))))))
theorem ln_fewest_paper : ∀ ds m Q PX, sp_fewest_paper ds m Q PX → ds.length = 1 := fun ds m Q PX h => by repeat (first | (subst_vars; rfl; done) | (obtain ⟨_, h⟩ := h))
theorem pu_fewest_paper : ∀ ds m Q PX, sp_fewest_paper ds m Q PX → rd_fewest_paper (dEnds Q PX) (dstart ["parts", "told", "found", "line", "chosen", "one", "column"] ds) m := by
  rintro ds m Q PX ⟨T, n, rfl, ok, hn, h⟩
  have hT := ok.few
  have lT : (T.map colD).length = T.length := List.length_map _
  walk_at "go"
  refine ⟨T, n, rfl, ok, ?_⟩
  cases ef : few T n with
  | none =>
    show (_ : Prop)
    walk_at "go"
    refine comp_on T colD (fun col => .bl (col.any id)) (by omega) trivial (fun col hc Q' q' => ?_) ?_
    · walk_at "go"
      rw [boolsD_map]
      exact q'
    refine ⟨⟨_, rfl⟩, ?_⟩
    obtain ⟨j, hj, jT, jn⟩ : ∃ j, (T.map fun col => D.bl (col.any id)).findIdx? (fun z => deq z (.bl false)) = some j ∧ j < T.length ∧ (colOf T j).any id = false := by
      obtain ⟨col, hc, hn⟩ := few_no ok.same ef
      cases e : (T.map fun col => D.bl (col.any id)).findIdx? (fun z => deq z (.bl false)) with
      | none =>
        have := List.findIdx?_eq_none_iff.mp e _ (List.mem_map_of_mem (f := fun col : List Bool => D.bl (col.any id)) hc)
        rw [hn, deq_bl7] at this
        cases this
      | some j =>
        obtain ⟨h1, h2, _⟩ := List.findIdx?_eq_some_iff_getElem.mp e
        rw [List.length_map] at h1
        refine ⟨j, rfl, h1, ?_⟩
        rw [List.getElem_map, deq_bl7] at h2
        unfold colOf
        rw [List.getElem?_eq_getElem h1]
        simpa using h2
    walk_at "go"
    refine ⟨⟨rfl, flat_bls7 T⟩, ?_⟩
    rw [hj]
    walk_at "go"
    exact h m [([], j)] (Kp.refl _ _) (by simp) fun i _ => pap_none jT jn i
  | some t =>
    obtain ⟨_, t2, t3, t4⟩ := few_is ef
    show ∀ q, m q = none → _
    intro q hq
    walk_at "go"
    intro p hp
    have hpq : p ≠ q := fun z => by rw [z, mset_same] at hp; cases hp
    have hpm : m p = none := by rwa [mset_ne hpq] at hp
    obtain ⟨m1, hm1⟩ : ∃ m1, m1 = mset (mset m q (.lst (natT t))) p (.dgt []) := ⟨_, rfl⟩
    have k1 : Kp [] m m1 := by rw [hm1]; exact (kp_new hq).trans (kp_new (by rw [mset_ne hpq]; exact hpm))
    have q1 : m1 q = some (.lst (natT t)) := by rw [hm1, mset_ne (Ne.symm hpq)]; exact mset_same
    have p1 : m1 p = some (.dgt ([].map kvE)) := by rw [hm1]; exact mset_same
    rw [← hm1]
    have lt := natT_len t
    walk_at "go"
    rw [asL_adr q1]
    obtain ⟨W0, hW0, w1, w2, w3⟩ : ∃ W0 : List (List Nat), (List.replicate (if (1 : Int) < ((natT t).length : Int) then (1 : Int) else ((natT t).length : Int)).toNat [D.tup []]).flatten = W0.map (fun c => D.tup (natT c)) ∧ wtW W0 ≤ 1957 ∧ (∀ c ∈ W0, c = []) ∧ (0 < t.length → [] ∈ W0) ∧ (t.length = 0 → W0 = []) := by
      rw [lt]
      cases t with
      | nil => exact ⟨[], rfl, by decide, (fun c hc => by cases hc), (fun z => by cases z), fun _ => rfl⟩
      | cons x r =>
        refine ⟨[[]], ?_, by decide, (fun c hc => List.mem_singleton.mp hc), (fun _ => by simp), fun z => by cases z⟩
        have : (if (1 : Int) < (((x :: r).length : Nat) : Int) then (1 : Int) else (((x :: r).length : Nat) : Int)) = 1 := by
          rw [List.length_cons]
          split <;> omega
        rw [this]
        rfl
    walk_at "go"
    rw [hW0]
    obtain ⟨w4, w5⟩ := w3
    refine ⟨fun k δ m' => ∃ F W x4 x5 x6, F.length + wtW W ≤ 1957 ∧ k = wtW W ∧ Kp [] m m' ∧ m' q = some (.lst (natT t)) ∧ m' p = some (.dgt (F.map kvE)) ∧ δ = [some (tabD T), some (.adr q), some (.adr p), some (lnW W), x4, x5, x6] ∧ FwI T n t.length F W, ⟨wtW W0, [], W0, none, none, none, by simpa using w1, rfl, k1, q1, p1, rfl, ⟨by simp, (fun e he => by cases he), fun c hc => ?_, fun z => .inr (w4 z), fun e he => by cases he⟩⟩, fun k δ m' hh => ?_⟩
    · have t0 : 0 < t.length := Nat.pos_of_ne_zero fun z => by rw [w5 z] at hc; cases hc
      rw [w2 c hc]
      exact ⟨List.Pairwise.nil, (fun _ z => by cases z), t0⟩
    obtain ⟨F, W, x4, x5, x6, hF, rfl, kp, hq, hp, rfl, I⟩ := hh
    have lW := wtW_len W
    walk_at "go"
    refine ⟨shpW W, shpN, ?_⟩
    rw [if_pos rfl, show deq (dat m' (lnW W)) (dat m' (.lst [])) = (W.map fun c => D.tup (natT c)).isEmpty from deq_lst_nil]
    cases W with
    | nil =>
      walk_at "go"
      rw [dgOf_adr hp]
      dsimp only
      refine ⟨pairs_en F, fun l' pl => ?_⟩
      have e : (F.map kvE).map (fun p => D.tup [p.1, p.2]) = F.map enT := by rw [List.map_map]; rfl
      rw [e] at pl
      obtain ⟨L, pL, rfl⟩ := perm_lift enT pl F rfl
      exact h m' L kp (by rw [pL.length_eq]; omega) (FwI.pap ef I pL)
    | cons c W =>
      obtain ⟨c1, c2, c3⟩ := I.li c List.mem_cons_self
      obtain ⟨a, ha, hE⟩ := not_all ef c1 c2 c3
      have lc := natT_len c
      have lcn := ris_few c1 c2
      have wc : wtW (c :: W) = wt7 c.length + wtW W := by unfold wtW; rw [List.map_cons, List.sum_cons]
      have w0 := wt7_one c.length
      have lW2 := wtW_len W
      have lm : (W.map fun c => D.tup (natT c)).length = W.length := List.length_map _
      walk_at "go"
      refine ⟨by omega, ?_⟩
      walk_at "go"
      refine ⟨c, rfl, by omega, by omega, fun col hc k hk => by rw [ok.same col hc]; exact c2 k hk, ?_⟩
      rw [ha]
      walk_at "go"
      rw [hp]
      dsimp only
      refine ⟨kt_nat c, by rw [List.length_map]; exact Nat.lt_of_le_of_lt (show F.length ≤ 1957 by omega) (by decide), ?_⟩
      rw [show oK (some a) = natD a from rfl, put_kvE (c, a)]
      obtain ⟨m2, hm2⟩ : ∃ m2, m2 = mset m' p (.dgt ((putE F (c, a)).map kvE)) := ⟨_, rfl⟩
      have kp2 : Kp [] m m2 := by rw [hm2]; exact kp_own7 kp hpm
      have hq2 : m2 q = some (.lst (natT t)) := by rw [hm2, mset_ne (Ne.symm hpq)]; exact hq
      have hp2 : m2 p = some (.dgt ((putE F (c, a)).map kvE)) := by rw [hm2]; exact mset_same
      rw [← hm2]
      have pl := putE_len F (c, a)
      walk_at "go"
      rw [asL_adr hq2]
      walk_at "go"
      rw [lc, lt]
      by_cases hlt : c.length + 1 < t.length
      · rw [decide_eq_true (show (c.length : Int) < (t.length : Int) - 1 by omega)]
        walk_at "go"
        rw [dgOf_adr hp2]
        dsimp only
        refine ⟨kt_nat c, ?_⟩
        rw [kvE_in (e := (c, a)) (putE_nd I.nd) (putE_in F (c, a))]
        walk_at "go"
        refine ⟨T, n, (c, a), rfl, ok, hE.2.2.1, by show c.length ≤ 1000; omega, ?_⟩
        have gf := grow_few hE
        have gl := growL_len (colOf T a) n
        have gf : (growL (colOf T a) n).length + c.length ≤ n := gf
        obtain ⟨N, hN⟩ : ∃ N, N = ((growL (colOf T a) n).filter fun k => decide (insR c k ∉ (putE F (c, a)).map (·.1))).map (insR c) := ⟨_, rfl⟩
        have hNl : ∀ d ∈ N, d.length = c.length + 1 := fun d hd => by
          rw [hN] at hd
          obtain ⟨k, _, rfl⟩ := List.mem_map.mp hd
          exact insR_len c k
        have lN : N.length ≤ (growL (colOf T a) n).length := by rw [hN, List.length_map]; exact List.length_filter_le _ _
        have wN : wtW N + 1 ≤ wt7 c.length := by
          rw [wtW_same N hNl]
          exact Nat.le_trans (Nat.succ_le_succ (Nat.mul_le_mul_right _ lN)) (wt7_step (by omega) (by omega))
        refine comp_ty (fun k => D.tup (natT (insR c k))) (fun k => if decide (insR c k ∉ (putE F (c, a)).map (·.1)) then [D.tup (natT (insR c k))] else []) 16777216 trivial (fun k hk acc' Cn la kk => ?_) ?_ ?_
        · walk_at "go"
          rw [dgOf_adr hp2]
          dsimp only
          refine ⟨kt_nat _, ?_⟩
          rw [if_pos rfl]
          by_cases hin : insR c k ∈ (putE F (c, a)).map (·.1)
          · rw [if_neg (by simpa using hin), List.append_nil] at kk
            obtain ⟨g, hg, eg⟩ := List.mem_map.mp hin
            rw [← eg, kvE_in (putE_nd I.nd) hg]
            walk_at "go"
            exact kk
          · rw [if_pos (by simpa using hin)] at kk la
            rw [kvE_out hin]
            have la2 : acc'.length < sizeLine := Nat.lt_of_lt_of_le (show acc'.length < 16777216 by simp at la; omega) (by decide)
            walk_at "go"
            exact kk
        · rw [filt_flat, List.length_map]
          have := List.length_filter_le (fun k => decide (insR c k ∉ (putE F (c, a)).map (·.1))) (growL (colOf T a) n)
          simp only [List.length_nil, Nat.zero_add]
          omega
        · rw [List.nil_append, filt_flat]
          have eN : ((growL (colOf T a) n).filter fun k => decide (insR c k ∉ (putE F (c, a)).map (·.1))).map (fun k => D.tup (natT (insR c k))) = N.map fun c => D.tup (natT c) := by rw [hN, List.map_map]; rfl
          rw [eN]
          have lNm : (N.map fun c => D.tup (natT c)).length = N.length := List.length_map _
          walk_at "go"
          refine ⟨wtW (W ++ N), by rw [wtW_app]; omega, putE F (c, a), W ++ N, _, _, _, by rw [wtW_app]; omega, rfl, kp2, hq2, hp2, by unfold lnW; rw [List.map_append]; rfl, I.step hE N (fun d hd => ?_) fun _ k hk => ?_⟩
          · have hd2 := hNl d hd
            rw [hN] at hd
            obtain ⟨k, hk, rfl⟩ := List.mem_map.mp hd
            have hk1 := (List.mem_filter.mp hk).1
            have hk2 := growL_mem.mp hk1
            refine ⟨insR_ris c1 fun z => ?_, fun x hx => ?_, by omega⟩
            · have := hits_iff.mpr ⟨k, z, hk2.2⟩
              rw [hE.2.2.2] at this; cases this
            · rcases insR_mem.mp hx with y | y
              · exact c2 x y
              · rw [y]; exact hk2.1
          · by_cases hin : insR c k ∈ (putE F (c, a)).map (·.1)
            · exact .inl hin
            · refine .inr ?_
              rw [hN]
              exact List.mem_map.mpr ⟨k, List.mem_filter.mpr ⟨hk, decide_eq_true hin⟩, rfl⟩
      · rw [decide_eq_false (show ¬ (c.length : Int) < (t.length : Int) - 1 by omega)]
        walk_at "go"
        refine ⟨wtW W, by omega, putE F (c, a), W, _, _, _, by omega, rfl, kp2, hq2, hp2, rfl, ?_⟩
        have := I.step hE [] (fun d hd => by cases hd) fun z => absurd z hlt
        rwa [List.append_nil] at this
end
section
/-! ### papers of fewest (k77): the program's word on any paper -/
theorem comp_b7 {Ph : Mu → Prop} {rg : DG} {re : DE} {δ : DSt} {P : List D → Mu → Prop} {α : Type} {m : Mu} (xs : List α) (g : α → D) (q : α → Prop) (hn : xs.length ≤ 16777216) (ph : Ph m)
    (he : ∀ x ∈ xs, ∀ Q : DK, (∀ b : Bool, (b = true ↔ q x) → Q (.bl b) m) → rg (g x) δ m fun δ' m' => re δ' m' Q noX)
    (h : ∀ bs : List Bool, (bs.all id = true ↔ ∀ x ∈ xs, q x) → (bs.any id = true ↔ ∃ x ∈ xs, q x) → P (bs.map .bl) m) : rComp Ph rg qYes re δ P (xs.map g) [] m := by
  classical
  refine comp_on xs g (fun x => .bl (decide (q x))) hn ph (fun x hx Q h' => he x hx Q fun b hb => ?_) ?_
  · have : b = decide (q x) := by
      cases b with
      | true => exact (decide_eq_true (hb.mp rfl)).symm
      | false => exact (decide_eq_false fun z => by cases hb.mpr z).symm
    rw [this]; exact h'
  · have := h (xs.map fun x => decide (q x)) (by rw [List.all_map, List.all_eq_true]; exact ⟨fun z x hx => of_decide_eq_true (z x hx), fun z x hx => decide_eq_true (z x hx)⟩)
      (by rw [List.any_map, List.any_eq_true]; exact ⟨fun ⟨x, hx, z⟩ => ⟨x, hx, of_decide_eq_true z⟩, fun ⟨x, hx, z⟩ => ⟨x, hx, decide_eq_true z⟩⟩)
    rw [List.map_map] at this
    exact this
theorem comp_b7D {Ph : Mu → Prop} {rg : DG} {re : DE} {δ : DSt} {P : List D → Mu → Prop} {m : Mu} (xs : List D) (q : D → Prop) (hn : xs.length ≤ 16777216) (ph : Ph m)
    (he : ∀ x ∈ xs, ∀ Q : DK, (∀ b : Bool, (b = true ↔ q x) → Q (.bl b) m) → rg x δ m fun δ' m' => re δ' m' Q noX)
    (h : ∀ bs : List Bool, (bs.all id = true ↔ ∀ x ∈ xs, q x) → (bs.any id = true ↔ ∃ x ∈ xs, q x) → P (bs.map .bl) m) : rComp Ph rg qYes re δ P xs [] m := by
  have := comp_b7 xs id q hn ph he h
  rwa [List.map_id] at this
def AtF (d : D) : Prop := d = .non ∨ (∃ b, d = .bl b) ∨ (∃ i : Int, d = .int i ∧ i.natAbs < 10 ^ 9) ∨ d = .str (Str.ofString "0") ∨ d = .str (Str.ofString "1")
def CmF (d : D) : Prop := AtF d ∨ ∃ cs, (d = .tup cs ∨ d = .lst cs) ∧ cs.length ≤ 10 ∧ ∀ a ∈ cs, AtF a
def ItmF (x : D) : Prop := x = .non ∨ ∃ es, x = .tup es ∧ es.length ≤ 3 ∧ ∀ d ∈ es, CmF d
theorem atF_th {d : D} (h : AtF d) : thD 2 d := by
  rcases h with rfl | ⟨b, rfl⟩ | ⟨i, rfl, _⟩ | rfl | rfl
  · exact thD_non
  · exact thD_bl
  · exact thD_int
  · exact ⟨by decide, by decide⟩
  · exact ⟨by decide, by decide⟩
theorem cmF_th {d : D} (h : CmF d) : thD 4 d := by
  rcases h with h | ⟨cs, rfl | rfl, l, hc⟩
  · rcases h with rfl | ⟨b, rfl⟩ | ⟨i, rfl, _⟩ | rfl | rfl
    · exact thD_non
    · exact thD_bl
    · exact thD_int
    · exact ⟨by decide, by decide⟩
    · exact ⟨by decide, by decide⟩
  · exact ⟨by omega, fun d hd => thD_mono 2 3 _ (by decide) (atF_th (hc d hd))⟩
  · exact ⟨by omega, fun d hd => thD_mono 2 3 _ (by decide) (atF_th (hc d hd))⟩
theorem whole7 {d : D} (h : isWhole d = true) : ∃ i, d = .int i := by
  unfold isWhole at h
  split at h
  · exact ⟨_, rfl⟩
  · cases h
theorem zip_two7 {α β : Type} (f : α → D) (g : β → D) : ∀ (xs : List α) (ys : List β), zipD (xs.map f) (ys.map g) = (xs.zip ys).map fun p => .tup [f p.1, g p.2]
  | [], _ => by cases ‹List β› <;> rfl
  | _ :: _, [] => rfl
  | x :: xs, y :: ys => by
    rw [List.map_cons, List.map_cons, List.zip_cons_cons, List.map_cons, ← zip_two7 f g xs ys]; rfl
theorem cut_from7 (xs : List D) (j : Nat) : cutD xs (some (j : Int)) none = xs.drop j := by
  unfold cutD
  rw [HT.sIx_nat, HT.sIx_none]
  by_cases h : j ≤ xs.length
  · rw [Nat.min_eq_left h, List.take_of_length_le (by rw [List.length_drop]; exact Nat.le_refl _)]
  · rw [Nat.min_eq_right (by omega), List.drop_eq_nil_of_le (Nat.le_refl _), List.drop_eq_nil_of_le (by omega)]; simp
theorem ris_zip : ∀ c : List Nat, ris c ↔ ∀ q ∈ c.zip (c.drop 1), q.1 < q.2
  | [] => ⟨(fun _ q hq => by cases hq), fun _ => List.Pairwise.nil⟩
  | [x] => ⟨(fun _ q hq => by simp at hq), fun _ => List.pairwise_singleton _ _⟩
  | x :: y :: c => by
    have ih := ris_zip (y :: c)
    simp only [List.drop_succ_cons, List.drop_zero] at ih ⊢
    rw [List.zip_cons_cons]
    constructor
    · intro h q hq
      obtain ⟨h1, h2⟩ := List.pairwise_cons.mp h
      rcases List.mem_cons.mp hq with rfl | hq
      · exact h1 y List.mem_cons_self
      · exact ih.mp h2 q hq
    · intro h
      have h2 := ih.mpr fun q hq => h q (List.mem_cons_of_mem _ hq)
      have hxy : x < y := h (x, y) List.mem_cons_self
      refine List.pairwise_cons.mpr ⟨fun z hz => ?_, h2⟩
      rcases List.mem_cons.mp hz with rfl | hz
      · exact hxy
      · exact Nat.lt_trans hxy ((List.pairwise_cons.mp h2).1 z hz)
theorem natT_inj : ∀ {a b : List Nat}, natT a = natT b → a = b
  | [], [], _ => rfl
  | [], _ :: _, h => by cases h
  | _ :: _, [], h => by cases h
  | x :: a, y :: b, h => by
    unfold natT at h
    rw [List.map_cons, List.map_cons] at h
    injection h with h1 h2
    have h1 : (x : Int) = (y : Int) := by injection h1
    rw [natT_inj (a := a) (b := b) h2, Int.ofNat.inj h1]
theorem enT_inj {e f : En} (h : enT e = enT f) : e = f := by
  obtain ⟨c, a⟩ := e
  obtain ⟨d, b⟩ := f
  unfold enT at h
  injection h with h
  injection h with h1 h2
  injection h1 with h1
  injection h2 with h2 _
  have h2 : (a : Int) = (b : Int) := by injection h2
  have e1 : c = d := natT_inj h1
  have e2 : a = b := Int.ofNat.inj h2
  rw [e1, e2]
theorem nats_of {n : Nat} : ∀ {cs : List D}, (∀ d ∈ cs, ∃ i : Int, d = .int i ∧ 0 ≤ i ∧ i < n) → ∃ c : List Nat, cs = natT c ∧ ∀ x ∈ c, x < n
  | [], _ => ⟨[], rfl, fun _ z => by cases z⟩
  | d :: cs, h => by
    obtain ⟨c, rfl, hc⟩ := nats_of fun x hx => h x (List.mem_cons_of_mem _ hx)
    obtain ⟨i, rfl, i0, i1⟩ := h d List.mem_cons_self
    refine ⟨i.toNat :: c, ?_, fun x hx => ?_⟩
    · unfold natT natD
      rw [List.map_cons, Int.toNat_of_nonneg i0]
    · rcases List.mem_cons.mp hx with rfl | hx
      · omega
      · exact hc x hx
def RisD (n : Nat) (cs : List D) : Prop := ∃ c, cs = natT c ∧ ris c ∧ ∀ x ∈ c, x < n
def sp_are_rising_v3 : SpD := fun ds m P _ => ∃ (cs : List D) (n : Nat), ds = [.tup cs, .int n] ∧ cs.length ≤ 10 ∧ (∀ d ∈ cs, AtF d) ∧ ∀ t : Bool, (t = true ↔ RisD n cs) → P (.bl t) m
def rd_are_rising_v3 : DS :=
    sSeq (sIf (rNot (rTru (rCB cAll (rCons (rLc (iAny (rV 0)) [2] (gN 2) (qYes) (rAndV (rCall sp_is_whole [] (rCons (rV 2) (rNil))) (rChain oLe oLt (rC (.int 0)) (rV 2) (rV 1)))) (rNil))))) (sRet (rC (.bl false))) (sNext))
    (sRet (rCB cAll (rCons (rLc (iZipD (rCons (rV 0) (rCons (rSl (rV 0) (rPart (rC (.int 1))) rNoP) (rNil)))) [3, 4] (gT [3, 4]) (qYes) (rOp oLt (rV 3) (rV 4))) (rNil))))
theorem ln_are_rising_v3 : ∀ ds m Q PX, sp_are_rising_v3 ds m Q PX → ds.length = 2 := fun ds m Q PX h => by repeat (first | (subst_vars; rfl; done) | (obtain ⟨_, h⟩ := h))
theorem pu_are_rising_v3 : ∀ ds m Q PX, sp_are_rising_v3 ds m Q PX → rd_are_rising_v3 (dEnds Q PX) (dstart ["rows", "many", "row", "one", "other"] ds) m := by
  rintro ds m Q PX ⟨cs, n, rfl, hl, hc, h⟩
  have fal : (¬ RisD n cs) → Q (.bl false) m := fun z => h false ⟨fun e => (by cases e), fun e => absurd e z⟩
  walk_at "go"
  refine comp_b7D cs (fun d => ∃ i : Int, d = .int i ∧ 0 ≤ i ∧ i < n) (by omega) trivial (fun d hd Q' h' => ?_) fun bs ba _ => ?_
  · walk_at "go"
    refine ⟨d, rfl, thg_of (n := 2) (atF_th (hc d hd)), ?_⟩
    cases ew : isWhole d with
    | false =>
      walk_at "go"
      exact h' _ ⟨fun e => (by cases e), fun ⟨i, e, _⟩ => by rw [e] at ew; cases ew⟩
    | true =>
      obtain ⟨i, rfl⟩ := whole7 ew
      walk_at "go"
      by_cases i0 : 0 ≤ i
      · rw [decide_eq_true i0]
        walk_at "go"
        exact h' _ (by rw [decide_eq_true_iff]; exact ⟨fun y => ⟨i, rfl, i0, y⟩, fun ⟨j, e, _, y⟩ => by cases e; exact y⟩)
      · rw [decide_eq_false i0]
        walk_at "go"
        exact h' _ ⟨fun e => (by cases e), fun ⟨j, e, y, _⟩ => by cases e; exact absurd y i0⟩
  walk_at "dl"
  rw [boolsD_map]
  dsimp only
  cases hb : bs.all id with
  | false =>
    walk_at "go"
    refine fal fun ⟨c, e, _, hx⟩ => ?_
    have : bs.all id = true := ba.mpr fun d hd => by
      rw [e] at hd
      obtain ⟨x, hx1, rfl⟩ := List.mem_map.mp hd
      have := hx x hx1
      exact ⟨x, rfl, by omega, by omega⟩
    rw [hb] at this; cases this
  | true =>
    obtain ⟨c, rfl, hx⟩ := nats_of (ba.mp hb)
    have lc := natT_len c
    walk_at "go"
    rw [show ((1 : Int)) = ((1 : Nat) : Int) from rfl, cut_from7, show (natT c).drop 1 = natT (c.drop 1) from by unfold natT; rw [List.map_drop], show zipD (natT c) (natT (c.drop 1)) = _ from zip_two7 natD natD c (c.drop 1)]
    refine comp_b7 (c.zip (c.drop 1)) (fun q => D.tup [natD q.1, natD q.2]) (fun q => q.1 < q.2) (by rw [List.length_zip]; omega) trivial (fun q hq Q' h' => ?_) fun bs2 ba2 _ => ?_
    · walk_at "go"
      exact h' _ (by rw [decide_eq_true_iff]; exact Int.ofNat_lt)
    walk_at "dl"
    rw [boolsD_map]
    refine h _ (ba2.trans ⟨fun z => ⟨c, rfl, (ris_zip c).mpr z, hx⟩, fun ⟨d, e, r, _⟩ => ?_⟩)
    rw [natT_inj e]
    exact (ris_zip d).mp r
def IsEnt (T : List (List Bool)) (n : Nat) (x : D) : Prop := ∃ e, x = enT e ∧ EntOk T n e
def sp_is_entry : SpD := fun ds m P _ => ∃ (T : List (List Bool)) (n : Nat) (x : D), ds = [tabD T, x] ∧ TabOk T n ∧ ItmF x ∧ ∀ t : Bool, (t = true ↔ IsEnt T n x) → P (.bl t) m
def rd_is_entry : DS :=
    sSeq (sIf (rOr (rNot (rTru (rCB cIsi (rCons (rV 1) (rCons (rC (.ty "tuple")) (rNil)))))) (rOr (rTst (rOp oNe (rCB cLen (rCons (rV 1) (rNil))) (rC (.int 2)))) (rNot (rTru (rCB cIsi (rCons (rOp oIx (rV 1) (rC (.int 0))) (rCons (rC (.ty "tuple")) (rNil)))))))) (sRet (rC (.bl false))) (sNext))
    (sSeq (sTup [2, 3] (rV 1))
    (sSeq (sIf (rOr (rNot (rTru (rCall sp_is_whole [] (rCons (rV 3) (rNil))))) (rOr (rNot (rTst (rChain oLe oLt (rC (.int 0)) (rV 3) (rCB cLen (rCons (rV 0) (rNil)))))) (rNot (rTru (rCall sp_are_rising_v3 [] (rCons (rV 2) (rCons (rCB cLen (rCons (rOp oIx (rV 0) (rV 3)) (rNil))) (rNil)))))))) (sRet (rC (.bl false))) (sNext))
    (sRet (rNotV (rCall sp_is_parted [] (rCons (rOp oIx (rV 0) (rV 3)) (rCons (rV 2) (rNil))))))))
theorem ln_is_entry : ∀ ds m Q PX, sp_is_entry ds m Q PX → ds.length = 2 := fun ds m Q PX h => by repeat (first | (subst_vars; rfl; done) | (obtain ⟨_, h⟩ := h))
theorem pu_is_entry : ∀ ds m Q PX, sp_is_entry ds m Q PX → rd_is_entry (dEnds Q PX) (dstart ["parts", "thing", "chosen", "at"] ds) m := by
  rintro ds m Q PX ⟨T, n, x, rfl, ok, hx, h⟩
  have hT := ok.few
  have lT : (T.map colD).length = T.length := List.length_map _
  have fal : (¬ IsEnt T n x) → Q (.bl false) m := fun z => h false ⟨fun e => (by cases e), fun e => absurd e z⟩
  rcases hx with rfl | ⟨es, rfl, le, he⟩
  · walk_at "go"
    exact fal fun ⟨e, z, _⟩ => by cases z
  walk_at "go"
  by_cases hl : es.length = 2
  rotate_left
  · rw [if_pos rfl, decide_eq_false (by omega)]
    walk_at "go"
    exact fal fun ⟨e, z, _⟩ => by injection z with z; rw [z] at hl; exact hl rfl
  obtain ⟨x, y, rfl⟩ : ∃ x y, es = [x, y] := by
    match es, hl with
    | [x, y], _ => exact ⟨x, y, rfl⟩
  have hx := he x (by simp)
  have hy := he y (by simp)
  walk_at "go"
  rcases hx with hx | ⟨cs, rfl | rfl, lc, hc⟩
  · rcases hx with rfl | ⟨b, rfl⟩ | ⟨i, rfl, _⟩ | rfl | rfl
    · walk_at "go"
      exact fal fun ⟨e, z, _⟩ => by cases z
    · walk_at "go"
      exact fal fun ⟨e, z, _⟩ => by cases z
    · walk_at "go"
      exact fal fun ⟨e, z, _⟩ => by cases z
    · walk_at "go"
      exact fal fun ⟨e, z, _⟩ => by cases z
    · walk_at "go"
      exact fal fun ⟨e, z, _⟩ => by cases z
  rotate_left
  · walk_at "go"
    exact fal fun ⟨e, z, _⟩ => by cases z
  walk_at "go"
  refine ⟨_, rfl, thg_of (n := 4) (cmF_th hy), ?_⟩
  cases ew : isWhole y with
  | false =>
    walk_at "go"
    exact fal fun ⟨e, z, _⟩ => by cases z; cases ew
  | true =>
  obtain ⟨i, rfl⟩ := whole7 ew
  have noE : ∀ {P : Prop}, ((0 ≤ i ∧ i < T.length) → P) → (¬ (0 ≤ i ∧ i < T.length) → P) → P := fun h1 h2 => Classical.byCases h1 h2
  have bad : ¬ (0 ≤ i ∧ i < T.length) → ¬ IsEnt T n (.tup [.tup cs, .int i]) := fun z ⟨e, w, o⟩ => by
    injection w with w
    injection w with _ w
    injection w with w _
    have w : i = (e.2 : Int) := by injection w
    exact z ⟨by omega, by have := o.2.2.1; omega⟩
  by_cases i0 : 0 ≤ i
  rotate_left
  · walk_at "go"
    rw [decide_eq_false i0]
    walk_at "go"
    exact fal (bad fun z => i0 z.1)
  walk_at "go"
  rw [decide_eq_true i0]
  walk_at "go"
  rw [lT]
  by_cases i1 : i < T.length
  rotate_left
  · rw [decide_eq_false i1]
    walk_at "go"
    exact fal (bad fun z => i1 z.2)
  rw [decide_eq_true i1]
  obtain ⟨a, rfl⟩ : ∃ a : Nat, i = a := ⟨i.toNat, by omega⟩
  have ha : a < T.length := by omega
  have hcn : (colOf T a).length = n := ok.same _ (col_mem ha)
  have hcm : ((colOf T a).map D.bl).length = n := by rw [List.length_map]; exact hcn
  walk_at "go"
  rw [col_at2 ha]
  walk_at "go"
  rw [hcm]
  refine ⟨cs, n, rfl, lc, hc, fun t ht => ?_⟩
  cases t with
  | false =>
    walk_at "go"
    refine fal fun ⟨e, z, o⟩ => ?_
    injection z with z
    injection z with z _
    injection z with z
    cases ht.mpr ⟨e.1, z, o.1, o.2.1⟩
  | true =>
    obtain ⟨c, rfl, r, b⟩ := ht.mp rfl
    walk_at "go"
    rw [col_at2 ha]
    walk_at "go"
    refine ⟨colOf T a, c, rfl, by rw [natT_len] at lc; omega, fun k hk => by rw [hcn]; exact b k hk, ?_⟩
    cases eh : hits (colOf T a) c with
    | true =>
      walk_at "go"
      refine fal fun ⟨e, z, o⟩ => ?_
      have z : enT (c, a) = enT e := z
      rw [← enT_inj z] at o
      have := o.2.2.2
      rw [eh] at this; cases this
    | false =>
      walk_at "go"
      exact h true ⟨fun _ => ⟨(c, a), rfl, r, b, ha, eh⟩, fun _ => rfl⟩
end
section
/-! ### papers of fewest (k77): bars_fewer -/
def CntF (d : D) : Prop := AtF d
def PapE (n : Nat) (f : D) : Prop := (∃ xs : List D, (f = .lst xs ∨ f = .tup xs) ∧ xs.length ≤ n ∧ ∀ x ∈ xs, ItmF x) ∨ f = .non ∨ f = .dct [] ∨ f = .str (Str.ofString "a")
def DueD (T : List (List Bool)) (n : Nat) (c f : D) : Prop := ∃ (i : Int) (L : List En), c = .int i ∧ 0 ≤ i ∧ f = .lst (L.map enT) ∧ DueP T n i L
theorem ents_of {T : List (List Bool)} {n : Nat} : ∀ {xs : List D}, (∀ x ∈ xs, IsEnt T n x) → ∃ L : List En, xs = L.map enT ∧ ∀ e ∈ L, EntOk T n e
  | [], _ => ⟨[], rfl, fun _ z => by cases z⟩
  | x :: xs, h => by
    obtain ⟨L, rfl, hL⟩ := ents_of fun y hy => h y (List.mem_cons_of_mem _ hy)
    obtain ⟨e, rfl, ho⟩ := h x List.mem_cons_self
    exact ⟨e :: L, rfl, fun d hd => by
      rcases List.mem_cons.mp hd with rfl | hd
      · exact ho
      · exact hL d hd⟩
theorem ents_inj : ∀ {l k : List En}, l.map enT = k.map enT → l = k
  | [], [], _ => rfl
  | [], _ :: _, h => by cases h
  | _ :: _, [], h => by cases h
  | x :: l, y :: k, h => by
    rw [List.map_cons, List.map_cons] at h
    injection h with h1 h2
    rw [enT_inj h1, ents_inj h2]
def keyN (c : List Nat) : D × D := (.tup (natT c), .bl true)
theorem keyN_out {ls : List (List Nat)} {c : List Nat} (h : c ∉ ls) : valG (ls.map keyN) (.tup (natT c)) = none := by
  rw [valG_none]
  intro q hq e
  obtain ⟨g, hg, rfl⟩ := List.mem_map.mp hq
  exact h (nk_nat (show nk (.tup (natT g)) = nk (.tup (natT c)) from e) ▸ hg)
theorem keyN_in {ls : List (List Nat)} {c : List Nat} (h : c ∈ ls) : valG (ls.map keyN) (.tup (natT c)) = some (.bl true) := by
  cases e : valG (ls.map keyN) (.tup (natT c)) with
  | none => exact absurd rfl (valG_none.mp e _ (List.mem_map_of_mem (f := keyN) h))
  | some d =>
    obtain ⟨q, hq, _, rfl⟩ := valG_mem e
    obtain ⟨g, _, rfl⟩ := List.mem_map.mp hq
    rfl
theorem valN_in {X : List (List Nat)} {c : List Nat} : (valG (X.map keyN) (.tup (natT c))).isSome = decide (c ∈ X) := by
  by_cases h : c ∈ X
  · rw [keyN_in h, decide_eq_true h]; rfl
  · rw [keyN_out h, decide_eq_false h]; rfl
def addN (G : List (List Nat)) (x : List Nat) : List (List Nat) := if x ∈ G then G else G ++ [x]
theorem put_keyN (G : List (List Nat)) (x : List Nat) : putG (G.map keyN) (.tup (natT x)) (.bl true) = (addN G x).map keyN := by
  unfold addN
  by_cases hm : x ∈ G
  · rw [if_pos hm]
    have hs := keyN_in hm
    unfold putG
    rw [if_pos (by rw [hs]; rfl), List.map_map]
    refine List.map_congr_left fun y _ => ?_
    show (if nk (keyN y).1 = nk (.tup (natT x)) then ((keyN y).1, D.bl true) else keyN y) = keyN y
    split <;> rfl
  · rw [if_neg hm, putG_new (keyN_out hm), List.map_append]; rfl
theorem addN_mem {G : List (List Nat)} {x y : List Nat} : y ∈ addN G x ↔ y ∈ G ∨ y = x := by
  unfold addN
  split
  · rename_i h
    exact ⟨.inl, fun z => by rcases z with z | rfl; exact z; exact h⟩
  · simp
theorem addN_len (G : List (List Nat)) (x : List Nat) : (addN G x).length ≤ G.length + 1 := by
  unfold addN
  split
  · exact Nat.le_succ _
  · rw [List.length_append]; exact Nat.le_refl _
theorem foldN_mem : ∀ (l G : List (List Nat)) (y : List Nat), y ∈ l.foldl addN G ↔ y ∈ G ∨ y ∈ l
  | [], G, y => by simp
  | x :: l, G, y => by rw [List.foldl_cons, foldN_mem l, addN_mem, List.mem_cons, or_assoc]
theorem dc_dupN {Ph : Mu → Prop} {rg : DG} {qt : DT} {rk rv : DE} {δ : DSt} {P : List (D × D) → Mu → Prop} {m : Mu} (ph : Ph m) : ∀ (xs : List En) (G : List (List Nat)), G.length + xs.length < 16777216 →
    (∀ x ∈ xs, ∀ K : D → D → Mu → Prop, K (.tup (natT x.1)) (.bl true) m → ∀ Kf : Mu → Prop, rg (enT x) δ m fun δ' m' => qt δ' m' (fun k m1 => match k with
      | true => rk δ' m1 (fun y m2 => rv δ' m2 (fun z m3 => K y z m3) noX) noX
      | false => Kf m1) noX) → P (((xs.map (·.1)).foldl addN G).map keyN) m → rComG Ph rg qt rk rv δ P (xs.map enT) (G.map keyN) m
  | [], G, _, _, h => by rw [List.map_nil, rComG_nil]; exact ⟨ph, h⟩
  | x :: xs, G, hl, hs, h => by
    simp only [List.length_cons] at hl
    rw [List.map_cons, rComG_cons]
    refine ⟨ph, hs x List.mem_cons_self _ ?_ _⟩
    refine ⟨kt_nat x.1, by rw [List.length_map]; exact Nat.lt_of_lt_of_le (show G.length < 16777216 by omega) (by decide), ?_⟩
    rw [put_keyN]
    have := addN_len G x.1
    exact dc_dupN ph xs (addN G x.1) (by omega) (fun t ht => hs t (List.mem_cons_of_mem _ ht)) h
theorem flat_le7 {α β : Type} {n : Nat} {f : α → List β} : ∀ ls : List α, (∀ c ∈ ls, (f c).length ≤ n) → (ls.flatMap f).length ≤ ls.length * n
  | [], _ => Nat.zero_le _
  | c :: ls, h => by
    have h1 := flat_le7 ls fun x hx => h x (List.mem_cons_of_mem _ hx)
    have h2 := h c List.mem_cons_self
    rw [List.flatMap_cons, List.length_append, List.length_cons, Nat.succ_mul]
    omega
theorem one_flat7 {α β : Type} {f : α → β} : ∀ ls : List α, (ls.flatMap fun c => [f c]) = ls.map f
  | [] => rfl
  | c :: ls => by rw [List.flatMap_cons, one_flat7 ls]; rfl
def sp_bars_fewer : SpD := fun ds m P _ => ∃ (T : List (List Bool)) (n : Nat) (c f : D), ds = [tabD T, c, f] ∧ TabOk T n ∧ n ≤ 6 ∧ CntF c ∧ PapE 10000 f ∧ ∀ (m' : Mu) (t : Bool), Kp [] m m' → (t = true ↔ DueD T n c f) → P (.bl t) m'
def rd_bars_fewer : DS :=
    sSeq (sIf (rOr (rNot (rTru (rCall sp_is_whole [] (rCons (rV 1) (rNil))))) (rOr (rTst (rOp oLt (rV 1) (rC (.int 0)))) (rNot (rTru (rCB cIsi (rCons (rV 2) (rCons (rC (.ty "list")) (rNil)))))))) (sRet (rC (.bl false))) (sNext))
    (sSeq (sIf (rNot (rTru (rCB cAll (rCons (rLc (iAny (rV 2)) [9] (gN 9) (qYes) (rCall sp_is_entry [] (rCons (rV 0) (rCons (rV 9) (rNil))))) (rNil))))) (sRet (rC (.bl false))) (sNext))
    (sSeq (sSet 3 (rDcG (iAny (rV 2)) [5, 6] (gT [5, 6]) (qYes) (rV 5) (rC (.bl true))))
    (sSeq (sIf (rAnd (rTst (rOp oGt (rV 1) (rC (.int 0)))) (rTst (rOp (oInG true) (rTup (rNil)) (rV 3)))) (sRet (rC (.bl false))) (sNext))
    (sSeq (sSet 4 (rLc (iAny (rV 2)) [5, 6] (gT [5, 6]) (rTst (rOp oLt (rCB cLen (rCons (rV 5) (rNil))) (rOp oSub (rV 1) (rC (.int 1))))) (rCall sp_grown_by [] (rCons (rV 0) (rCons (rV 5) (rCons (rV 6) (rNil)))))))
    (sRet (rCB cAll (rCons (rLc2 (iAny (rV 4)) [7, 8] (gN 7) (qYes) (iAny (rV 7)) [8] (gN 8) (qYes) (rOp (oInG false) (rV 8) (rV 3))) (rNil))))))))
theorem ln_bars_fewer : ∀ ds m Q PX, sp_bars_fewer ds m Q PX → ds.length = 3 := fun ds m Q PX h => by repeat (first | (subst_vars; rfl; done) | (obtain ⟨_, h⟩ := h))
def T_bars_fewer_5 : DS := sSeq (sSet 4 (rLc (iAny (rV 2)) [5, 6] (gT [5, 6]) (rTst (rOp oLt (rCB cLen (rCons (rV 5) (rNil))) (rOp oSub (rV 1) (rC (.int 1))))) (rCall sp_grown_by [] (rCons (rV 0) (rCons (rV 5) (rCons (rV 6) (rNil)))))))
    (sRet (rCB cAll (rCons (rLc2 (iAny (rV 4)) [7, 8] (gN 7) (qYes) (iAny (rV 7)) [8] (gN 8) (qYes) (rOp (oInG false) (rV 8) (rV 3))) (rNil))))
theorem pu_bars_fewer : ∀ ds m Q PX, sp_bars_fewer ds m Q PX → rd_bars_fewer (dEnds Q PX) (dstart ["parts", "many", "paper", "known", "some", "chosen", "at", "more", "one", "thing"] ds) m := by
  rintro ds m Q PX ⟨T, n, c, f, rfl, ok, hn, hc, hf, h⟩
  have hT := ok.few
  have fal : ∀ {m'}, Kp [] m m' → (¬ DueD T n c f) → Q (.bl false) m' := fun kp z => h _ false kp ⟨fun e => (by cases e), fun e => absurd e z⟩
  walk_at "go"
  refine ⟨c, rfl, thg_of (n := 2) (atF_th hc), ?_⟩
  cases ew : isWhole c with
  | false =>
    walk_at "go"
    exact fal (Kp.refl _ _) fun ⟨i, L, e, _⟩ => by rw [e] at ew; cases ew
  | true =>
  obtain ⟨i, rfl⟩ := whole7 ew
  walk_at "go"
  by_cases i0 : i < 0
  · rw [decide_eq_true i0]
    walk_at "go"
    exact fal (Kp.refl _ _) fun ⟨j, L, e, j0, _⟩ => by cases e; omega
  rw [decide_eq_false i0]
  rcases hf with ⟨xs, rfl | rfl, lx, hx⟩ | rfl | rfl | rfl
  rotate_left
  · walk_at "go"
    exact fal (Kp.refl _ _) fun ⟨j, L, _, _, e, _⟩ => by cases e
  · walk_at "go"
    exact fal (Kp.refl _ _) fun ⟨j, L, _, _, e, _⟩ => by cases e
  · walk_at "go"
    exact fal (Kp.refl _ _) fun ⟨j, L, _, _, e, _⟩ => by cases e
  · walk_at "go"
    exact fal (Kp.refl _ _) fun ⟨j, L, _, _, e, _⟩ => by cases e
  walk_at "go"
  refine comp_b7D xs (IsEnt T n) (by omega) trivial (fun x hxm Q' h' => ?_) fun bs ba _ => ?_
  · walk_at "go"
    exact ⟨T, n, x, rfl, ok, hx x hxm, h'⟩
  walk_at "dl"
  rw [boolsD_map]
  dsimp only
  cases hb : bs.all id with
  | false =>
    walk_at "go"
    refine fal (Kp.refl _ _) fun ⟨j, L, _, _, e, d⟩ => ?_
    injection e with e
    have : bs.all id = true := ba.mpr fun x hx => by
      rw [e] at hx
      obtain ⟨g, hg, rfl⟩ := List.mem_map.mp hx
      exact ⟨g, rfl, d.ok g hg⟩
    rw [hb] at this; cases this
  | true =>
  obtain ⟨L, rfl, hL⟩ := ents_of (ba.mp hb)
  rw [List.length_map] at lx
  have due : DueD T n (.int i) (.lst (L.map enT)) ↔ DueP T n i L := ⟨fun ⟨j, L', e1, _, e2, d⟩ => by cases e1; injection e2 with e2; rw [ents_inj e2]; exact d, fun d => ⟨i, L, rfl, by omega, rfl, d⟩⟩
  walk_at "go"
  refine dc_dupN trivial L [] (by simp; omega) (fun e he Kk hk Kf => ?_) ?_
  · walk_at "go"
    exact hk
  intro p hp
  obtain ⟨X, hXe⟩ : ∃ X, X = (L.map (·.1)).foldl addN [] := ⟨_, rfl⟩
  have mem : ∀ y, y ∈ X ↔ y ∈ L.map (·.1) := fun y => by rw [hXe, foldN_mem]; simp
  rw [← hXe]
  obtain ⟨m1, hm1⟩ : ∃ m1, m1 = mset m p (.dgt (X.map keyN)) := ⟨_, rfl⟩
  have c1 : m1 p = some (.dgt (X.map keyN)) := by rw [hm1]; exact mset_same
  have k1 : Kp [] m m1 := by rw [hm1]; exact kp_new hp
  rw [← hm1]
  have rest : (0 < i → [] ∈ X) → T_bars_fewer_5 (dEnds Q PX) [some (tabD T), some (.int i), some (.lst (L.map enT)), some (.adr p), none, none, none, none, none, none] m1 := by
    intro h0
    walk_at "go"
    refine comp_ty enT (fun e => if decide ((e.1.length : Int) < i - 1) then [D.lst (grD T n e)] else []) 16777216 trivial (fun e he acc' Cn la kk => ?_) ?_ ?_
    · obtain ⟨o1, o2, o3, _⟩ := hL e he
      have le := natT_len e.1
      have lf := ris_few o1 o2
      walk_at "go"
      rw [le]
      cases z : decide ((e.1.length : Int) < i - 1) with
      | false =>
        rw [z, if_neg (by simp), List.append_nil] at kk
        walk_at "go"
        exact kk
      | true =>
        rw [z, if_pos rfl] at kk la
        walk_at "go"
        refine ⟨T, n, e, rfl, ok, o3, by omega, ?_⟩
        exact ⟨Nat.lt_of_lt_of_le (show acc'.length < 16777216 by simp at la; omega) (by decide), kk⟩
    · rw [filt_flat, List.length_map, List.length_nil, Nat.zero_add]
      exact Nat.le_trans (List.length_filter_le _ _) (by omega)
    rw [List.nil_append, filt_flat]
    obtain ⟨M, hM⟩ : ∃ M, M = L.filter fun e => decide ((e.1.length : Int) < i - 1) := ⟨_, rfl⟩
    have mM : ∀ e, e ∈ M ↔ e ∈ L ∧ (e.1.length : Int) < i - 1 := fun e => by rw [hM, List.mem_filter, decide_eq_true_iff]
    have lM : M.length ≤ 10000 := by rw [hM]; exact Nat.le_trans (List.length_filter_le _ _) lx
    rw [← hM]
    walk_at "go"
    have hl : (M.flatMap fun e => (growL (colOf T e.2) n).map fun k => D.bl (decide (insR e.1 k ∈ X))).length ≤ 16777216 := by
      refine Nat.le_trans (flat_le7 (n := 6) M fun e _ => by rw [List.length_map]; exact Nat.le_trans (growL_len _ _) hn) ?_
      omega
    refine comp2_ty (fun e => D.lst (grD T n e)) (fun e => (growL (colOf T e.2) n).map fun k => D.bl (decide (insR e.1 k ∈ X))) 16777216 trivial (fun e he acc' Cn la k => ?_) (by rw [List.length_nil, Nat.zero_add]; exact hl) ?_
    · walk_at "go"
      unfold grD
      refine comp_ty (fun k => D.tup (natT (insR e.1 k))) (fun k => [D.bl (decide (insR e.1 k ∈ X))]) 16777216 trivial (fun k hk acc2 C2 l2 k2 => ?_) ?_ ?_
      · walk_at "go"
        rw [dgOf_adr c1]
        dsimp only
        refine ⟨kt_nat _, ?_⟩
        rw [if_neg (by decide), valN_in]
        exact ⟨Nat.lt_of_lt_of_le (show acc2.length < 16777216 by simp at l2; omega) (by decide), k2⟩
      · rw [List.length_map] at la
        rw [one_flat7, List.length_map]; exact la
      · rw [one_flat7]; exact k
    rw [List.nil_append, show (M.flatMap fun e => (growL (colOf T e.2) n).map fun k => D.bl (decide (insR e.1 k ∈ X))) = (M.flatMap fun e => (growL (colOf T e.2) n).map fun k => decide (insR e.1 k ∈ X)).map D.bl from by rw [List.map_flatMap]; simp only [List.map_map]; rfl]
    walk_at "dl"
    rw [boolsD_map]
    refine h _ _ k1 ?_
    rw [due, List.all_eq_true]
    constructor
    · intro z
      refine ⟨hL, fun i0 => (mem _).mp (h0 i0), fun e he hl k hk hc => ?_⟩
      have := z (decide (insR e.1 k ∈ X)) (List.mem_flatMap.mpr ⟨e, (mM e).mpr ⟨he, hl⟩, List.mem_map.mpr ⟨k, growL_mem.mpr ⟨hk, hc⟩, rfl⟩⟩)
      exact (mem _).mp (of_decide_eq_true this)
    · intro z y hy
      obtain ⟨e, he, hy⟩ := List.mem_flatMap.mp hy
      obtain ⟨k, hk, rfl⟩ := List.mem_map.mp hy
      obtain ⟨e1, e2⟩ := (mM e).mp he
      obtain ⟨k1, k2⟩ := growL_mem.mp hk
      exact decide_eq_true ((mem _).mpr (z.cl e e1 e2 k k1 k2))
  walk_at "go"
  by_cases i1 : i > 0
  · rw [decide_eq_true i1]
    walk_at "go"
    rw [dgOf_adr c1]
    dsimp only
    refine ⟨kt_nat [], ?_⟩
    rw [if_pos rfl, show D.tup [] = .tup (natT []) from rfl, valN_in]
    by_cases h0 : [] ∈ X
    · rw [decide_eq_true h0]
      exact rest fun _ => h0
    · rw [decide_eq_false h0]
      walk_at "go"
      exact fal k1 fun d => h0 ((mem _).mpr ((due.mp d).st i1))
  · rw [decide_eq_false i1]
    exact rest fun z => absurd z i1
end
section
/-! ### papers of fewest (k77): what a paper must hold, reckoned by the law -/
def plB7 (n : Int) : D → Bool
  | .int i => decide (0 ≤ i) && decide (i < n)
  | _ => false
theorem plB7_iff {n : Nat} {d : D} : plB7 n d = true ↔ ∃ i : Int, d = .int i ∧ 0 ≤ i ∧ i < n := by
  unfold plB7
  split
  · rename_i i
    rw [Bool.and_eq_true, decide_eq_true_iff, decide_eq_true_iff]
    exact ⟨fun h => ⟨i, rfl, h⟩, fun ⟨j, e, h⟩ => by cases e; exact h⟩
  · rename_i h
    exact ⟨fun e => (by cases e), fun ⟨i, e, _⟩ => absurd e (h i)⟩
theorem iN_asc {c : List Nat} : ris c ↔ (iN c).Pairwise (· < ·) := by
  unfold iN ris
  rw [List.pairwise_map]
  exact ⟨fun h => h.imp fun {a b} z => Int.ofNat_lt.mpr z, fun h => h.imp fun {a b} z => Int.ofNat_lt.mp z⟩
theorem ints_inj7 : ∀ {a b : List Int}, a.map D.int = b.map D.int → a = b
  | [], [], _ => rfl
  | [], _ :: _, h => by cases h
  | _ :: _, [], h => by cases h
  | x :: a, y :: b, h => by
    rw [List.map_cons, List.map_cons] at h
    injection h with h1 h2
    injection h1 with h1
    rw [h1, ints_inj7 h2]
def sp__law_is_entry : SpD := fun ds m P _ => ∃ (T : List (List Bool)) (n : Nat) (x : D), ds = [tabD T, x] ∧ TabOk T n ∧ ItmF x ∧ ∀ t : Bool, (t = true ↔ IsEnt T n x) → P (.bl t) m
def rd__law_is_entry : DS :=
    sSeq (sIf (rOr (rNot (rTru (rCB cIsi (rCons (rV 1) (rCons (rC (.ty "tuple")) (rNil)))))) (rOr (rTst (rOp oNe (rCB cLen (rCons (rV 1) (rNil))) (rC (.int 2)))) (rNot (rTru (rCB cIsi (rCons (rOp oIx (rV 1) (rC (.int 0))) (rCons (rC (.ty "tuple")) (rNil)))))))) (sRet (rC (.bl false))) (sNext))
    (sSeq (sTup [2, 3] (rV 1))
    (sSeq (sIf (rOr (rNot (rTru (rCall sp__law_is_whole [] (rCons (rV 3) (rNil))))) (rNot (rTst (rChain oLe oLt (rC (.int 0)) (rV 3) (rCB cLen (rCons (rV 0) (rNil))))))) (sRet (rC (.bl false))) (sNext))
    (sSeq (sIf (rTst (rOp oNe (rLc (iAny (rV 2)) [4] (gN 4) (rOr (rNot (rTru (rCall sp__law_is_whole [] (rCons (rV 4) (rNil))))) (rNot (rTst (rChain oLe oLt (rC (.int 0)) (rV 4) (rCB cLen (rCons (rOp oIx (rV 0) (rV 3)) (rNil))))))) (rV 4)) (rLst (rNil)))) (sRet (rC (.bl false))) (sNext))
    (sSeq (sIf (rTst (rOp oNe (rCB cLst (rCons (rV 2) (rNil))) (rSrtSTI (rCons (rV 2) (rNil))))) (sRet (rC (.bl false))) (sNext))
    (sRet (rOp oEq (rLc (iAny (rV 2)) [4] (gN 4) (rTru (rOp oIx (rOp oIx (rV 0) (rV 3)) (rV 4))) (rV 4)) (rLst (rNil))))))))
theorem ln__law_is_entry : ∀ ds m Q PX, sp__law_is_entry ds m Q PX → ds.length = 2 := fun ds m Q PX h => by repeat (first | (subst_vars; rfl; done) | (obtain ⟨_, h⟩ := h))
theorem pu__law_is_entry : ∀ ds m Q PX, sp__law_is_entry ds m Q PX → rd__law_is_entry (dEnds Q PX) (dstart ["_law_columns", "_law_thing", "_law_chosen", "_law_at", "_law_k"] ds) m := by
  rintro ds m Q PX ⟨T, n, x, rfl, ok, hx, h⟩
  have hT := ok.few
  have lT : (T.map colD).length = T.length := List.length_map _
  have fal : (¬ IsEnt T n x) → Q (.bl false) m := fun z => h false ⟨fun e => (by cases e), fun e => absurd e z⟩
  rcases hx with rfl | ⟨es, rfl, le, he⟩
  · walk_at "go"
    exact fal fun ⟨e, z, _⟩ => by cases z
  walk_at "go"
  by_cases hl : es.length = 2
  rotate_left
  · rw [if_pos rfl, decide_eq_false (by omega)]
    walk_at "go"
    exact fal fun ⟨e, z, _⟩ => by injection z with z; rw [z] at hl; exact hl rfl
  obtain ⟨x, y, rfl⟩ : ∃ x y, es = [x, y] := by
    match es, hl with
    | [x, y], _ => exact ⟨x, y, rfl⟩
  have hx := he x (by simp)
  have hy := he y (by simp)
  walk_at "go"
  rcases hx with hx | ⟨cs, rfl | rfl, lc, hc⟩
  · rcases hx with rfl | ⟨b, rfl⟩ | ⟨i, rfl, _⟩ | rfl | rfl
    · walk_at "go"
      exact fal fun ⟨e, z, _⟩ => by cases z
    · walk_at "go"
      exact fal fun ⟨e, z, _⟩ => by cases z
    · walk_at "go"
      exact fal fun ⟨e, z, _⟩ => by cases z
    · walk_at "go"
      exact fal fun ⟨e, z, _⟩ => by cases z
    · walk_at "go"
      exact fal fun ⟨e, z, _⟩ => by cases z
  rotate_left
  · walk_at "go"
    exact fal fun ⟨e, z, _⟩ => by cases z
  walk_at "go"
  refine ⟨_, rfl, thg_of (n := 4) (cmF_th hy), ?_⟩
  cases ew : isWhole y with
  | false =>
    walk_at "go"
    exact fal fun ⟨e, z, _⟩ => by cases z; cases ew
  | true =>
  obtain ⟨i, rfl⟩ := whole7 ew
  have bad : ¬ (0 ≤ i ∧ i < T.length) → ¬ IsEnt T n (.tup [.tup cs, .int i]) := fun z ⟨e, w, o⟩ => by
    injection w with w
    injection w with _ w
    injection w with w _
    have w : i = (e.2 : Int) := by injection w
    exact z ⟨by omega, by have := o.2.2.1; omega⟩
  by_cases i0 : 0 ≤ i
  rotate_left
  · walk_at "go"
    rw [decide_eq_false i0]
    walk_at "go"
    exact fal (bad fun z => i0 z.1)
  walk_at "go"
  rw [decide_eq_true i0]
  walk_at "go"
  rw [lT]
  by_cases i1 : i < T.length
  rotate_left
  · rw [decide_eq_false i1]
    walk_at "go"
    exact fal (bad fun z => i1 z.2)
  rw [decide_eq_true i1]
  obtain ⟨a, rfl⟩ : ∃ a : Nat, i = a := ⟨i.toNat, by omega⟩
  have ha : a < T.length := by omega
  have hcn : (colOf T a).length = n := ok.same _ (col_mem ha)
  have hcm : ((colOf T a).map D.bl).length = n := by rw [List.length_map]; exact hcn
  walk_at "go"
  refine comp_fm (fun d => !plB7 n d) id (by omega) trivial (fun d hd Q' h' => ?_) (fun d hd _ Q' h' => h') ?_
  · walk_at "go"
    refine ⟨d, rfl, thg_of (n := 2) (atF_th (hc d hd)), ?_⟩
    cases ewd : isWhole d with
    | false =>
      walk_at "go"
      rw [show plB7 n d = false from by cases d <;> first | rfl | cases ewd] at h'
      exact h'
    | true =>
      obtain ⟨j, rfl⟩ := whole7 ewd
      walk_at "go"
      by_cases j0 : 0 ≤ j
      · rw [decide_eq_true j0]
        walk_at "go"
        rw [col_at2 ha]
        walk_at "go"
        rw [hcm]
        rw [show plB7 n (.int j) = decide (j < n) from by unfold plB7; dsimp only; rw [decide_eq_true j0, Bool.true_and]] at h'
        exact h'
      · rw [decide_eq_false j0]
        walk_at "go"
        rw [show plB7 n (.int j) = false from by unfold plB7; dsimp only; rw [decide_eq_false j0, Bool.false_and]] at h'
        exact h'
  obtain ⟨F, hF⟩ : ∃ F, F = (cs.filter fun d => !plB7 n d).map id := ⟨_, rfl⟩
  have mF : ∀ d, d ∈ F ↔ d ∈ cs ∧ plB7 n d = false := fun d => by rw [hF, List.map_id, List.mem_filter]; simp
  rw [← hF]
  walk_at "go"
  refine ⟨shp_of (n := 6) fun d hd => thD_fit _ _ (thD_mono 2 5 _ (by decide) (atF_th (hc d ((mF d).mp hd).1))), shpN, ?_⟩
  rw [if_pos rfl, show deq (dat m (.lst F)) (dat m (.lst [])) = F.isEmpty from deq_lst_nil]
  cases en : F.isEmpty with
  | false =>
    walk_at "go"
    refine fal fun ⟨e, z, o⟩ => ?_
    injection z with z
    injection z with z _
    injection z with z
    cases F with
    | nil => cases en
    | cons d F =>
      obtain ⟨z1, z2⟩ := (mF d).mp List.mem_cons_self
      rw [z] at z1
      obtain ⟨k, hk, rfl⟩ := List.mem_map.mp z1
      have := o.2.1 k hk
      have z3 : plB7 n (natD k) = true := plB7_iff.mpr ⟨k, rfl, by omega, by omega⟩
      rw [z3] at z2
      cases z2
  | true =>
  rw [List.isEmpty_iff] at en
  obtain ⟨c, rfl, hb⟩ := nats_of (n := n) (cs := cs) fun d hd => plB7_iff.mp (by
    cases z : plB7 n d with
    | true => rfl
    | false =>
      have := (mF d).mpr ⟨hd, z⟩
      rw [en] at this; cases this)
  have lcc := natT_len c
  have lci : (iN c).length = c.length := List.length_map _
  walk_at "go"
  rw [show tupIs (.tup (natT c)) = some (iN c) from by rw [natT_iN]; exact intsD_map _]
  dsimp only
  refine ⟨by omega, ?_⟩
  rw [natT_iN]
  walk_at "go"
  refine ⟨shpI, shpI, ?_⟩
  by_cases r : ris c
  rotate_left
  · rw [if_pos rfl, deqP (b := false) (pur_lst_ints _) (pur_lst_ints _) ⟨fun z => (by cases z), fun z => absurd (iN_asc.mpr (by
      injection z with z
      rw [ints_inj7 z]
      exact srtU_asc _)) r⟩]
    walk_at "go"
    refine fal fun ⟨e, z, o⟩ => r ?_
    injection z with z
    injection z with z _
    injection z with z
    rw [natT_inj z]
    exact o.1
  rw [if_pos rfl, deqP (b := true) (pur_lst_ints _) (pur_lst_ints _) ⟨fun _ => by rw [srtU_id (iN_asc.mp r)], fun _ => rfl⟩]
  rw [← natT_iN]
  walk_at "go"
  refine comp_fm (fun d => match d with | .int j => at1 (colOf T a) j.toNat | _ => false) id (by omega) trivial (fun d hd Q' h' => ?_) (fun d hd _ Q' h' => h') ?_
  · obtain ⟨k, hk, rfl⟩ := List.mem_map.mp hd
    have hk2 := hb k hk
    walk_at "go"
    rw [col_at2 ha]
    walk_at "go"
    rw [col_at (by omega)]
    exact h'
  obtain ⟨G, hG⟩ : ∃ G, G = ((natT c).filter fun d => match d with | .int j => at1 (colOf T a) j.toNat | _ => false).map id := ⟨_, rfl⟩
  have mG : ∀ d, d ∈ G ↔ ∃ k ∈ c, d = natD k ∧ at1 (colOf T a) k = true := fun d => by
    rw [hG, List.map_id, List.mem_filter]
    constructor
    · rintro ⟨z1, z2⟩
      obtain ⟨k, hk, rfl⟩ := List.mem_map.mp z1
      exact ⟨k, hk, rfl, z2⟩
    · rintro ⟨k, hk, rfl, z⟩
      exact ⟨List.mem_map_of_mem hk, z⟩
  rw [← hG]
  walk_at "go"
  refine ⟨shp_of (n := 6) fun d hd => ?_, shpN, ?_⟩
  · obtain ⟨k, _, rfl, _⟩ := (mG d).mp hd
    trivial
  rw [if_neg (by simp), show deq (dat m (.lst G)) (dat m (.lst [])) = G.isEmpty from deq_lst_nil]
  refine h _ ?_
  rw [List.isEmpty_iff]
  constructor
  · intro z
    refine ⟨(c, a), rfl, r, hb, ha, ?_⟩
    cases eh : hits (colOf T a) c with
    | false => rfl
    | true =>
      obtain ⟨k, hk, e⟩ := hits_iff.mp eh
      have := (mG (natD k)).mpr ⟨k, hk, rfl, e⟩
      rw [z] at this; cases this
  · rintro ⟨e, z, o⟩
    have z : enT (c, a) = enT e := z
    rw [← enT_inj z] at o
    cases hg : G with
    | nil => rfl
    | cons d G' =>
      obtain ⟨k, hk, _, e2⟩ := (mG d).mp (by rw [hg]; exact List.mem_cons_self)
      have := o.2.2.2
      rw [hits_iff.mpr ⟨k, hk, e2⟩] at this; cases this
end
section
/-! ### papers of fewest (k77): what bars, reckoned by the law -/
theorem rg_get7 {n : Nat} {lo : Int} {i : Nat} {d : D} (h : (rangeD lo n)[i]? = some d) : i < n ∧ d = .int (lo + i) := by
  unfold rangeD at h
  rw [List.getElem?_map] at h
  by_cases hi : i < n
  · rw [List.getElem?_range hi] at h; cases h; exact ⟨hi, rfl⟩
  · rw [List.getElem?_eq_none (by rw [List.length_range]; omega)] at h; cases h
theorem rg_len7 (lo : Int) (n : Nat) : (rangeD lo n).length = n := by unfold rangeD; rw [List.length_map, List.length_range]
theorem cmF_fit {d : D} (h : CmF d) : fitD 5 d := thD_fit _ _ (thD_mono 4 5 _ (by decide) (cmF_th h))
theorem itmF_fit {x : D} (h : ItmF x) : fitD 6 x := by
  rcases h with rfl | ⟨es, rfl, _, he⟩
  · trivial
  · exact fun d hd => cmF_fit (he d hd)
theorem shp_itF {xs : List D} (h : ∀ x ∈ xs, ItmF x) : shp (.lst xs) := shp_of (n := 7) fun d hd => itmF_fit (h d hd)
theorem fst_pur (c : List Nat) : pur (.tup (natT c)) = true := by
  rw [natT_iN, pur]
  exact pur_ints _
theorem in_nat (m : Mu) (X : List (List Nat)) (c : List Nat) : ((X.map fun c => D.tup (natT c)).any fun z => deq z (dat m (.tup (natT c)))) = decide (c ∈ X) := by
  rw [dat_pur (fst_pur c)]
  induction X with
  | nil => rfl
  | cons d X ih =>
    rw [List.map_cons, List.any_cons, ih]
    by_cases e : c = d
    · subst e
      rw [(deq_iff (fst_pur c) (fst_pur c)).mpr rfl]; simp
    · have : deq (.tup (natT d)) (.tup (natT c)) = false := by
        cases z : deq (.tup (natT d)) (.tup (natT c)) with
        | false => rfl
        | true =>
          have := (deq_iff (fst_pur d) (fst_pur c)).mp z
          injection this with this
          exact absurd (natT_inj this).symm e
      rw [this]; simp [e]
def sp__law_due_v8 : SpD := fun ds m P _ => ∃ (T : List (List Bool)) (n : Nat) (c f : D), ds = [tabD T, c, f] ∧ TabOk T n ∧ n ≤ 6 ∧ CntF c ∧ PapE 10000 f ∧ ∀ (t : Bool), (t = true ↔ DueD T n c f) → P (.bl t) m
def rd__law_due_v8 : DS :=
    sSeq (sIf (rOr (rNot (rTru (rCall sp__law_is_whole [] (rCons (rV 1) (rNil))))) (rOr (rTst (rOp oLt (rV 1) (rC (.int 0)))) (rNot (rTru (rCB cIsi (rCons (rV 2) (rCons (rC (.ty "list")) (rNil)))))))) (sRet (rC (.bl false))) (sNext))
    (sSeq (sIf (rTst (rOp oNe (rLc (iAny (rV 2)) [6] (gN 6) (rNot (rTru (rCall sp__law_is_entry [] (rCons (rV 0) (rCons (rV 6) (rNil)))))) (rV 6)) (rLst (rNil)))) (sRet (rC (.bl false))) (sNext))
    (sSeq (sSet 3 (rLc (iAny (rV 2)) [6] (gN 6) (qYes) (rOp oIx (rV 6) (rC (.int 0)))))
    (sSeq (sIf (rAnd (rTst (rOp oGt (rV 1) (rC (.int 0)))) (rTst (rOp (oInN true) (rTup (rNil)) (rV 3)))) (sRet (rC (.bl false))) (sNext))
    (sSeq (sFor (iAny (rV 2)) (gT [4, 5]) (sIf (rTst (rOp oLt (rCB cLen (rCons (rV 4) (rNil))) (rOp oSub (rV 1) (rC (.int 1))))) (sFor (iRange (rCons (rCB cLen (rCons (rOp oIx (rV 0) (rV 5)) (rNil))) (rNil))) (gN 7) (sIf (rAnd (rTru (rOp oIx (rOp oIx (rV 0) (rV 5)) (rV 7))) (rTst (rOp (oInN true) (rCB cTup (rCons (rCB cSrtTI (rCons (rOp oAdd (rV 4) (rTup (rCons (rV 7) (rNil)))) (rNil))) (rNil))) (rV 3)))) (sRet (rC (.bl false))) (sNext))) (sNext)))
    (sRet (rC (.bl true)))))))
theorem ln__law_due_v8 : ∀ ds m Q PX, sp__law_due_v8 ds m Q PX → ds.length = 3 := fun ds m Q PX h => by repeat (first | (subst_vars; rfl; done) | (obtain ⟨_, h⟩ := h))
def T__law_due_v8_5 : DS := sSeq (sFor (iAny (rV 2)) (gT [4, 5]) (sIf (rTst (rOp oLt (rCB cLen (rCons (rV 4) (rNil))) (rOp oSub (rV 1) (rC (.int 1))))) (sFor (iRange (rCons (rCB cLen (rCons (rOp oIx (rV 0) (rV 5)) (rNil))) (rNil))) (gN 7) (sIf (rAnd (rTru (rOp oIx (rOp oIx (rV 0) (rV 5)) (rV 7))) (rTst (rOp (oInN true) (rCB cTup (rCons (rCB cSrtTI (rCons (rOp oAdd (rV 4) (rTup (rCons (rV 7) (rNil)))) (rNil))) (rNil))) (rV 3)))) (sRet (rC (.bl false))) (sNext))) (sNext)))
    (sRet (rC (.bl true)))
theorem pu__law_due_v8 : ∀ ds m Q PX, sp__law_due_v8 ds m Q PX → rd__law_due_v8 (dEnds Q PX) (dstart ["_law_columns", "_law_count", "_law_sheet", "_law_firsts", "_law_chosen", "_law_at", "_law_thing", "_law_k"] ds) m := by
  rintro ds m Q PX ⟨T, n, c, f, rfl, ok, hn, hc, hf, h⟩
  have hT := ok.few
  have fal : (¬ DueD T n c f) → Q (.bl false) m := fun z => h false ⟨fun e => (by cases e), fun e => absurd e z⟩
  walk_at "go"
  refine ⟨c, rfl, thg_of (n := 2) (atF_th hc), ?_⟩
  cases ew : isWhole c with
  | false =>
    walk_at "go"
    exact fal fun ⟨i, L, e, _⟩ => by rw [e] at ew; cases ew
  | true =>
  obtain ⟨i, rfl⟩ := whole7 ew
  walk_at "go"
  by_cases i0 : i < 0
  · rw [decide_eq_true i0]
    walk_at "go"
    exact fal fun ⟨j, L, e, j0, _⟩ => by cases e; omega
  rw [decide_eq_false i0]
  rcases hf with ⟨xs, rfl | rfl, lx, hx⟩ | rfl | rfl | rfl
  rotate_left
  · walk_at "go"
    exact fal fun ⟨j, L, _, _, e, _⟩ => by cases e
  · walk_at "go"
    exact fal fun ⟨j, L, _, _, e, _⟩ => by cases e
  · walk_at "go"
    exact fal fun ⟨j, L, _, _, e, _⟩ => by cases e
  · walk_at "go"
    exact fal fun ⟨j, L, _, _, e, _⟩ => by cases e
  classical
  walk_at "go"
  refine comp_fm (fun d => !decide (IsEnt T n d)) id (by omega) trivial (fun d hd Q' h' => ?_) (fun d hd _ Q' h' => h') ?_
  · walk_at "go"
    refine ⟨T, n, d, rfl, ok, hx d hd, fun t ht => ?_⟩
    have et : t = decide (IsEnt T n d) := by
      cases t with
      | true => exact (decide_eq_true (ht.mp rfl)).symm
      | false => exact (decide_eq_false fun z => by cases ht.mpr z).symm
    rw [et]
    walk_at "dl"
    exact h'
  obtain ⟨F, hF⟩ : ∃ F, F = (xs.filter fun d => !decide (IsEnt T n d)).map id := ⟨_, rfl⟩
  have mF : ∀ d, d ∈ F ↔ d ∈ xs ∧ ¬ IsEnt T n d := fun d => by rw [hF, List.map_id, List.mem_filter]; simp
  rw [← hF]
  walk_at "go"
  refine ⟨shp_itF fun d hd => hx d ((mF d).mp hd).1, shpN, ?_⟩
  rw [if_pos rfl, show deq (dat m (.lst F)) (dat m (.lst [])) = F.isEmpty from deq_lst_nil]
  cases en : F.isEmpty with
  | false =>
    walk_at "go"
    refine fal fun ⟨j, L, _, _, e, d⟩ => ?_
    injection e with e
    cases F with
    | nil => cases en
    | cons x F =>
      obtain ⟨z1, z2⟩ := (mF x).mp List.mem_cons_self
      rw [e] at z1
      obtain ⟨g, hg, rfl⟩ := List.mem_map.mp z1
      exact z2 ⟨g, rfl, d.ok g hg⟩
  | true =>
  rw [List.isEmpty_iff] at en
  obtain ⟨L, rfl, hL⟩ := ents_of (T := T) (n := n) (xs := xs) fun x hxm => Classical.byContradiction fun z => by
    have := (mF x).mpr ⟨hxm, z⟩
    rw [en] at this; cases this
  rw [List.length_map] at lx
  have due : DueD T n (.int i) (.lst (L.map enT)) ↔ DueP T n i L := ⟨fun ⟨j, L', e1, _, e2, d⟩ => by cases e1; injection e2 with e2; rw [ents_inj e2]; exact d, fun d => ⟨i, L, rfl, by omega, rfl, d⟩⟩
  walk_at "go"
  refine comp_on L enT (fun e => .tup (natT e.1)) (by omega) trivial (fun e he Q' h' => ?_) ?_
  · walk_at "go"
    exact h'
  obtain ⟨X, hX⟩ : ∃ X : List (List Nat), X = L.map (·.1) := ⟨_, rfl⟩
  have eX : (L.map fun e => D.tup (natT e.1)) = X.map fun c => D.tup (natT c) := by rw [hX, List.map_map]; rfl
  have shX : shp (.lst (X.map fun c => D.tup (natT c))) := shpW X
  rw [eX]
  have rest : (0 < i → [] ∈ X) → T__law_due_v8_5 (dEnds Q PX) [some (tabD T), some (.int i), some (.lst (L.map enT)), some (.lst (X.map fun c => D.tup (natT c))), none, none, none, none] m := by
    intro h0
    walk_at "go"
    obtain ⟨XD, hXD⟩ : ∃ XD, XD = X.map fun c => D.tup (natT c) := ⟨_, rfl⟩
    rw [← hXD]
    refine loop_inv (fun j δ m' => m' = m ∧ (∀ e ∈ L.take j, (e.1.length : Int) < i - 1 → ∀ k, k < n → at1 (colOf T e.2) k = true → insR e.1 k ∈ X) ∧ ∃ x4 x5 x6 x7, δ = [some (tabD T), some (.int i), some (.lst (L.map enT)), some (.lst XD), x4, x5, x6, x7]) (fun j d δ m' ei hh => ?_) (fun δ m' hh => ?_) ⟨rfl, (fun e he => by cases he), _, _, _, _, rfl⟩
    · obtain ⟨rfl, hC, x4, x5, x6, x7, rfl⟩ := hh
      rw [List.getElem?_map] at ei
      cases ex : L[j]? with
      | none => rw [ex] at ei; cases ei
      | some e =>
      rw [ex] at ei
      cases ei
      have hem : e ∈ L := List.mem_of_getElem? ex
      have tk : L.take (j + 1) = L.take j ++ [e] := by rw [List.take_add_one, ex]; rfl
      obtain ⟨o1, o2, o3, _⟩ := hL e hem
      have le := natT_len e.1
      have lf := ris_few o1 o2
      have hcn : (colOf T e.2).length = n := ok.same _ (col_mem o3)
      have hcm : ((colOf T e.2).map D.bl).length = n := by rw [List.length_map]; exact hcn
      refine ⟨trivial, fun Nx k1 => ?_⟩
      walk_at "go"
      rw [le]
      by_cases hl : (e.1.length : Int) < i - 1
      · rw [decide_eq_true hl]
        walk_at "go"
        rw [col_at2 o3]
        walk_at "dl"
        rw [hcm]
        have e62 : (2 : Int) ^ 62 = 4611686018427387904 := by decide
        refine ⟨⟨by omega, by omega⟩, ?_⟩
        refine loop_inv (fun l δ m2 => m2 = m' ∧ (∀ k, k < l → at1 (colOf T e.2) k = true → insR e.1 k ∈ X) ∧ ∃ x6 x7, δ = [some (tabD T), some (.int i), some (.lst (L.map enT)), some (.lst XD), some (.tup (natT e.1)), some (natD e.2), x6, x7]) (fun l d δ m2 ei hh => ?_) (fun δ m2 hh => ?_) ⟨rfl, (fun k hk => absurd hk (Nat.not_lt_zero k)), _, _, rfl⟩
        · obtain ⟨rfl, hK, y6, y7, rfl⟩ := hh
          obtain ⟨hi, rfl⟩ := rg_get7 ei
          have hln : l < n := by omega
          rw [show (0 : Int) + (l : Int) = ((l : Nat) : Int) by omega]
          refine ⟨trivial, fun Nx2 k2 => ?_⟩
          walk_at "go"
          rw [col_at2 o3]
          walk_at "go"
          rw [col_at (by omega)]
          cases eb : at1 (colOf T e.2) l with
          | false =>
            have eb2 : ((colOf T e.2)[l]?).getD false = false := eb
            rw [eb2]
            walk_at "go"
            refine k2 _ _ ⟨rfl, fun k hk hc => ?_, _, _, rfl⟩
            rcases Nat.lt_succ_iff_lt_or_eq.mp hk with z | rfl
            · exact hK k z hc
            · rw [eb] at hc; cases hc
          | true =>
            have eb2 : ((colOf T e.2)[l]?).getD false = true := eb
            have l2 : (iN (e.1 ++ [l])).length = e.1.length + 1 := by unfold iN; rw [List.length_map, List.length_append]; rfl
            rw [eb2]
            walk_at "go"
            rw [show natT e.1 ++ [D.int (l : Int)] = natT e.1 ++ [natD l] from rfl, natT_app, intsD_map]
            refine ⟨by omega, ?_⟩
            rw [insR_ints]
            walk_at "go"
            refine ⟨.inr ⟨by rw [dat_pur (fst_pur _)]; exact shp_of (fitN _), by rw [hXD]; exact shX⟩, ?_⟩
            rw [if_pos rfl, hXD, in_nat]
            by_cases hin : insR e.1 l ∈ X
            · rw [decide_eq_true hin]
              walk_at "go"
              refine k2 _ _ ⟨rfl, fun k hk hc => ?_, _, _, by rw [hXD]; rfl⟩
              rcases Nat.lt_succ_iff_lt_or_eq.mp hk with z | rfl
              · exact hK k z hc
              · exact hin
            · rw [decide_eq_false hin]
              walk_at "go"
              exact fal fun d => hin (by rw [hX]; exact (due.mp d).cl e hem hl l hln eb)
        · obtain ⟨rfl, hK, y6, y7, rfl⟩ := hh
          rw [rg_len7] at hK
          refine ⟨trivial, k1 _ _ ⟨rfl, fun f hf => ?_, _, _, _, _, rfl⟩⟩
          rw [tk] at hf
          rcases List.mem_append.mp hf with z | z
          · exact hC f z
          · rw [List.mem_singleton.mp z]
            exact fun _ k hk hc => hK k (by omega) hc
      · rw [decide_eq_false hl]
        walk_at "go"
        refine k1 _ _ ⟨rfl, fun f hf => ?_, _, _, _, _, rfl⟩
        rw [tk] at hf
        rcases List.mem_append.mp hf with z | z
        · exact hC f z
        · rw [List.mem_singleton.mp z]
          exact fun z => absurd z hl
    · obtain ⟨rfl, hC, x4, x5, x6, x7, rfl⟩ := hh
      rw [List.length_map, List.take_length] at hC
      refine ⟨trivial, ?_⟩
      walk_at "go"
      exact h true ⟨fun _ => due.mpr ⟨hL, fun z => by rw [← hX]; exact h0 z, fun e he hl k hk hc => by rw [← hX]; exact hC e he hl k hk hc⟩, fun _ => rfl⟩
  walk_at "go"
  by_cases i1 : i > 0
  · rw [decide_eq_true i1]
    walk_at "go"
    refine ⟨.inr ⟨shpT (n := 1) ⟨by decide, fun _ z => by cases z⟩, shX⟩, ?_⟩
    rw [if_pos rfl, show D.tup [] = .tup (natT []) from rfl, in_nat]
    by_cases h0 : [] ∈ X
    · rw [decide_eq_true h0]
      exact rest fun _ => h0
    · rw [decide_eq_false h0]
      walk_at "go"
      exact fal fun d => h0 (by rw [hX]; exact (due.mp d).st i1)
  · rw [decide_eq_false i1]
    exact rest fun z => absurd z i1
end
section
/-! ### papers of fewest (k77): a paper with one thing otherwise -/
theorem papE_app {n : Nat} {xs ys : List D} (hx : ∀ x ∈ xs, ItmF x) (hy : ∀ y ∈ ys, ItmF y) (l : xs.length + ys.length ≤ n) : PapE n (.lst (xs ++ ys)) := .inl ⟨_, .inl rfl, by rw [List.length_append]; exact l, fun x h => by
  rcases List.mem_append.mp h with z | z
  · exact hx x z
  · exact hy x z⟩
theorem itmF_cut {xs : List D} (hx : ∀ x ∈ xs, ItmF x) {a b : Option Int} : ∀ x ∈ cutD xs a b, ItmF x := fun x h => hx x (List.mem_of_mem_drop (List.mem_of_mem_take h))
theorem itmF_cat {xs ys : List D} (hx : ∀ x ∈ xs, ItmF x) (hy : ∀ x ∈ ys, ItmF x) : ∀ x ∈ xs ++ ys, ItmF x := fun x h => by
  rcases List.mem_append.mp h with z | z
  · exact hx x z
  · exact hy x z
theorem itmF_one {y : D} (hy : ItmF y) : ∀ x ∈ [y], ItmF x := fun x h => by rw [List.mem_singleton.mp h]; exact hy
theorem cut_len7 (xs : List D) (lo hi : Option Int) : (cutD xs lo hi).length ≤ xs.length := by
  unfold cutD
  rw [List.length_take, List.length_drop]
  omega
theorem atF_int {i : Int} (h : i.natAbs < 10 ^ 9) : AtF (.int i) := .inr (.inr (.inl ⟨i, rfl, h⟩))
theorem atF_sm {i : Int} (h : i.natAbs ≤ 20) : AtF (.int i) := atF_int (Nat.lt_of_le_of_lt h (by decide +kernel))
theorem cmF_tup {cs : List D} (l : cs.length ≤ 10) (h : ∀ d ∈ cs, AtF d) : CmF (.tup cs) := .inr ⟨cs, .inl rfl, l, h⟩
theorem cmF_lst {cs : List D} (l : cs.length ≤ 10) (h : ∀ d ∈ cs, AtF d) : CmF (.lst cs) := .inr ⟨cs, .inr rfl, l, h⟩
theorem itmF_tup {es : List D} (l : es.length ≤ 3) (h : ∀ d ∈ es, CmF d) : ItmF (.tup es) := .inr ⟨es, rfl, l, h⟩
theorem all1 {p : D → Prop} {x : D} (h : p x) : ∀ d ∈ [x], p d := fun d hd => by rw [List.mem_singleton.mp hd]; exact h
theorem all2 {p : D → Prop} {x y : D} (h : p x) (k : p y) : ∀ d ∈ [x, y], p d := fun d hd => by
  simp only [List.mem_cons, List.not_mem_nil, or_false] at hd
  rcases hd with rfl | rfl
  · exact h
  · exact k
theorem all3 {p : D → Prop} {x y z : D} (h : p x) (k : p y) (l : p z) : ∀ d ∈ [x, y, z], p d := fun d hd => by
  simp only [List.mem_cons, List.not_mem_nil, or_false] at hd
  rcases hd with rfl | rfl | rfl
  · exact h
  · exact k
  · exact l
theorem all0 {p : D → Prop} : ∀ d ∈ ([] : List D), p d := fun d hd => by cases hd
def sp__law_turned_v5 : SpD := fun ds m P _ => ∃ (w : Addr) (t : D) (xs : List D) (n : Nat), ds = [.adr w, t, .lst xs] ∧ xs.length ≤ n ∧ n ≤ 16000 ∧ (∀ x ∈ xs, ItmF x) ∧ Dr w 5 (PapE (2 * n + 1)) m P
def rd__law_turned_v5 : DS :=
    sSeq (sSet 3 (rCall sp__law_draw [] (rCons (rV 0) (rCons (rOp oAdd (rCB cLen (rCons (rV 2) (rNil))) (rC (.int 1))) (rNil)))))
    (sSeq (sSet 4 (rCall sp__law_draw [] (rCons (rV 0) (rCons (rC (.int 7)) (rNil)))))
    (sSeq (sSet 5 (rCall sp__law_draw [] (rCons (rV 0) (rCons (rC (.int 7)) (rNil)))))
    (sSeq (sSet 6 (rLst (rCons (rTup (rCons (rTup (rCons (rV 4) (rNil))) (rCons (rV 5) (rNil)))) (rCons (rTup (rCons (rTup (rNil)) (rCons (rV 5) (rNil)))) (rCons (rTup (rCons (rTup (rCons (rV 4) (rCons (rV 4) (rNil)))) (rCons (rV 5) (rNil)))) (rCons (rTup (rCons (rTup (rCons (rV 4) (rCons (rOp oAdd (rV 4) (rC (.int 1))) (rNil)))) (rCons (rV 5) (rNil)))) (rCons (rTup (rCons (rTup (rCons (rC (.bl true)) (rNil))) (rCons (rV 5) (rNil)))) (rCons (rTup (rCons (rTup (rNil)) (rCons (rC (.bl true)) (rNil)))) (rCons (rTup (rCons (rTup (rNil)) (rCons (rC .non) (rNil)))) (rNil))))))))))
    (sSeq (sSet 6 (rOp oAdd (rV 6) (rLst (rCons (rTup (rCons (rTup (rNil)) (rCons (rNeg (rC (.int 1))) (rNil)))) (rCons (rTup (rCons (rLst (rNil)) (rCons (rV 5) (rNil)))) (rCons (rTup (rCons (rTup (rCons (rV 4) (rNil))) (rCons (rV 5) (rCons (rC (.int 0)) (rNil))))) (rCons (rC .non) (rCons (rTup (rCons (rTup (rCons (rOp oAdd (rV 4) (rC (.int 1))) (rCons (rV 4) (rNil)))) (rCons (rV 5) (rNil)))) (rCons (rTup (rCons (rTup (rCons (rC (.str "0")) (rNil))) (rCons (rV 5) (rNil)))) (rCons (rTup (rCons (rTup (rCons (rV 4) (rNil))) (rNil))) (rNil)))))))))))
    (sSeq (sSet 7 (rCall sp__law_one [] (rCons (rV 0) (rCons (rV 6) (rNil)))))
    (sSeq (sSet 8 (rOp oAdd (rSl (rV 2) rNoP (rPart (rV 3))) (rSl (rV 2) (rPart (rOp oAdd (rV 3) (rC (.int 1)))) rNoP)))
    (sSeq (sSet 9 (rLst (rCons (rV 8) (rCons (rV 8) (rCons (rV 8) (rCons (rOp oAdd (rOp oAdd (rSl (rV 2) rNoP (rPart (rV 3))) (rLst (rCons (rV 7) (rNil)))) (rSl (rV 2) (rPart (rV 3)) rNoP)) (rCons (rOp oAdd (rV 8) (rLst (rCons (rV 7) (rNil)))) (rCons (rRev (rV 2)) (rCons (rOp oAdd (rV 2) (rV 2)) (rNil))))))))))
    (sRet (rCall sp__law_one [] (rCons (rV 0) (rCons (rOp oAdd (rV 9) (rLst (rCons (rCB cTup (rCons (rV 2) (rNil))) (rCons (rC .non) (rCons (rC (.str "a")) (rCons (rDct0) (rCons (rLst (rNil)) (rNil)))))))) (rNil))))))))))))
theorem ln__law_turned_v5 : ∀ ds m Q PX, sp__law_turned_v5 ds m Q PX → ds.length = 3 := fun ds m Q PX h => by repeat (first | (subst_vars; rfl; done) | (obtain ⟨_, h⟩ := h))
theorem pu__law_turned_v5 : ∀ ds m Q PX, sp__law_turned_v5 ds m Q PX → rd__law_turned_v5 (dEnds Q PX) (dstart ["_law_well_here", "_law_columns", "_law_sheet", "_law_k", "_law_row", "_law_at", "_law_some", "_law_odd", "_law_rest", "_law_turned_here"] ds) m := by
  rintro ds m Q PX ⟨w, t, xs, n, rfl, ln, hn, hx, hk⟩
  walk_at "go"
  refine hk.num (by decide) (by omega) (Nat.lt_of_le_of_lt (show ((xs.length : Int) + 1).natAbs ≤ 16001 by omega) (by decide)) fun at_ m1 a0 a1 _ hk => ?_
  have c1 := cut_len7 xs none (some at_)
  have c2 := cut_len7 xs (some (at_ + 1)) none
  have c3 := cut_len7 xs (some at_) none
  walk_at "go"
  refine hk.num (by decide) (by decide) (by decide) fun r m2 r0 r1 _ hk => ?_
  walk_at "go"
  refine hk.num (by decide) (by decide) (by decide) fun a m3 b0 b1 _ hk => ?_
  walk_at "go"
  refine ⟨w, _, _, rfl, .inl rfl, by simp, by simp, hk.sub (by decide) fun o m4 ho kp4 hk => ?_⟩
  have hO : ItmF o := by
    simp only [List.cons_append, List.nil_append, List.mem_cons, List.not_mem_nil, or_false] at ho
    have ar : CmF (.int r) := .inl (atF_sm (by omega))
    have aa : CmF (.int a) := .inl (atF_sm (by omega))
    have r1' : AtF (.int r) := atF_sm (by omega)
    have r2' : AtF (.int (r + 1)) := atF_sm (by omega)
    have cr : CmF (.tup [.int r]) := cmF_tup (by simp) (all1 r1')
    have c0 : CmF (.tup []) := cmF_tup (by simp) all0
    rcases ho with rfl | rfl | rfl | rfl | rfl | rfl | rfl | rfl | rfl | rfl | rfl | rfl | rfl | rfl
    · exact itmF_tup (by simp) (all2 cr aa)
    · exact itmF_tup (by simp) (all2 c0 aa)
    · exact itmF_tup (by simp) (all2 (cmF_tup (by simp) (all2 r1' r1')) aa)
    · exact itmF_tup (by simp) (all2 (cmF_tup (by simp) (all2 r1' r2')) aa)
    · exact itmF_tup (by simp) (all2 (cmF_tup (by simp) (all1 (.inr (.inl ⟨_, rfl⟩)))) aa)
    · exact itmF_tup (by simp) (all2 c0 (.inl (.inr (.inl ⟨_, rfl⟩))))
    · exact itmF_tup (by simp) (all2 c0 (.inl (.inl rfl)))
    · exact itmF_tup (by simp) (all2 c0 (.inl (atF_sm (by decide))))
    · exact itmF_tup (by simp) (all2 (cmF_lst (by simp) all0) aa)
    · exact itmF_tup (by simp) (all3 cr aa (.inl (atF_sm (by decide))))
    · exact .inl rfl
    · exact itmF_tup (by simp) (all2 (cmF_tup (by simp) (all2 r2' r1')) aa)
    · exact itmF_tup (by simp) (all2 (cmF_tup (by simp) (all1 (.inr (.inr (.inr (.inl rfl)))))) aa)
    · exact itmF_tup (by simp) (all1 cr)
  clear ho
  walk_at "go"
  refine ⟨w, _, _, rfl, .inl rfl, by simp, by simp, hk.sub (by decide) fun d m6 hd kp6 hk => ?_⟩
  have hr : ∀ x ∈ cutD xs none (some at_) ++ cutD xs (some (at_ + 1)) none, ItmF x := itmF_cat (itmF_cut hx) (itmF_cut hx)
  have rest : PapE (2 * n + 1) (.lst (cutD xs none (some at_) ++ cutD xs (some (at_ + 1)) none)) := papE_app (itmF_cut hx) (itmF_cut hx) (by omega)
  have pd : PapE (2 * n + 1) d := by
    simp only [List.cons_append, List.nil_append, List.mem_cons, List.not_mem_nil, or_false] at hd
    rcases hd with rfl | rfl | rfl | rfl | rfl | rfl | rfl | rfl | rfl | rfl | rfl | rfl
    · exact rest
    · exact rest
    · exact rest
    · exact papE_app (itmF_cat (itmF_cut hx) (itmF_one hO)) (itmF_cut hx) (by simp; omega)
    · exact papE_app hr (itmF_one hO) (by simp; omega)
    · exact .inl ⟨_, .inl rfl, by rw [List.length_reverse]; omega, fun x h => hx x (List.mem_reverse.mp h)⟩
    · exact papE_app hx hx (by omega)
    · exact .inl ⟨_, .inr rfl, by omega, hx⟩
    · exact .inr (.inl rfl)
    · exact .inr (.inr (.inr rfl))
    · exact .inr (.inr (.inl rfl))
    · exact .inl ⟨[], .inl rfl, by simp, fun x h => by cases h⟩
  walk_at "go"
  exact hk.done pd
end
section
/-! ### papers of fewest (k77): tables drawn -/
theorem bls_of7 {acc : List D} (h : ∀ d ∈ acc, ∃ b, d = D.bl b) : ∃ bs : List Bool, acc = bs.map D.bl := by
  induction acc with
  | nil => exact ⟨[], rfl⟩
  | cons d l ih =>
    obtain ⟨t, rfl⟩ := h d List.mem_cons_self
    obtain ⟨ts, rfl⟩ := ih fun d hd => h d (List.mem_cons_of_mem _ hd)
    exact ⟨t :: ts, rfl⟩
def isTab7 (d : D) : Prop := ∃ (T : List (List Bool)) (n : Nat), d = tabD T ∧ TabOk T n ∧ n ≤ 6 ∧ T.length ≤ 6
def sp__law_table_v2 : SpD := fun ds m P _ => ∃ (w : Addr), ds = [.adr w] ∧ Dr w 60 isTab7 m P
def rd__law_table_v2 : DS :=
    sSeq (sSet 1 (rCall sp__law_draw [] (rCons (rV 0) (rCons (rC (.int 7)) (rNil)))))
    (sSeq (sSet 2 (rCall sp__law_draw [] (rCons (rV 0) (rCons (rC (.int 7)) (rNil)))))
    (sSeq (sSet 3 (rOp oAdd (rC (.int 2)) (rCall sp__law_draw [] (rCons (rV 0) (rCons (rC (.int 4)) (rNil))))))
    (sSeq (sSet 4 (rLstM (rNil)))
    (sSeq (sFor (iRange (rCons (rV 1) (rNil))) (gN 5) (sSeq (sSet 6 (rLc (iRange (rCons (rV 2) (rNil))) [7] (gN 7) (qYes) (rOp oEq (rCall sp__law_draw [] (rCons (rV 0) (rCons (rV 3) (rNil)))) (rC (.int 0)))))
    (sSeq (sIf (rAnd (rTst (rOp oNe (rV 4) (rLst (rNil)))) (rTst (rOp oEq (rCall sp__law_draw [] (rCons (rV 0) (rCons (rC (.int 5)) (rNil)))) (rC (.int 0))))) (sSet 6 (rLc (iAny (rOp oIx (rV 4) (rC (.int 0)))) [8] (gN 8) (qYes) (rNotV (rV 8)))) (sNext))
    (sExpr (rApp (rV 4) (rV 6))))))
    (sRet (rSeal (rV 4)))))))
theorem ln__law_table_v2 : ∀ ds m Q PX, sp__law_table_v2 ds m Q PX → ds.length = 1 := fun ds m Q PX h => by repeat (first | (subst_vars; rfl; done) | (obtain ⟨_, h⟩ := h))
def T__law_table_v2_5 : DS := sSeq (sFor (iRange (rCons (rV 1) (rNil))) (gN 5) (sSeq (sSet 6 (rLc (iRange (rCons (rV 2) (rNil))) [7] (gN 7) (qYes) (rOp oEq (rCall sp__law_draw [] (rCons (rV 0) (rCons (rV 3) (rNil)))) (rC (.int 0)))))
    (sSeq (sIf (rAnd (rTst (rOp oNe (rV 4) (rLst (rNil)))) (rTst (rOp oEq (rCall sp__law_draw [] (rCons (rV 0) (rCons (rC (.int 5)) (rNil)))) (rC (.int 0))))) (sSet 6 (rLc (iAny (rOp oIx (rV 4) (rC (.int 0)))) [8] (gN 8) (qYes) (rNotV (rV 8)))) (sNext))
    (sExpr (rApp (rV 4) (rV 6))))))
    (sRet (rSeal (rV 4)))
def T__law_table_v2_6 : DS := sSeq (sIf (rAnd (rTst (rOp oNe (rV 4) (rLst (rNil)))) (rTst (rOp oEq (rCall sp__law_draw [] (rCons (rV 0) (rCons (rC (.int 5)) (rNil)))) (rC (.int 0))))) (sSet 6 (rLc (iAny (rOp oIx (rV 4) (rC (.int 0)))) [8] (gN 8) (qYes) (rNotV (rV 8)))) (sNext))
    (sExpr (rApp (rV 4) (rV 6)))
def T__law_table_v2_7 : DS := sExpr (rApp (rV 4) (rV 6))
def T__law_table_v2_8 : DS := sRet (rSeal (rV 4))
theorem pu__law_table_v2 : ∀ ds m Q PX, sp__law_table_v2 ds m Q PX → rd__law_table_v2 (dEnds Q PX) (dstart ["_law_well_here", "_law_others", "_law_count", "_law_thick", "_law_found", "_law_k", "_law_column", "_law_j", "_law_truth"] ds) m := by
  rintro ds m Q PX ⟨w, rfl, k, wl, hk, h⟩
  have big : (2 : Nat) ^ 200 > 1000 := by decide
  walk_at "go"
  refine ⟨w, 7, rfl, by decide, by decide, _, wl, by omega, fun d m1 hd kp1 w1 => ?_⟩
  obtain ⟨ot, r10, r11, rfl⟩ := hd
  walk_at "go"
  refine ⟨w, 7, rfl, by decide, by decide, _, w1, by omega, fun d m2 hd kp2 w2 => ?_⟩
  obtain ⟨mn, r20, r21, rfl⟩ := hd
  walk_at "go"
  refine ⟨w, 4, rfl, by decide, by decide, _, w2, by omega, fun d m3 hd kp3 w3 => ?_⟩
  obtain ⟨r4, r40, r41, rfl⟩ := hd
  obtain ⟨th, hth⟩ : ∃ th : Int, th = 2 + r4 := ⟨_, rfl⟩
  walk_at "go"
  rw [← hth]
  intro q hq
  have hqw : q ≠ w := fun z => w3.some (z ▸ hq)
  have kn : Kp [] m3 (mset m3 q (.lst [])) := kp_new hq
  have w6 : Wl (mset m3 q (.lst [])) w (k + 3 + 8 * 0) := (w3.keep kn (by simp)).mono (by omega)
  have kp5' : Kp [w] m m3 := (kp1.trans kp2).trans kp3
  have kp6 : Kp [w] m (mset m3 q (.lst [])) := kp5'.trans (kn.more (by simp))
  clear kp1 kp2 kp3 w1 w2
  show T__law_table_v2_5 (dEnds Q PX) [some (.adr w), some (.int ot), some (.int mn), some (.int th), some (.adr q), none, none, none, none] (mset m3 q (.lst []))
  walk_at "go"
  refine loop_inv (fun i δ m' => Wl m' w (k + 3 + 8 * i) ∧ (∀ a o, a ≠ w → m a = some o → m' a = some o) ∧ ∃ (T : List (List Bool)) (a3 a6 a7 a8 : Option D), m' q = some (.lst (T.map colD)) ∧ (T.length = i ∧ ∀ col ∈ T, col.length = mn.toNat) ∧ δ = [some (.adr w), some (.int ot), some (.int mn), some (.int th), some (.adr q), a3, a6, a7, a8]) (fun i d δ m' e hh => ?_) (fun δ m' hh => ?_) ⟨w6, (fun a o ha e => kp6 a o (by simpa using ha) e), [], _, _, _, _, mset_same, ⟨rfl, (fun _ z => by cases z)⟩, rfl⟩
  · obtain ⟨wi, kpi, T, a3, a6, a7, a8, hqm, ⟨hTl, hTc⟩, rfl⟩ := hh
    obtain ⟨hi, rfl⟩ := rg_get7 e
    have hi8 : i < 6 := by omega
    refine ⟨trivial, fun Nx k1 => ?_⟩
    have tq : ∀ m2 : Mu, m2 q = some (.lst (T.map colD)) → dat m2 (.adr q) = .lst (T.map colD) := fun m2 e => by unfold dat; rw [asL_adr e]
    have tT : thD 3 (.lst (T.map colD)) := ⟨by rw [List.length_map]; omega, fun d hd => by
      obtain ⟨col, hc, rfl⟩ := List.mem_map.mp hd
      exact ⟨by rw [List.length_map, hTc col hc]; omega, fun d hd => by obtain ⟨b, _, rfl⟩ := List.mem_map.mp hd; exact thD_bl⟩⟩
    have t0 : thD 1 (.lst []) := thD_lst (by simp) (List.forall_mem_nil _)
    have fin3 : ∀ (bs : List Bool) (m2 : Mu) (b7 b8 : Option D), bs.length = mn.toNat → Wl m2 w (k + 3 + 8 * (i + 1)) → Kp [w] m' m2 → T__law_table_v2_7 { nx := Nx, rt := Q, bk := T__law_table_v2_8 (dEnds Q PX), ct := Nx, xx := fun c fs _ m => PX c fs m } [some (.adr w), some (.int ot), some (.int mn), some (.int th), some (.adr q), some (.int (0 + (i : Int))), some (colD bs), b7, b8] m2 := by
      intro bs m2 b7 b8 hb w2 kp2
      have e2 := kp2 q _ (by simpa using hqw) hqm
      walk_at "go"
      refine ⟨⟨_, e2⟩, ?_⟩
      walk_at "dl"
      rw [e2]
      walk_at "dl"
      refine ⟨len_line (by rw [List.length_map]; omega), ?_⟩
      refine k1 _ _ ⟨?_, fun a o ha e => ?_, T ++ [bs], _, _, _, _, ?_, ⟨by rw [List.length_append, hTl]; rfl, fun col hc => ?_⟩, rfl⟩
      · obtain ⟨a, b, c, e, r⟩ := w2.ex
        exact ⟨a, b, c, by rw [mset_ne (fun z => hqw z.symm)]; exact e, r⟩
      · rw [mset_ne]
        · exact kp2 a o (by simpa using ha) (kpi a o ha e)
        · intro z
          rw [z] at e
          have := kp5' q o (by simpa using hqw) e
          rw [hq] at this; cases this
      · rw [mset_same, List.map_append]; rfl
      · rcases List.mem_append.mp hc with hc | hc
        · exact hTc col hc
        · rw [List.mem_singleton.mp hc]; exact hb
    walk_at "go"
    refine comp_dr (R1 := fun d => ∃ b, d = D.bl b) (c := 1) (N := 6) (R := fun _ => True) (P0 := fun _ m' => Wl m' w (k + 3 + 8 * i + 6)) (by omega) (by omega) ⟨_, wi, by omega, fun _ _ _ _ z => z⟩ (fun j m2 Kt hj hk => ?_) fun acc m2 hl hacc kp2 h2 => ?_
    · walk_at "go"
      refine hk.num (by decide) (by omega) (by omega) fun r m3 _ _ _ hk => ?_
      walk_at "go"
      exact hk.done ⟨_, rfl⟩
    obtain ⟨bs, rfl⟩ := bls_of7 hacc
    rw [List.length_map] at hl
    have w2 : Wl m2 w (k + 3 + 8 * i + 6) := h2.done (d := .non) trivial
    have e2 := kp2 q _ (by simpa using hqw) hqm
    have hb : bs.length = mn.toNat := by omega
    show T__law_table_v2_6 { nx := Nx, rt := Q, bk := T__law_table_v2_8 (dEnds Q PX), ct := Nx, xx := fun c fs _ m => PX c fs m } [some (.adr w), some (.int ot), some (.int mn), some (.int th), some (.adr q), some (.int (0 + (i : Int))), some (colD bs), a7, a8] m2
    walk_at "go"
    refine ⟨by rw [tq m2 e2]; exact shpT (m := m2) tT, shpT t0, ?_⟩
    rw [if_pos rfl, tq m2 e2]
    show (match !deq (.lst (T.map colD)) (.lst []) with | true => _ | false => _)
    rw [deq_lst_nil]
    cases T with
    | nil => exact fin3 bs m2 _ _ hb (w2.mono (by omega)) kp2
    | cons c0 T0 =>
      walk_at "dl"
      refine ⟨w, 5, rfl, by decide, by decide, _, w2, by omega, fun d m3 hd kp3 w3 => ?_⟩
      obtain ⟨r5, _, _, rfl⟩ := hd
      have e3 := kp3 q _ (by simpa using hqw) e2
      walk_at "dl"
      rw [if_neg (by decide)]
      by_cases hr : r5 = 0
      · rw [decide_eq_true hr]
        walk_at "dl"
        rw [asL_adr e3]
        dsimp only
        rw [show atI ((c0 :: T0).map colD) 0 = some (colD c0) from at_nat (k := 0) rfl]
        walk_at "dl"
        refine comp_on c0 D.bl (fun b => .bl (!b)) (by rw [hTc c0 List.mem_cons_self]; omega) trivial (fun b _ Q q => ?_) ?_
        · walk_at "dl"
          exact q
        have em : (c0.map fun b => D.bl (!b)) = (c0.map fun b => !b).map D.bl := by rw [List.map_map]; rfl
        rw [em]
        exact fin3 (c0.map fun b => !b) m3 _ _ (by rw [List.length_map]; exact hTc c0 List.mem_cons_self) (w3.mono (by omega)) (kp2.trans kp3)
      · rw [decide_eq_false hr]
        exact fin3 bs m3 _ _ hb (w3.mono (by omega)) (kp2.trans kp3)
  · obtain ⟨wi, kpi, T, a3, a6, a7, a8, hqm, ⟨hTl, hTc⟩, rfl⟩ := hh
    rw [rg_len7] at hTl wi
    refine ⟨trivial, ?_⟩
    walk_at "dl"
    rw [hqm]
    have tab : isTab7 (tabD T) := by
      cases T with
      | nil => exact ⟨[], 0, rfl, ⟨by simp, by decide, (fun _ z => by cases z), fun _ => rfl⟩, by decide, by decide⟩
      | cons c0 T0 => exact ⟨c0 :: T0, mn.toNat, rfl, ⟨by omega, by omega, hTc, fun z => by cases z⟩, by omega, by omega⟩
    refine h _ _ tab (fun a o ha e => ?_) ?_
    · have hne : a ≠ q := fun z => by
        rw [z] at e
        have := kp5' q o (by simpa using hqw) e
        rw [hq] at this; cases this
      unfold mdel
      rw [if_neg hne]
      exact kpi a o (by simpa using ha) e
    · obtain ⟨a, b, c, e, r⟩ := (wi.mono (by omega : _ ≤ k + 60)).ex
      exact ⟨a, b, c, by unfold mdel; rw [if_neg (fun z => hqw z.symm)]; exact e, r⟩
end
section
/-! ### papers of fewest (k77): what is shown -/
theorem sho_at7 {d : D} (h : AtF d) : shoD d := by
  rcases h with rfl | ⟨b, rfl⟩ | ⟨i, rfl, hi⟩ | rfl | rfl
  · rw [shoD]; trivial
  · rw [shoD]; trivial
  · rw [shoD]; exact Nat.lt_trans hi (by decide +kernel)
  · rw [shoD]; exact ⟨by decide, by decide⟩
  · rw [shoD]; exact ⟨by decide, by decide⟩
theorem sh_at7 {d : D} (h : AtF d) : (py d).shown.length ≤ 10 := by
  rcases h with rfl | ⟨b, rfl⟩ | ⟨i, rfl, hi⟩ | rfl | rfl
  · rw [py]; decide
  · rw [py]; cases b <;> decide
  · rw [py]
    simp only [PyData.shown]
    rw [PySem.ofString_length]
    exact int_text_length_le10 (k := 9) (by decide) hi
  · rw [py]; decide +kernel
  · rw [py]; decide +kernel
theorem sh_sum7 {k : Nat} : ∀ ds : List D, (∀ d ∈ ds, (py d).shown.length ≤ k) → ((PyData.shownAll (pyL ds)).map (·.length)).sum ≤ k * ds.length ∧ (PyData.shownAll (pyL ds)).length = ds.length
  | [], _ => by rw [pyL]; simp [PyData.shownAll]
  | d :: ds, h => by
    obtain ⟨h1, h2⟩ := sh_sum7 ds fun x hx => h x (List.mem_cons_of_mem _ hx)
    have h3 := h d List.mem_cons_self
    rw [pyL]
    simp only [PyData.shownAll, List.map_cons, List.sum_cons, List.length_cons, Nat.mul_add, Nat.mul_one]
    exact ⟨by omega, by omega⟩
theorem sh_lst7 {k : Nat} {ds : List D} (h : ∀ d ∈ ds, (py d).shown.length ≤ k) : (py (.lst ds)).shown.length ≤ (k + 2) * ds.length + 3 := by
  obtain ⟨h1, h2⟩ := sh_sum7 ds h
  have h3 := PySem.listText_len_le (PyData.shownAll (pyL ds))
  rw [py]
  simp only [PyData.shown]
  rw [Nat.add_mul]
  omega
theorem sh_tup7 {k : Nat} {ds : List D} (h : ∀ d ∈ ds, (py d).shown.length ≤ k) : (py (.tup ds)).shown.length ≤ (k + 2) * ds.length + 3 := by
  obtain ⟨h1, h2⟩ := sh_sum7 ds h
  have h3 := PySem.tupleText_len_le (PyData.shownAll (pyL ds))
  rw [py]
  simp only [PyData.shown]
  rw [Nat.add_mul]
  omega
theorem cmF_sho {d : D} (h : CmF d) : shoD d ∧ (py d).shown.length ≤ 140 := by
  rcases h with h | ⟨cs, rfl | rfl, l, hc⟩
  · exact ⟨sho_at7 h, by have := sh_at7 h; omega⟩
  · have := sh_tup7 (k := 10) fun d hd => sh_at7 (hc d hd)
    have := Nat.mul_le_mul_left 12 l
    exact ⟨by rw [shoD]; exact shoL_all fun d hd => sho_at7 (hc d hd), by omega⟩
  · have := sh_lst7 (k := 10) fun d hd => sh_at7 (hc d hd)
    have := Nat.mul_le_mul_left 12 l
    exact ⟨by rw [shoD]; exact shoL_all fun d hd => sho_at7 (hc d hd), by omega⟩
theorem itmF_sho {d : D} (h : ItmF d) : shoD d ∧ (py d).shown.length ≤ 430 := by
  rcases h with rfl | ⟨es, rfl, l, he⟩
  · exact ⟨by rw [shoD]; trivial, by rw [py]; decide⟩
  · have := sh_tup7 (k := 140) fun d hd => (cmF_sho (he d hd)).2
    have := Nat.mul_le_mul_left 142 l
    exact ⟨by rw [shoD]; exact shoL_all fun d hd => (cmF_sho (he d hd)).1, by omega⟩
theorem repF {f : D} (h : PapE 10000 f) : repOk f := by
  rcases h with ⟨xs, rfl | rfl, lx, hx⟩ | rfl | rfl | rfl
  · refine .inr ⟨shp_itF hx, (sho_ok (.lst xs) (by rw [shoD]; exact shoL_all fun d hd => (itmF_sho (hx d hd)).1)).1, ?_⟩
    have := sh_lst7 (k := 430) fun d hd => (itmF_sho (hx d hd)).2
    have := Nat.mul_le_mul_left 432 lx
    exact Nat.le_trans (by omega : _ ≤ 16000000) (by decide)
  · refine .inr ⟨shp_of (n := 7) fun d hd => itmF_fit (hx d hd), (sho_ok (.tup xs) (by rw [shoD]; exact shoL_all fun d hd => (itmF_sho (hx d hd)).1)).1, ?_⟩
    have := sh_tup7 (k := 430) fun d hd => (itmF_sho (hx d hd)).2
    have := Nat.mul_le_mul_left 432 lx
    exact Nat.le_trans (by omega : _ ≤ 16000000) (by decide)
  · exact rep_of (shp_of (n := 1) trivial) (by rw [shoD]; trivial) (by simp [wtD])
  · exact .inl rfl
  · exact rep_of (shp_of (n := 1) (by decide : ∀ c ∈ (Str.ofString "a").cps.toList, c < 1114112)) (by rw [shoD]; exact ⟨by decide, by decide⟩) (by rw [wtD]; decide)
theorem papE_dat {n : Nat} {f : D} (h : PapE n f) (m : Mu) : dat m f = f := by
  rcases h with ⟨xs, rfl | rfl, lx, hx⟩ | rfl | rfl | rfl <;> rfl
theorem papE_mono {n k : Nat} {f : D} (h : PapE n f) (hk : n ≤ k) : PapE k f := by
  rcases h with ⟨xs, hf, lx, hx⟩ | h
  · exact .inl ⟨xs, hf, by omega, hx⟩
  · exact .inr h
theorem ent_itm {T : List (List Bool)} {n : Nat} (ok : TabOk T n) {e : En} (h : EntOk T n e) : ItmF (enT e) := by
  have hT := ok.few
  have hn := ok.small
  have := ris_few h.1 h.2.1
  have h3 := h.2.2.1
  refine itmF_tup (by simp) (all2 (cmF_tup (by rw [natT_len]; omega) fun d hd => ?_) (.inl (atF_int ?_)))
  · obtain ⟨k, hk, rfl⟩ := List.mem_map.mp hd
    have := h.2.1 k hk
    exact atF_int (Nat.lt_of_le_of_lt (show (k : Int).natAbs ≤ 100 by omega) (by decide))
  · exact Nat.lt_of_le_of_lt (show (e.2 : Int).natAbs ≤ 100 by omega) (by decide)
theorem rep_tab {T : List (List Bool)} {n : Nat} (ok : TabOk T n) : repOk (tabD T) := by
  have hT := ok.few
  have hn := ok.small
  refine rep_of (shp_of (n := 3) fun d hd => ?_) ?_ ?_
  · obtain ⟨col, _, rfl⟩ := List.mem_map.mp hd
    exact fun d hd => by obtain ⟨b, _, rfl⟩ := List.mem_map.mp hd; trivial
  · unfold tabD
    rw [shoD]
    exact shoL_all fun d hd => by
      obtain ⟨col, _, rfl⟩ := List.mem_map.mp hd
      unfold colD
      rw [shoD]
      exact shoL_all fun d hd => by obtain ⟨b, _, rfl⟩ := List.mem_map.mp hd; rw [shoD]; trivial
  · unfold tabD
    rw [wtD]
    refine Nat.le_trans (wtL_le (k := 10) fun d hd => ?_) (by rw [List.length_map]; omega)
    obtain ⟨col, hc, rfl⟩ := List.mem_map.mp hd
    unfold colD
    rw [wtD]
    refine Nat.le_trans (wtL_le (k := 0) fun d hd => ?_) (by rw [List.length_map, ok.same col hc]; omega)
    obtain ⟨b, _, rfl⟩ := List.mem_map.mp hd
    simp [wtD]
end
end DL
namespace DL
open PySem PySem.W PySem.Calls PyProof.Rows HeadRun
/-! ### the head by one run, where the world's row may go either way -/
theorem split_w {P : World → Prop} (row : String) (h : ∀ (b : Bool) (w : World), P (w.withFollow row b)) : ∀ w, P w := fun w => World.withFollow_self w row ▸ h (w.params.followText row) w
end DL
namespace Lw
open PySem L2 DL
local macro_rules | `(tactic| walk_at "dl") => `(tactic| ((conv => whnf); try dsimp only))
local macro_rules | `(tactic| walk_at "sd") => `(tactic| first | trivial | exact Nat.zero_le _ | assumption | decide | omega | exact len_line (by first | decide | omega | (simp; done) | (simp; omega)) | (simp; done) | (simp; omega) | exact ⟨by decide, by decide, by decide⟩ | exact .inl ⟨by decide, by decide⟩ | exact .inl ⟨by omega, by omega⟩ | exact wide_div (b := 64) (by decide) (by decide) (by decide) (by decide))
local macro_rules | `(tactic| walk_at "go") => `(tactic| ((conv => whnf); (try dsimp only); repeat ((with_reducible refine And.intro ?_ ?_); (focus (walk_at "sd")); (conv => whnf); (try dsimp only))))
local macro_rules | `(tactic| walk_at "th") => `(tactic| repeat' (first | assumption | exact thD_txt _ _ | exact thD_int | exact thD_non | exact thD_bl | (refine thD_mono _ _ _ ?_ (by assumption); decide) | refine List.forall_mem_cons.mpr (And.intro ?_ ?_) | exact List.forall_mem_nil _ | refine thD_tup (by simp) ?_ | refine thD_lst (by simp) ?_))
local macro_rules | `(tactic| walk_at "ln") => `(tactic| (intro ds m Q PX h; repeat (obtain ⟨_, h⟩ := h); subst_vars; rfl))
def top (i : Nat) : Stmt := PySem.Challenge.pw_stoodin_k77_whole_papers_of_fewest.main.body.getD i (.Pass ⟨0, 0, 0, 0⟩)
abbrev s_is_whole : Stmt := top 1
abbrev N_is_whole : List Str := ["thing"]
abbrev s_is_parted : Stmt := top 3
abbrev N_is_parted : List Str := ["column", "chosen", "row"]
abbrev s_not_parted : Stmt := top 4
abbrev N_not_parted : List Str := ["parts", "chosen", "at", "column"]
abbrev s_lots_of : Stmt := top 5
abbrev N_lots_of : List Str := ["many", "size", "found", "turn", "one", "row"]
abbrev s_fewest : Stmt := top 6
abbrev N_fewest : List Str := ["parts", "many", "size", "chosen", "column"]
abbrev s_with_row : Stmt := top 7
abbrev N_with_row : List Str := ["chosen", "row"]
abbrev s_grown_by : Stmt := top 8
abbrev N_grown_by : List Str := ["parts", "chosen", "at", "row", "is_true"]
abbrev s_fewest_paper : Stmt := top 9
abbrev N_fewest_paper : List Str := ["parts", "told", "found", "line", "chosen", "one", "column"]
abbrev s_are_rising : Stmt := top 10
abbrev N_are_rising : List Str := ["rows", "many", "row", "one", "other"]
abbrev s_is_entry : Stmt := top 11
abbrev N_is_entry : List Str := ["parts", "thing", "chosen", "at"]
abbrev s_bars_fewer : Stmt := top 12
abbrev N_bars_fewer : List Str := ["parts", "many", "paper", "known", "some", "chosen", "at", "more", "one", "thing"]
abbrev s__law_cell_at : Stmt := top 14
abbrev N__law_cell_at : List Str := ["_law_script", "_law_k"]
abbrev s__law_well : Stmt := top 15
abbrev N__law_well : List Str := ["_law_cell"]
abbrev s__law_draw : Stmt := top 16
abbrev N__law_draw : List Str := ["_law_well_here", "_law_count", "_law_number", "_law_digit"]
abbrev s__law_one : Stmt := top 17
abbrev N__law_one : List Str := ["_law_well_here", "_law_some"]
abbrev s__law_table : Stmt := top 18
abbrev N__law_table : List Str := ["_law_well_here", "_law_others", "_law_count", "_law_thick", "_law_found", "_law_k", "_law_column", "_law_j", "_law_truth"]
abbrev s__law_is_whole : Stmt := top 19
abbrev N__law_is_whole : List Str := ["_law_thing"]
abbrev s__law_is_entry : Stmt := top 20
abbrev N__law_is_entry : List Str := ["_law_columns", "_law_thing", "_law_chosen", "_law_at", "_law_k"]
abbrev s__law_due : Stmt := top 21
abbrev N__law_due : List Str := ["_law_columns", "_law_count", "_law_sheet", "_law_firsts", "_law_chosen", "_law_at", "_law_thing", "_law_k"]
abbrev s__law_turned : Stmt := top 22
abbrev N__law_turned : List Str := ["_law_well_here", "_law_columns", "_law_sheet", "_law_k", "_law_row", "_law_at", "_law_some", "_law_odd", "_law_rest", "_law_turned_here"]
abbrev s_law : Stmt := top 23
abbrev N_law : List Str := ["_law_script", "_law_cell", "_law_well_here", "_law_columns", "_law_kept", "_law_told", "_law_sheet", "_law_count", "_law_turn", "_law_due_here", "_law_shown", "_law_spoilt", "_law_k", "_law_held"]
def rd_law : DS :=
    sSeq (sFor (iAny (rOp oAdd (rLst (rCons (rCall sp__law_cell_at [] (rCons (rV 0) (rCons (rC (.int 0)) (rNil)))) (rNil))) (rSl (rV 0) (rPart (rC (.int 1))) (rPart (rC (.int 9)))))) (gN 1) (sSeq (sSet 2 (rCall sp__law_well [] (rCons (rV 1) (rNil))))
    (sSeq (sSet 3 (rCall sp__law_table_v2 [] (rCons (rV 2) (rNil))))
    (sSeq (sSet 4 (rCB cRepr (rCons (rV 3) (rNil))))
    (sSeq (sSet 5 (rCall sp_fewest [] (rCons (rV 3) (rNil))))
    (sSeq (sSet 6 (rCall sp_fewest_paper [] (rCons (rV 3) (rNil))))
    (sSeq (sIf (rOr (rNot (rTru (rCB cIsi (rCons (rV 6) (rCons (rC (.ty "list")) (rNil)))))) (rNot (rTru (rCall sp__law_due_v8 [] (rCons (rV 3) (rCons (rOp oIx (rLst (rCons (rC (.int 100)) (rCons (rCB cLen (rCons (rOrT (rV 5) (rLst (rNil))) (rNil))) (rNil)))) (rCB cInt (rCons (rOp (oIsN true) (rV 5) (rC .non)) (rNil)))) (rCons (rV 6) (rNil)))))))) (sRet (rC (.bl false))) (sNext))
    (sSeq (sFor (iRange (rCons (rC (.int 9)) (rNil))) (gN 7) (sSeq (sSet 9 (rCall sp__law_due_v8 [] (rCons (rV 3) (rCons (rV 7) (rCons (rV 6) (rNil))))))
    (sSeq (sSet 10 (rCall sp_bars_fewer [] (rCons (rV 3) (rCons (rV 7) (rCons (rV 6) (rNil))))))
    (sIf (rOr (rNot (rTru (rCB cIsi (rCons (rV 10) (rCons (rC (.ty "bool")) (rNil)))))) (rOr (rTst (rOp oNe (rV 10) (rV 9))) (rTst (rOp oNe (rV 9) (rOrV (rOp (oIsN false) (rV 5) (rC .non)) (rOp oLe (rV 7) (rCB cLen (rCons (rV 5) (rNil))))))))) (sRet (rC (.bl false))) (sNext)))))
    (sSeq (sFor (iRange (rCons (rC (.int 5)) (rNil))) (gN 8) (sSeq (sSet 11 (rCB cLst (rCons (rV 6) (rNil))))
    (sSeq (sFor (iRange (rCons (rOp oAdd (rC (.int 1)) (rCall sp__law_draw [] (rCons (rV 2) (rCons (rC (.int 2)) (rNil))))) (rNil))) (gN 12) (sIf (rTru (rCB cIsi (rCons (rV 11) (rCons (rC (.ty "list")) (rNil))))) (sSet 11 (rCall sp__law_turned_v5 [] (rCons (rV 2) (rCons (rV 3) (rCons (rV 11) (rNil)))))) (sNext)))
    (sSeq (sSet 7 (rCall sp__law_one [] (rCons (rV 2) (rCons (rLst (rCons (rNeg (rC (.int 1))) (rCons (rC (.int 0)) (rCons (rC (.int 1)) (rCons (rC (.int 2)) (rCons (rC (.int 3)) (rCons (rCB cLen (rCons (rOrT (rV 5) (rLst (rNil))) (rNil))) (rCons (rOp oAdd (rCB cLen (rCons (rOrT (rV 5) (rLst (rNil))) (rNil))) (rC (.int 1))) (rCons (rC (.bl true)) (rCons (rC .non) (rCons (rC (.str "1")) (rNil)))))))))))) (rNil)))))
    (sSeq (sSet 9 (rCall sp__law_due_v8 [] (rCons (rV 3) (rCons (rV 7) (rCons (rV 11) (rNil))))))
    (sSeq (sSet 13 (rCB cRepr (rCons (rV 11) (rNil))))
    (sSeq (sSet 10 (rLst (rCons (rCall sp_bars_fewer [] (rCons (rV 3) (rCons (rV 7) (rCons (rV 11) (rNil))))) (rCons (rCallK sp_bars_fewer 0 3 (gI [2, 1, 0]) rNil (rCons (rV 11) (rCons (rV 7) (rCons (rV 3) (rNil))))) (rNil)))))
    (sSeq (sIf (rOr (rNot (rTru (rCB cIsi (rCons (rOp oIx (rV 10) (rC (.int 0))) (rCons (rC (.ty "bool")) (rNil)))))) (rTst (rOp oNe (rV 10) (rLst (rCons (rV 9) (rCons (rV 9) (rNil))))))) (sRet (rC (.bl false))) (sNext))
    (sIf (rOr (rTst (rOp oNe (rCB cRepr (rCons (rV 11) (rNil))) (rV 13))) (rAnd (rTst (rOp (oIsN true) (rV 5) (rC .non))) (rAnd (rTru (rV 9)) (rTst (rOp oGt (rV 7) (rCB cLen (rCons (rV 5) (rNil)))))))) (sRet (rC (.bl false))) (sNext))))))))))
    (sIf (rTst (rOp oNe (rCB cRepr (rCons (rV 3) (rNil))) (rV 4))) (sRet (rC (.bl false))) (sNext)))))))))))
    (sRet (rC (.bl true)))
def T_law_6 : DS := sSeq (sIf (rOr (rNot (rTru (rCB cIsi (rCons (rV 6) (rCons (rC (.ty "list")) (rNil)))))) (rNot (rTru (rCall sp__law_due_v8 [] (rCons (rV 3) (rCons (rOp oIx (rLst (rCons (rC (.int 100)) (rCons (rCB cLen (rCons (rOrT (rV 5) (rLst (rNil))) (rNil))) (rNil)))) (rCB cInt (rCons (rOp (oIsN true) (rV 5) (rC .non)) (rNil)))) (rCons (rV 6) (rNil)))))))) (sRet (rC (.bl false))) (sNext))
    (sSeq (sFor (iRange (rCons (rC (.int 9)) (rNil))) (gN 7) (sSeq (sSet 9 (rCall sp__law_due_v8 [] (rCons (rV 3) (rCons (rV 7) (rCons (rV 6) (rNil))))))
    (sSeq (sSet 10 (rCall sp_bars_fewer [] (rCons (rV 3) (rCons (rV 7) (rCons (rV 6) (rNil))))))
    (sIf (rOr (rNot (rTru (rCB cIsi (rCons (rV 10) (rCons (rC (.ty "bool")) (rNil)))))) (rOr (rTst (rOp oNe (rV 10) (rV 9))) (rTst (rOp oNe (rV 9) (rOrV (rOp (oIsN false) (rV 5) (rC .non)) (rOp oLe (rV 7) (rCB cLen (rCons (rV 5) (rNil))))))))) (sRet (rC (.bl false))) (sNext)))))
    (sSeq (sFor (iRange (rCons (rC (.int 5)) (rNil))) (gN 8) (sSeq (sSet 11 (rCB cLst (rCons (rV 6) (rNil))))
    (sSeq (sFor (iRange (rCons (rOp oAdd (rC (.int 1)) (rCall sp__law_draw [] (rCons (rV 2) (rCons (rC (.int 2)) (rNil))))) (rNil))) (gN 12) (sIf (rTru (rCB cIsi (rCons (rV 11) (rCons (rC (.ty "list")) (rNil))))) (sSet 11 (rCall sp__law_turned_v5 [] (rCons (rV 2) (rCons (rV 3) (rCons (rV 11) (rNil)))))) (sNext)))
    (sSeq (sSet 7 (rCall sp__law_one [] (rCons (rV 2) (rCons (rLst (rCons (rNeg (rC (.int 1))) (rCons (rC (.int 0)) (rCons (rC (.int 1)) (rCons (rC (.int 2)) (rCons (rC (.int 3)) (rCons (rCB cLen (rCons (rOrT (rV 5) (rLst (rNil))) (rNil))) (rCons (rOp oAdd (rCB cLen (rCons (rOrT (rV 5) (rLst (rNil))) (rNil))) (rC (.int 1))) (rCons (rC (.bl true)) (rCons (rC .non) (rCons (rC (.str "1")) (rNil)))))))))))) (rNil)))))
    (sSeq (sSet 9 (rCall sp__law_due_v8 [] (rCons (rV 3) (rCons (rV 7) (rCons (rV 11) (rNil))))))
    (sSeq (sSet 13 (rCB cRepr (rCons (rV 11) (rNil))))
    (sSeq (sSet 10 (rLst (rCons (rCall sp_bars_fewer [] (rCons (rV 3) (rCons (rV 7) (rCons (rV 11) (rNil))))) (rCons (rCallK sp_bars_fewer 0 3 (gI [2, 1, 0]) rNil (rCons (rV 11) (rCons (rV 7) (rCons (rV 3) (rNil))))) (rNil)))))
    (sSeq (sIf (rOr (rNot (rTru (rCB cIsi (rCons (rOp oIx (rV 10) (rC (.int 0))) (rCons (rC (.ty "bool")) (rNil)))))) (rTst (rOp oNe (rV 10) (rLst (rCons (rV 9) (rCons (rV 9) (rNil))))))) (sRet (rC (.bl false))) (sNext))
    (sIf (rOr (rTst (rOp oNe (rCB cRepr (rCons (rV 11) (rNil))) (rV 13))) (rAnd (rTst (rOp (oIsN true) (rV 5) (rC .non))) (rAnd (rTru (rV 9)) (rTst (rOp oGt (rV 7) (rCB cLen (rCons (rV 5) (rNil)))))))) (sRet (rC (.bl false))) (sNext))))))))))
    (sIf (rTst (rOp oNe (rCB cRepr (rCons (rV 3) (rNil))) (rV 4))) (sRet (rC (.bl false))) (sNext))))
def T_law_7 : DS := sSeq (sFor (iRange (rCons (rC (.int 9)) (rNil))) (gN 7) (sSeq (sSet 9 (rCall sp__law_due_v8 [] (rCons (rV 3) (rCons (rV 7) (rCons (rV 6) (rNil))))))
    (sSeq (sSet 10 (rCall sp_bars_fewer [] (rCons (rV 3) (rCons (rV 7) (rCons (rV 6) (rNil))))))
    (sIf (rOr (rNot (rTru (rCB cIsi (rCons (rV 10) (rCons (rC (.ty "bool")) (rNil)))))) (rOr (rTst (rOp oNe (rV 10) (rV 9))) (rTst (rOp oNe (rV 9) (rOrV (rOp (oIsN false) (rV 5) (rC .non)) (rOp oLe (rV 7) (rCB cLen (rCons (rV 5) (rNil))))))))) (sRet (rC (.bl false))) (sNext)))))
    (sSeq (sFor (iRange (rCons (rC (.int 5)) (rNil))) (gN 8) (sSeq (sSet 11 (rCB cLst (rCons (rV 6) (rNil))))
    (sSeq (sFor (iRange (rCons (rOp oAdd (rC (.int 1)) (rCall sp__law_draw [] (rCons (rV 2) (rCons (rC (.int 2)) (rNil))))) (rNil))) (gN 12) (sIf (rTru (rCB cIsi (rCons (rV 11) (rCons (rC (.ty "list")) (rNil))))) (sSet 11 (rCall sp__law_turned_v5 [] (rCons (rV 2) (rCons (rV 3) (rCons (rV 11) (rNil)))))) (sNext)))
    (sSeq (sSet 7 (rCall sp__law_one [] (rCons (rV 2) (rCons (rLst (rCons (rNeg (rC (.int 1))) (rCons (rC (.int 0)) (rCons (rC (.int 1)) (rCons (rC (.int 2)) (rCons (rC (.int 3)) (rCons (rCB cLen (rCons (rOrT (rV 5) (rLst (rNil))) (rNil))) (rCons (rOp oAdd (rCB cLen (rCons (rOrT (rV 5) (rLst (rNil))) (rNil))) (rC (.int 1))) (rCons (rC (.bl true)) (rCons (rC .non) (rCons (rC (.str "1")) (rNil)))))))))))) (rNil)))))
    (sSeq (sSet 9 (rCall sp__law_due_v8 [] (rCons (rV 3) (rCons (rV 7) (rCons (rV 11) (rNil))))))
    (sSeq (sSet 13 (rCB cRepr (rCons (rV 11) (rNil))))
    (sSeq (sSet 10 (rLst (rCons (rCall sp_bars_fewer [] (rCons (rV 3) (rCons (rV 7) (rCons (rV 11) (rNil))))) (rCons (rCallK sp_bars_fewer 0 3 (gI [2, 1, 0]) rNil (rCons (rV 11) (rCons (rV 7) (rCons (rV 3) (rNil))))) (rNil)))))
    (sSeq (sIf (rOr (rNot (rTru (rCB cIsi (rCons (rOp oIx (rV 10) (rC (.int 0))) (rCons (rC (.ty "bool")) (rNil)))))) (rTst (rOp oNe (rV 10) (rLst (rCons (rV 9) (rCons (rV 9) (rNil))))))) (sRet (rC (.bl false))) (sNext))
    (sIf (rOr (rTst (rOp oNe (rCB cRepr (rCons (rV 11) (rNil))) (rV 13))) (rAnd (rTst (rOp (oIsN true) (rV 5) (rC .non))) (rAnd (rTru (rV 9)) (rTst (rOp oGt (rV 7) (rCB cLen (rCons (rV 5) (rNil)))))))) (sRet (rC (.bl false))) (sNext))))))))))
    (sIf (rTst (rOp oNe (rCB cRepr (rCons (rV 3) (rNil))) (rV 4))) (sRet (rC (.bl false))) (sNext)))
def T_law_9 : DS := sIf (rOr (rNot (rTru (rCB cIsi (rCons (rV 10) (rCons (rC (.ty "bool")) (rNil)))))) (rOr (rTst (rOp oNe (rV 10) (rV 9))) (rTst (rOp oNe (rV 9) (rOrV (rOp (oIsN false) (rV 5) (rC .non)) (rOp oLe (rV 7) (rCB cLen (rCons (rV 5) (rNil))))))))) (sRet (rC (.bl false))) (sNext)
def T_law_11 : DS := sSeq (sFor (iRange (rCons (rOp oAdd (rC (.int 1)) (rCall sp__law_draw [] (rCons (rV 2) (rCons (rC (.int 2)) (rNil))))) (rNil))) (gN 12) (sIf (rTru (rCB cIsi (rCons (rV 11) (rCons (rC (.ty "list")) (rNil))))) (sSet 11 (rCall sp__law_turned_v5 [] (rCons (rV 2) (rCons (rV 3) (rCons (rV 11) (rNil)))))) (sNext)))
    (sSeq (sSet 7 (rCall sp__law_one [] (rCons (rV 2) (rCons (rLst (rCons (rNeg (rC (.int 1))) (rCons (rC (.int 0)) (rCons (rC (.int 1)) (rCons (rC (.int 2)) (rCons (rC (.int 3)) (rCons (rCB cLen (rCons (rOrT (rV 5) (rLst (rNil))) (rNil))) (rCons (rOp oAdd (rCB cLen (rCons (rOrT (rV 5) (rLst (rNil))) (rNil))) (rC (.int 1))) (rCons (rC (.bl true)) (rCons (rC .non) (rCons (rC (.str "1")) (rNil)))))))))))) (rNil)))))
    (sSeq (sSet 9 (rCall sp__law_due_v8 [] (rCons (rV 3) (rCons (rV 7) (rCons (rV 11) (rNil))))))
    (sSeq (sSet 13 (rCB cRepr (rCons (rV 11) (rNil))))
    (sSeq (sSet 10 (rLst (rCons (rCall sp_bars_fewer [] (rCons (rV 3) (rCons (rV 7) (rCons (rV 11) (rNil))))) (rCons (rCallK sp_bars_fewer 0 3 (gI [2, 1, 0]) rNil (rCons (rV 11) (rCons (rV 7) (rCons (rV 3) (rNil))))) (rNil)))))
    (sSeq (sIf (rOr (rNot (rTru (rCB cIsi (rCons (rOp oIx (rV 10) (rC (.int 0))) (rCons (rC (.ty "bool")) (rNil)))))) (rTst (rOp oNe (rV 10) (rLst (rCons (rV 9) (rCons (rV 9) (rNil))))))) (sRet (rC (.bl false))) (sNext))
    (sIf (rOr (rTst (rOp oNe (rCB cRepr (rCons (rV 11) (rNil))) (rV 13))) (rAnd (rTst (rOp (oIsN true) (rV 5) (rC .non))) (rAnd (rTru (rV 9)) (rTst (rOp oGt (rV 7) (rCB cLen (rCons (rV 5) (rNil)))))))) (sRet (rC (.bl false))) (sNext)))))))
def T_law_12 : DS := sSeq (sSet 7 (rCall sp__law_one [] (rCons (rV 2) (rCons (rLst (rCons (rNeg (rC (.int 1))) (rCons (rC (.int 0)) (rCons (rC (.int 1)) (rCons (rC (.int 2)) (rCons (rC (.int 3)) (rCons (rCB cLen (rCons (rOrT (rV 5) (rLst (rNil))) (rNil))) (rCons (rOp oAdd (rCB cLen (rCons (rOrT (rV 5) (rLst (rNil))) (rNil))) (rC (.int 1))) (rCons (rC (.bl true)) (rCons (rC .non) (rCons (rC (.str "1")) (rNil)))))))))))) (rNil)))))
    (sSeq (sSet 9 (rCall sp__law_due_v8 [] (rCons (rV 3) (rCons (rV 7) (rCons (rV 11) (rNil))))))
    (sSeq (sSet 13 (rCB cRepr (rCons (rV 11) (rNil))))
    (sSeq (sSet 10 (rLst (rCons (rCall sp_bars_fewer [] (rCons (rV 3) (rCons (rV 7) (rCons (rV 11) (rNil))))) (rCons (rCallK sp_bars_fewer 0 3 (gI [2, 1, 0]) rNil (rCons (rV 11) (rCons (rV 7) (rCons (rV 3) (rNil))))) (rNil)))))
    (sSeq (sIf (rOr (rNot (rTru (rCB cIsi (rCons (rOp oIx (rV 10) (rC (.int 0))) (rCons (rC (.ty "bool")) (rNil)))))) (rTst (rOp oNe (rV 10) (rLst (rCons (rV 9) (rCons (rV 9) (rNil))))))) (sRet (rC (.bl false))) (sNext))
    (sIf (rOr (rTst (rOp oNe (rCB cRepr (rCons (rV 11) (rNil))) (rV 13))) (rAnd (rTst (rOp (oIsN true) (rV 5) (rC .non))) (rAnd (rTru (rV 9)) (rTst (rOp oGt (rV 7) (rCB cLen (rCons (rV 5) (rNil)))))))) (sRet (rC (.bl false))) (sNext))))))
def T_law_13 : DS := sSeq (sSet 9 (rCall sp__law_due_v8 [] (rCons (rV 3) (rCons (rV 7) (rCons (rV 11) (rNil))))))
    (sSeq (sSet 13 (rCB cRepr (rCons (rV 11) (rNil))))
    (sSeq (sSet 10 (rLst (rCons (rCall sp_bars_fewer [] (rCons (rV 3) (rCons (rV 7) (rCons (rV 11) (rNil))))) (rCons (rCallK sp_bars_fewer 0 3 (gI [2, 1, 0]) rNil (rCons (rV 11) (rCons (rV 7) (rCons (rV 3) (rNil))))) (rNil)))))
    (sSeq (sIf (rOr (rNot (rTru (rCB cIsi (rCons (rOp oIx (rV 10) (rC (.int 0))) (rCons (rC (.ty "bool")) (rNil)))))) (rTst (rOp oNe (rV 10) (rLst (rCons (rV 9) (rCons (rV 9) (rNil))))))) (sRet (rC (.bl false))) (sNext))
    (sIf (rOr (rTst (rOp oNe (rCB cRepr (rCons (rV 11) (rNil))) (rV 13))) (rAnd (rTst (rOp (oIsN true) (rV 5) (rC .non))) (rAnd (rTru (rV 9)) (rTst (rOp oGt (rV 7) (rCB cLen (rCons (rV 5) (rNil)))))))) (sRet (rC (.bl false))) (sNext)))))
def T_law_17 : DS := sIf (rOr (rTst (rOp oNe (rCB cRepr (rCons (rV 11) (rNil))) (rV 13))) (rAnd (rTst (rOp (oIsN true) (rV 5) (rC .non))) (rAnd (rTru (rV 9)) (rTst (rOp oGt (rV 7) (rCB cLen (rCons (rV 5) (rNil)))))))) (sRet (rC (.bl false))) (sNext)
theorem ar_0_3 {T0 T1 : Type} {P : List T0 → List T1 → Prop} (h : ∀ (a0 a1 a2 : T1), P [] [a0, a1, a2]) : ∀ (u0 : List T0) (u1 : List T1), u0.length = 0 → u1.length = 3 → P u0 u1 := fun u0 u1 h0 h1 => match u0, u1, h0, h1 with | [], [_, _, _], _, _ => h _ _ _
theorem ar_1 {T0 : Type} {P : List T0 → Prop} (h : ∀ (a0 : T0), P [a0]) : ∀ (u0 : List T0), u0.length = 1 → P u0 := fun u0 h0 => match u0, h0 with | [_], _ => h _
theorem ar_2 {T0 : Type} {P : List T0 → Prop} (h : ∀ (a0 a1 : T0), P [a0, a1]) : ∀ (u0 : List T0), u0.length = 2 → P u0 := fun u0 h0 => match u0, h0 with | [_, _], _ => h _ _
theorem ar_3 {T0 : Type} {P : List T0 → Prop} (h : ∀ (a0 a1 a2 : T0), P [a0, a1, a2]) : ∀ (u0 : List T0), u0.length = 3 → P u0 := fun u0 h0 => match u0, h0 with | [_, _, _], _ => h _ _ _
/-- what the top has left -/
structure Tx (w : World) (K : PySem.W.Frag) (mg : Str → Option Value) : Prop where
  f_is_whole : FunAt K mg "is_whole" "is_whole" s_is_whole
  f_is_parted : FunAt K mg "is_parted" "is_parted" s_is_parted
  f_not_parted : FunAt K mg "not_parted" "not_parted" s_not_parted
  f_lots_of : FunAt K mg "lots_of" "lots_of" s_lots_of
  f_fewest : FunAt K mg "fewest" "fewest" s_fewest
  f_with_row : FunAt K mg "with_row" "with_row" s_with_row
  f_grown_by : FunAt K mg "grown_by" "grown_by" s_grown_by
  f_fewest_paper : FunAt K mg "fewest_paper" "fewest_paper" s_fewest_paper
  f_are_rising : FunAt K mg "are_rising" "are_rising" s_are_rising
  f_is_entry : FunAt K mg "is_entry" "is_entry" s_is_entry
  f_bars_fewer : FunAt K mg "bars_fewer" "bars_fewer" s_bars_fewer
  f__law_cell_at : FunAt K mg "_law_cell_at" "_law_cell_at" s__law_cell_at
  f__law_well : FunAt K mg "_law_well" "_law_well" s__law_well
  f__law_draw : FunAt K mg "_law_draw" "_law_draw" s__law_draw
  f__law_one : FunAt K mg "_law_one" "_law_one" s__law_one
  f__law_table : FunAt K mg "_law_table" "_law_table" s__law_table
  f__law_is_whole : FunAt K mg "_law_is_whole" "_law_is_whole" s__law_is_whole
  f__law_is_entry : FunAt K mg "_law_is_entry" "_law_is_entry" s__law_is_entry
  f__law_due : FunAt K mg "_law_due" "_law_due" s__law_due
  f__law_turned : FunAt K mg "_law_turned" "_law_turned" s__law_turned
  f_law : FunAt K mg "law" "law" s_law
  b_all : mg "all" = none
  b_any : mg "any" = none
  b_bool : mg "bool" = none
  b_enumerate : mg "enumerate" = none
  b_int : mg "int" = none
  b_isinstance : mg "isinstance" = none
  b_len : mg "len" = none
  b_list : mg "list" = none
  b_max : mg "max" = none
  b_min : mg "min" = none
  b_range : mg "range" = none
  b_repr : mg "repr" = none
  b_set : mg "set" = none
  b_sorted : mg "sorted" = none
  b_tuple : mg "tuple" = none
  b_zip : mg "zip" = none
theorem bb_all : bootBuiltins "all" = some (.builtin "all") := by decide +kernel
theorem bb_any : bootBuiltins "any" = some (.builtin "any") := by decide +kernel
theorem bb_bool : bootBuiltins "bool" = some (.type "bool") := by decide +kernel
theorem bb_int : bootBuiltins "int" = some (.type "int") := by decide +kernel
theorem bb_isinstance : bootBuiltins "isinstance" = some (.builtin "isinstance") := by decide +kernel
theorem bb_len : bootBuiltins "len" = some (.builtin "len") := by decide +kernel
theorem bb_list : bootBuiltins "list" = some (.type "list") := by decide +kernel
theorem bb_max : bootBuiltins "max" = some (.builtin "max") := by decide +kernel
theorem bb_min : bootBuiltins "min" = some (.builtin "min") := by decide +kernel
theorem bb_repr : bootBuiltins "repr" = some (.builtin "repr") := by decide +kernel
theorem bb_set : bootBuiltins "set" = some (.type "set") := by decide +kernel
theorem bb_sorted : bootBuiltins "sorted" = some (.builtin "sorted") := by decide +kernel
theorem bb_tuple : bootBuiltins "tuple" = some (.type "tuple") := by decide +kernel
theorem sc_is_whole : FnScope N_is_whole ["thing"] (defScope s_is_whole) := ⟨rfl, rfl, rfl, by decide +kernel, rfl, by decide +kernel, by decide +kernel⟩
theorem bi_is_whole : BindAll "is_whole" "is_whole" s_is_whole ["thing"] := fun _ _ _ _ _ _ => ar_1 (fun _ => rfl)
theorem sc_is_parted : FnScope N_is_parted ["column", "chosen"] (defScope s_is_parted) := ⟨rfl, rfl, rfl, by decide +kernel, rfl, by decide +kernel, by decide +kernel⟩
theorem bi_is_parted : BindAll "is_parted" "is_parted" s_is_parted ["column", "chosen"] := fun _ _ _ _ _ _ => ar_2 (fun _ _ => rfl)
theorem sc_not_parted : FnScope N_not_parted ["parts", "chosen"] (defScope s_not_parted) := ⟨rfl, rfl, rfl, by decide +kernel, rfl, by decide +kernel, by decide +kernel⟩
theorem bi_not_parted : BindAll "not_parted" "not_parted" s_not_parted ["parts", "chosen"] := fun _ _ _ _ _ _ => ar_2 (fun _ _ => rfl)
theorem sc_lots_of : FnScope N_lots_of ["many", "size"] (defScope s_lots_of) := ⟨rfl, rfl, rfl, by decide +kernel, rfl, by decide +kernel, by decide +kernel⟩
theorem bi_lots_of : BindAll "lots_of" "lots_of" s_lots_of ["many", "size"] := fun _ _ _ _ _ _ => ar_2 (fun _ _ => rfl)
theorem sc_fewest : FnScope N_fewest ["parts"] (defScope s_fewest) := ⟨rfl, rfl, rfl, by decide +kernel, rfl, by decide +kernel, by decide +kernel⟩
theorem bi_fewest : BindAll "fewest" "fewest" s_fewest ["parts"] := fun _ _ _ _ _ _ => ar_1 (fun _ => rfl)
theorem sc_with_row : FnScope N_with_row ["chosen", "row"] (defScope s_with_row) := ⟨rfl, rfl, rfl, by decide +kernel, rfl, by decide +kernel, by decide +kernel⟩
theorem bi_with_row : BindAll "with_row" "with_row" s_with_row ["chosen", "row"] := fun _ _ _ _ _ _ => ar_2 (fun _ _ => rfl)
theorem sc_grown_by : FnScope N_grown_by ["parts", "chosen", "at"] (defScope s_grown_by) := ⟨rfl, rfl, rfl, by decide +kernel, rfl, by decide +kernel, by decide +kernel⟩
theorem bi_grown_by : BindAll "grown_by" "grown_by" s_grown_by ["parts", "chosen", "at"] := fun _ _ _ _ _ _ => ar_3 (fun _ _ _ => rfl)
theorem sc_fewest_paper : FnScope N_fewest_paper ["parts"] (defScope s_fewest_paper) := ⟨rfl, rfl, rfl, by decide +kernel, rfl, by decide +kernel, by decide +kernel⟩
theorem bi_fewest_paper : BindAll "fewest_paper" "fewest_paper" s_fewest_paper ["parts"] := fun _ _ _ _ _ _ => ar_1 (fun _ => rfl)
theorem sc_are_rising : FnScope N_are_rising ["rows", "many"] (defScope s_are_rising) := ⟨rfl, rfl, rfl, by decide +kernel, rfl, by decide +kernel, by decide +kernel⟩
theorem bi_are_rising : BindAll "are_rising" "are_rising" s_are_rising ["rows", "many"] := fun _ _ _ _ _ _ => ar_2 (fun _ _ => rfl)
theorem sc_is_entry : FnScope N_is_entry ["parts", "thing"] (defScope s_is_entry) := ⟨rfl, rfl, rfl, by decide +kernel, rfl, by decide +kernel, by decide +kernel⟩
theorem bi_is_entry : BindAll "is_entry" "is_entry" s_is_entry ["parts", "thing"] := fun _ _ _ _ _ _ => ar_2 (fun _ _ => rfl)
theorem sc_bars_fewer : FnScope N_bars_fewer ["parts", "many", "paper"] (defScope s_bars_fewer) := ⟨rfl, rfl, rfl, by decide +kernel, rfl, by decide +kernel, by decide +kernel⟩
theorem bi_bars_fewer : BindAll "bars_fewer" "bars_fewer" s_bars_fewer ["parts", "many", "paper"] := fun _ _ _ _ _ _ => ar_3 (fun _ _ _ => rfl)
theorem sc__law_cell_at : FnScope N__law_cell_at ["_law_script", "_law_k"] (defScope s__law_cell_at) := ⟨rfl, rfl, rfl, by decide +kernel, rfl, by decide +kernel, by decide +kernel⟩
theorem bi__law_cell_at : BindAll "_law_cell_at" "_law_cell_at" s__law_cell_at ["_law_script", "_law_k"] := fun _ _ _ _ _ _ => ar_2 (fun _ _ => rfl)
theorem sc__law_well : FnScope N__law_well ["_law_cell"] (defScope s__law_well) := ⟨rfl, rfl, rfl, by decide +kernel, rfl, by decide +kernel, by decide +kernel⟩
theorem bi__law_well : BindAll "_law_well" "_law_well" s__law_well ["_law_cell"] := fun _ _ _ _ _ _ => ar_1 (fun _ => rfl)
theorem sc__law_draw : FnScope N__law_draw ["_law_well_here", "_law_count"] (defScope s__law_draw) := ⟨rfl, rfl, rfl, by decide +kernel, rfl, by decide +kernel, by decide +kernel⟩
theorem bi__law_draw : BindAll "_law_draw" "_law_draw" s__law_draw ["_law_well_here", "_law_count"] := fun _ _ _ _ _ _ => ar_2 (fun _ _ => rfl)
theorem sc__law_one : FnScope N__law_one ["_law_well_here", "_law_some"] (defScope s__law_one) := ⟨rfl, rfl, rfl, by decide +kernel, rfl, by decide +kernel, by decide +kernel⟩
theorem bi__law_one : BindAll "_law_one" "_law_one" s__law_one ["_law_well_here", "_law_some"] := fun _ _ _ _ _ _ => ar_2 (fun _ _ => rfl)
theorem sc__law_table : FnScope N__law_table ["_law_well_here"] (defScope s__law_table) := ⟨rfl, rfl, rfl, by decide +kernel, rfl, by decide +kernel, by decide +kernel⟩
theorem bi__law_table : BindAll "_law_table" "_law_table" s__law_table ["_law_well_here"] := fun _ _ _ _ _ _ => ar_1 (fun _ => rfl)
theorem sc__law_is_whole : FnScope N__law_is_whole ["_law_thing"] (defScope s__law_is_whole) := ⟨rfl, rfl, rfl, by decide +kernel, rfl, by decide +kernel, by decide +kernel⟩
theorem bi__law_is_whole : BindAll "_law_is_whole" "_law_is_whole" s__law_is_whole ["_law_thing"] := fun _ _ _ _ _ _ => ar_1 (fun _ => rfl)
theorem sc__law_is_entry : FnScope N__law_is_entry ["_law_columns", "_law_thing"] (defScope s__law_is_entry) := ⟨rfl, rfl, rfl, by decide +kernel, rfl, by decide +kernel, by decide +kernel⟩
theorem bi__law_is_entry : BindAll "_law_is_entry" "_law_is_entry" s__law_is_entry ["_law_columns", "_law_thing"] := fun _ _ _ _ _ _ => ar_2 (fun _ _ => rfl)
theorem sc__law_due : FnScope N__law_due ["_law_columns", "_law_count", "_law_sheet"] (defScope s__law_due) := ⟨rfl, rfl, rfl, by decide +kernel, rfl, by decide +kernel, by decide +kernel⟩
theorem bi__law_due : BindAll "_law_due" "_law_due" s__law_due ["_law_columns", "_law_count", "_law_sheet"] := fun _ _ _ _ _ _ => ar_3 (fun _ _ _ => rfl)
theorem sc__law_turned : FnScope N__law_turned ["_law_well_here", "_law_columns", "_law_sheet"] (defScope s__law_turned) := ⟨rfl, rfl, rfl, by decide +kernel, rfl, by decide +kernel, by decide +kernel⟩
theorem bi__law_turned : BindAll "_law_turned" "_law_turned" s__law_turned ["_law_well_here", "_law_columns", "_law_sheet"] := fun _ _ _ _ _ _ => ar_3 (fun _ _ _ => rfl)
theorem sc_law : FnScope N_law ["_law_script"] (defScope s_law) := ⟨rfl, rfl, rfl, by decide +kernel, rfl, by decide +kernel, by decide +kernel⟩
theorem bi_law : BindAll "law" "law" s_law ["_law_script"] := fun _ _ _ _ _ _ => ar_1 (fun _ => rfl)
theorem bk_bars_fewer_0 : BindKw "bars_fewer" "bars_fewer" s_bars_fewer ["parts", "many", "paper"] 0 ["paper", "many", "parts"] [2, 1, 0] := fun _ _ _ _ _ _ => ar_0_3 (fun _ _ _ => rfl)
-- tails
def Tol (w : Addr) (o : Option (List Nat)) (d : D) (m : Mu) : Prop := match o with
  | none => d = .non
  | some t => ∃ q, d = .adr q ∧ q ≠ w ∧ m q = some (.lst (natT t))
theorem tol_kp {w : Addr} {o : Option (List Nat)} {d : D} {m m' : Mu} (h : Tol w o d m) (k : Kp [w] m m') : Tol w o d m' := by
  cases o with
  | none => exact h
  | some t =>
    obtain ⟨q, e, n, h⟩ := h
    exact ⟨q, e, n, k q _ (by simpa using n) h⟩
theorem tol_kp0 {w : Addr} {o : Option (List Nat)} {d : D} {m m' : Mu} (h : Tol w o d m) (k : Kp [] m m') : Tol w o d m' := tol_kp h (k.more (by simp))
theorem lots_uni {w : Addr} {m : Mu} {P : DK} {o : Option (List Nat)} {k : Nat} (wl : Wl m w k) (h : ∀ d m', Tol w o d m' → Kp [] m m' → P d m') : oLots m P o := by
  cases o with
  | none => exact h _ _ rfl (Kp.refl _ _)
  | some t => exact fun q hq => h _ _ ⟨q, rfl, fun z => by rw [z] at hq; exact wl.some hq, mset_same⟩ (kp_new hq)
theorem tru_nat {m : Mu} {q : Addr} {t : List Nat} (h : m q = some (.lst (natT t))) : truD m (.adr q) = some (!(natT t).isEmpty) := by
  unfold truD
  dsimp only
  rw [asL_adr h]
theorem t9 {E : DEnds} {o : Option (List Nat)} {tD : D} {w : Addr} {m : Mu} {a0 a1 a2 a3 a4 a6 a8 a11 a12 a13 : Option D} {i : Int} {b : Bool} (ht : Tol w o tD m) (hb : b = true ↔ ∀ t, o = some t → i ≤ t.length) (lt : ∀ t, o = some t → t.length ≤ 100)
    (h : E.nx [a0, a1, a2, a3, a4, some tD, a6, some (.int i), a8, some (.bl b), some (.bl b), a11, a12, a13] m) : T_law_9 E [a0, a1, a2, a3, a4, some tD, a6, some (.int i), a8, some (.bl b), some (.bl b), a11, a12, a13] m := by
  cases o with
  | none =>
    cases ht
    have : b = true := hb.mpr fun _ z => by cases z
    subst this
    walk_at "go"
    exact h
  | some t =>
    obtain ⟨q, rfl, _, hq⟩ := ht
    have l1 := lt t rfl
    have l2 := natT_len t
    have hq2 := asL_adr hq
    have eb : b = decide (i ≤ t.length) := by
      cases b with
      | true => exact (decide_eq_true (hb.mp rfl t rfl)).symm
      | false => exact (decide_eq_false fun z => by cases hb.mpr fun _ e => by cases e; exact z).symm
    subst eb
    by_cases z : i ≤ t.length
    · rw [decide_eq_true z] at h ⊢
      walk_at "go"
      rw [hq2]
      walk_at "go"
      rw [l2, decide_eq_true z]
      walk_at "go"
      exact h
    · rw [decide_eq_false z] at h ⊢
      walk_at "go"
      rw [hq2]
      walk_at "go"
      rw [l2, decide_eq_false z]
      walk_at "go"
      exact h
theorem t12 {E : DEnds} {o : Option (List Nat)} {tD : D} {w : Addr} {m : Mu} {a0 a1 a3 a4 a6 a7 a8 a9 a10 a11 a12 a13 : Option D} {k : Nat} (ht : Tol w o tD m) (wl : Wl m w k) (hk : k + 1 ≤ 1000000000) (lt : ∀ t, o = some t → t.length ≤ 100)
    (h : ∀ c m', CntF c → Kp [w] m m' → Wl m' w (k + 1) → T_law_13 E [a0, a1, some (.adr w), a3, a4, some tD, a6, some c, a8, a9, a10, a11, a12, a13] m') : T_law_12 E [a0, a1, some (.adr w), a3, a4, some tD, a6, a7, a8, a9, a10, a11, a12, a13] m := by
  have fin : ∀ n : Nat, n ≤ 101 → CntF (.int n) := fun n hn => atF_int (Nat.lt_of_le_of_lt (show (n : Int).natAbs ≤ 101 by omega) (by decide))
  have lst : ∀ n : Nat, n ≤ 100 → ∀ d ∈ [D.int (-1), .int 0, .int 1, .int 2, .int 3, .int n, .int ((n : Int) + 1), .bl true, .non, .str (Str.ofString "1")], CntF d := fun n hn d hd => by
    simp only [List.mem_cons, List.not_mem_nil, or_false] at hd
    rcases hd with rfl | rfl | rfl | rfl | rfl | rfl | rfl | rfl | rfl | rfl
    · exact atF_sm (by decide)
    · exact atF_sm (by decide)
    · exact atF_sm (by decide)
    · exact atF_sm (by decide)
    · exact atF_sm (by decide)
    · exact fin n (by omega)
    · exact fin (n + 1) (by omega)
    · exact .inr (.inl ⟨_, rfl⟩)
    · exact .inl rfl
    · exact .inr (.inr (.inr (.inr rfl)))
  cases o with
  | none =>
    cases ht
    walk_at "go"
    exact ⟨w, _, _, rfl, .inl rfl, by simp, by simp, k, wl, hk, fun d m' hd kp wl' => h d m' (lst 0 (by decide) d hd) kp wl'⟩
  | some t =>
    obtain ⟨q, rfl, _, hq⟩ := ht
    have l1 := lt t rfl
    have l2 := natT_len t
    have hq2 := asL_adr hq
    walk_at "go"
    rw [tru_nat hq]
    cases et : (natT t).isEmpty with
    | true =>
      walk_at "go"
      rw [tru_nat hq, et]
      walk_at "go"
      exact ⟨w, _, _, rfl, .inl rfl, by simp, by simp, k, wl, hk, fun d m' hd kp wl' => h d m' (lst 0 (by decide) d hd) kp wl'⟩
    | false =>
      walk_at "go"
      rw [hq2]
      walk_at "go"
      rw [tru_nat hq, et]
      walk_at "go"
      rw [hq2]
      walk_at "go"
      rw [l2]
      exact ⟨w, _, _, rfl, .inl rfl, by simp, by simp, k, wl, hk, fun d m' hd kp wl' => h d m' (lst t.length l1 d hd) kp wl'⟩
/-- the last look at a spoilt paper -/
theorem t17 {E : DEnds} {o : Option (List Nat)} {tD c f : D} {T : List (List Bool)} {n : Nat} {w : Addr} {m : Mu} {a0 a1 a2 a3 a4 a6 a8 a10 a12 : Option D} {b : Bool} (ht : Tol w o tD m) (eo : few T n = o) (lt : ∀ t, o = some t → t.length ≤ 100) (hf : PapE 10000 f) (hb : b = true ↔ DueD T n c f)
    (h : E.nx [a0, a1, a2, a3, a4, some tD, a6, some c, a8, some (.bl b), a10, some f, a12, some (.str (repD f))] m) : T_law_17 E [a0, a1, a2, a3, a4, some tD, a6, some c, a8, some (.bl b), a10, some f, a12, some (.str (repD f))] m := by
  have rf := repF hf
  have df := papE_dat hf
  walk_at "go"
  rw [df]
  refine ⟨rf, ?_⟩
  walk_at "go"
  rw [show (if true = true then !decide (repD f = repD f) else decide (repD f = repD f)) = false by simp]
  cases o with
  | none =>
    cases ht
    walk_at "go"
    exact h
  | some t =>
    obtain ⟨q, rfl, _, hq⟩ := ht
    have hq2 := asL_adr hq
    have l2 := natT_len t
    have l1 := lt t rfl
    cases b with
    | false =>
      walk_at "go"
      exact h
    | true =>
      obtain ⟨i, L, rfl, i0, rfl, d⟩ := hb.mp rfl
      obtain ⟨h1, h2, h3, _⟩ := few_is eo
      have il := due_bars d h2 h3 h1
      walk_at "go"
      rw [hq2]
      walk_at "go"
      rw [l2]
      rw [show decide (i > (t.length : Int)) = false from decide_eq_false (by omega)]
      walk_at "go"
      exact h
theorem t13 {E : DEnds} {o : Option (List Nat)} {tD c f : D} {T : List (List Bool)} {n : Nat} {w : Addr} {m : Mu} {k : Nat} {a0 a1 a4 a6 a8 a9 a10 a12 a13 : Option D} (ok : TabOk T n) (n6 : n ≤ 6) (ht : Tol w o tD m) (wl : Wl m w k) (eo : few T n = o) (lt : ∀ t, o = some t → t.length ≤ 100) (hc : CntF c) (hf : PapE 10000 f)
    (h : ∀ m' x9 x10 x13, Tol w o tD m' → Wl m' w k → E.nx [a0, a1, some (.adr w), some (tabD T), a4, some tD, a6, some c, a8, x9, x10, some f, a12, x13] m') : T_law_13 E [a0, a1, some (.adr w), some (tabD T), a4, some tD, a6, some c, a8, a9, a10, some f, a12, a13] m := by
  have rf := repF hf
  have df := papE_dat hf
  walk_at "go"
  refine ⟨T, n, c, f, rfl, ok, n6, hc, hf, fun b hb => ?_⟩
  walk_at "go"
  rw [df]
  refine ⟨rf, ?_⟩
  walk_at "go"
  refine ⟨T, n, c, f, rfl, ok, n6, hc, hf, fun m1 b1 kp1 hb1 => ?_⟩
  walk_at "go"
  refine ⟨T, n, c, f, rfl, ok, n6, hc, hf, fun m2 b2 kp2 hb2 => ?_⟩
  have e1 : b1 = b := Bool.eq_iff_iff.mpr (hb1.trans hb.symm)
  have e2 : b2 = b := Bool.eq_iff_iff.mpr (hb2.trans hb.symm)
  subst e1
  subst e2
  have ht2 := tol_kp0 (tol_kp0 ht kp1) kp2
  have wl2 := (wl.keep kp1 (by simp)).keep kp2 (by simp)
  have ed : deq (dat m2 (D.lst [D.bl b2, D.bl b2])) (dat m2 (D.lst [D.bl b2, D.bl b2])) = true := by cases b2 <;> rfl
  walk_at "go"
  rw [if_pos rfl, ed]
  show T_law_17 E [a0, a1, some (.adr w), some (tabD T), a4, some tD, a6, some c, a8, some (.bl b2), some (.lst [.bl b2, .bl b2]), some f, a12, some (.str (repD f))] m2
  exact t17 ht2 eo lt hf hb (h _ _ _ _ ht2 wl2)
theorem t11 {E : DEnds} {o : Option (List Nat)} {tD : D} {xs : List D} {T : List (List Bool)} {n : Nat} {w : Addr} {m : Mu} {k : Nat} {a0 a1 a4 a6 a7 a8 a9 a10 a12 a13 : Option D} (ok : TabOk T n) (n6 : n ≤ 6) (ht : Tol w o tD m) (wl : Wl m w k) (hk : k + 20 ≤ 1000000000) (eo : few T n = o) (lt : ∀ t, o = some t → t.length ≤ 100) (hf : PapE 1957 (.lst xs))
    (h : ∀ m' x7 x9 x10 x11 x12 x13 k', k' ≤ k + 20 → Tol w o tD m' → Wl m' w k' → E.nx [a0, a1, some (.adr w), some (tabD T), a4, some tD, a6, x7, a8, x9, x10, x11, x12, x13] m') : T_law_11 E [a0, a1, some (.adr w), some (tabD T), a4, some tD, a6, a7, a8, a9, a10, some (.lst xs), a12, a13] m := by
  walk_at "go"
  refine ⟨w, 2, rfl, by decide, by decide, k, wl, by omega, fun d m1 hd kp wl1 => ?_⟩
  obtain ⟨r, r0, r2, rfl⟩ := hd
  have ht1 := tol_kp ht kp
  have rl : (rangeD 0 (1 + r).toNat).length ≤ 2 := by rw [rg_len7]; omega
  walk_at "go"
  generalize hR : rangeD 0 (1 + r).toNat = R at rl ⊢
  refine loop_inv (fun i δ m' => ∃ k' f x12, k' ≤ k + 1 + 5 * i ∧ Tol w o tD m' ∧ Wl m' w k' ∧ PapE (1958 * 2 ^ i - 1) f ∧ δ = [a0, a1, some (.adr w), some (tabD T), a4, some tD, a6, a7, a8, a9, a10, some f, x12, a13]) (fun i d δ m' ei hh => ?_) (fun δ m' hh => ?_) ⟨k + 1, _, _, by omega, ht1, wl1, hf, rfl⟩
  · obtain ⟨k', f, x12, hk', ht', wl', hf', rfl⟩ := hh
    have il : i < 2 := by
      have := (List.getElem?_eq_some_iff.mp ei).1
      omega
    have ib : 1958 * 2 ^ i - 1 ≤ 16000 ∧ 2 * (1958 * 2 ^ i - 1) + 1 = 1958 * 2 ^ (i + 1) - 1 := by
      rcases (show i = 0 ∨ i = 1 by omega) with rfl | rfl <;> exact ⟨by decide, by decide⟩
    refine ⟨trivial, fun Nx k1 => ?_⟩
    rcases hf' with ⟨ys, rfl | rfl, ly, hy⟩ | rfl | rfl | rfl
    · walk_at "go"
      refine ⟨w, _, ys, _, rfl, ly, ib.1, hy, k', wl', by omega, fun f2 m2 hf2 kp2 wl2 => ?_⟩
      walk_at "go"
      refine k1 _ _ ⟨k' + 5, f2, _, by omega, tol_kp ht' kp2, wl2, ?_, rfl⟩
      rw [← ib.2]
      exact hf2
    · have hf3 : PapE (1958 * 2 ^ (i + 1) - 1) (.tup ys) := .inl ⟨ys, .inr rfl, by omega, hy⟩
      walk_at "go"
      exact k1 _ _ ⟨k', _, _, by omega, ht', wl', hf3, rfl⟩
    · walk_at "go"
      exact k1 _ _ ⟨k', _, _, by omega, ht', wl', .inr (.inl rfl), rfl⟩
    · walk_at "go"
      exact k1 _ _ ⟨k', _, _, by omega, ht', wl', .inr (.inr (.inl rfl)), rfl⟩
    · walk_at "go"
      exact k1 _ _ ⟨k', _, _, by omega, ht', wl', .inr (.inr (.inr rfl)), rfl⟩
  · obtain ⟨k', f, x12, hk', ht', wl', hf', rfl⟩ := hh
    refine ⟨trivial, ?_⟩
    have hf3 : PapE 10000 f := papE_mono hf' (by
      rcases (show R.length = 0 ∨ R.length = 1 ∨ R.length = 2 by omega) with e | e | e <;> rw [e] <;> decide)
    show T_law_12 E [a0, a1, some (.adr w), some (tabD T), a4, some tD, a6, a7, a8, a9, a10, some f, x12, a13] m'
    refine t12 ht' wl' (by omega) lt fun c m2 hc kp2 wl2 => ?_
    exact t13 ok n6 (tol_kp ht' kp2) wl2 eo lt hc hf3 fun m3 x9 x10 x13 ht3 wl3 => h _ _ _ _ _ _ _ _ (by omega) ht3 wl3
theorem rest7 {E : DEnds} {o : Option (List Nat)} {tD : D} {L : List En} {T : List (List Bool)} {n : Nat} {w : Addr} {m : Mu} {k : Nat} {a0 a1 a7 a8 a9 a10 a11 a12 a13 : Option D} (ok : TabOk T n) (n6 : n ≤ 6) (ht : Tol w o tD m) (wl : Wl m w k) (hk : k + 200 ≤ 1000000000) (eo : few T n = o) (lt : ∀ t, o = some t → t.length ≤ 100) (papL : PapE 1957 (.lst (L.map enT))) (pf : PapF T n L)
    (h : ∀ m' x7 x8 x9 x10 x11 x12 x13, E.nx [a0, a1, some (.adr w), some (tabD T), some (.str (repD (tabD T))), some tD, some (.lst (L.map enT)), x7, x8, x9, x10, x11, x12, x13] m') : T_law_7 E [a0, a1, some (.adr w), some (tabD T), some (.str (repD (tabD T))), some tD, some (.lst (L.map enT)), a7, a8, a9, a10, a11, a12, a13] m := by
  have due0 : ∀ i : Int, DueD T n (.int i) (.lst (L.map enT)) ↔ 0 ≤ i ∧ ∀ t, o = some t → i ≤ t.length := fun i => by
    rw [← eo]
    constructor
    · rintro ⟨j, L', e1, j0, e2, d⟩
      cases e1
      injection e2 with e2
      rw [← ents_inj e2] at d
      exact ⟨j0, (pap_due pf i).mp d⟩
    · rintro ⟨i0, i1⟩
      exact ⟨i, L, rfl, i0, rfl, (pap_due pf i).mpr i1⟩
  have pap3 := papE_mono papL (show 1957 ≤ 10000 by decide)
  walk_at "go"
  refine loop_inv (fun i δ m' => ∃ x7 x9 x10, Tol w o tD m' ∧ Wl m' w k ∧ δ = [a0, a1, some (.adr w), some (tabD T), some (.str (repD (tabD T))), some tD, some (.lst (L.map enT)), x7, a8, x9, x10, a11, a12, a13]) (fun i d δ m' ei hh => ?_) (fun δ m' hh => ?_) ⟨_, _, _, ht, wl, rfl⟩
  · obtain ⟨x7, x9, x10, ht', wl', rfl⟩ := hh
    obtain ⟨hi, rfl⟩ := rg_get7 ei
    have i9 : i < 9 := hi
    refine ⟨trivial, fun Nx k1 => ?_⟩
    walk_at "go"
    refine ⟨T, n, _, _, rfl, ok, n6, atF_int (Nat.lt_of_le_of_lt (show ((0 : Int) + (i : Int)).natAbs ≤ 9 by omega) (by decide)), pap3, fun b hb => ?_⟩
    walk_at "go"
    refine ⟨T, n, _, _, rfl, ok, n6, atF_int (Nat.lt_of_le_of_lt (show ((0 : Int) + (i : Int)).natAbs ≤ 9 by omega) (by decide)), pap3, fun m2 b2 kp2 hb2 => ?_⟩
    have e2 : b2 = b := Bool.eq_iff_iff.mpr (hb2.trans hb.symm)
    subst e2
    have ht2 := tol_kp0 ht' kp2
    have wl2 := wl'.keep kp2 (by simp)
    show T_law_9 _ [a0, a1, some (.adr w), some (tabD T), some (.str (repD (tabD T))), some tD, some (.lst (L.map enT)), some (.int (0 + (i : Int))), a8, some (.bl b2), some (.bl b2), a11, a12, a13] m2
    refine t9 ht2 ((hb.trans (due0 _)).trans ⟨fun z => z.2, fun z => ⟨by omega, z⟩⟩) lt ?_
    exact k1 _ _ ⟨_, _, _, ht2, wl2, rfl⟩
  · obtain ⟨x7, x9, x10, ht', wl', rfl⟩ := hh
    refine ⟨trivial, ?_⟩
    walk_at "go"
    refine loop_inv (fun i δ m' => ∃ k' x7 x8 x9 x10 x11 x12 x13, k' ≤ k + 20 * i ∧ Tol w o tD m' ∧ Wl m' w k' ∧ δ = [a0, a1, some (.adr w), some (tabD T), some (.str (repD (tabD T))), some tD, some (.lst (L.map enT)), x7, x8, x9, x10, x11, x12, x13]) (fun i d δ m' ei hh => ?_) (fun δ m' hh => ?_) ⟨k, _, _, _, _, _, _, _, by omega, ht', wl', rfl⟩
    · obtain ⟨k', x7, x8, x9, x10, x11, x12, x13, hk', ht', wl', rfl⟩ := hh
      obtain ⟨hi, rfl⟩ := rg_get7 ei
      have i5 : i < 5 := hi
      refine ⟨trivial, fun Nx k1 => ?_⟩
      show T_law_11 _ [a0, a1, some (.adr w), some (tabD T), some (.str (repD (tabD T))), some tD, some (.lst (L.map enT)), x7, some (.int (0 + (i : Int))), x9, x10, some (.lst (L.map enT)), x12, x13] m'
      exact t11 ok n6 ht' wl' (by omega) eo lt papL fun m2 y7 y9 y10 y11 y12 y13 k2 hk2 ht2 wl2 => k1 _ _ ⟨k2, _, _, _, _, _, _, _, by omega, ht2, wl2, rfl⟩
    · obtain ⟨k', x7, x8, x9, x10, x11, x12, x13, hk', ht', wl', rfl⟩ := hh
      refine ⟨trivial, ?_⟩
      walk_at "go"
      refine ⟨rep_tab ok, ?_⟩
      walk_at "go"
      rw [show (if true = true then !decide (repD (dat m' (tabD T)) = repD (tabD T)) else decide (repD (dat m' (tabD T)) = repD (tabD T))) = false by rw [show dat m' (tabD T) = tabD T from rfl]; simp]
      walk_at "go"
      exact h _ _ _ _ _ _ _ _
theorem t6 {E : DEnds} {o : Option (List Nat)} {tD : D} {L : List En} {T : List (List Bool)} {n : Nat} {w : Addr} {m : Mu} {a0 a1 a2 a4 a7 a8 a9 a10 a11 a12 a13 : Option D} (ok : TabOk T n) (n6 : n ≤ 6) (ht : Tol w o tD m) (eo : few T n = o) (lt : ∀ t, o = some t → t.length ≤ 100) (papL : PapE 1957 (.lst (L.map enT))) (pf : PapF T n L)
    (h : T_law_7 E [a0, a1, a2, some (tabD T), a4, some tD, some (.lst (L.map enT)), a7, a8, a9, a10, a11, a12, a13] m) : T_law_6 E [a0, a1, a2, some (tabD T), a4, some tD, some (.lst (L.map enT)), a7, a8, a9, a10, a11, a12, a13] m := by
  have pap3 := papE_mono papL (show 1957 ≤ 10000 by decide)
  have due : ∀ i : Int, 0 ≤ i → (∀ t, o = some t → i ≤ t.length) → DueD T n (.int i) (.lst (L.map enT)) := fun i i0 i1 => ⟨i, L, rfl, i0, rfl, (pap_due pf i).mpr (by rw [eo]; exact i1)⟩
  have fin : ∀ n : Nat, n ≤ 101 → CntF (.int n) := fun n hn => atF_int (Nat.lt_of_le_of_lt (show (n : Int).natAbs ≤ 101 by omega) (by decide))
  have tt : ∀ {b : Bool} {P : Prop}, (b = true ↔ P) → P → b = true := fun h p => h.mpr p
  cases o with
  | none =>
    cases ht
    walk_at "go"
    refine ⟨T, n, _, _, rfl, ok, n6, fin 100 (by decide), pap3, fun b hb => ?_⟩
    rw [tt hb (due 100 (by decide) fun _ z => by cases z)]
    exact h
  | some t =>
    obtain ⟨q, rfl, _, hq⟩ := ht
    have l1 := lt t rfl
    have l2 := natT_len t
    have hq2 := asL_adr hq
    walk_at "go"
    rw [tru_nat hq]
    cases et : (natT t).isEmpty with
    | true =>
      have t0 : t.length = 0 := by rw [← l2]; exact List.length_eq_zero_iff.mpr (List.isEmpty_iff.mp et)
      walk_at "go"
      refine ⟨T, n, _, _, rfl, ok, n6, fin 0 (by decide), pap3, fun b hb => ?_⟩
      rw [tt hb (due 0 (by decide) fun t' e => by omega)]
      exact h
    | false =>
      walk_at "go"
      rw [hq2]
      walk_at "go"
      rw [l2]
      refine ⟨T, n, _, _, rfl, ok, n6, fin t.length (by omega), pap3, fun b hb => ?_⟩
      rw [tt hb (due t.length (by omega) fun t' e => by cases e; exact Int.le_refl _)]
      exact h
theorem ln_law : ∀ ds m Q PX, spLaw ds m Q PX → ds.length = 1 := by rintro ds m Q PX ⟨d, rfl, _⟩; rfl
theorem pu_law : ∀ ds m Q PX, spLaw ds m Q PX → rd_law (dEnds Q PX) (dstart N_law ds) m := by
  rintro ds m Q PX ⟨ns, rfl, hn, h⟩
  walk_at "go"
  refine ⟨ns, 0, rfl, fun c0 => ?_⟩
  have hcut := cut_len7 (ns.map D.int) (some 1) (some 9)
  have lns : (ns.map D.int).length = ns.length := List.length_map _
  walk_at "go"
  refine loop_inv (fun i δ m' => ∃ a1 a2 a3 a4 a5 a6 a7 a8 a9 a10 a11 a12 a13, δ = [some (.lst (ns.map .int)), a1, a2, a3, a4, a5, a6, a7, a8, a9, a10, a11, a12, a13]) (fun i d δ m' e hh => ?_) (fun δ m' hh => ⟨trivial, h _⟩) ⟨_, _, _, _, _, _, _, _, _, _, _, _, _, rfl⟩
  obtain ⟨a1, a2, a3, a4, a5, a6, a7, a8, a9, a10, a11, a12, a13, rfl⟩ := hh
  obtain ⟨c, rfl⟩ := cells d (List.mem_of_getElem? e)
  refine ⟨trivial, fun Nx k1 => ?_⟩
  walk_at "go"
  refine ⟨c, rfl, fun w m1 hw kp1 w1 => ?_⟩
  walk_at "go"
  refine ⟨w, rfl, _, w1, by decide, fun d m2 hd kp2 w2 => ?_⟩
  obtain ⟨T, n, rfl, ok, n6, T6⟩ := hd
  have rt := rep_tab ok
  have et : ∀ m, dat m (tabD T) = tabD T := fun m => rfl
  walk_at "go"
  have lt : ∀ t, few T n = some t → t.length ≤ 100 := fun t e => by obtain ⟨_, _, _, z⟩ := few_is e; omega
  refine ⟨T, n, rfl, ok, lots_uni w2 fun tD m3 ht kp3 => ?_⟩
  walk_at "go"
  refine ⟨T, n, rfl, ok, n6, fun m4 L kp4 lL pf => ?_⟩
  have okL : ∀ e ∈ L, EntOk T n e := (pf 0 fun _ _ => by omega).ok
  have papL : PapE 1957 (.lst (L.map enT)) := .inl ⟨_, .inl rfl, by rw [List.length_map]; omega, fun x hx => by
    obtain ⟨e, he, rfl⟩ := List.mem_map.mp hx
    exact ent_itm ok (okL e he)⟩
  have ht4 := tol_kp0 ht kp4
  have w4 := (w2.keep kp3 (by simp)).keep kp4 (by simp)
  show T_law_6 _ [some (.lst (ns.map .int)), some (.int c), some (.adr w), some (tabD T), some (.str (repD (tabD T))), some tD, some (.lst (L.map enT)), a7, a8, a9, a10, a11, a12, a13] m4
  refine t6 ok n6 ht4 rfl lt papL pf ?_
  exact rest7 ok n6 ht4 w4 (by omega) rfl lt papL pf fun m' x7 x8 x9 x10 x11 x12 x13 => k1 _ _ ⟨_, _, _, _, _, _, _, _, _, _, _, _, _, rfl⟩
section
variable {P : Program} {w : World} {K : PySem.W.Frag} {mg : Str → Option Value} {base : Heap}
theorem ok_is_whole (T : Tx w K mg) : DefOk P w K mg base 1 "is_whole" "is_whole" s_is_whole ["thing"] sp_is_whole := by
  refine def_ok (r := rd_is_whole) T.f_is_whole sc_is_whole ln_is_whole (fun f cdv A outer s H E hr => ?_) pu_is_whole
  have tk : Takes (cxOf (L2.CX P w) P w K mg base N_is_whole "is_whole" (defScope s_is_whole) f cdv A outer s H E) (fun c d _ H => E c d H) := takes_of rfl rfl rfl rfl
  exact dss_one (ds_ret (pd_and (pd_isi T.b_isinstance bb_isinstance (da_cons (pd_v 0) (da_cons (pd_ty T.b_int bb_int) (da_nil)))) (pd_one (pd_not (pd_isi T.b_isinstance bb_isinstance (da_cons (pd_v 0) (da_cons (pd_ty T.b_bool bb_bool) (da_nil))))))))
theorem ok_is_parted (T : Tx w K mg) : DefOk P w K mg base 1 "is_parted" "is_parted" s_is_parted ["column", "chosen"] sp_is_parted := by
  refine def_ok (r := rd_is_parted) T.f_is_parted sc_is_parted ln_is_parted (fun f cdv A outer s H E hr => ?_) pu_is_parted
  have tk : Takes (cxOf (L2.CX P w) P w K mg base N_is_parted "is_parted" (defScope s_is_parted) f cdv A outer s H E) (fun c d _ H => E c d H) := takes_of rfl rfl rfl rfl
  exact dss_one (ds_ret (pd_any rfl T.b_any bb_any (da_cons (pd_lc rfl sc_is_parted.nd (di_any (pd_v 1)) (blkOk_by (own := [("row", 2)]) (N := N_is_parted) (sc := defScope s_is_parted) (by decide +kernel)) (gN_ok) rfl (fun _ _ _ _ _ => pg_name (i := 2) sc_is_parted.nd rfl (by first | exact Or.inl rfl | exact Or.inr rfl)) (fun _ _ _ _ _ => dts_nil) (fun _ _ _ _ _ => pd_ix (pd_v 0) (pd_v 2))) (da_nil))))
theorem ok_not_parted (T : Tx w K mg) (G_is_parted : DefOk P w K mg base 1 "is_parted" "is_parted" s_is_parted ["column", "chosen"] sp_is_parted) : DefOk P w K mg base 2 "not_parted" "not_parted" s_not_parted ["parts", "chosen"] sp_not_parted := by
  refine def_ok (r := rd_not_parted) T.f_not_parted sc_not_parted ln_not_parted (fun f cdv A outer s H E hr => ?_) pu_not_parted
  have tk : Takes (cxOf (L2.CX P w) P w K mg base N_not_parted "not_parted" (defScope s_not_parted) f cdv A outer s H E) (fun c d _ H => E c d H) := takes_of rfl rfl rfl rfl
  exact dss_cons (ds_for (passes_of rfl) rfl (di_enum T.b_enumerate (da_cons (pd_v 0) (da_nil))) (pg_tup rfl (dgs_cons (pg_name (i := 2) sc_not_parted.nd rfl (by first | exact Or.inl rfl | exact Or.inr rfl)) (dgs_cons (pg_name (i := 3) sc_not_parted.nd rfl (by first | exact Or.inl rfl | exact Or.inr rfl)) (dgs_nil)))) (gT_ok (js := [2, 3])) (dss_one (ds_if (dt_not (dt_tru (pd_callD G_is_parted bi_is_parted (hr.mono (by decide)) tk (da_cons (pd_v 3) (da_cons (pd_v 1) (da_nil)))))) (dss_one (ds_ret (pd_v 2))) (dss_nil))))
    (dss_one (ds_ret (pd_non)))
theorem ok_lots_of (T : Tx w K mg) : DefOk P w K mg base 1 "lots_of" "lots_of" s_lots_of ["many", "size"] sp_lots_of := by
  refine def_ok (r := rd_lots_of) T.f_lots_of sc_lots_of ln_lots_of (fun f cdv A outer s H E hr => ?_) pu_lots_of
  have tk : Takes (cxOf (L2.CX P w) P w K mg base N_lots_of "lots_of" (defScope s_lots_of) f cdv A outer s H E) (fun c d _ H => E c d H) := takes_of rfl rfl rfl rfl
  exact dss_cons (ds_set (i := 2) sc_lots_of.nd (pd_lst (da_cons (pd_tup (da_nil)) (da_nil))))
    (dss_cons (ds_for (passes_of rfl) rfl (di_range T.b_range (da_cons (pd_v 1) (da_nil))) (pg_name (i := 3) sc_lots_of.nd rfl (by first | exact Or.inl rfl | exact Or.inr rfl)) (gN_ok) (dss_one (ds_setLc2 (i := 2) rfl sc_lots_of.nd (sw_true rfl rfl rfl (by decide +kernel)) (di_any (pd_v 2)) (blkOk_by (own := [("one", 4), ("row", 5)]) (N := N_lots_of) (sc := defScope s_lots_of) (by decide +kernel)) (gN_ok) (gN_ok) rfl (fun _ _ _ _ _ => pg_name (i := 4) sc_lots_of.nd rfl (by first | exact Or.inl rfl | exact Or.inr rfl)) (fun _ _ _ _ _ => dts_nil) (fun _ _ _ _ _ => di_range T.b_range (da_cons (pd_v 0) (da_nil))) (fun _ _ _ _ _ => pg_name (i := 5) sc_lots_of.nd rfl (by first | exact Or.inl rfl | exact Or.inr rfl)) (fun _ _ _ _ _ => dts_one (PW.pt (dw_or (dt_eq hr.units (pd_v 4) (pd_tup (da_nil))) (dw_or1 (dt_gt (pd_v 5) (pd_ix (pd_v 4) (pd_neg (pd_int)))))))) (fun _ _ _ _ _ => pd_add (pd_v 4) (pd_tup (da_cons (pd_v 5) (da_nil)))))))
    (dss_one (ds_ret (pd_v 2))))
theorem ok_fewest (T : Tx w K mg) (G_not_parted : DefOk P w K mg base 2 "not_parted" "not_parted" s_not_parted ["parts", "chosen"] sp_not_parted) (G_lots_of : DefOk P w K mg base 1 "lots_of" "lots_of" s_lots_of ["many", "size"] sp_lots_of) : DefOk P w K mg base 3 "fewest" "fewest" s_fewest ["parts"] sp_fewest := by
  refine def_ok (r := rd_fewest) T.f_fewest sc_fewest ln_fewest (fun f cdv A outer s H E hr => ?_) pu_fewest
  have tk : Takes (cxOf (L2.CX P w) P w K mg base N_fewest "fewest" (defScope s_fewest) f cdv A outer s H E) (fun c d _ H => E c d H) := takes_of rfl rfl rfl rfl
  exact dss_cons (ds_set (i := 1) sc_fewest.nd (pd_maxD rfl T.b_max bb_max (da_cons (pd_lc rfl sc_fewest.nd (di_any (pd_v 0)) (blkOk_by (own := [("column", 4)]) (N := N_fewest) (sc := defScope s_fewest) (by decide +kernel)) (gN_ok) rfl (fun _ _ _ _ _ => pg_name (i := 4) sc_fewest.nd rfl (by first | exact Or.inl rfl | exact Or.inr rfl)) (fun _ _ _ _ _ => dts_nil) (fun _ _ _ _ _ => pd_len T.b_len bb_len (da_cons (pd_v 4) (da_nil)))) (da_nil)) (dk_cons (pd_int) (dk_nil))))
    (dss_cons (ds_for (passes_of rfl) rfl (di_range T.b_range (da_cons (pd_add (pd_v 1) (pd_int)) (da_nil))) (pg_name (i := 2) sc_fewest.nd rfl (by first | exact Or.inl rfl | exact Or.inr rfl)) (gN_ok) (dss_one (ds_for (passes_of rfl) rfl (di_any (pd_callD G_lots_of bi_lots_of (hr.mono (by decide)) tk (da_cons (pd_v 1) (da_cons (pd_v 2) (da_nil))))) (pg_name (i := 3) sc_fewest.nd rfl (by first | exact Or.inl rfl | exact Or.inr rfl)) (gN_ok) (dss_one (ds_if (dt_isN (pd_callD G_not_parted bi_not_parted (hr.mono (by decide)) tk (da_cons (pd_v 0) (da_cons (pd_v 3) (da_nil)))) (pd_non)) (dss_one (ds_ret (pd_listOfM T.b_list bb_list (da_cons (pd_v 3) (da_nil))))) (dss_nil))))))
    (dss_one (ds_ret (pd_non))))
theorem ok_with_row (T : Tx w K mg) : DefOk P w K mg base 1 "with_row" "with_row" s_with_row ["chosen", "row"] sp_with_row := by
  refine def_ok (r := rd_with_row) T.f_with_row sc_with_row ln_with_row (fun f cdv A outer s H E hr => ?_) pu_with_row
  have tk : Takes (cxOf (L2.CX P w) P w K mg base N_with_row "with_row" (defScope s_with_row) f cdv A outer s H E) (fun c d _ H => E c d H) := takes_of rfl rfl rfl rfl
  exact dss_one (ds_ret (pd_tupleOf T.b_tuple bb_tuple (da_cons (pd_srtTI T.b_sorted bb_sorted (da_cons (pd_add (pd_v 0) (pd_tup (da_cons (pd_v 1) (da_nil)))) (da_nil))) (da_nil))))
theorem ok_grown_by (T : Tx w K mg) (G_with_row : DefOk P w K mg base 1 "with_row" "with_row" s_with_row ["chosen", "row"] sp_with_row) : DefOk P w K mg base 2 "grown_by" "grown_by" s_grown_by ["parts", "chosen", "at"] sp_grown_by := by
  refine def_ok (r := rd_grown_by) T.f_grown_by sc_grown_by ln_grown_by (fun f cdv A outer s H E hr => ?_) pu_grown_by
  have tk : Takes (cxOf (L2.CX P w) P w K mg base N_grown_by "grown_by" (defScope s_grown_by) f cdv A outer s H E) (fun c d _ H => E c d H) := takes_of rfl rfl rfl rfl
  exact dss_one (ds_ret (pd_lc rfl sc_grown_by.nd (di_enum T.b_enumerate (da_cons (pd_ix (pd_v 0) (pd_v 2)) (da_nil))) (blkOk_by (own := [("row", 3), ("is_true", 4)]) (N := N_grown_by) (sc := defScope s_grown_by) (by decide +kernel)) (gT_ok (js := [3, 4])) rfl (fun _ _ _ _ _ => pg_tup rfl (dgs_cons (pg_name (i := 3) sc_grown_by.nd rfl (by first | exact Or.inl rfl | exact Or.inr rfl)) (dgs_cons (pg_name (i := 4) sc_grown_by.nd rfl (by first | exact Or.inl rfl | exact Or.inr rfl)) (dgs_nil)))) (fun _ _ _ _ _ => dts_one (dt_tru (pd_v 4))) (fun _ _ _ _ _ => pd_callD G_with_row bi_with_row (hr.mono (by decide)) takes0 (da_cons (pd_v 1) (da_cons (pd_v 3) (da_nil))))))
theorem ok_fewest_paper (T : Tx w K mg) (G_not_parted : DefOk P w K mg base 2 "not_parted" "not_parted" s_not_parted ["parts", "chosen"] sp_not_parted) (G_fewest : DefOk P w K mg base 3 "fewest" "fewest" s_fewest ["parts"] sp_fewest) (G_grown_by : DefOk P w K mg base 2 "grown_by" "grown_by" s_grown_by ["parts", "chosen", "at"] sp_grown_by) : DefOk P w K mg base 4 "fewest_paper" "fewest_paper" s_fewest_paper ["parts"] sp_fewest_paper := by
  refine def_ok (r := rd_fewest_paper) T.f_fewest_paper sc_fewest_paper ln_fewest_paper (fun f cdv A outer s H E hr => ?_) pu_fewest_paper
  have tk : Takes (cxOf (L2.CX P w) P w K mg base N_fewest_paper "fewest_paper" (defScope s_fewest_paper) f cdv A outer s H E) (fun c d _ H => E c d H) := takes_of rfl rfl rfl rfl
  exact dss_cons (ds_set (i := 1) sc_fewest_paper.nd (pd_callD G_fewest bi_fewest (hr.mono (by decide)) tk (da_cons (pd_v 0) (da_nil))))
    (dss_cons (ds_if (dt_isN (pd_v 1) (pd_non)) (dss_one (ds_ret (pd_lst (da_cons (pd_tup (da_cons (pd_tup (da_nil)) (da_cons (pd_idx (pd_lc rfl sc_fewest_paper.nd (di_any (pd_v 0)) (blkOk_by (own := [("column", 6)]) (N := N_fewest_paper) (sc := defScope s_fewest_paper) (by decide +kernel)) (gN_ok) rfl (fun _ _ _ _ _ => pg_name (i := 6) sc_fewest_paper.nd rfl (by first | exact Or.inl rfl | exact Or.inr rfl)) (fun _ _ _ _ _ => dts_nil) (fun _ _ _ _ _ => pd_any rfl T.b_any bb_any (da_cons (pd_v 6) (da_nil)))) (pd_bl)) (da_nil)))) (da_nil))))) (dss_nil))
    (dss_cons (ds_set (i := 2) sc_fewest_paper.nd (pd_newG))
    (dss_cons (ds_set (i := 3) sc_fewest_paper.nd (pd_mulQ (pd_lst (da_cons (pd_tup (da_nil)) (da_nil))) (pd_min rfl T.b_min bb_min (da_cons (pd_len T.b_len bb_len (da_cons (pd_v 1) (da_nil))) (da_cons (pd_int) (da_nil))))))
    (dss_cons (ds_while (passes_of rfl) (dt_ne hr.units (pd_v 3) (pd_lst (da_nil))) (dss_cons (ds_star rfl (pd_v 3) (pg_name (i := 4) sc_fewest_paper.nd rfl (by first | exact Or.inl rfl | exact Or.inr rfl)) (pg_name (i := 3) sc_fewest_paper.nd rfl (by first | exact Or.inl rfl | exact Or.inr rfl)))
    (dss_cons (ds_setG (room8 hr) (pd_callD G_not_parted bi_not_parted (hr.mono (by decide)) tk (da_cons (pd_v 0) (da_cons (pd_v 4) (da_nil)))) (pd_v 2) (pd_v 4))
    (dss_one (ds_if (dt_lt (pd_len T.b_len bb_len (da_cons (pd_v 4) (da_nil))) (pd_sub (pd_len T.b_len bb_len (da_cons (pd_v 1) (da_nil))) (pd_int))) (dss_one (ds_set (i := 3) sc_fewest_paper.nd (pd_add (pd_v 3) (pd_lc rfl sc_fewest_paper.nd (di_any (pd_callD G_grown_by bi_grown_by (hr.mono (by decide)) tk (da_cons (pd_v 0) (da_cons (pd_v 4) (da_cons (pd_getG (room8 hr) (pd_v 2) (pd_v 4)) (da_nil)))))) (blkOk_by (own := [("one", 5)]) (N := N_fewest_paper) (sc := defScope s_fewest_paper) (by decide +kernel)) (gN_ok) rfl (fun _ _ _ _ _ => pg_name (i := 5) sc_fewest_paper.nd rfl (by first | exact Or.inl rfl | exact Or.inr rfl)) (fun _ _ _ _ _ => dts_one (dt_notInG (room8 hr) (pd_v 5) (pd_v 2))) (fun _ _ _ _ _ => pd_v 5))))) (dss_nil))))))
    (dss_one (ds_ret (pd_srtIG (units65 hr) rfl T.b_sorted bb_sorted (pd_v 2))))))))
theorem ok_are_rising (T : Tx w K mg) (G_is_whole : DefOk P w K mg base 1 "is_whole" "is_whole" s_is_whole ["thing"] sp_is_whole) : DefOk P w K mg base 2 "are_rising" "are_rising" s_are_rising ["rows", "many"] sp_are_rising_v3 := by
  refine def_ok (r := rd_are_rising_v3) T.f_are_rising sc_are_rising ln_are_rising_v3 (fun f cdv A outer s H E hr => ?_) pu_are_rising_v3
  have tk : Takes (cxOf (L2.CX P w) P w K mg base N_are_rising "are_rising" (defScope s_are_rising) f cdv A outer s H E) (fun c d _ H => E c d H) := takes_of rfl rfl rfl rfl
  exact dss_cons (ds_if (dt_not (dt_tru (pd_all rfl T.b_all bb_all (da_cons (pd_lc rfl sc_are_rising.nd (di_any (pd_v 0)) (blkOk_by (own := [("row", 2)]) (N := N_are_rising) (sc := defScope s_are_rising) (by decide +kernel)) (gN_ok) rfl (fun _ _ _ _ _ => pg_name (i := 2) sc_are_rising.nd rfl (by first | exact Or.inl rfl | exact Or.inr rfl)) (fun _ _ _ _ _ => dts_nil) (fun _ _ _ _ _ => pd_and (pd_callD G_is_whole bi_is_whole (hr.mono (by decide)) takes0 (da_cons (pd_v 2) (da_nil))) (pd_one (pd_chain op_le op_lt le_ok lt_ok (pd_int) (pd_v 2) (pd_v 1))))) (da_nil))))) (dss_one (ds_ret (pd_bl))) (dss_nil))
    (dss_one (ds_ret (pd_all rfl T.b_all bb_all (da_cons (pd_lc rfl sc_are_rising.nd (di_zip T.b_zip (da_cons (pd_v 0) (da_cons (pd_sl (pd_v 0) (dp_some (pd_int)) dp_none) (da_nil)))) (blkOk_by (own := [("one", 3), ("other", 4)]) (N := N_are_rising) (sc := defScope s_are_rising) (by decide +kernel)) (gT_ok (js := [3, 4])) rfl (fun _ _ _ _ _ => pg_tup rfl (dgs_cons (pg_name (i := 3) sc_are_rising.nd rfl (by first | exact Or.inl rfl | exact Or.inr rfl)) (dgs_cons (pg_name (i := 4) sc_are_rising.nd rfl (by first | exact Or.inl rfl | exact Or.inr rfl)) (dgs_nil)))) (fun _ _ _ _ _ => dts_nil) (fun _ _ _ _ _ => pd_lt (pd_v 3) (pd_v 4))) (da_nil)))))
theorem ok_is_entry (T : Tx w K mg) (G_is_whole : DefOk P w K mg base 1 "is_whole" "is_whole" s_is_whole ["thing"] sp_is_whole) (G_is_parted : DefOk P w K mg base 1 "is_parted" "is_parted" s_is_parted ["column", "chosen"] sp_is_parted) (G_are_rising : DefOk P w K mg base 2 "are_rising" "are_rising" s_are_rising ["rows", "many"] sp_are_rising_v3) : DefOk P w K mg base 3 "is_entry" "is_entry" s_is_entry ["parts", "thing"] sp_is_entry := by
  refine def_ok (r := rd_is_entry) T.f_is_entry sc_is_entry ln_is_entry (fun f cdv A outer s H E hr => ?_) pu_is_entry
  have tk : Takes (cxOf (L2.CX P w) P w K mg base N_is_entry "is_entry" (defScope s_is_entry) f cdv A outer s H E) (fun c d _ H => E c d H) := takes_of rfl rfl rfl rfl
  exact dss_cons (ds_if (PW.pt (dw_or (dt_not (dt_tru (pd_isi T.b_isinstance bb_isinstance (da_cons (pd_v 1) (da_cons (pd_ty T.b_tuple bb_tuple) (da_nil)))))) (dw_or (dt_ne hr.units (pd_len T.b_len bb_len (da_cons (pd_v 1) (da_nil))) (pd_int)) (dw_or1 (dt_not (dt_tru (pd_isi T.b_isinstance bb_isinstance (da_cons (pd_ix (pd_v 1) (pd_int)) (da_cons (pd_ty T.b_tuple bb_tuple) (da_nil)))))))))) (dss_one (ds_ret (pd_bl))) (dss_nil))
    (dss_cons (ds_tup (pd_v 1) (pg_tup rfl (dgs_cons (pg_name (i := 2) sc_is_entry.nd rfl (by first | exact Or.inl rfl | exact Or.inr rfl)) (dgs_cons (pg_name (i := 3) sc_is_entry.nd rfl (by first | exact Or.inl rfl | exact Or.inr rfl)) (dgs_nil)))) (gT_ok (js := [2, 3])))
    (dss_cons (ds_if (PW.pt (dw_or (dt_not (dt_tru (pd_callD G_is_whole bi_is_whole (hr.mono (by decide)) tk (da_cons (pd_v 3) (da_nil))))) (dw_or (dt_not (dt_chain op_le op_lt le_ok lt_ok (pd_int) (pd_v 3) (pd_len T.b_len bb_len (da_cons (pd_v 0) (da_nil))))) (dw_or1 (dt_not (dt_tru (pd_callD G_are_rising bi_are_rising (hr.mono (by decide)) tk (da_cons (pd_v 2) (da_cons (pd_len T.b_len bb_len (da_cons (pd_ix (pd_v 0) (pd_v 3)) (da_nil))) (da_nil)))))))))) (dss_one (ds_ret (pd_bl))) (dss_nil))
    (dss_one (ds_ret (pd_not (pd_callD G_is_parted bi_is_parted (hr.mono (by decide)) tk (da_cons (pd_ix (pd_v 0) (pd_v 3)) (da_cons (pd_v 2) (da_nil)))))))))
theorem ok_bars_fewer (T : Tx w K mg) (G_is_whole : DefOk P w K mg base 1 "is_whole" "is_whole" s_is_whole ["thing"] sp_is_whole) (G_grown_by : DefOk P w K mg base 2 "grown_by" "grown_by" s_grown_by ["parts", "chosen", "at"] sp_grown_by) (G_is_entry : DefOk P w K mg base 3 "is_entry" "is_entry" s_is_entry ["parts", "thing"] sp_is_entry) : DefOk P w K mg base 4 "bars_fewer" "bars_fewer" s_bars_fewer ["parts", "many", "paper"] sp_bars_fewer := by
  refine def_ok (r := rd_bars_fewer) T.f_bars_fewer sc_bars_fewer ln_bars_fewer (fun f cdv A outer s H E hr => ?_) pu_bars_fewer
  have tk : Takes (cxOf (L2.CX P w) P w K mg base N_bars_fewer "bars_fewer" (defScope s_bars_fewer) f cdv A outer s H E) (fun c d _ H => E c d H) := takes_of rfl rfl rfl rfl
  exact dss_cons (ds_if (PW.pt (dw_or (dt_not (dt_tru (pd_callD G_is_whole bi_is_whole (hr.mono (by decide)) tk (da_cons (pd_v 1) (da_nil))))) (dw_or (dt_lt (pd_v 1) (pd_int)) (dw_or1 (dt_not (dt_tru (pd_isi T.b_isinstance bb_isinstance (da_cons (pd_v 2) (da_cons (pd_ty T.b_list bb_list) (da_nil)))))))))) (dss_one (ds_ret (pd_bl))) (dss_nil))
    (dss_cons (ds_if (dt_not (dt_tru (pd_all rfl T.b_all bb_all (da_cons (pd_lc rfl sc_bars_fewer.nd (di_any (pd_v 2)) (blkOk_by (own := [("thing", 9)]) (N := N_bars_fewer) (sc := defScope s_bars_fewer) (by decide +kernel)) (gN_ok) rfl (fun _ _ _ _ _ => pg_name (i := 9) sc_bars_fewer.nd rfl (by first | exact Or.inl rfl | exact Or.inr rfl)) (fun _ _ _ _ _ => dts_nil) (fun _ _ _ _ _ => pd_callD G_is_entry bi_is_entry (hr.mono (by decide)) takes0 (da_cons (pd_v 0) (da_cons (pd_v 9) (da_nil))))) (da_nil))))) (dss_one (ds_ret (pd_bl))) (dss_nil))
    (dss_cons (ds_set (i := 3) sc_bars_fewer.nd (pd_dcG (room8 hr) rfl sc_bars_fewer.nd (di_any (pd_v 2)) (blkOk_by (own := [("chosen", 5), ("at", 6)]) (N := N_bars_fewer) (sc := defScope s_bars_fewer) (by decide +kernel)) (gT_ok (js := [5, 6])) rfl (fun _ _ _ _ _ => pg_tup rfl (dgs_cons (pg_name (i := 5) sc_bars_fewer.nd rfl (by first | exact Or.inl rfl | exact Or.inr rfl)) (dgs_cons (pg_name (i := 6) sc_bars_fewer.nd rfl (by first | exact Or.inl rfl | exact Or.inr rfl)) (dgs_nil)))) (fun _ _ _ _ _ => dts_nil) (fun _ _ _ _ _ => pd_v 5) (fun _ _ _ _ _ => pd_bl)))
    (dss_cons (ds_if (PW.pt (dw_and (dt_gt (pd_v 1) (pd_int)) (dw_and1 (dt_notInG (room8 hr) (pd_tup (da_nil)) (pd_v 3))))) (dss_one (ds_ret (pd_bl))) (dss_nil))
    (dss_cons (ds_setLc (i := 4) rfl sc_bars_fewer.nd (sw_true rfl rfl rfl (by decide +kernel)) (di_any (pd_v 2)) (blkOk_by (own := [("chosen", 5), ("at", 6)]) (N := N_bars_fewer) (sc := defScope s_bars_fewer) (by decide +kernel)) (gT_ok (js := [5, 6])) rfl (fun _ _ _ _ _ => pg_tup rfl (dgs_cons (pg_name (i := 5) sc_bars_fewer.nd rfl (by first | exact Or.inl rfl | exact Or.inr rfl)) (dgs_cons (pg_name (i := 6) sc_bars_fewer.nd rfl (by first | exact Or.inl rfl | exact Or.inr rfl)) (dgs_nil)))) (fun _ _ _ _ _ => dts_one (dt_lt (pd_len T.b_len bb_len (da_cons (pd_v 5) (da_nil))) (pd_sub (pd_v 1) (pd_int)))) (fun _ _ _ _ _ => pd_callD G_grown_by bi_grown_by (hr.mono (by decide)) takes0 (da_cons (pd_v 0) (da_cons (pd_v 5) (da_cons (pd_v 6) (da_nil))))))
    (dss_one (ds_ret (pd_all rfl T.b_all bb_all (da_cons (pd_lc2 rfl sc_bars_fewer.nd (di_any (pd_v 4)) (blkOk_by (own := [("more", 7), ("one", 8)]) (N := N_bars_fewer) (sc := defScope s_bars_fewer) (by decide +kernel)) (gN_ok) (gN_ok) rfl (fun _ _ _ _ _ => pg_name (i := 7) sc_bars_fewer.nd rfl (by first | exact Or.inl rfl | exact Or.inr rfl)) (fun _ _ _ _ _ => dts_nil) (fun _ _ _ _ _ => di_any (pd_v 7)) (fun _ _ _ _ _ => pg_name (i := 8) sc_bars_fewer.nd rfl (by first | exact Or.inl rfl | exact Or.inr rfl)) (fun _ _ _ _ _ => dts_nil) (fun _ _ _ _ _ => pd_inG (room8 hr) (pd_v 8) (pd_v 3))) (da_nil)))))))))
theorem ok__law_cell_at (T : Tx w K mg) : DefOk P w K mg base 1 "_law_cell_at" "_law_cell_at" s__law_cell_at ["_law_script", "_law_k"] sp__law_cell_at := by
  refine def_ok (r := rd__law_cell_at) T.f__law_cell_at sc__law_cell_at ln__law_cell_at (fun f cdv A outer s H E hr => ?_) pu__law_cell_at
  have tk : Takes (cxOf (L2.CX P w) P w K mg base N__law_cell_at "_law_cell_at" (defScope s__law_cell_at) f cdv A outer s H E) (fun c d _ H => E c d H) := takes_of rfl rfl rfl rfl
  exact dss_cons (ds_if (dt_lt (pd_v 1) (pd_len T.b_len bb_len (da_cons (pd_v 0) (da_nil)))) (dss_one (ds_ret (pd_ix (pd_v 0) (pd_v 1)))) (dss_nil))
    (dss_one (ds_ret (pd_int)))
theorem ok__law_well (T : Tx w K mg) : DefOk P w K mg base 1 "_law_well" "_law_well" s__law_well ["_law_cell"] sp__law_well := by
  refine def_ok (r := rd__law_well) T.f__law_well sc__law_well ln__law_well (fun f cdv A outer s H E hr => ?_) pu__law_well
  have tk : Takes (cxOf (L2.CX P w) P w K mg base N__law_well "_law_well" (defScope s__law_well) f cdv A outer s H E) (fun c d _ H => E c d H) := takes_of rfl rfl rfl rfl
  exact dss_one (ds_ret (pd_lstM (da_cons (pd_ix (pd_lst (da_cons (pd_int) (da_cons (pd_v 0) (da_nil)))) (pd_intOf T.b_int bb_int (da_cons (pd_ge (pd_v 0) (pd_pow (pd_int) (pd_int))) (da_nil)))) (da_cons (pd_mod (pd_intOf T.b_int bb_int (da_cons (pd_v 0) (da_nil))) (pd_int)) (da_cons (pd_int) (da_nil))))))
theorem ok__law_draw (T : Tx w K mg) : DefOk P w K mg base 1 "_law_draw" "_law_draw" s__law_draw ["_law_well_here", "_law_count"] sp__law_draw := by
  refine def_ok (r := rd__law_draw) T.f__law_draw sc__law_draw ln__law_draw (fun f cdv A outer s H E hr => ?_) pu__law_draw
  have tk : Takes (cxOf (L2.CX P w) P w K mg base N__law_draw "_law_draw" (defScope s__law_draw) f cdv A outer s H E) (fun c d _ H => E c d H) := takes_of rfl rfl rfl rfl
  exact dss_cons (ds_if (dt_gt (pd_ix (pd_v 0) (pd_int)) (pd_int)) (dss_cons (ds_set (i := 3) sc__law_draw.nd (pd_mod (pd_intOf T.b_int bb_int (da_cons (pd_ix (pd_v 0) (pd_int)) (da_nil))) (pd_v 1)))
    (dss_cons (ds_setIx (pd_div (pd_ix (pd_v 0) (pd_int)) (pd_v 1)) (pd_v 0) (pd_int))
    (dss_one (ds_ret (pd_v 3))))) (dss_nil))
    (dss_cons (ds_setIx (pd_add (pd_ix (pd_v 0) (pd_int)) (pd_int)) (pd_v 0) (pd_int))
    (dss_cons (ds_set (i := 2) sc__law_draw.nd (pd_mod (pd_intOf T.b_int bb_int (da_cons (pd_pow (pd_add (pd_add (pd_ix (pd_v 0) (pd_int)) (pd_mul (pd_int) (pd_ix (pd_v 0) (pd_int)))) (pd_int)) (pd_int)) (da_nil))) (pd_int)))
    (dss_cons (ds_set (i := 2) sc__law_draw.nd (pd_mod (pd_intOf T.b_int bb_int (da_cons (pd_mul (pd_v 2) (pd_add (pd_add (pd_div (pd_v 2) (pd_int)) (pd_int)) (pd_ix (pd_v 0) (pd_int)))) (da_nil))) (pd_int)))
    (dss_one (ds_ret (pd_mod (pd_intOf T.b_int bb_int (da_cons (pd_mod (pd_intOf T.b_int bb_int (da_cons (pd_mul (pd_v 2) (pd_add (pd_div (pd_v 2) (pd_int)) (pd_int))) (da_nil))) (pd_int)) (da_nil))) (pd_v 1)))))))
theorem ok__law_one (T : Tx w K mg) (G__law_draw : DefOk P w K mg base 1 "_law_draw" "_law_draw" s__law_draw ["_law_well_here", "_law_count"] sp__law_draw) : DefOk P w K mg base 2 "_law_one" "_law_one" s__law_one ["_law_well_here", "_law_some"] sp__law_one := by
  refine def_ok (r := rd__law_one) T.f__law_one sc__law_one ln__law_one (fun f cdv A outer s H E hr => ?_) pu__law_one
  have tk : Takes (cxOf (L2.CX P w) P w K mg base N__law_one "_law_one" (defScope s__law_one) f cdv A outer s H E) (fun c d _ H => E c d H) := takes_of rfl rfl rfl rfl
  exact dss_one (ds_ret (pd_ix (pd_v 1) (pd_callD G__law_draw bi__law_draw (hr.mono (by decide)) tk (da_cons (pd_v 0) (da_cons (pd_len T.b_len bb_len (da_cons (pd_v 1) (da_nil))) (da_nil))))))
theorem ok__law_table (T : Tx w K mg) (G__law_draw : DefOk P w K mg base 1 "_law_draw" "_law_draw" s__law_draw ["_law_well_here", "_law_count"] sp__law_draw) : DefOk P w K mg base 2 "_law_table" "_law_table" s__law_table ["_law_well_here"] sp__law_table_v2 := by
  refine def_ok (r := rd__law_table_v2) T.f__law_table sc__law_table ln__law_table_v2 (fun f cdv A outer s H E hr => ?_) pu__law_table_v2
  have tk : Takes (cxOf (L2.CX P w) P w K mg base N__law_table "_law_table" (defScope s__law_table) f cdv A outer s H E) (fun c d _ H => E c d H) := takes_of rfl rfl rfl rfl
  exact dss_cons (ds_set (i := 1) sc__law_table.nd (pd_callD G__law_draw bi__law_draw (hr.mono (by decide)) tk (da_cons (pd_v 0) (da_cons (pd_int) (da_nil)))))
    (dss_cons (ds_set (i := 2) sc__law_table.nd (pd_callD G__law_draw bi__law_draw (hr.mono (by decide)) tk (da_cons (pd_v 0) (da_cons (pd_int) (da_nil)))))
    (dss_cons (ds_set (i := 3) sc__law_table.nd (pd_add (pd_int) (pd_callD G__law_draw bi__law_draw (hr.mono (by decide)) tk (da_cons (pd_v 0) (da_cons (pd_int) (da_nil))))))
    (dss_cons (ds_set (i := 4) sc__law_table.nd (pd_lstM (da_nil)))
    (dss_cons (ds_for (passes_of rfl) rfl (di_range T.b_range (da_cons (pd_v 1) (da_nil))) (pg_name (i := 5) sc__law_table.nd rfl (by first | exact Or.inl rfl | exact Or.inr rfl)) (gN_ok) (dss_cons (ds_setLc (i := 6) rfl sc__law_table.nd (sw_true rfl rfl rfl (by decide +kernel)) (di_range T.b_range (da_cons (pd_v 2) (da_nil))) (blkOk_by (own := [("_law_j", 7)]) (N := N__law_table) (sc := defScope s__law_table) (by decide +kernel)) (gN_ok) rfl (fun _ _ _ _ _ => pg_name (i := 7) sc__law_table.nd rfl (by first | exact Or.inl rfl | exact Or.inr rfl)) (fun _ _ _ _ _ => dts_nil) (fun _ _ _ _ _ => pd_eq hr.units (pd_callD G__law_draw bi__law_draw (hr.mono (by decide)) takes0 (da_cons (pd_v 0) (da_cons (pd_v 3) (da_nil)))) (pd_int)))
    (dss_cons (ds_if (PW.pt (dw_and (dt_ne hr.units (pd_v 4) (pd_lst (da_nil))) (dw_and1 (dt_eq hr.units (pd_callD G__law_draw bi__law_draw (hr.mono (by decide)) tk (da_cons (pd_v 0) (da_cons (pd_int) (da_nil)))) (pd_int))))) (dss_one (ds_setLc (i := 6) rfl sc__law_table.nd (sw_true rfl rfl rfl (by decide +kernel)) (di_any (pd_ix (pd_v 4) (pd_int))) (blkOk_by (own := [("_law_truth", 8)]) (N := N__law_table) (sc := defScope s__law_table) (by decide +kernel)) (gN_ok) rfl (fun _ _ _ _ _ => pg_name (i := 8) sc__law_table.nd rfl (by first | exact Or.inl rfl | exact Or.inr rfl)) (fun _ _ _ _ _ => dts_nil) (fun _ _ _ _ _ => pd_not (pd_v 8)))) (dss_nil))
    (dss_one (ds_expr (pd_app (pd_v 4) (pd_v 6)))))))
    (dss_one (ds_ret (pd_seal (pd_v 4))))))))
theorem ok__law_is_whole (T : Tx w K mg) : DefOk P w K mg base 1 "_law_is_whole" "_law_is_whole" s__law_is_whole ["_law_thing"] sp__law_is_whole := by
  refine def_ok (r := rd__law_is_whole) T.f__law_is_whole sc__law_is_whole ln__law_is_whole (fun f cdv A outer s H E hr => ?_) pu__law_is_whole
  have tk : Takes (cxOf (L2.CX P w) P w K mg base N__law_is_whole "_law_is_whole" (defScope s__law_is_whole) f cdv A outer s H E) (fun c d _ H => E c d H) := takes_of rfl rfl rfl rfl
  exact dss_one (ds_ret (pd_and (pd_isi T.b_isinstance bb_isinstance (da_cons (pd_v 0) (da_cons (pd_ty T.b_int bb_int) (da_nil)))) (pd_one (pd_not (pd_isi T.b_isinstance bb_isinstance (da_cons (pd_v 0) (da_cons (pd_ty T.b_bool bb_bool) (da_nil))))))))
theorem ok__law_is_entry (T : Tx w K mg) (G__law_is_whole : DefOk P w K mg base 1 "_law_is_whole" "_law_is_whole" s__law_is_whole ["_law_thing"] sp__law_is_whole) : DefOk P w K mg base 2 "_law_is_entry" "_law_is_entry" s__law_is_entry ["_law_columns", "_law_thing"] sp__law_is_entry := by
  refine def_ok (r := rd__law_is_entry) T.f__law_is_entry sc__law_is_entry ln__law_is_entry (fun f cdv A outer s H E hr => ?_) pu__law_is_entry
  have tk : Takes (cxOf (L2.CX P w) P w K mg base N__law_is_entry "_law_is_entry" (defScope s__law_is_entry) f cdv A outer s H E) (fun c d _ H => E c d H) := takes_of rfl rfl rfl rfl
  exact dss_cons (ds_if (PW.pt (dw_or (dt_not (dt_tru (pd_isi T.b_isinstance bb_isinstance (da_cons (pd_v 1) (da_cons (pd_ty T.b_tuple bb_tuple) (da_nil)))))) (dw_or (dt_ne hr.units (pd_len T.b_len bb_len (da_cons (pd_v 1) (da_nil))) (pd_int)) (dw_or1 (dt_not (dt_tru (pd_isi T.b_isinstance bb_isinstance (da_cons (pd_ix (pd_v 1) (pd_int)) (da_cons (pd_ty T.b_tuple bb_tuple) (da_nil)))))))))) (dss_one (ds_ret (pd_bl))) (dss_nil))
    (dss_cons (ds_tup (pd_v 1) (pg_tup rfl (dgs_cons (pg_name (i := 2) sc__law_is_entry.nd rfl (by first | exact Or.inl rfl | exact Or.inr rfl)) (dgs_cons (pg_name (i := 3) sc__law_is_entry.nd rfl (by first | exact Or.inl rfl | exact Or.inr rfl)) (dgs_nil)))) (gT_ok (js := [2, 3])))
    (dss_cons (ds_if (PW.pt (dw_or (dt_not (dt_tru (pd_callD G__law_is_whole bi__law_is_whole (hr.mono (by decide)) tk (da_cons (pd_v 3) (da_nil))))) (dw_or1 (dt_not (dt_chain op_le op_lt le_ok lt_ok (pd_int) (pd_v 3) (pd_len T.b_len bb_len (da_cons (pd_v 0) (da_nil)))))))) (dss_one (ds_ret (pd_bl))) (dss_nil))
    (dss_cons (ds_if (dt_ne hr.units (pd_lc rfl sc__law_is_entry.nd (di_any (pd_v 2)) (blkOk_by (own := [("_law_k", 4)]) (N := N__law_is_entry) (sc := defScope s__law_is_entry) (by decide +kernel)) (gN_ok) rfl (fun _ _ _ _ _ => pg_name (i := 4) sc__law_is_entry.nd rfl (by first | exact Or.inl rfl | exact Or.inr rfl)) (fun _ _ _ _ _ => dts_one (PW.pt (dw_or (dt_not (dt_tru (pd_callD G__law_is_whole bi__law_is_whole (hr.mono (by decide)) takes0 (da_cons (pd_v 4) (da_nil))))) (dw_or1 (dt_not (dt_chain op_le op_lt le_ok lt_ok (pd_int) (pd_v 4) (pd_len T.b_len bb_len (da_cons (pd_ix (pd_v 0) (pd_v 3)) (da_nil))))))))) (fun _ _ _ _ _ => pd_v 4)) (pd_lst (da_nil))) (dss_one (ds_ret (pd_bl))) (dss_nil))
    (dss_cons (ds_if (dt_ne hr.units (pd_listOf T.b_list bb_list (da_cons (pd_v 2) (da_nil))) (pd_srtSTI rfl T.b_sorted T.b_set bb_sorted bb_set (da_cons (pd_v 2) (da_nil)))) (dss_one (ds_ret (pd_bl))) (dss_nil))
    (dss_one (ds_ret (pd_eq hr.units (pd_lc rfl sc__law_is_entry.nd (di_any (pd_v 2)) (blkOk_by (own := [("_law_k", 4)]) (N := N__law_is_entry) (sc := defScope s__law_is_entry) (by decide +kernel)) (gN_ok) rfl (fun _ _ _ _ _ => pg_name (i := 4) sc__law_is_entry.nd rfl (by first | exact Or.inl rfl | exact Or.inr rfl)) (fun _ _ _ _ _ => dts_one (dt_tru (pd_ix (pd_ix (pd_v 0) (pd_v 3)) (pd_v 4)))) (fun _ _ _ _ _ => pd_v 4)) (pd_lst (da_nil)))))))))
theorem ok__law_due (T : Tx w K mg) (G__law_is_whole : DefOk P w K mg base 1 "_law_is_whole" "_law_is_whole" s__law_is_whole ["_law_thing"] sp__law_is_whole) (G__law_is_entry : DefOk P w K mg base 2 "_law_is_entry" "_law_is_entry" s__law_is_entry ["_law_columns", "_law_thing"] sp__law_is_entry) : DefOk P w K mg base 3 "_law_due" "_law_due" s__law_due ["_law_columns", "_law_count", "_law_sheet"] sp__law_due_v8 := by
  refine def_ok (r := rd__law_due_v8) T.f__law_due sc__law_due ln__law_due_v8 (fun f cdv A outer s H E hr => ?_) pu__law_due_v8
  have tk : Takes (cxOf (L2.CX P w) P w K mg base N__law_due "_law_due" (defScope s__law_due) f cdv A outer s H E) (fun c d _ H => E c d H) := takes_of rfl rfl rfl rfl
  exact dss_cons (ds_if (PW.pt (dw_or (dt_not (dt_tru (pd_callD G__law_is_whole bi__law_is_whole (hr.mono (by decide)) tk (da_cons (pd_v 1) (da_nil))))) (dw_or (dt_lt (pd_v 1) (pd_int)) (dw_or1 (dt_not (dt_tru (pd_isi T.b_isinstance bb_isinstance (da_cons (pd_v 2) (da_cons (pd_ty T.b_list bb_list) (da_nil)))))))))) (dss_one (ds_ret (pd_bl))) (dss_nil))
    (dss_cons (ds_if (dt_ne hr.units (pd_lc rfl sc__law_due.nd (di_any (pd_v 2)) (blkOk_by (own := [("_law_thing", 6)]) (N := N__law_due) (sc := defScope s__law_due) (by decide +kernel)) (gN_ok) rfl (fun _ _ _ _ _ => pg_name (i := 6) sc__law_due.nd rfl (by first | exact Or.inl rfl | exact Or.inr rfl)) (fun _ _ _ _ _ => dts_one (dt_not (dt_tru (pd_callD G__law_is_entry bi__law_is_entry (hr.mono (by decide)) takes0 (da_cons (pd_v 0) (da_cons (pd_v 6) (da_nil))))))) (fun _ _ _ _ _ => pd_v 6)) (pd_lst (da_nil))) (dss_one (ds_ret (pd_bl))) (dss_nil))
    (dss_cons (ds_setLc (i := 3) rfl sc__law_due.nd (sw_true rfl rfl rfl (by decide +kernel)) (di_any (pd_v 2)) (blkOk_by (own := [("_law_thing", 6)]) (N := N__law_due) (sc := defScope s__law_due) (by decide +kernel)) (gN_ok) rfl (fun _ _ _ _ _ => pg_name (i := 6) sc__law_due.nd rfl (by first | exact Or.inl rfl | exact Or.inr rfl)) (fun _ _ _ _ _ => dts_nil) (fun _ _ _ _ _ => pd_ix (pd_v 6) (pd_int)))
    (dss_cons (ds_if (PW.pt (dw_and (dt_gt (pd_v 1) (pd_int)) (dw_and1 (dt_notIn (units65 hr) (pd_tup (da_nil)) (pd_v 3))))) (dss_one (ds_ret (pd_bl))) (dss_nil))
    (dss_cons (ds_for (passes_of rfl) rfl (di_any (pd_v 2)) (pg_tup rfl (dgs_cons (pg_name (i := 4) sc__law_due.nd rfl (by first | exact Or.inl rfl | exact Or.inr rfl)) (dgs_cons (pg_name (i := 5) sc__law_due.nd rfl (by first | exact Or.inl rfl | exact Or.inr rfl)) (dgs_nil)))) (gT_ok (js := [4, 5])) (dss_one (ds_if (dt_lt (pd_len T.b_len bb_len (da_cons (pd_v 4) (da_nil))) (pd_sub (pd_v 1) (pd_int))) (dss_one (ds_for (passes_of rfl) rfl (di_range T.b_range (da_cons (pd_len T.b_len bb_len (da_cons (pd_ix (pd_v 0) (pd_v 5)) (da_nil))) (da_nil))) (pg_name (i := 7) sc__law_due.nd rfl (by first | exact Or.inl rfl | exact Or.inr rfl)) (gN_ok) (dss_one (ds_if (PW.pt (dw_and (dt_tru (pd_ix (pd_ix (pd_v 0) (pd_v 5)) (pd_v 7))) (dw_and1 (dt_notIn (units65 hr) (pd_tupleOf T.b_tuple bb_tuple (da_cons (pd_srtTI T.b_sorted bb_sorted (da_cons (pd_add (pd_v 4) (pd_tup (da_cons (pd_v 7) (da_nil)))) (da_nil))) (da_nil))) (pd_v 3))))) (dss_one (ds_ret (pd_bl))) (dss_nil))))) (dss_nil))))
    (dss_one (ds_ret (pd_bl)))))))
theorem ok__law_turned (T : Tx w K mg) (G__law_draw : DefOk P w K mg base 1 "_law_draw" "_law_draw" s__law_draw ["_law_well_here", "_law_count"] sp__law_draw) (G__law_one : DefOk P w K mg base 2 "_law_one" "_law_one" s__law_one ["_law_well_here", "_law_some"] sp__law_one) : DefOk P w K mg base 3 "_law_turned" "_law_turned" s__law_turned ["_law_well_here", "_law_columns", "_law_sheet"] sp__law_turned_v5 := by
  refine def_ok (r := rd__law_turned_v5) T.f__law_turned sc__law_turned ln__law_turned_v5 (fun f cdv A outer s H E hr => ?_) pu__law_turned_v5
  have tk : Takes (cxOf (L2.CX P w) P w K mg base N__law_turned "_law_turned" (defScope s__law_turned) f cdv A outer s H E) (fun c d _ H => E c d H) := takes_of rfl rfl rfl rfl
  exact dss_cons (ds_set (i := 3) sc__law_turned.nd (pd_callD G__law_draw bi__law_draw (hr.mono (by decide)) tk (da_cons (pd_v 0) (da_cons (pd_add (pd_len T.b_len bb_len (da_cons (pd_v 2) (da_nil))) (pd_int)) (da_nil)))))
    (dss_cons (ds_set (i := 4) sc__law_turned.nd (pd_callD G__law_draw bi__law_draw (hr.mono (by decide)) tk (da_cons (pd_v 0) (da_cons (pd_int) (da_nil)))))
    (dss_cons (ds_set (i := 5) sc__law_turned.nd (pd_callD G__law_draw bi__law_draw (hr.mono (by decide)) tk (da_cons (pd_v 0) (da_cons (pd_int) (da_nil)))))
    (dss_cons (ds_set (i := 6) sc__law_turned.nd (pd_lst (da_cons (pd_tup (da_cons (pd_tup (da_cons (pd_v 4) (da_nil))) (da_cons (pd_v 5) (da_nil)))) (da_cons (pd_tup (da_cons (pd_tup (da_nil)) (da_cons (pd_v 5) (da_nil)))) (da_cons (pd_tup (da_cons (pd_tup (da_cons (pd_v 4) (da_cons (pd_v 4) (da_nil)))) (da_cons (pd_v 5) (da_nil)))) (da_cons (pd_tup (da_cons (pd_tup (da_cons (pd_v 4) (da_cons (pd_add (pd_v 4) (pd_int)) (da_nil)))) (da_cons (pd_v 5) (da_nil)))) (da_cons (pd_tup (da_cons (pd_tup (da_cons (pd_bl) (da_nil))) (da_cons (pd_v 5) (da_nil)))) (da_cons (pd_tup (da_cons (pd_tup (da_nil)) (da_cons (pd_bl) (da_nil)))) (da_cons (pd_tup (da_cons (pd_tup (da_nil)) (da_cons (pd_non) (da_nil)))) (da_nil))))))))))
    (dss_cons (ds_set (i := 6) sc__law_turned.nd (pd_add (pd_v 6) (pd_lst (da_cons (pd_tup (da_cons (pd_tup (da_nil)) (da_cons (pd_neg (pd_int)) (da_nil)))) (da_cons (pd_tup (da_cons (pd_lst (da_nil)) (da_cons (pd_v 5) (da_nil)))) (da_cons (pd_tup (da_cons (pd_tup (da_cons (pd_v 4) (da_nil))) (da_cons (pd_v 5) (da_cons (pd_int) (da_nil))))) (da_cons (pd_non) (da_cons (pd_tup (da_cons (pd_tup (da_cons (pd_add (pd_v 4) (pd_int)) (da_cons (pd_v 4) (da_nil)))) (da_cons (pd_v 5) (da_nil)))) (da_cons (pd_tup (da_cons (pd_tup (da_cons (pd_str) (da_nil))) (da_cons (pd_v 5) (da_nil)))) (da_cons (pd_tup (da_cons (pd_tup (da_cons (pd_v 4) (da_nil))) (da_nil))) (da_nil)))))))))))
    (dss_cons (ds_set (i := 7) sc__law_turned.nd (pd_callD G__law_one bi__law_one (hr.mono (by decide)) tk (da_cons (pd_v 0) (da_cons (pd_v 6) (da_nil)))))
    (dss_cons (ds_set (i := 8) sc__law_turned.nd (pd_add (pd_sl (pd_v 2) dp_none (dp_some (pd_v 3))) (pd_sl (pd_v 2) (dp_some (pd_add (pd_v 3) (pd_int))) dp_none)))
    (dss_cons (ds_set (i := 9) sc__law_turned.nd (pd_lst (da_cons (pd_v 8) (da_cons (pd_v 8) (da_cons (pd_v 8) (da_cons (pd_add (pd_add (pd_sl (pd_v 2) dp_none (dp_some (pd_v 3))) (pd_lst (da_cons (pd_v 7) (da_nil)))) (pd_sl (pd_v 2) (dp_some (pd_v 3)) dp_none)) (da_cons (pd_add (pd_v 8) (pd_lst (da_cons (pd_v 7) (da_nil)))) (da_cons (pd_rev (pd_v 2)) (da_cons (pd_add (pd_v 2) (pd_v 2)) (da_nil))))))))))
    (dss_one (ds_ret (pd_callD G__law_one bi__law_one (hr.mono (by decide)) tk (da_cons (pd_v 0) (da_cons (pd_add (pd_v 9) (pd_lst (da_cons (pd_tupleOf T.b_tuple bb_tuple (da_cons (pd_v 2) (da_nil))) (da_cons (pd_non) (da_cons (pd_str) (da_cons (pd_dct0) (da_cons (pd_lst (da_nil)) (da_nil)))))))) (da_nil)))))))))))))
theorem ok_law (T : Tx w K mg) (G_fewest : DefOk P w K mg base 3 "fewest" "fewest" s_fewest ["parts"] sp_fewest) (G_fewest_paper : DefOk P w K mg base 4 "fewest_paper" "fewest_paper" s_fewest_paper ["parts"] sp_fewest_paper) (G_bars_fewer : DefOk P w K mg base 4 "bars_fewer" "bars_fewer" s_bars_fewer ["parts", "many", "paper"] sp_bars_fewer) (G__law_cell_at : DefOk P w K mg base 1 "_law_cell_at" "_law_cell_at" s__law_cell_at ["_law_script", "_law_k"] sp__law_cell_at) (G__law_well : DefOk P w K mg base 1 "_law_well" "_law_well" s__law_well ["_law_cell"] sp__law_well) (G__law_draw : DefOk P w K mg base 1 "_law_draw" "_law_draw" s__law_draw ["_law_well_here", "_law_count"] sp__law_draw) (G__law_one : DefOk P w K mg base 2 "_law_one" "_law_one" s__law_one ["_law_well_here", "_law_some"] sp__law_one) (G__law_table : DefOk P w K mg base 2 "_law_table" "_law_table" s__law_table ["_law_well_here"] sp__law_table_v2) (G__law_due : DefOk P w K mg base 3 "_law_due" "_law_due" s__law_due ["_law_columns", "_law_count", "_law_sheet"] sp__law_due_v8) (G__law_turned : DefOk P w K mg base 3 "_law_turned" "_law_turned" s__law_turned ["_law_well_here", "_law_columns", "_law_sheet"] sp__law_turned_v5) : LawG P w K mg base 5 s_law "_law_script" := by
  refine lawG_ok (r := rd_law) T.f_law sc_law ln_law (fun f cdv A outer s H E hgu hr => ?_) pu_law
  have tk : Takes (cxOf (L2.CX P w) P w K mg base N_law "law" (defScope s_law) f cdv A outer s H E) (fun c d _ H => E c d H) := takes_of rfl rfl rfl rfl
  exact dss_cons (ds_for (passes_of rfl) rfl (di_any (pd_add (pd_lst (da_cons (pd_callD G__law_cell_at bi__law_cell_at (hr.mono (by decide)) tk (da_cons (pd_v 0) (da_cons (pd_int) (da_nil)))) (da_nil))) (pd_sl (pd_v 0) (dp_some (pd_int)) (dp_some (pd_int))))) (pg_name (i := 1) sc_law.nd rfl (by first | exact Or.inl rfl | exact Or.inr rfl)) (gN_ok) (dss_cons (ds_set (i := 2) sc_law.nd (pd_callD G__law_well bi__law_well (hr.mono (by decide)) tk (da_cons (pd_v 1) (da_nil))))
    (dss_cons (ds_set (i := 3) sc_law.nd (pd_callD G__law_table bi__law_table (hr.mono (by decide)) tk (da_cons (pd_v 2) (da_nil))))
    (dss_cons (ds_set (i := 4) sc_law.nd (pd_repr hgu (units66 hr) T.b_repr bb_repr (da_cons (pd_v 3) (da_nil))))
    (dss_cons (ds_set (i := 5) sc_law.nd (pd_callD G_fewest bi_fewest (hr.mono (by decide)) tk (da_cons (pd_v 3) (da_nil))))
    (dss_cons (ds_set (i := 6) sc_law.nd (pd_callD G_fewest_paper bi_fewest_paper (hr.mono (by decide)) tk (da_cons (pd_v 3) (da_nil))))
    (dss_cons (ds_if (PW.pt (dw_or (dt_not (dt_tru (pd_isi T.b_isinstance bb_isinstance (da_cons (pd_v 6) (da_cons (pd_ty T.b_list bb_list) (da_nil)))))) (dw_or1 (dt_not (dt_tru (pd_callD G__law_due bi__law_due (hr.mono (by decide)) tk (da_cons (pd_v 3) (da_cons (pd_ix (pd_lst (da_cons (pd_int) (da_cons (pd_len T.b_len bb_len (da_cons (pd_orT (pd_v 5) (pd_one (pd_lst (da_nil)))) (da_nil))) (da_nil)))) (pd_intOf T.b_int bb_int (da_cons (pd_notN (pd_v 5) (pd_non)) (da_nil)))) (da_cons (pd_v 6) (da_nil)))))))))) (dss_one (ds_ret (pd_bl))) (dss_nil))
    (dss_cons (ds_for (passes_of rfl) rfl (di_range T.b_range (da_cons (pd_int) (da_nil))) (pg_name (i := 7) sc_law.nd rfl (by first | exact Or.inl rfl | exact Or.inr rfl)) (gN_ok) (dss_cons (ds_set (i := 9) sc_law.nd (pd_callD G__law_due bi__law_due (hr.mono (by decide)) tk (da_cons (pd_v 3) (da_cons (pd_v 7) (da_cons (pd_v 6) (da_nil))))))
    (dss_cons (ds_set (i := 10) sc_law.nd (pd_callD G_bars_fewer bi_bars_fewer (hr.mono (by decide)) tk (da_cons (pd_v 3) (da_cons (pd_v 7) (da_cons (pd_v 6) (da_nil))))))
    (dss_one (ds_if (PW.pt (dw_or (dt_not (dt_tru (pd_isi T.b_isinstance bb_isinstance (da_cons (pd_v 10) (da_cons (pd_ty T.b_bool bb_bool) (da_nil)))))) (dw_or (dt_ne hr.units (pd_v 10) (pd_v 9)) (dw_or1 (dt_ne hr.units (pd_v 9) (pd_or (pd_isN (pd_v 5) (pd_non)) (pd_one (pd_le (pd_v 7) (pd_len T.b_len bb_len (da_cons (pd_v 5) (da_nil))))))))))) (dss_one (ds_ret (pd_bl))) (dss_nil))))))
    (dss_cons (ds_for (passes_of rfl) rfl (di_range T.b_range (da_cons (pd_int) (da_nil))) (pg_name (i := 8) sc_law.nd rfl (by first | exact Or.inl rfl | exact Or.inr rfl)) (gN_ok) (dss_cons (ds_set (i := 11) sc_law.nd (pd_listOf T.b_list bb_list (da_cons (pd_v 6) (da_nil))))
    (dss_cons (ds_for (passes_of rfl) rfl (di_range T.b_range (da_cons (pd_add (pd_int) (pd_callD G__law_draw bi__law_draw (hr.mono (by decide)) tk (da_cons (pd_v 2) (da_cons (pd_int) (da_nil))))) (da_nil))) (pg_name (i := 12) sc_law.nd rfl (by first | exact Or.inl rfl | exact Or.inr rfl)) (gN_ok) (dss_one (ds_if (dt_tru (pd_isi T.b_isinstance bb_isinstance (da_cons (pd_v 11) (da_cons (pd_ty T.b_list bb_list) (da_nil))))) (dss_one (ds_set (i := 11) sc_law.nd (pd_callD G__law_turned bi__law_turned (hr.mono (by decide)) tk (da_cons (pd_v 2) (da_cons (pd_v 3) (da_cons (pd_v 11) (da_nil))))))) (dss_nil))))
    (dss_cons (ds_set (i := 7) sc_law.nd (pd_callD G__law_one bi__law_one (hr.mono (by decide)) tk (da_cons (pd_v 2) (da_cons (pd_lst (da_cons (pd_neg (pd_int)) (da_cons (pd_int) (da_cons (pd_int) (da_cons (pd_int) (da_cons (pd_int) (da_cons (pd_len T.b_len bb_len (da_cons (pd_orT (pd_v 5) (pd_one (pd_lst (da_nil)))) (da_nil))) (da_cons (pd_add (pd_len T.b_len bb_len (da_cons (pd_orT (pd_v 5) (pd_one (pd_lst (da_nil)))) (da_nil))) (pd_int)) (da_cons (pd_bl) (da_cons (pd_non) (da_cons (pd_str) (da_nil)))))))))))) (da_nil)))))
    (dss_cons (ds_set (i := 9) sc_law.nd (pd_callD G__law_due bi__law_due (hr.mono (by decide)) tk (da_cons (pd_v 3) (da_cons (pd_v 7) (da_cons (pd_v 11) (da_nil))))))
    (dss_cons (ds_set (i := 13) sc_law.nd (pd_repr hgu (units66 hr) T.b_repr bb_repr (da_cons (pd_v 11) (da_nil))))
    (dss_cons (ds_set (i := 10) sc_law.nd (pd_lst (da_cons (pd_callD G_bars_fewer bi_bars_fewer (hr.mono (by decide)) tk (da_cons (pd_v 3) (da_cons (pd_v 7) (da_cons (pd_v 11) (da_nil))))) (da_cons (pd_callDK0 G_bars_fewer bk_bars_fewer_0 (hr.mono (by decide)) tk (dk_cons (pd_v 11) (dk_cons (pd_v 7) (dk_cons (pd_v 3) (dk_nil))))) (da_nil)))))
    (dss_cons (ds_if (PW.pt (dw_or (dt_not (dt_tru (pd_isi T.b_isinstance bb_isinstance (da_cons (pd_ix (pd_v 10) (pd_int)) (da_cons (pd_ty T.b_bool bb_bool) (da_nil)))))) (dw_or1 (dt_ne hr.units (pd_v 10) (pd_lst (da_cons (pd_v 9) (da_cons (pd_v 9) (da_nil)))))))) (dss_one (ds_ret (pd_bl))) (dss_nil))
    (dss_one (ds_if (PW.pt (dw_or (dt_ne hr.units (pd_repr hgu (units66 hr) T.b_repr bb_repr (da_cons (pd_v 11) (da_nil))) (pd_v 13)) (dw_or1 (PW.pt (dw_and (dt_notN (pd_v 5) (pd_non)) (dw_and (dt_tru (pd_v 9)) (dw_and1 (dt_gt (pd_v 7) (pd_len T.b_len bb_len (da_cons (pd_v 5) (da_nil))))))))))) (dss_one (ds_ret (pd_bl))) (dss_nil)))))))))))
    (dss_one (ds_if (dt_ne hr.units (pd_repr hgu (units66 hr) T.b_repr bb_repr (da_cons (pd_v 3) (da_nil))) (pd_v 4)) (dss_one (ds_ret (pd_bl))) (dss_nil))))))))))))
    (dss_one (ds_ret (pd_bl)))
end
theorem all_ok {l : PySem.W.OpenLaw} {w : World} {K : PySem.W.Frag} {mg : Str → Option Value} {fa : Addr} (hfa : mg "law" = some (.ref fa)) (T : Tx w K mg) : ∃ fd : FuncData, (∀ (s : Shared) (u : Value), BindsTo s fd ⟨[u], []⟩ [("_law_script", u)]) ∧ ∀ base : Heap, K.In base → base.Ns mainGlobals mg → RunG l.prog w K mg base 5 fa fd ["_law_script"] (lP ⟨K, w⟩ spLaw) := by
  refine law_mkG bi_law T.f_law hfa fun base _ _ => ?_
  have G_is_whole := ok_is_whole (P := l.prog) (w := w) (base := base) T
  have G_is_parted := ok_is_parted (P := l.prog) (w := w) (base := base) T
  have G_lots_of := ok_lots_of (P := l.prog) (w := w) (base := base) T
  have G_with_row := ok_with_row (P := l.prog) (w := w) (base := base) T
  have G__law_cell_at := ok__law_cell_at (P := l.prog) (w := w) (base := base) T
  have G__law_well := ok__law_well (P := l.prog) (w := w) (base := base) T
  have G__law_draw := ok__law_draw (P := l.prog) (w := w) (base := base) T
  have G__law_is_whole := ok__law_is_whole (P := l.prog) (w := w) (base := base) T
  have G_not_parted := ok_not_parted (P := l.prog) (w := w) (base := base) T G_is_parted
  have G_grown_by := ok_grown_by (P := l.prog) (w := w) (base := base) T G_with_row
  have G_are_rising := ok_are_rising (P := l.prog) (w := w) (base := base) T G_is_whole
  have G__law_one := ok__law_one (P := l.prog) (w := w) (base := base) T G__law_draw
  have G__law_table := ok__law_table (P := l.prog) (w := w) (base := base) T G__law_draw
  have G__law_is_entry := ok__law_is_entry (P := l.prog) (w := w) (base := base) T G__law_is_whole
  have G_fewest := ok_fewest (P := l.prog) (w := w) (base := base) T G_not_parted G_lots_of
  have G_is_entry := ok_is_entry (P := l.prog) (w := w) (base := base) T G_is_whole G_is_parted G_are_rising
  have G__law_due := ok__law_due (P := l.prog) (w := w) (base := base) T G__law_is_whole G__law_is_entry
  have G__law_turned := ok__law_turned (P := l.prog) (w := w) (base := base) T G__law_draw G__law_one
  have G_fewest_paper := ok_fewest_paper (P := l.prog) (w := w) (base := base) T G_not_parted G_fewest G_grown_by
  have G_bars_fewer := ok_bars_fewer (P := l.prog) (w := w) (base := base) T G_is_whole G_grown_by G_is_entry
  exact ok_law T G_fewest G_fewest_paper G_bars_fewer G__law_cell_at G__law_well G__law_draw G__law_one G__law_table G__law_due G__law_turned
theorem walk {l : PySem.W.OpenLaw} {q : Program} {loose : List Str} {XP : (Str → Option Value) → Heap → Prop} {YP : World → Heap → Prop} {d : DefRec} {K : Params → PySem.W.Frag} (hn : l.most = some 63) (hdf : d.params.defaults = []) (NL : ∀ P, NoLam (K P)) (hY : ∀ (w : World) (h : Heap), YP w h → (K w.params).In h)
    (FF : ∀ (w : World) (mg : Str → Option Value) (fa : Addr) (h : Heap), (K w.params).In h → h.Ns mainGlobals mg → mg d.name = some (.ref fa) →
      ∃ fd : FuncData, (∀ (s : Shared) (u : Value), BindsTo s fd ⟨[u], []⟩ [("_law_script", u)]) ∧ ∀ base : Heap, (K w.params).In base → base.Ns mainGlobals mg → RunG l.prog w (K w.params) mg base 5 fa fd ["_law_script"] (lP ⟨K w.params, w⟩ spLaw)) :
    PySem.W.WalkO q loose XP YP l.row.toRowW d [] (fun f vs => PySem.call f vs) :=
  DL.walk_ofG (n := 63) (k := 5) (x := "_law_script") (sp := fun w => lP ⟨K w.params, w⟩ spLaw) hn (by decide) hdf ⟨rfl, by decide, by decide⟩ hY FF (fun w H a ns hl _ hS => law_sp ⟨K w.params, w⟩ (NL _) H a ns hl hS) fun w H s e s' z => cx_false z
end Lw
section
local macro_rules
  | `(tactic| o_head $H) => `(tactic| o_headL $H)
local macro_rules
  | `(tactic| refine $h:ident (q := $q) (loose := $l) (Xt := $a) (XP := $b) (Yf := $c) (Ya := $d) (YP := $e) (N := $n) ?hl $xs*) =>
    `(tactic| refine' $h (q := $q) (loose := $l) (Xt := $a) (XP := $b) (Yf := $c) (Ya := $d) (YP := $e) (N := $n) (HeadRun.left_oneK (M := $n) (by kernel_rfl) (by rfl) (fun s => by kernel_rfl) (by rfl) (DL.split_w "special-get-raises" fun b w os => by cases b <;> kernel_rfl)) $xs*)
open PySem PySem.W PyProof.Rows in
set_option maxRecDepth 100000 in
set_option maxHeartbeats 0 in
theorem PySem.Challenge.cw_stoodin_k77_whole_papers_of_fewest_holds : PySem.Challenge.rw_stoodin_k77_whole_papers_of_fewest.Holds := by
  w_on; o_law; k_head; (case hw => w_witness2)
  k_fill
  refine Lw.walk (l := PySem.Challenge.rw_stoodin_k77_whole_papers_of_fewest) rfl rfl (fun _ => DL.noLam_by (by kernel_rfl)) (fun w h Y => PySem.W.kIn_of Y) ?F
  case F =>
    intro w mg fa h KX G hmg
    refine' Lw.all_ok hmg (Lw.Tx.mk (DL.funAt_mk KX G ?u0 ?u1 ?u2 ?u3) (DL.funAt_mk KX G ?u4 ?u5 ?u6 ?u7) (DL.funAt_mk KX G ?u8 ?u9 ?u10 ?u11) (DL.funAt_mk KX G ?u12 ?u13 ?u14 ?u15) (DL.funAt_mk KX G ?u16 ?u17 ?u18 ?u19) (DL.funAt_mk KX G ?u20 ?u21 ?u22 ?u23) (DL.funAt_mk KX G ?u24 ?u25 ?u26 ?u27) (DL.funAt_mk KX G ?u28 ?u29 ?u30 ?u31) (DL.funAt_mk KX G ?u32 ?u33 ?u34 ?u35) (DL.funAt_mk KX G ?u36 ?u37 ?u38 ?u39) (DL.funAt_mk KX G ?u40 ?u41 ?u42 ?u43) (DL.funAt_mk KX G ?u44 ?u45 ?u46 ?u47) (DL.funAt_mk KX G ?u48 ?u49 ?u50 ?u51) (DL.funAt_mk KX G ?u52 ?u53 ?u54 ?u55) (DL.funAt_mk KX G ?u56 ?u57 ?u58 ?u59) (DL.funAt_mk KX G ?u60 ?u61 ?u62 ?u63) (DL.funAt_mk KX G ?u64 ?u65 ?u66 ?u67) (DL.funAt_mk KX G ?u68 ?u69 ?u70 ?u71) (DL.funAt_mk KX G ?u72 ?u73 ?u74 ?u75) (DL.funAt_mk KX G ?u76 ?u77 ?u78 ?u79) (DL.funAt_mk KX G ?u80 ?u81 ?u82 ?u83) (PySem.W.mg_none_of KX G ?u84) (PySem.W.mg_none_of KX G ?u85) (PySem.W.mg_none_of KX G ?u86) (PySem.W.mg_none_of KX G ?u87) (PySem.W.mg_none_of KX G ?u88) (PySem.W.mg_none_of KX G ?u89) (PySem.W.mg_none_of KX G ?u90) (PySem.W.mg_none_of KX G ?u91) (PySem.W.mg_none_of KX G ?u92) (PySem.W.mg_none_of KX G ?u93) (PySem.W.mg_none_of KX G ?u94) (PySem.W.mg_none_of KX G ?u95) (PySem.W.mg_none_of KX G ?u96) (PySem.W.mg_none_of KX G ?u97) (PySem.W.mg_none_of KX G ?u98) (PySem.W.mg_none_of KX G ?u99))
    (case u0 => k_is)
    (case u1 => k_is)
    (case u2 => k_is)
    (case u3 => k_is)
    (case u4 => k_is)
    (case u5 => k_is)
    (case u6 => k_is)
    (case u7 => k_is)
    (case u8 => k_is)
    (case u9 => k_is)
    (case u10 => k_is)
    (case u11 => k_is)
    (case u12 => k_is)
    (case u13 => k_is)
    (case u14 => k_is)
    (case u15 => k_is)
    (case u16 => k_is)
    (case u17 => k_is)
    (case u18 => k_is)
    (case u19 => k_is)
    (case u20 => k_is)
    (case u21 => k_is)
    (case u22 => k_is)
    (case u23 => k_is)
    (case u24 => k_is)
    (case u25 => k_is)
    (case u26 => k_is)
    (case u27 => k_is)
    (case u28 => k_is)
    (case u29 => k_is)
    (case u30 => k_is)
    (case u31 => k_is)
    (case u32 => k_is)
    (case u33 => k_is)
    (case u34 => k_is)
    (case u35 => k_is)
    (case u36 => k_is)
    (case u37 => k_is)
    (case u38 => k_is)
    (case u39 => k_is)
    (case u40 => k_is)
    (case u41 => k_is)
    (case u42 => k_is)
    (case u43 => k_is)
    (case u44 => k_is)
    (case u45 => k_is)
    (case u46 => k_is)
    (case u47 => k_is)
    (case u48 => k_is)
    (case u49 => k_is)
    (case u50 => k_is)
    (case u51 => k_is)
    (case u52 => k_is)
    (case u53 => k_is)
    (case u54 => k_is)
    (case u55 => k_is)
    (case u56 => k_is)
    (case u57 => k_is)
    (case u58 => k_is)
    (case u59 => k_is)
    (case u60 => k_is)
    (case u61 => k_is)
    (case u62 => k_is)
    (case u63 => k_is)
    (case u64 => k_is)
    (case u65 => k_is)
    (case u66 => k_is)
    (case u67 => k_is)
    (case u68 => k_is)
    (case u69 => k_is)
    (case u70 => k_is)
    (case u71 => k_is)
    (case u72 => k_is)
    (case u73 => k_is)
    (case u74 => k_is)
    (case u75 => k_is)
    (case u76 => k_is)
    (case u77 => k_is)
    (case u78 => k_is)
    (case u79 => k_is)
    (case u80 => k_is)
    (case u81 => k_is)
    (case u82 => k_is)
    (case u83 => k_is)
    (case u84 => k_is)
    (case u85 => k_is)
    (case u86 => k_is)
    (case u87 => k_is)
    (case u88 => k_is)
    (case u89 => k_is)
    (case u90 => k_is)
    (case u91 => k_is)
    (case u92 => k_is)
    (case u93 => k_is)
    (case u94 => k_is)
    (case u95 => k_is)
    (case u96 => k_is)
    (case u97 => k_is)
    (case u98 => k_is)
    (case u99 => k_is)
end
#print axioms PySem.Challenge.cw_stoodin_k77_whole_papers_of_fewest_holds
