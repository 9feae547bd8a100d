import PyProof.Rows.All
import Wide.All
import OpenK.AllK
import Wide.FinOn
import KE.OsRunLaw
import HandS.ForMost
import KE.KeyNested
import HandS.Lambda
import KE.KNestM
import HandS.SetBool
import HandS.ForExc
import HandS.IsInst
import HandS.TupAny
import HandS.Deep
import HandS.Wide
import HandS.CallSlots
import HandS.Defaults
import KE.KUnpackStar
import HandS.Text
import KE.KIntText
import HandS.SetFor
import HandS.Strs
import HandS.SortInts
import HandS.List
import HandS.Comp
import HandS.SortKw
import HandS.MakeKw
import HandS.MakeKwOnly
import HandS.Style
import HandS.Flow
import HandS.TryMany
import HandS.ExcInit
import HandS.ExcIs
import HandS.ExcField
import HandS.Zip
import HandS.TupMul
import KE.KxMul
import HandS.TryOnly
import PyProof.Rows.SortStr
import PyProof.Rows.SortShellK
import PyProof.NeKinds
import KE.GoesMore
import PyProof.EnumMake
import HandS.DictComp
import HandS.TupSets
import HandS.SortOrd
import HandS.OwnEq
import PyProof.StrOps2
import KE.KDictDisplayH
import HandS.DictTup
import HandS.ListItems
import KE.KDictCopyH
import PyProof.Rows.SortShellAny
import HandS.Nested
import KE.KMinKey
import KE.KDictWalk
import HandS.EndTab
import KE.KDictSum
import KE.SortKeyHeap
import KE.DataMinMax
import PyProof.SumAny
import HandS.ClsMeth
import KE.SortCalls
import HandS.Conv
import HandS.HotCalls
import HandS.SuiteRaise
import HandS.StrMore
import KE.GoesRaise
import HandS.NoneIn
import PySem.Challenge.RW_stoodin_k84_rules_of_answers_read
set_option Elab.async false
set_option linter.all false
set_option autoImplicit false
set_option maxRecDepth 100000
set_option maxHeartbeats 4000000
namespace DL
open PySem PySem.W PySem.Calls PyProof.Rows HeadRun
/-! ### the head by one run, where the world's row may go either way -/
theorem split_w {P : World → Prop} (row : String) (h : ∀ (b : Bool) (w : World), P (w.withFollow row b)) : ∀ w, P w := fun w => World.withFollow_self w row ▸ h (w.params.followText row) w
structure WrapC (L : Prop) : Prop where
  x : L
/-- like map, by another head: the kernel compares it element by element (two maps, or two takes, it would first compare argument by argument) -/
def mapF {A B : Type} (f : A → B) (l : List A) : List B := l.foldr (fun a r => f a :: r) []
theorem mapF_eq {A B : Type} (f : A → B) : ∀ l : List A, mapF f l = l.map f
  | [] => rfl
  | a :: l => congrArg (f a :: ·) (mapF_eq f l)
def _root_.PyProof.Rows.Seen.rest (x : Seen) := (x.ownsOk, x.names, x.globalsOk, x.builtinsOk, x.noLimit, x.gens)
theorem seen_eq {x y : Seen} {g : Nat} (h1 : x.defs.take g = y.defs.take g) (h2 : x.defs.drop g = y.defs.drop g) (h3 : x.rest = y.rest) : x = y := by
  have h : x.defs = y.defs := by
    rw [← List.take_append_drop g x.defs, ← List.take_append_drop g y.defs]
    exact congr (congrArg _ h1) h2
  cases x; cases y
  unfold PyProof.Rows.Seen.rest at h3
  simp only [Prod.mk.injEq] at h3 h
  obtain ⟨a, b, c, d, e, f⟩ := h3
  subst h; subst a; subst b; subst c; subst d; subst e; subst f
  rfl
structure Wrap (L : Prop) : Prop where
  x : L
/-- the run where the row goes one way -/
noncomputable def runB (p : Program) (row : String) (b : Bool) (N : Nat) (w : World) (os : OsState) : Option SharedT := endF (stepQ (denQ tabQ) p (w.withFollow row b)) N p (w.withFollow row b) os
def Part {A : Type} (p : Program) (row : String) (b : Bool) (N : Nat) (f : World → SharedT → A) (v : World → A) : Prop := ∀ (w : World) (os : OsState), (runB p row b N w os).map (f (w.withFollow row b)) = some (v (w.withFollow row b))
noncomputable def sQ (p q : Program) (loose : List PySem.Str) (Xt : Shared → Bool) (s : SharedT) := HeadRun.seenQ q loose (importedModules p.main.body) Xt s.abs
/-- what is looked at behind the run, in parts (g: where the list of functions is cut; lw: another list of names that leaves the same plain classes) -/
structure Looks (p q : Program) (loose : List PySem.Str) (Xt : Shared → Bool) (row : String) (b : Bool) (N g : Nat) (lw : List PySem.Str) : Prop where
  g0 : Part p row b N (fun w s => (looksF p (boot_heap w.params) s.abs, (sQ p q loose Xt s).2.1, (sQ p q loose Xt s).2.2.2.2.1, (sQ p q loose Xt s).2.2.2.2.2.2.1, (sQ p q loose Xt s).2.2.2.2.2.2.2.2)) (fun _ => (true, bltViewBooted, (mapF (fun d => some d.1.shape) (drecsOf q), true), plainGoodD q loose, clsGoodW q loose))
  g1 : Part p row b N (fun w s => (plainSeenE q lw s.abs, ((sQ p q loose Xt s).1).defs.take g)) (fun _ => (plainGoodE q lw, mapF (fun d => some d.shape) ((recsOf q).take g)))
  g2 : Part p row b N (fun w s => (((sQ p q loose Xt s).1).defs.drop g, ((sQ p q loose Xt s).1).rest)) (fun _ => (mapF (fun d => some d.shape) ((recsOf q).drop g), (true, [], true, true, true, 0)))
  g3 : Part p row b N (fun w s => (sQ p q loose Xt s).2.2.1) (fun _ => true)
  g4 : Part p row b N (fun w s => (sQ p q loose Xt s).2.2.2.1) (fun _ => true)
  g5 : Part p row b N (fun w s => (sQ p q loose Xt s).2.2.2.2.2.2.2.1) (fun _ => (mapF (fun d => some d.1.shape) (wdefsOf q), true))
theorem Looks.all {p q : Program} {loose : List PySem.Str} {Xt : Shared → Bool} {row : String} {b : Bool} {N g : Nat} {lw : List PySem.Str} (ep : plainsOf q (looseW q loose) = plainsOf q lw) (l : Looks p q loose Xt row b N g lw) {C : Type} {f : World → SharedT → C} {v : World → C} (c : Part p row b N f v) (w : World) (os : OsState) :
    (runB p row b N w os).map (fun s => (looksF p (boot_heap (w.withFollow row b).params) s.abs, sQ p q loose Xt s, f (w.withFollow row b) s)) = some (true, openGood q loose, v (w.withFollow row b)) := by
  have c0 := c w os
  have g0 := l.g0 w os
  have g1 := l.g1 w os
  have g2 := l.g2 w os
  have g3 := l.g3 w os
  have g4 := l.g4 w os
  have g5 := l.g5 w os
  revert c0 g0 g1 g2 g3 g4 g5
  cases runB p row b N w os with
  | none => intro c0; cases c0
  | some s =>
    intro c0 g0 g1 g2 g3 g4 g5
    have e := fun {A : Type} {a b : A} (h : some a = some b) => Option.some.inj h
    have c1 := e c0
    have k0 := e g0
    have k1 := e g1
    have k2 := e g2
    have k3 := e g3
    have k4 := e g4
    have k5 := e g5
    have s5 : (sQ p q loose Xt s).2.2.2.2.2.1 = plainGoodE q (looseW q loose) := by
      have z : plainSeenE q lw s.abs = plainGoodE q lw := (Prod.mk.inj k1).1
      have y : (openSeen q loose (importedModules p.main.body) Xt true s.abs).2.2.2.2.2.1 = (sQ p q loose Xt s).2.2.2.2.2.1 := congrArg (fun x => x.2.2.2.2.2.1) (HeadRun.seenQ_eq q loose (importedModules p.main.body) Xt s.abs)
      rw [← y]
      show plainSeenE q (looseW q loose) s.abs = plainGoodE q (looseW q loose)
      unfold plainSeenE plainGoodE at z ⊢
      rw [ep]
      exact z
    have e1 := fun {A B : Type} {a a' : A} {b b' : B} (h : (a, b) = (a', b')) => (Prod.mk.inj h).1
    have e2 := fun {A B : Type} {a a' : A} {b b' : B} (h : (a, b) = (a', b')) => (Prod.mk.inj h).2
    have k1 := e2 k1
    rw [mapF_eq, List.map_take] at k1
    rw [mapF_eq, List.map_drop] at k2
    rw [mapF_eq] at k5 k0
    have sq : sQ p q loose Xt s = openGood q loose := Prod.ext (seen_eq k1 (e1 k2) (e2 k2)) (Prod.ext (e1 (e2 k0)) (Prod.ext k3 (Prod.ext k4 (Prod.ext (e1 (e2 (e2 k0))) (Prod.ext s5 (Prod.ext (e1 (e2 (e2 (e2 k0)))) (Prod.ext k5 (e2 (e2 (e2 (e2 k0)))))))))))
    show some _ = some _
    exact congrArg some (Prod.ext (e1 k0) (Prod.ext sq c1))
end DL
namespace DL
open PySem PySem.W PySem.Calls PyProof.Rows HeadRun
/-- what is looked at behind the run, in parts (g: where the list of functions is cut; lw: another list of names that leaves the same plain classes) -/
structure Looks5 (p q : Program) (loose : List PySem.Str) (Xt : Shared → Bool) (row : String) (b : Bool) (N g : Nat) (lw : List PySem.Str) : Prop where
  g0 : Part p row b N (fun w s => (looksF p (boot_heap w.params) s.abs, (sQ p q loose Xt s).2.1, (sQ p q loose Xt s).2.2.2.2.1, (sQ p q loose Xt s).2.2.2.2.2.2.1, (sQ p q loose Xt s).2.2.2.2.2.2.2.2)) (fun _ => (true, bltViewBooted, (mapF (fun d => some d.1.shape) (drecsOf q), true), plainGoodD q loose, clsGoodW q loose))
  g2 : Part p row b N (fun w s => (((sQ p q loose Xt s).1).defs.drop g, ((sQ p q loose Xt s).1).rest)) (fun _ => (mapF (fun d => some d.shape) ((recsOf q).drop g), (true, [], true, true, true, 0)))
  g3 : Part p row b N (fun w s => (sQ p q loose Xt s).2.2.1) (fun _ => true)
  g4 : Part p row b N (fun w s => (sQ p q loose Xt s).2.2.2.1) (fun _ => true)
  g5 : Part p row b N (fun w s => (sQ p q loose Xt s).2.2.2.2.2.2.2.1) (fun _ => (mapF (fun d => some d.1.shape) (wdefsOf q), true))
theorem Looks5.all {p q : Program} {loose : List PySem.Str} {Xt : Shared → Bool} {row : String} {b : Bool} {N g : Nat} {lw : List PySem.Str} (ep : plainsOf q (looseW q loose) = plainsOf q lw) (l : Looks5 p q loose Xt row b N g lw) {C : Type} {f : World → SharedT → C} {v : World → C} (c : Part p row b N (fun w s => ((plainSeenE q lw s.abs, ((sQ p q loose Xt s).1).defs.take g), f w s)) (fun w => ((plainGoodE q lw, mapF (fun d => some d.shape) ((recsOf q).take g)), v w))) (w : World) (os : OsState) :
    (runB p row b N w os).map (fun s => (looksF p (boot_heap (w.withFollow row b).params) s.abs, sQ p q loose Xt s, f (w.withFollow row b) s)) = some (true, openGood q loose, v (w.withFollow row b)) := by
  have c0 := c w os
  have g0 := l.g0 w os
  have g2 := l.g2 w os
  have g3 := l.g3 w os
  have g4 := l.g4 w os
  have g5 := l.g5 w os
  revert c0 g0 g2 g3 g4 g5
  cases runB p row b N w os with
  | none => intro c0; cases c0
  | some s =>
    intro c0 g0 g2 g3 g4 g5
    have e := fun {A : Type} {a b : A} (h : some a = some b) => Option.some.inj h
    have k1 := (Prod.mk.inj (e c0)).1
    have c1 := (Prod.mk.inj (e c0)).2
    have k0 := e g0
    have k2 := e g2
    have k3 := e g3
    have k4 := e g4
    have k5 := e g5
    have s5 : (sQ p q loose Xt s).2.2.2.2.2.1 = plainGoodE q (looseW q loose) := by
      have z : plainSeenE q lw s.abs = plainGoodE q lw := (Prod.mk.inj k1).1
      have y : (openSeen q loose (importedModules p.main.body) Xt true s.abs).2.2.2.2.2.1 = (sQ p q loose Xt s).2.2.2.2.2.1 := congrArg (fun x => x.2.2.2.2.2.1) (HeadRun.seenQ_eq q loose (importedModules p.main.body) Xt s.abs)
      rw [← y]
      show plainSeenE q (looseW q loose) s.abs = plainGoodE q (looseW q loose)
      unfold plainSeenE plainGoodE at z ⊢
      rw [ep]
      exact z
    have e1 := fun {A B : Type} {a a' : A} {b b' : B} (h : (a, b) = (a', b')) => (Prod.mk.inj h).1
    have e2 := fun {A B : Type} {a a' : A} {b b' : B} (h : (a, b) = (a', b')) => (Prod.mk.inj h).2
    have k1 := e2 k1
    rw [mapF_eq, List.map_take] at k1
    rw [mapF_eq, List.map_drop] at k2
    rw [mapF_eq] at k5 k0
    have sq : sQ p q loose Xt s = openGood q loose := Prod.ext (seen_eq k1 (e1 k2) (e2 k2)) (Prod.ext (e1 (e2 k0)) (Prod.ext k3 (Prod.ext k4 (Prod.ext (e1 (e2 (e2 k0))) (Prod.ext s5 (Prod.ext (e1 (e2 (e2 (e2 k0)))) (Prod.ext k5 (e2 (e2 (e2 (e2 k0)))))))))))
    show some _ = some _
    exact congrArg some (Prod.ext (e1 k0) (Prod.ext sq c1))
theorem left_bothK5 {p q : Program} {loose : List PySem.Str} {Xt : Shared → Bool} {K : Params → Frag} {as : List Addr} {ek : ∀ P, as = (K P).map (·.1)} {N : Nat} (row : String) (g : Nat) (lw : List PySem.Str) (ep : plainsOf q (looseW q loose) = plainsOf q lw)
    (e : opening p = plainProg p.main.scope.names) (hN : Nat.ble 600 N = true) (f : ∀ s, fenceModules? p s = some s)
    (l0 : Looks5 p q loose Xt row false N g lw) (c0 : Part p row false N (fun _ s => ((plainSeenE q lw s.abs, ((sQ p q loose Xt s).1).defs.take g), as.map (getT s))) (fun w => ((plainGoodE q lw, mapF (fun d => some d.shape) ((recsOf q).take g)), (K w.params).map fun x => some x.2))) (l1 : Looks5 p q loose Xt row true N g lw) (c1 : Part p row true N (fun _ s => ((plainSeenE q lw s.abs, ((sQ p q loose Xt s).1).defs.take g), as.map (getT s))) (fun w => ((plainGoodE q lw, mapF (fun d => some d.shape) ((recsOf q).take g)), (K w.params).map fun x => some x.2))) :
    LeftO p q loose Xt (Hook.obs (kHook K as ek)) (Hook.val (kHook K as ek)) N true :=
  left_oneK (M := N) e hN f (Nat.ble_eq_true_of_le (Nat.le_refl _)) (split_w row fun b w os => by cases b; exact Looks5.all ep l0 c0 w os; exact Looks5.all ep l1 c1 w os)
end DL
section
local macro_rules
  | `(tactic| o_head $H) => `(tactic| o_headL $H)
local macro_rules
  | `(tactic| refine $h:ident (q := $q) (loose := $l) (Xt := $a) (XP := $b) (Yf := $c) (Ya := $d) (YP := $e) (N := $n) ?hl $xs*) => do
    let ys := xs.pop
    `(tactic| refine' $h (q := $q) (loose := $l) (Xt := $a) (XP := $b) (Yf := $c) (Ya := $d) (YP := $e) (N := $n) (DL.Wrap.x (by assumption)) $ys* (DL.WrapC.x (by assumption)))
open PySem PySem.W PyProof.Rows in
set_option maxRecDepth 100000 in
set_option maxHeartbeats 0 in
noncomputable def Lw.hdS : PSigma fun A : Prop => PSigma fun B : Prop => DL.Wrap A → DL.WrapC B → PySem.Challenge.rw_stoodin_k84_rules_of_answers_read.Holds := ⟨_, _, fun hWrap hWrapC => by
  w_on; o_law; k_head; (case hw => w_witness2)⟩
end
open PySem PySem.W PyProof.Rows in
set_option maxRecDepth 100000 in
set_option maxHeartbeats 0 in
noncomputable def Lw.hlS : PSigma fun L : Prop × Prop × Prop × Prop × Prop × Prop × Prop × Prop × Prop × Prop × Prop × Prop × Prop => L.1 → L.2.1 → L.2.2.1 → L.2.2.2.1 → L.2.2.2.2.1 → L.2.2.2.2.2.1 → L.2.2.2.2.2.2.1 → L.2.2.2.2.2.2.2.1 → L.2.2.2.2.2.2.2.2.1 → L.2.2.2.2.2.2.2.2.2.1 → L.2.2.2.2.2.2.2.2.2.2.1 → L.2.2.2.2.2.2.2.2.2.2.2.1 → L.2.2.2.2.2.2.2.2.2.2.2.2 → Lw.hdS.1 := ⟨(_, _, _, _, _, _, _, _, _, _, _, _, _), fun x0 x1 x2 x3 x4 x5 x6 x7 x8 x9 x10 x11 x12 => DL.left_bothK5 "special-get-raises" 35 [] x12 (by kernel_rfl) (by kernel_rfl) (fun s => by kernel_rfl) ⟨x0, x1, x2, x3, x4⟩ x5 ⟨x6, x7, x8, x9, x10⟩ x11⟩
set_option maxRecDepth 100000 in
set_option maxHeartbeats 0 in
theorem Lw.hr0 : Lw.hlS.1.1 := by intro w os; kernel_rfl
set_option maxRecDepth 100000 in
set_option maxHeartbeats 0 in
theorem Lw.hr1 : Lw.hlS.1.2.1 := by intro w os; kernel_rfl
set_option maxRecDepth 100000 in
set_option maxHeartbeats 0 in
theorem Lw.hr2 : Lw.hlS.1.2.2.1 := by intro w os; kernel_rfl
set_option maxRecDepth 100000 in
set_option maxHeartbeats 0 in
theorem Lw.hr3 : Lw.hlS.1.2.2.2.1 := by intro w os; kernel_rfl
set_option maxRecDepth 100000 in
set_option maxHeartbeats 0 in
theorem Lw.hr4 : Lw.hlS.1.2.2.2.2.1 := by intro w os; kernel_rfl
set_option maxRecDepth 100000 in
set_option maxHeartbeats 0 in
theorem Lw.hr5 : Lw.hlS.1.2.2.2.2.2.1 := by intro w os; kernel_rfl
set_option maxRecDepth 100000 in
set_option maxHeartbeats 0 in
theorem Lw.hr6 : Lw.hlS.1.2.2.2.2.2.2.1 := by intro w os; kernel_rfl
set_option maxRecDepth 100000 in
set_option maxHeartbeats 0 in
theorem Lw.hr7 : Lw.hlS.1.2.2.2.2.2.2.2.1 := by intro w os; kernel_rfl
set_option maxRecDepth 100000 in
set_option maxHeartbeats 0 in
theorem Lw.hr8 : Lw.hlS.1.2.2.2.2.2.2.2.2.1 := by intro w os; kernel_rfl
set_option maxRecDepth 100000 in
set_option maxHeartbeats 0 in
theorem Lw.hr9 : Lw.hlS.1.2.2.2.2.2.2.2.2.2.1 := by intro w os; kernel_rfl
set_option maxRecDepth 100000 in
set_option maxHeartbeats 0 in
theorem Lw.hr10 : Lw.hlS.1.2.2.2.2.2.2.2.2.2.2.1 := by intro w os; kernel_rfl
set_option maxRecDepth 100000 in
set_option maxHeartbeats 0 in
theorem Lw.hr11 : Lw.hlS.1.2.2.2.2.2.2.2.2.2.2.2.1 := by intro w os; kernel_rfl
set_option maxRecDepth 100000 in
set_option maxHeartbeats 0 in
theorem Lw.hr12 : Lw.hlS.1.2.2.2.2.2.2.2.2.2.2.2.2 := by show _ = _; kernel_rfl
namespace DL
open PySem L2
/-- what is known of the text, and the world -/
structure KW where
  fr : PySem.W.Frag
  w : World
instance : Coe KW PySem.W.Frag := ⟨KW.fr⟩
abbrev kw (X : Cx) : KW := ⟨X.K, X.w⟩
/-! ### the table of the code objects that a def with a lambda makes -/
def lamNs : List Str := ["judged", "judged_judging"]
def LamT (K : PySem.W.Frag) (P : Addr) (q : Str) : Prop := ∃ c, PySem.W.codeHdIn K c P = true ∧ PySem.W.codeIn K (.ref c) q = true ∧ q ∈ lamNs
def NoLam (K : PySem.W.Frag) : Prop := ∀ P q, ¬ LamT K P q
def lamQ (q : Str) : Str := (q ++ ".<locals>.") ++ "<lambda>"
structure TabA (F H0 : Hp) (H : Hp) (P : Addr) (q : Str) : Prop where
  h0 : H0 P = none
  hF : F P = none
  tab : ∃ ps : Array Value, H P = some (.tbl ps) ∧ TriplesOk ps.toList ∧ ∀ (pos : Pos) (cv : Value), codeAmong pos ps.toList = some cv → ∃ c, cv = .ref c ∧ H0 c = some (LamX.CodeO c (lamQ q))
theorem TabA.step {F F' H0 H0' H H' : Hp} {P : Addr} {q : Str} (t : TabA F H0 H P q) (s : ∀ b u, H0 b = some u → H0' b = some u) (e0 : H0' P = none) (eF : F' P = none) (e : H' P = H P) : TabA F' H0' H' P q :=
  ⟨e0, eF, let ⟨ps, h1, h2, h3⟩ := t.tab; ⟨ps, e.trans h1, h2, fun pos cv hc => let ⟨c, a, b⟩ := h3 pos cv hc; ⟨c, a, s _ _ b⟩⟩⟩
theorem TabA.ne_none {F H0 H : Hp} {P p : Addr} {q : Str} (t : TabA F H0 H P q) (h : H p = none) : P ≠ p := fun z => by
  obtain ⟨ps, h1, _⟩ := t.tab
  rw [z, h] at h1; cases h1
theorem TabA.ne_some {F H0 H : Hp} {P p : Addr} {q : Str} {o : HO} (t : TabA F H0 H P q) (h : H p = some o) (ht : ∀ ps, o ≠ .tbl ps) : P ≠ p := fun z => by
  obtain ⟨ps, h1, _⟩ := t.tab
  rw [z, h] at h1; exact ht ps (Option.some.inj h1)
theorem TabA.ne_frame {F H0 H : Hp} {P p : Addr} {q : Str} {o : HO} (t : TabA F H0 H P q) (h : F p = some o) : P ≠ p := fun z => by
  have := t.hF
  rw [z, h] at this; cases this
/-! ### a dict whose keys are tuples, nested -/
def RE (e : NestedKey × Addr × V) (x : NestedKey × Addr × Value) : Prop := e.1 = x.1 ∧ e.2.1 = x.2.1 ∧ RelV e.2.2 x.2.2
def dgEnt (w : World) (x : NestedKey × Addr × Value) : DictEntry := ⟨x.1.hash w, .ref x.2.1, x.2.2⟩
def DGp (w : World) (a : Addr) (L : List (NestedKey × Addr × V)) (h : Heap) : Prop :=
  (a == sysModules) = false ∧ L.length ≤ sizeLine ∧ ∃ xs : List (NestedKey × Addr × Value), Paired RE L xs ∧ (xs.map (·.1)).Nodup ∧ ∃ o es ep, h.get? a = some o ∧ o.ExactDict ∧ o.data = .dict es ep ∧ es.toList = xs.map (dgEnt w)
def DGO (w : World) (a : Addr) (L : List (NestedKey × Addr × V)) : HO := .ext (DGp w a L)
/-! ### a dict whose keys are truths and texts -/
abbrev KeyB := Sum Bool Str
def keyIsB : KeyB → Value → Bool
  | .inl b, v => PpSet.isB b v
  | .inr x, v => Value.isStrOf x v
def keyHB (w : World) : KeyB → Int
  | .inl b => PpSet.hB b
  | .inr x => hashStr w x
theorem keyIsB_shape : ∀ {k : KeyB} {v : Value}, keyIsB k v = true → (∃ b, k = Sum.inl b ∧ v = Value.bool b) ∨ (∃ x t, k = Sum.inr x ∧ v = Value.str x t)
  | .inl b, v, h => .inl ⟨b, rfl, PpSet.isB_shape h⟩
  | .inr x, v, h => by
    obtain ⟨t, e⟩ := Value.isStrOf_shape (x := x) (v := v) h
    exact .inr ⟨x, t, rfl, e⟩
def bKind (prog : Program) (w : World) : PySem.KeyKind prog w KeyB where
  is := keyIsB
  hash := keyHB w
  inj := fun v a b ha hb => by
    rcases keyIsB_shape ha with ⟨i, rfl, rfl⟩ | ⟨x, t, rfl, rfl⟩
    · rcases keyIsB_shape hb with ⟨j, rfl, e⟩ | ⟨y, u, rfl, e⟩
      · injection e with e1; rw [e1]
      · exact nomatch e
    · rcases keyIsB_shape hb with ⟨j, rfl, e⟩ | ⟨y, u, rfl, e⟩
      · exact nomatch e
      · injection e with e1 _; rw [e1]
  byValue := fun k v h => by
    rcases keyIsB_shape h with ⟨i, rfl, rfl⟩ | ⟨x, t, rfl, rfl⟩ <;> rfl
  pyHash := fun hv h => by
    rcases keyIsB_shape hv with ⟨i, rfl, rfl⟩ | ⟨x, t, rfl, rfl⟩
    · exact PpSet.pyHash_bool h
    · exact wpAny_pyHash_str h
  eqBool := fun {A E s a b u v Q} hu hv h => by
    rcases keyIsB_shape hu with ⟨i, rfl, rfl⟩ | ⟨x, t, rfl, rfl⟩
    · rcases keyIsB_shape hv with ⟨j, rfl, rfl⟩ | ⟨y, u, rfl, rfl⟩
      · exact SeqAt.EqAt.bool_bool i j _ _ _ _ (by
          have e : (i == j) = decide ((Sum.inl i : KeyB) = Sum.inl j) := by cases i <;> cases j <;> rfl
          rw [e]; exact h)
      · exact SeqAt.EqAt.bool_str i y u _ _ _ _ (by rwa [decide_eq_false (fun q => nomatch q)] at h)
    · rcases keyIsB_shape hv with ⟨j, rfl, rfl⟩ | ⟨y, u, rfl, rfl⟩
      · exact SeqAt.EqAt.str_bool x t j _ _ _ _ (by rwa [decide_eq_false (fun q => nomatch q)] at h)
      · exact wpAny_eqBool_str (by
          have e : decide ((Sum.inr x : KeyB) = Sum.inr y) = decide (x = y) := by
            by_cases z : x = y
            · subst z; simp
            · rw [decide_eq_false z, decide_eq_false (fun q => z (Sum.inr.inj q))]
          rwa [e] at h)
  «strs» := fun k x t v h => by
    rcases keyIsB_shape h with ⟨i, rfl, e⟩ | ⟨y, u, rfl, e⟩
    · exact nomatch e
    · injection e with e1 _
      subst e1
      cases v <;> rfl
def RB (e : KeyB × V) (x : KeyB × Value) : Prop := e.1 = x.1 ∧ RelV e.2 x.2
def DBp (w : World) (a : Addr) (L : List (KeyB × V)) (h : Heap) : Prop :=
  (a == sysModules) = false ∧ L.length ≤ sizeLine ∧ ∃ vs : List (KeyB × Value), Paired RB L vs ∧ ∀ P, h.DictOf (bKind P w) a vs
def DBO (w : World) (a : Addr) (L : List (KeyB × V)) : HO := .ext (DBp w a L)
end DL
namespace DL
open PySem L2
/-! ### data -/
/-- the module's name n holds the object at C (a class, a def) -/
def ClsAt (K : PySem.W.Frag) (n : Str) (C : Addr) : Prop := PySem.W.nsIn K mainGlobals n = some (some (.ref C))
inductive D where
  | non | bl (b : Bool) | int (i : Int) | str (x : Str) | ty (n : String) | adr (a : Addr) | glb (n : Str) | exc (a C dd : Addr) (n : Str) (fs : List (Str × D))
  | lst (ds : List D) | tup (ds : List D) | dct (kvs : List (Key × D)) | ins (n : Str) (fs : List (Str × D))
/-- what may change -/
inductive MO where
  | lst (ds : List D) | dct (kvs : List (Key × D)) | dgt (kvs : List (D × D)) | dgl (o : Obj) (kvs : List (D × D)) | dbt (kvs : List (KeyB × D)) | ins (n : Str) (fs : List (Str × D))
mutual
/-- data as a key, up to == -/
def nk : D → NestedKey
  | .bl b => .num (if b = true then 1 else 0)
  | .int i => .num i
  | .str x => .text x
  | .tup ds => .tup (nks ds)
  | _ => .none
def nks : List D → List NestedKey
  | [] => []
  | d :: ds => nk d :: nks ds
end
mutual
def kyB : D → Bool
  | .non => true
  | .bl _ => true
  | .int _ => true
  | .str _ => true
  | .tup ds => kyBs ds
  | _ => false
def kyBs : List D → Bool
  | [] => true
  | d :: ds => kyB d && kyBs ds
end
/-- a tuple that can be a key -/
def ktB : D → Bool
  | .tup ds => kyBs ds && decide ((nk (.tup ds)).depth ≤ 8)
  | _ => false
abbrev Mu := Addr → Option MO
def mset (m : Mu) (a : Addr) (o : MO) : Mu := fun b => if b = a then some o else m b
def mdel (m : Mu) (a : Addr) : Mu := fun b => if b = a then none else m b
mutual
inductive Rp (K : PySem.W.Frag) (H : Hp) : V → D → Prop
  | non : Rp K H .non .non
  | bl (b : Bool) : Rp K H (.bl b) (.bl b)
  | int (i : Int) : Rp K H (.int i) (.int i)
  | str (x : Str) : Rp K H (.str x) (.str x)
  | ty (n : String) : Rp K H (.ty n) (.ty n)
  | adr (a : Addr) : Rp K H (.ref a) (.adr a)
  | glb {n : Str} {C : Addr} : ClsAt K n C → Rp K H (.ref C) (.glb n)
  | exc {a C dd : Addr} {n : Str} {fv : List (Str × V)} {fs : List (Str × D)} : ClsAt K n C → H dd = some (.xd fv) → fv.map (·.1) = fs.map (·.1) → RpL K H (fv.map (·.2)) (fs.map (·.2)) → Rp K H (.ref a) (.exc a C dd n fs)
  | lst {a : Addr} {vs : List V} {ds : List D} : SqL K H a vs → RpL K H vs ds → Rp K H (.ref a) (.lst ds)
  | tup {a : Addr} {vs : List V} {ds : List D} : SqT K H a vs → RpL K H vs ds → Rp K H (.ref a) (.tup ds)
  | dct {a : Addr} {kvs : List (Key × V)} {ds : List (Key × D)} : H a = some (.dK kvs) → kvs.map (·.1) = ds.map (·.1) → RpL K H (kvs.map (·.2)) (ds.map (·.2)) → Rp K H (.ref a) (.dct ds)
  | ins {a C dx : Addr} {n : Str} {fs : List (Str × V)} {ds : List (Str × D)} : ClsAt K n C → H a = some (.ins C dx fs) → fs.map (·.1) = ds.map (·.1) → RpL K H (fs.map (·.2)) (ds.map (·.2)) → Rp K H (.ref a) (.ins n ds)
inductive RpL (K : PySem.W.Frag) (H : Hp) : List V → List D → Prop
  | nil : RpL K H [] []
  | cons {v : V} {vs : List V} {d : D} {ds : List D} : Rp K H v d → RpL K H vs ds → RpL K H (v :: vs) (d :: ds)
end
theorem seqT_mono {K : PySem.W.Frag} {H H' : Hp} {a : Addr} {xs : List V} (e : Same H H') (h : SqT K H a xs) : SqT K H' a xs := by
  rcases h with (h | ⟨o, h⟩) | h
  · exact .inl (.inl (e _ _ h))
  · exact .inl (.inr ⟨o, e _ _ h⟩)
  · exact .inr h
mutual
theorem Rp.mono {K : PySem.W.Frag} {H H' : Hp} (s : Same H H') : ∀ {v : V} {d : D}, Rp K H v d → Rp K H' v d
  | _, _, .non => .non
  | _, _, .bl b => .bl b
  | _, _, .int i => .int i
  | _, _, .str x => .str x
  | _, _, .ty n => .ty n
  | _, _, .adr a => .adr a
  | _, _, .glb h => .glb h
  | _, _, .exc c h e r => .exc c (s _ _ h) e (RpL.mono s r)
  | _, _, .lst h r => .lst (s.seq h) (RpL.mono s r)
  | _, _, .tup h r => .tup (seqT_mono s h) (RpL.mono s r)
  | _, _, .dct h e r => .dct (s _ _ h) e (RpL.mono s r)
  | _, _, .ins c h e r => .ins c (s _ _ h) e (RpL.mono s r)
theorem RpL.mono {K : PySem.W.Frag} {H H' : Hp} (s : Same H H') : ∀ {vs : List V} {ds : List D}, RpL K H vs ds → RpL K H' vs ds
  | _, _, .nil => .nil
  | _, _, .cons h r => .cons (Rp.mono s h) (RpL.mono s r)
end
/-! ### worlds: H0 what never changes, m what may -/
def MRep (K : KW) (H0 H : Hp) (a : Addr) : MO → Prop
  | .lst ds => ∃ vs, H a = some (.lst vs) ∧ RpL K H0 vs ds
  | .dct kvs => ∃ kv, H a = some (.dK kv) ∧ kv.map (·.1) = kvs.map (·.1) ∧ RpL K H0 (kv.map (·.2)) (kvs.map (·.2))
  | .dgt kvs => ∃ L, H a = some (DGO K.w a L) ∧ Paired (fun e p => e.1 = nk p.1 ∧ ktB p.1 = true ∧ Rp K H0 (.ref e.2.1) p.1 ∧ Rp K H0 e.2.2 p.2) L kvs
  | .dgl o kvs => ∃ L, H a = some (.frz o (DGO K.w a L)) ∧ Paired (fun e p => e.1 = nk p.1 ∧ ktB p.1 = true ∧ Rp K H0 (.ref e.2.1) p.1 ∧ Rp K H0 e.2.2 p.2) L kvs
  | .dbt kvs => ∃ L, H a = some (DBO K.w a L) ∧ Paired (fun e p => e.1 = p.1 ∧ Rp K H0 e.2 p.2) L kvs
  | .ins n fs => ∃ C dx fv, ClsAt K n C ∧ H a = some (.ins C dx fv) ∧ fv.map (·.1) = fs.map (·.1) ∧ RpL K H0 (fv.map (·.2)) (fs.map (·.2))
theorem MRep.some {K : KW} {H0 H : Hp} {a : Addr} {o : MO} (h : MRep K H0 H a o) : ∃ u, H a = some u := by
  cases o with
  | lst ds => obtain ⟨vs, h, _⟩ := h; exact ⟨_, h⟩
  | dct ds => obtain ⟨vs, h, _⟩ := h; exact ⟨_, h⟩
  | dgt ds => obtain ⟨vs, h, _⟩ := h; exact ⟨_, h⟩
  | dgl o ds => obtain ⟨vs, h, _⟩ := h; exact ⟨_, h⟩
  | dbt ds => obtain ⟨vs, h, _⟩ := h; exact ⟨_, h⟩
  | ins C ds => obtain ⟨_, _, vs, _, h, _⟩ := h; exact ⟨_, h⟩
theorem mrep_noT {K : KW} {H0 H : Hp} {a : Addr} {o : MO} (h : MRep K H0 H a o) : ∃ u, H a = some u ∧ ∀ ps, u ≠ .tbl ps := by
  cases o with
  | lst ds => obtain ⟨vs, h, _⟩ := h; exact ⟨_, h, fun _ z => nomatch z⟩
  | dct ds => obtain ⟨vs, h, _⟩ := h; exact ⟨_, h, fun _ z => nomatch z⟩
  | dgt ds => obtain ⟨vs, h, _⟩ := h; exact ⟨_, h, fun _ z => nomatch z⟩
  | dgl o ds => obtain ⟨vs, h, _⟩ := h; exact ⟨_, h, fun _ z => nomatch z⟩
  | dbt ds => obtain ⟨vs, h, _⟩ := h; exact ⟨_, h, fun _ z => nomatch z⟩
  | ins C ds => obtain ⟨_, _, vs, _, h, _⟩ := h; exact ⟨_, h, fun _ z => nomatch z⟩
theorem MRep.mono {K : KW} {H0 H H0' H' : Hp} {a : Addr} {o : MO} (h : MRep K H0 H a o) (s : Same H0 H0') (e : H' a = H a) : MRep K H0' H' a o := by
  cases o with
  | lst ds => obtain ⟨vs, h, r⟩ := h; exact ⟨vs, e.trans h, r.mono s⟩
  | dct ds => obtain ⟨vs, h, q, r⟩ := h; exact ⟨vs, e.trans h, q, r.mono s⟩
  | dgt ds => obtain ⟨L, h, q⟩ := h; exact ⟨L, e.trans h, L2.Paired.mapP q fun _ _ z => ⟨z.1, z.2.1, z.2.2.1.mono s, z.2.2.2.mono s⟩⟩
  | dgl o ds => obtain ⟨L, h, q⟩ := h; exact ⟨L, e.trans h, L2.Paired.mapP q fun _ _ z => ⟨z.1, z.2.1, z.2.2.1.mono s, z.2.2.2.mono s⟩⟩
  | dbt ds => obtain ⟨L, h, q⟩ := h; exact ⟨L, e.trans h, L2.Paired.mapP q fun _ _ z => ⟨z.1, z.2.mono s⟩⟩
  | ins C ds => obtain ⟨C, dx, vs, c, h, q, r⟩ := h; exact ⟨C, dx, vs, c, e.trans h, q, r.mono s⟩
/-- F: a frame that stays as it is -/
structure Ok (K : KW) (F : Hp) (H0 : Hp) (m : Mu) (H : Hp) : Prop where
  same : Same H0 H
  cell : ∀ a o, m a = some o → H0 a = none ∧ MRep K H0 H a o
  fr : ∀ a o, F a = some o → H a = some o ∧ H0 a = none ∧ m a = none
  tab : ∀ P q, LamT K.fr P q → TabA F H0 H P q
theorem Ok.neM {K : KW} {F H0 H : Hp} {m : Mu} {P p : Addr} {q : Str} {o : MO} (ok : Ok K F H0 m H) (l : LamT K.fr P q) (h : m p = some o) : P ≠ p :=
  let ⟨_, h1, h2⟩ := mrep_noT (ok.cell p o h).2; (ok.tab P q l).ne_some h1 h2
theorem Ok.free {K : KW} {F : Hp} {H0 H : Hp} {m : Mu} {a : Addr} (ok : Ok K F H0 m H) (h : H a = none) : H0 a = none ∧ m a = none := by
  refine ⟨ok.same.free h, ?_⟩
  cases e : m a with
  | none => rfl
  | some o =>
    obtain ⟨u, hu⟩ := (ok.cell a o e).2.some
    rw [h] at hu; cases hu
theorem same_new {H : Hp} {p : Addr} {o : HO} (h : H p = none) : Same H (upd H p o) := fun b u e => by
  rw [upd_ne (ne_of_none e h)]; exact e
/-- a new thing that never changes -/
theorem Ok.new {K : KW} {F : Hp} {H0 H : Hp} {m : Mu} {p : Addr} (ok : Ok K F H0 m H) (h : H p = none) (o : HO) : Ok K F (upd H0 p o) m (upd H p o) := by
  obtain ⟨h0, hm⟩ := ok.free h
  refine ⟨fun b u e => ?_, fun a q e => ?_, fun a q e => ?_, fun P q l => have t := ok.tab P q l; have n := t.ne_none h; t.step (same_new h0) ((upd_ne n).trans t.h0) t.hF (upd_ne n)⟩
  · by_cases hb : b = p
    · subst hb; rw [upd_same] at e ⊢; exact e
    · rw [upd_ne hb] at e ⊢; exact ok.same b u e
  · obtain ⟨c1, c2⟩ := ok.cell a q e
    have ha : a ≠ p := fun z => by rw [z, hm] at e; cases e
    exact ⟨by rw [upd_ne ha]; exact c1, c2.mono (same_new h0) (upd_ne ha)⟩
  · obtain ⟨c1, c2, c3⟩ := ok.fr a q e
    have ha : a ≠ p := ne_of_none c1 h
    exact ⟨by rw [upd_ne ha]; exact c1, by rw [upd_ne ha]; exact c2, c3⟩
/-- a new thing of ours that may change -/
theorem Ok.newM {K : KW} {F : Hp} {H0 H : Hp} {m : Mu} {p : Addr} {u : HO} {o : MO} (ok : Ok K F H0 m H) (h : H p = none) (r : MRep K H0 (upd H p u) p o) : Ok K F H0 (mset m p o) (upd H p u) := by
  obtain ⟨h0, hm⟩ := ok.free h
  refine ⟨fun b q e => ?_, fun a q e => ?_, fun a q e => ?_, fun P q l => have t := ok.tab P q l; t.step (fun _ _ z => z) t.h0 t.hF (upd_ne (t.ne_none h))⟩
  · rw [upd_ne (ne_of_none (ok.same b q e) h)]; exact ok.same b q e
  · unfold mset at e
    by_cases ha : a = p
    · subst ha; rw [if_pos rfl] at e; cases e; exact ⟨h0, r⟩
    · rw [if_neg ha] at e
      obtain ⟨c1, c2⟩ := ok.cell a q e
      exact ⟨c1, c2.mono (Same.refl _) (upd_ne ha)⟩
  · obtain ⟨c1, c2, c3⟩ := ok.fr a q e
    have ha : a ≠ p := ne_of_none c1 h
    exact ⟨by rw [upd_ne ha]; exact c1, c2, by unfold mset; rw [if_neg ha]; exact c3⟩
/-- a thing of ours changes -/
theorem Ok.write {K : KW} {F : Hp} {H0 H : Hp} {m : Mu} {p : Addr} {u : HO} {o o' : MO} (ok : Ok K F H0 m H) (h : m p = some o') (r : MRep K H0 (upd H p u) p o) : Ok K F H0 (mset m p o) (upd H p u) := by
  obtain ⟨h0, _⟩ := ok.cell p o' h
  refine ⟨fun b q e => ?_, fun a q e => ?_, fun a q e => ?_, fun P q l => have t := ok.tab P q l; t.step (fun _ _ z => z) t.h0 t.hF (upd_ne (ok.neM l h))⟩
  · rw [upd_ne (ne_of_none e h0)]; exact ok.same b q e
  · unfold mset at e
    by_cases ha : a = p
    · subst ha; rw [if_pos rfl] at e; cases e; exact ⟨h0, r⟩
    · rw [if_neg ha] at e
      obtain ⟨c1, c2⟩ := ok.cell a q e
      exact ⟨c1, c2.mono (Same.refl _) (upd_ne ha)⟩
  · obtain ⟨c1, c2, c3⟩ := ok.fr a q e
    have ha : a ≠ p := fun z => by rw [z, h] at c3; cases c3
    exact ⟨by rw [upd_ne ha]; exact c1, c2, by unfold mset; rw [if_neg ha]; exact c3⟩
/-- less is known to be ours -/
theorem Ok.weak {K : KW} {F : Hp} {H0 H : Hp} {m m' : Mu} (ok : Ok K F H0 m H) (h : ∀ a o, m' a = some o → m a = some o) : Ok K F H0 m' H := by
  refine ⟨ok.same, fun a o e => ok.cell a o (h a o e), fun a o e => ?_, ok.tab⟩
  obtain ⟨c1, c2, c3⟩ := ok.fr a o e
  refine ⟨c1, c2, ?_⟩
  cases q : m' a with
  | none => rfl
  | some u => rw [h a u q] at c3; cases c3
/-- something that is neither goes into the frame -/
theorem Ok.frame {K : KW} {F : Hp} {H0 H : Hp} {m : Mu} {p : Addr} {o : HO} (ok : Ok K F H0 m H) (h : H p = some o) (h0 : H0 p = none) (hm : m p = none) (ht : ∀ ps, o ≠ .tbl ps) : Ok K (upd F p o) H0 m H := by
  refine ⟨ok.same, ok.cell, fun a u e => ?_, fun P q l => have t := ok.tab P q l; t.step (fun _ _ z => z) t.h0 ((upd_ne (t.ne_some h ht)).trans t.hF) rfl⟩
  by_cases ha : a = p
  · subst ha; rw [upd_same] at e; cases e; exact ⟨h, h0, hm⟩
  · rw [upd_ne ha] at e; exact ok.fr a u e
/-- and out of it, whatever it was before -/
theorem Ok.unframe {K : KW} {F : Hp} {H0 H : Hp} {m : Mu} {p : Addr} {o : HO} (ok : Ok K (upd F p o) H0 m H) (hF : F p = none) : Ok K F H0 m H ∧ H p = some o ∧ H0 p = none ∧ m p = none := by
  refine ⟨⟨ok.same, ok.cell, fun a u e => ?_, fun P q l => have t := ok.tab P q l; have n := t.ne_frame upd_same; t.step (fun _ _ z => z) t.h0 ((upd_ne n).symm.trans t.hF) rfl⟩, ok.fr p o upd_same⟩
  have ha : a ≠ p := ne_of_none e hF
  exact ok.fr a u (by rw [upd_ne ha]; exact e)
theorem Ok.freeF {K : KW} {F : Hp} {H0 H : Hp} {m : Mu} {a : Addr} (ok : Ok K F H0 m H) (h : H a = none) : F a = none := by
  cases e : F a with
  | none => rfl
  | some o => rw [(ok.fr a o e).1] at h; cases h
abbrev DSt := List (Option D)
abbrev DK := D → Mu → Prop
abbrev DX := Str → List (Str × D) → Mu → Prop
abbrev DE := DSt → Mu → DK → DX → Prop
abbrev DT := DSt → Mu → (Bool → Mu → Prop) → DX → Prop
abbrev DA := DSt → Mu → (List D → Mu → Prop) → DX → Prop
structure DEnds where
  nx : DSt → Mu → Prop
  rt : DK
  bk : DSt → Mu → Prop
  ct : DSt → Mu → Prop
  xx : Str → List (Str × D) → DSt → Mu → Prop
abbrev DS := DEnds → DSt → Mu → Prop
structure RpS (K : PySem.W.Frag) (H0 : Hp) (σ : St) (δ : DSt) : Prop where
  len : σ.length = δ.length
  at_ : ∀ (i : Nat) (d : D), δ[i]? = some (some d) → ∃ v, σ[i]? = some (some v) ∧ Rp K H0 v d
theorem RpS.mono {K : PySem.W.Frag} {H0 H0' : Hp} {σ : St} {δ : DSt} (r : RpS K H0 σ δ) (s : Same H0 H0') : RpS K H0' σ δ := ⟨r.len, fun i d e => let ⟨v, h, q⟩ := r.at_ i d e; ⟨v, h, q.mono s⟩⟩
theorem RpS.set {K : PySem.W.Frag} {H0 : Hp} {σ : St} {δ : DSt} {v : V} {d : D} (r : RpS K H0 σ δ) (h : Rp K H0 v d) (i : Nat) : RpS K H0 (σ.set i (some v)) (δ.set i (some d)) := by
  refine ⟨by simp [r.len], fun j e he => ?_⟩
  by_cases hj : i = j
  · subst hj
    by_cases hl : i < δ.length
    · rw [List.getElem?_set_self hl] at he
      cases he
      exact ⟨v, List.getElem?_set_self (by rw [r.len]; exact hl), h⟩
    · rw [List.getElem?_eq_none (by simpa using hl)] at he; cases he
  · rw [List.getElem?_set_ne hj] at he ⊢
    exact r.at_ j e he
theorem RpS.clear {K : PySem.W.Frag} {H0 : Hp} {σ : St} {δ : DSt} {o : Option V} (r : RpS K H0 σ δ) (i : Nat) : RpS K H0 (σ.set i o) (δ.set i none) := by
  refine ⟨by simp [r.len], fun j e he => ?_⟩
  by_cases hj : i = j
  · subst hj
    by_cases hl : i < δ.length
    · rw [List.getElem?_set_self hl] at he; cases he
    · rw [List.getElem?_eq_none (by simpa using hl)] at he; cases he
  · rw [List.getElem?_set_ne hj] at he ⊢
    exact r.at_ j e he
/-- what an exception bears -/
def XRp (K : PySem.W.Frag) (H0 : Hp) (c : Value) (xd : Option Addr) (nf : Str × List (Str × D)) : Prop :=
  ∃ C, c = .ref C ∧ ClsAt K nf.1 C ∧ ∃ dd fv, xd = some dd ∧ H0 dd = some (.xd fv) ∧ fv.map (·.1) = nf.2.map (·.1) ∧ RpL K H0 (fv.map (·.2)) (nf.2.map (·.2))
theorem XRp.mono {K : PySem.W.Frag} {H0 H0' : Hp} {c : Value} {xd : Option Addr} {nf : Str × List (Str × D)} (x : XRp K H0 c xd nf) (s : Same H0 H0') : XRp K H0' c xd nf := by
  obtain ⟨C, e0, hc, dd, fv, e, h, q, r⟩ := x
  exact ⟨C, e0, hc, dd, fv, e, s _ _ h, q, r.mono s⟩
def GV (K : KW) (F : Hp) (H0 : Hp) (P : DK) (Q : VK) : Prop := ∀ v H' H0' m' d, Same H0 H0' → Ok K F H0' m' H' → Rp K H0' v d → P d m' → Q v H'
def GB (K : KW) (F : Hp) (H0 : Hp) (P : Bool → Mu → Prop) (Q : Bool → Hp → Prop) : Prop := ∀ b H' H0' m', Same H0 H0' → Ok K F H0' m' H' → P b m' → Q b H'
def GA (K : KW) (F : Hp) (H0 : Hp) (P : List D → Mu → Prop) (Q : List V → Hp → Prop) : Prop := ∀ vs H' H0' m' ds, Same H0 H0' → Ok K F H0' m' H' → RpL K H0' vs ds → P ds m' → Q vs H'
def GX (K : KW) (F : Hp) (H0 : Hp) (PX : DX) (E : XK) : Prop := ∀ c xd H' H0' m' fs, Same H0 H0' → Ok K F H0' m' H' → XRp K H0' c xd fs → PX fs.1 fs.2 m' → E c xd H'
def GS (K : KW) (F : Hp) (H0 : Hp) (P : DSt → Mu → Prop) (Q : St → Hp → Prop) : Prop := ∀ σ' H' H0' m' δ', Same H0 H0' → Ok K F H0' m' H' → RpS K H0' σ' δ' → P δ' m' → Q σ' H'
def GW (K : KW) (F : Hp) (H0 : Hp) (PX : Str → List (Str × D) → DSt → Mu → Prop) (W : WX) : Prop := ∀ c xd σ' H' H0' m' fs δ', Same H0 H0' → Ok K F H0' m' H' → RpS K H0' σ' δ' → XRp K H0' c xd fs → PX fs.1 fs.2 δ' m' → W c xd σ' H'
theorem GV.mono {K : KW} {F : Hp} {H0 H1 : Hp} {P : DK} {Q : VK} (g : GV K F H0 P Q) (s : Same H0 H1) : GV K F H1 P Q := fun v H' H0' m' d s' => g v H' H0' m' d (s.trans s')
theorem GB.mono {K : KW} {F : Hp} {H0 H1 : Hp} {P : Bool → Mu → Prop} {Q : Bool → Hp → Prop} (g : GB K F H0 P Q) (s : Same H0 H1) : GB K F H1 P Q := fun v H' H0' m' s' => g v H' H0' m' (s.trans s')
theorem GA.mono {K : KW} {F : Hp} {H0 H1 : Hp} {P : List D → Mu → Prop} {Q : List V → Hp → Prop} (g : GA K F H0 P Q) (s : Same H0 H1) : GA K F H1 P Q := fun v H' H0' m' d s' => g v H' H0' m' d (s.trans s')
theorem GX.mono {K : KW} {F : Hp} {H0 H1 : Hp} {P : DX} {Q : XK} (g : GX K F H0 P Q) (s : Same H0 H1) : GX K F H1 P Q := fun c xd H' H0' m' fs s' => g c xd H' H0' m' fs (s.trans s')
theorem GS.mono {K : KW} {F : Hp} {H0 H1 : Hp} {P : DSt → Mu → Prop} {Q : St → Hp → Prop} (g : GS K F H0 P Q) (s : Same H0 H1) : GS K F H1 P Q := fun v H' H0' m' d s' => g v H' H0' m' d (s.trans s')
theorem GW.mono {K : KW} {F : Hp} {H0 H1 : Hp} {P : Str → List (Str × D) → DSt → Mu → Prop} {Q : WX} (g : GW K F H0 P Q) (s : Same H0 H1) : GW K F H1 P Q := fun c xd σ' H' H0' m' fs δ' s' => g c xd σ' H' H0' m' fs δ' (s.trans s')
def lE (K : KW) (W : WX) (r : DE) : TE := fun σ H Q => ∃ F H0 m δ P PX, Ok K F H0 m H ∧ RpS K H0 σ δ ∧ r δ m P PX ∧ GV K F H0 P Q ∧ GX K F H0 PX fun c xd H' => W c xd σ H'
def lT (K : KW) (W : WX) (r : DT) : TT := fun σ H Q => ∃ F H0 m δ P PX, Ok K F H0 m H ∧ RpS K H0 σ δ ∧ r δ m P PX ∧ GB K F H0 P Q ∧ GX K F H0 PX fun c xd H' => W c xd σ H'
def lA (K : KW) (W : WX) (r : DA) : TA := fun σ H Q => ∃ F H0 m δ P PX, Ok K F H0 m H ∧ RpS K H0 σ δ ∧ r δ m P PX ∧ GA K F H0 P Q ∧ GX K F H0 PX fun c xd H' => W c xd σ H'
structure GD (K : KW) (F : Hp) (H0 : Hp) (W : WX) (DD : DEnds) (Dn : Ends) : Prop where
  nx : GS K F H0 DD.nx Dn.nx
  rt : GV K F H0 DD.rt Dn.rt
  bk : GS K F H0 DD.bk Dn.bk
  ct : GS K F H0 DD.ct Dn.ct
  xx : GW K F H0 DD.xx W
theorem GD.mono {K : KW} {F : Hp} {H0 H1 : Hp} {W : WX} {DD : DEnds} {Dn : Ends} (g : GD K F H0 W DD Dn) (s : Same H0 H1) : GD K F H1 W DD Dn := ⟨g.nx.mono s, g.rt.mono s, g.bk.mono s, g.ct.mono s, g.xx.mono s⟩
def lS (K : KW) (W : WX) (r : DS) : TS := fun Dn σ H => ∃ F H0 m δ DD, Ok K F H0 m H ∧ RpS K H0 σ δ ∧ r DD δ m ∧ GD K F H0 W DD Dn
abbrev SpD := List D → Mu → DK → DX → Prop
def lP (K : KW) (sp : SpD) : Sp := fun vs H Q E => ∃ F H0 m ds P PX, Ok K F H0 m H ∧ RpL K H0 vs ds ∧ sp ds m P PX ∧ GV K F H0 P Q ∧ GX K F H0 PX E
theorem PE.imp {X : Cx} {e : Expr} {t t' : TE} (h : PE X e t) (k : ∀ σ H Q, t' σ H Q → t σ H Q) : PE X e t' := ⟨fun pins s σ H Q I w => h.run pins s σ H Q I (k σ H Q w)⟩
theorem PT.imp {X : Cx} {e : Expr} {t t' : TT} (h : PT X e t) (k : ∀ σ H Q, t' σ H Q → t σ H Q) : PT X e t' := ⟨fun pins s σ H Q I w => h.run pins s σ H Q I (k σ H Q w)⟩
theorem PW.imp {X : Cx} {e : Expr} {t t' : TT} (h : PW X e t) (k : ∀ σ H Q, t' σ H Q → t σ H Q) : PW X e t' := ⟨fun wh pins s σ H Q I w => h.run wh pins s σ H Q I (k σ H Q w)⟩
theorem PA.imp {X : Cx} {e : List Expr} {t t' : TA} (h : PA X e t) (k : ∀ σ H Q, t' σ H Q → t σ H Q) : PA X e t' := ⟨fun pos pins s σ H Q I w => h.run pos pins s σ H Q I (k σ H Q w)⟩
theorem PS.imp {X : Cx} {e : Stmt} {t t' : TS} (h : PS X e t) (k : ∀ Dn σ H, t' Dn σ H → t Dn σ H) : PS X e t' := ⟨fun pins s σ H Dn I w => h.run pins s σ H Dn I (k Dn σ H w)⟩
theorem PSs.imp {X : Cx} {e : List Stmt} {t t' : TS} (h : PSs X e t) (k : ∀ Dn σ H, t' Dn σ H → t Dn σ H) : PSs X e t' := ⟨fun pins s σ H Dn I w => h.run pins s σ H Dn I (k Dn σ H w)⟩
end DL
namespace DL
open PySem L2
section
variable {X : Cx} {W : WX} {a b c : Expr} {ra rb rc : DE} {pos : Pos}
/-! ### names, constants -/
def rV (i : Nat) : DE := fun δ m P _ => match δ[i]? with
  | some (some d) => P d m
  | _ => False
def rC (d : D) : DE := fun _ m P _ => P d m
theorem pd_v (i : Nat) {x : Str} (hN : X.N[i]? = some x := by rfl) (hv : Vis X.env.scope x := by first | exact Or.inl rfl | exact Or.inr (Or.inl rfl) | exact Or.inr (Or.inr rfl)) (hd : (x == ("__debug__" : Str)) = false := by decide)
    (hcd : (x == ("__classdict__" : Str)) = false := by decide) : PE X (.Name x pos) (lE (kw X) W (rV i)) := by
  refine PE.imp (pe_var hN hv hd hcd) fun σ H Q h => ?_
  obtain ⟨F, H0, m, δ, P, PX, ok, rs, h, g, gx⟩ := h
  unfold rV at h
  split at h
  · rename_i d e
    obtain ⟨v, hv, rv⟩ := rs.at_ i d e
    exact ⟨v, hv, g v H H0 m d (Same.refl _) ok rv h⟩
  · exact h.elim
theorem pd_tC {e : Expr} {v : V} {d : D} (h : PE X e (tC v)) (r : ∀ H, Rp X.K H v d) : PE X e (lE (kw X) W (rC d)) := by
  refine PE.imp h fun σ H Q h => ?_
  obtain ⟨F, H0, m, δ, P, PX, ok, rs, h, g, gx⟩ := h
  exact g v H H0 m d (Same.refl _) ok (r H0) h
theorem pd_int {i : Int} {k : Nat} : PE X (.Constant (.int i) k pos) (lE (kw X) W (rC (.int i))) := pd_tC pe_int fun _ => .int i
theorem pd_str {x : Str} {k : Nat} : PE X (.Constant (.str x) k pos) (lE (kw X) W (rC (.str x))) := pd_tC pe_str fun _ => .str x
theorem pd_bl {x : Bool} {k : Nat} : PE X (.Constant (.bool x) k pos) (lE (kw X) W (rC (.bl x))) := pd_tC pe_bl fun _ => .bl x
theorem pd_non {k : Nat} : PE X (.Constant .none k pos) (lE (kw X) W (rC .non)) := pd_tC pe_non fun _ => .non
theorem pd_gint {x : Str} {i : Int} {t : Tok} (hm : X.mg x = some (.int i t)) (hg : Gl X x := by rfl) (hd : (x == ("__debug__" : Str)) = false := by decide) : PE X (.Name x pos) (lE (kw X) W (rC (.int i))) := pd_tC (pe_glob hg hm (v := .int i) ⟨t, rfl⟩ hd) fun _ => .int i
theorem pd_gstr {x : Str} {i : Str} {t : Tok} (hm : X.mg x = some (.str i t)) (hg : Gl X x := by rfl) (hd : (x == ("__debug__" : Str)) = false := by decide) : PE X (.Name x pos) (lE (kw X) W (rC (.str i))) := pd_tC (pe_glob hg hm (v := .str i) ⟨t, rfl⟩ hd) fun _ => .str i
theorem pd_ty {x : Str} {n : String} (hm : X.mg x = none) (hv : bootBuiltins x = some (.type n)) (hg : Gl X x := by rfl) (hn : x ≠ "__name__" := by decide) (hd : (x == ("__debug__" : Str)) = false := by decide) : PE X (.Name x pos) (lE (kw X) W (rC (.ty n))) := pd_tC (pe_bltn hg hm hv (v := .ty n) rfl hn hd) fun _ => .ty n
/-! ### operations on two values -/
abbrev DO := D → D → Mu → DK → Prop
def OpD (K : KW) (r : R2) (ro : DO) : Prop := ∀ F H0 m H x y dx dy P Q, Ok K F H0 m H → Rp K H0 x dx → Rp K H0 y dy → ro dx dy m P → GV K F H0 P Q → r x y H Q
def rOp (ro : DO) (ra rb : DE) : DE := fun δ m P PX => ra δ m (fun x m1 => rb δ m1 (fun y m2 => ro x y m2 P) PX) PX
theorem lE_op {K : KW} {r : R2} {ro : DO} (od : OpD K r ro) {σ : St} {H : Hp} {Q : VK} (h : lE K W (rOp ro ra rb) σ H Q) : tOp r (lE K W ra) (lE K W rb) σ H Q := by
  obtain ⟨F, H0, m, δ, P, PX, ok, rs, h, g, gx⟩ := h
  exact ⟨F, H0, m, δ, _, PX, ok, rs, h, fun x H1 H01 m1 d1 s1 ok1 r1 h1 => ⟨F, H01, m1, δ, _, PX, ok1, rs.mono s1, h1, fun y H2 H02 m2 d2 s2 ok2 r2 h2 => od F H02 m2 H2 x y d1 d2 P Q ok2 (r1.mono s2) r2 h2 (g.mono (s1.trans s2)), gx.mono s1⟩, gx⟩
theorem pd_op {op : Operator} {r : R2} {ro : DO} (ho : OpR X (binaryOp op) r) (od : OpD (kw X) r ro) (ha : PE X a (lE (kw X) W ra)) (hb : PE X b (lE (kw X) W rb)) : PE X (.BinOp a op b pos) (lE (kw X) W (rOp ro ra rb)) :=
  PE.imp (pe_op ho ha hb) fun _ _ _ h => lE_op od h
theorem pd_cmp {op : CmpOp} {r : R2} {ro : DO} (ho : OpR X (compareOp op) r) (od : OpD (kw X) r ro) (ha : PE X a (lE (kw X) W ra)) (hb : PE X b (lE (kw X) W rb)) (hm : behindInMarks op b = false := by first | exact nomark _ | rfl) : PE X (.Compare a [op] [b] pos) (lE (kw X) W (rOp ro ra rb)) :=
  PE.imp (pe_cmpR ho ha hb hm) fun _ _ _ h => lE_op od h
theorem OpD.or {K : KW} {F : Hp} {r r' : R2} {ro : DO} (h : ∀ F H0 m H x y dx dy P Q, Ok K F H0 m H → Rp K H0 x dx → Rp K H0 y dy → ro dx dy m P → GV K F H0 P Q → r x y H Q ∨ r' x y H Q) : OpD K (fun x y H Q => r x y H Q ∨ r' x y H Q) ro := h
/-- new lists, new tuples -/
theorem GV.lst {K : KW} {F : Hp} {H0 H : Hp} {m : Mu} {P : DK} {Q : VK} {p : Addr} {vs : List V} {ds : List D} (g : GV K F H0 P Q) (ok : Ok K F H0 m H) (hp : H p = none) (r : RpL K H0 vs ds) (h : P (.lst ds) m) : Q (.ref p) (upd H p (.lst vs)) :=
  g _ _ (upd H0 p (.lst vs)) m _ (same_new (ok.free hp).1) (ok.new hp _) (.lst (SqL.of upd_same) (r.mono (same_new (ok.free hp).1))) h
theorem GV.tup {K : KW} {F : Hp} {H0 H : Hp} {m : Mu} {P : DK} {Q : VK} {p : Addr} {vs : List V} {ds : List D} (g : GV K F H0 P Q) (ok : Ok K F H0 m H) (hp : H p = none) (r : RpL K H0 vs ds) (h : P (.tup ds) m) : Q (.ref p) (upd H p (.tup vs)) :=
  g _ _ (upd H0 p (.tup vs)) m _ (same_new (ok.free hp).1) (ok.new hp _) (.tup (SqT.of upd_same) (r.mono (same_new (ok.free hp).1))) h
theorem GV.id {K : KW} {F : Hp} {H0 H : Hp} {m : Mu} {P : DK} {Q : VK} {v : V} {d : D} (g : GV K F H0 P Q) (ok : Ok K F H0 m H) (r : Rp K H0 v d) (h : P d m) : Q v H := g _ _ H0 m _ (Same.refl _) ok r h
theorem RpL.length {K : PySem.W.Frag} {H : Hp} : ∀ {vs : List V} {ds : List D}, RpL K H vs ds → vs.length = ds.length
  | _, _, .nil => rfl
  | _, _, .cons _ r => by simp [RpL.length r]
theorem RpL.append {K : PySem.W.Frag} {H : Hp} : ∀ {vs ws : List V} {ds es : List D}, RpL K H vs ds → RpL K H ws es → RpL K H (vs ++ ws) (ds ++ es)
  | _, _, _, _, .nil, s => s
  | _, _, _, _, .cons h r, s => .cons h (RpL.append r s)
theorem RpL.get {K : PySem.W.Frag} {H : Hp} : ∀ {vs : List V} {ds : List D} {i : Nat} {d : D}, RpL K H vs ds → ds[i]? = some d → ∃ v, vs[i]? = some v ∧ Rp K H v d
  | _, _, _, _, .nil, e => by simp at e
  | _, _, 0, _, .cons h _, e => by simp at e; subst e; exact ⟨_, rfl, h⟩
  | _, _, i + 1, d, .cons _ t, e => by
    obtain ⟨u, h1, h2⟩ := RpL.get (i := i) (d := d) t (by simpa using e)
    exact ⟨u, by simpa using h1, h2⟩
theorem RpL.take {K : PySem.W.Frag} {H : Hp} : ∀ {vs : List V} {ds : List D} (n : Nat), RpL K H vs ds → RpL K H (vs.take n) (ds.take n)
  | _, _, 0, _ => .nil
  | _, _, _ + 1, .nil => .nil
  | _, _, n + 1, .cons h r => .cons h (RpL.take n r)
theorem RpL.drop {K : PySem.W.Frag} {H : Hp} : ∀ {vs : List V} {ds : List D} (n : Nat), RpL K H vs ds → RpL K H (vs.drop n) (ds.drop n)
  | _, _, 0, r => r
  | _, _, _ + 1, .nil => .nil
  | _, _, n + 1, .cons _ r => RpL.drop n r
theorem RpL.set {K : PySem.W.Frag} {H : Hp} {v : V} {d : D} (q : Rp K H v d) : ∀ {vs : List V} {ds : List D} (n : Nat), RpL K H vs ds → RpL K H (vs.set n v) (ds.set n d)
  | _, _, _, .nil => .nil
  | _, _, 0, .cons _ r => .cons q r
  | _, _, n + 1, .cons h r => .cons h (RpL.set q n r)
theorem RpL.snoc {K : PySem.W.Frag} {H : Hp} {vs : List V} {ds : List D} {v : V} {d : D} (r : RpL K H vs ds) (h : Rp K H v d) : RpL K H (vs ++ [v]) (ds ++ [d]) := r.append (.cons h .nil)
def cutD (xs : List D) (lo hi : Option Int) : List D := (xs.drop (HT.sIx xs.length 0 lo)).take (HT.sIx xs.length xs.length hi - HT.sIx xs.length 0 lo)
theorem RpL.cut {K : PySem.W.Frag} {H : Hp} {vs : List V} {ds : List D} (r : RpL K H vs ds) (lo hi : Option Int) : RpL K H (cutV vs lo hi) (cutD ds lo hi) := by
  unfold cutV cutD
  rw [r.length]
  exact (r.drop _).take _
theorem RpL.at_ {K : PySem.W.Frag} {H : Hp} {vs : List V} {ds : List D} {i : Int} {d : D} (r : RpL K H vs ds) (h : atI ds i = some d) : ∃ v, atI vs i = some v ∧ Rp K H v d := by
  unfold atI at h ⊢
  rw [r.length]
  cases e : ixN ds.length i with
  | none => rw [e] at h; cases h
  | some j =>
    rw [e] at h
    exact r.get h
/-- what is read as a list: one that never changes, or one of ours -/
def asL (m : Mu) : D → Option (List D)
  | .lst ds => some ds
  | .adr a => match m a with
    | some (.lst ds) => some ds
    | _ => none
  | _ => none
theorem asL_rp {K : KW} {F : Hp} {H0 H : Hp} {m : Mu} {v : V} {d : D} {ds : List D} (ok : Ok K F H0 m H) (r : Rp K H0 v d) (h : asL m d = some ds) : ∃ a vs, v = .ref a ∧ SqL K H a vs ∧ RpL K H0 vs ds := by
  cases d with
  | lst es =>
    cases h
    cases r with
    | lst q t => exact ⟨_, _, rfl, ok.same.seq q, t⟩
  | adr a =>
    cases r
    unfold asL at h
    dsimp only at h
    split at h
    · rename_i ds' e
      cases h
      obtain ⟨_, vs, hv, rv⟩ := ok.cell a _ e
      exact ⟨a, vs, rfl, SqL.of hv, rv⟩
    · cases h
  | _ => cases h
theorem tup_rp {K : KW} {F : Hp} {H0 H : Hp} {m : Mu} {v : V} {ds : List D} (ok : Ok K F H0 m H) (r : Rp K H0 v (.tup ds)) : ∃ a vs, v = .ref a ∧ SqT K H a vs ∧ RpL K H0 vs ds := by
  cases r with
  | tup q t => exact ⟨_, _, rfl, seqT_mono ok.same q, t⟩
end
/-! ### list + list, whatever they are -/
section
variable {X : Cx}
def rCatQ (K : PySem.W.Frag) : R2 := fun x y H Q => ∃ l b xs zs, x = .ref l ∧ y = .ref b ∧ SqL K H l xs ∧ SqL K H b zs ∧ xs.length + zs.length ≤ sizeLine ∧ ∀ p, H p = none → Q (.ref p) (upd H p (.lst (xs ++ zs)))
theorem op_catQ : OpR X (binaryOp .Add) (rCatQ X.K) := by
  intro pins s σ H x y v u Q I rx ry h
  obtain ⟨l, b, xs, zs, rfl, rfl, hH, hB, hz, q⟩ := h
  cases rx
  cases ry
  obtain ⟨its, r, ⟨o, n, e, hc, hd, hs⟩, _⟩ := I.list hH
  obtain ⟨its2, r2, ⟨o2, n2, e2, hc2, hd2, hs2⟩, _⟩ := I.list hB
  have hl := r.length
  have hl2 := r2.length
  obtain ⟨oc, od, dt, sl⟩ := o
  obtain ⟨oc2, od2, dt2, sl2⟩ := o2
  simp only at hc hd hs hc2 hd2 hs2
  subst hc hd hs hc2 hd2 hs2
  have ea : its.toArray ++ its2.toArray = (its ++ its2).toArray := by simp
  refine PySem.concat_meets ⟨_, e, rfl⟩ ⟨_, e2, rfl⟩ PySem.noFill_list_add PySem.seq_list_add PySem.F.slot_list_add PySem.F.entry_list_add (PySem.F.args_list_add_2 _ _) (PyProof.Rows.list_addW l b its.toArray its2.toArray n n2 none none sl sl2 (by rw [List.size_toArray, List.size_toArray]; omega)) ⟨e, e2, ?_⟩
  rw [ea]
  exact ⟨.ref _, _, I.lnew (t' := s.toks) (r.append r2) (by rw [List.length_append]; omega), rfl, q _ I.fresh⟩
end
end DL
namespace DL
open PySem L2
section
variable {X : Cx} {W : WX} {a b c : Expr} {ra rb rc : DE} {pos : Pos}
/-! ### arithmetic -/
def oAdd : DO := fun x y m P => match x, y with
  | .int i, .int j => P (.int (i + j)) m
  | .str i, .str j => i.length + j.length ≤ sizeLine ∧ P (.str (i ++ j)) m
  | .tup i, .tup j => i.length + j.length ≤ sizeLine ∧ P (.tup (i ++ j)) m
  | x, y => match asL m x, asL m y with
    | some i, some j => i.length + j.length ≤ sizeLine ∧ P (.lst (i ++ j)) m
    | _, _ => False
theorem add_ok (X : Cx) : ∃ r, OpR X (binaryOp .Add) r ∧ OpD (kw X) r oAdd := by
  refine ⟨_, op_add.or (op_add_str.or (op_catA.or op_catQ)), ?_⟩
  intro F H0 m H x y dx dy P Q ok rx ry h g
  have fin : (match asL m dx, asL m dy with
    | some i, some j => i.length + j.length ≤ sizeLine ∧ P (.lst (i ++ j)) m
    | _, _ => False) → rCatQ X.K x y H Q := fun h => by
    split at h
    · rename_i i j e1 e2
      obtain ⟨hz, h⟩ := h
      obtain ⟨p, vs, rfl, q1, r1⟩ := asL_rp ok rx e1
      obtain ⟨p2, ws, rfl, q2, r2⟩ := asL_rp ok ry e2
      exact ⟨p, p2, vs, ws, rfl, rfl, q1, q2, by rw [r1.length, r2.length]; exact hz, fun z hz => g.lst ok hz (r1.append r2) h⟩
    · exact h.elim
  unfold oAdd at h
  split at h
  · cases rx; cases ry
    exact .inl ⟨_, _, rfl, rfl, g.id ok (.int _) h⟩
  · cases rx; cases ry
    exact .inr (.inl ⟨_, _, rfl, rfl, h.1, g.id ok (.str _) h.2⟩)
  · rename_i i j
    obtain ⟨p, vs, rfl, q1, r1⟩ := tup_rp ok rx
    obtain ⟨p2, ws, rfl, q2, r2⟩ := tup_rp ok ry
    refine .inr (.inr (.inl ⟨p, p2, vs, ws, rfl, rfl, q1, q2, by rw [r1.length, r2.length]; exact h.1, fun e => ?_, fun _ e => ?_, fun _ _ z hz => g.tup ok hz (r1.append r2) h.2⟩))
    · subst e
      cases r1
      exact g.id ok ry h.2
    · subst e
      cases r2
      have h2 := h.2
      rw [List.append_nil] at h2
      exact g.id ok rx h2
  · exact .inr (.inr (.inr (fin h)))
theorem pd_add (ha : PE X a (lE (kw X) W ra)) (hb : PE X b (lE (kw X) W rb)) : PE X (.BinOp a .Add b pos) (lE (kw X) W (rOp oAdd ra rb)) :=
  let ⟨_, h1, h2⟩ := add_ok X
  pd_op h1 h2 ha hb
def oI (C : Int → Int → Prop) (f : Int → Int → D) : DO := fun x y m P => match x, y with
  | .int i, .int j => C i j ∧ P (f i j) m
  | _, _ => False
def oI0 (f : Int → Int → D) : DO := fun x y m P => match x, y with
  | .int i, .int j => P (f i j) m
  | _, _ => False
theorem opI_ok {K : KW} {C : Int → Int → Prop} {g : Int → Int → V} {f : Int → Int → D} (r : ∀ H i j, Rp K H (g i j) (f i j)) : OpD K (rI C g) (oI C f) := by
  intro F H0 m H x y dx dy P Q ok rx ry h gv
  unfold oI at h
  split at h
  · cases rx; cases ry
    exact ⟨_, _, rfl, rfl, h.1, gv.id ok (r _ _ _) h.2⟩
  · exact h.elim
theorem opI0_ok {K : KW} {g : Int → Int → V} {f : Int → Int → D} (r : ∀ H i j, Rp K H (g i j) (f i j)) : OpD K (rI0 g) (oI0 f) := by
  intro F H0 m H x y dx dy P Q ok rx ry h gv
  unfold oI0 at h
  split at h
  · cases rx; cases ry
    exact ⟨_, _, rfl, rfl, gv.id ok (r _ _ _) h⟩
  · exact h.elim
abbrev oSub : DO := oI0 fun i j => .int (i - j)
abbrev oMul : DO := oI CMul fun i j => .int (i * j)
abbrev oDiv : DO := oI CDivW fun i j => .int (i / j)
abbrev oMod : DO := oI (fun _ j => 0 < j) fun i j => .int (i % j)
abbrev oPow : DO := oI CPow fun i j => .int (i ^ j.toNat)
theorem pd_sub (ha : PE X a (lE (kw X) W ra)) (hb : PE X b (lE (kw X) W rb)) : PE X (.BinOp a .Sub b pos) (lE (kw X) W (rOp oSub ra rb)) := pd_op op_sub (opI0_ok fun _ _ _ => .int _) ha hb
theorem pd_mul (ha : PE X a (lE (kw X) W ra)) (hb : PE X b (lE (kw X) W rb)) : PE X (.BinOp a .Mult b pos) (lE (kw X) W (rOp oMul ra rb)) := pd_op op_mul (opI_ok fun _ _ _ => .int _) ha hb
theorem pd_div (ha : PE X a (lE (kw X) W ra)) (hb : PE X b (lE (kw X) W rb)) : PE X (.BinOp a .FloorDiv b pos) (lE (kw X) W (rOp oDiv ra rb)) := pd_op op_fdivW (opI_ok fun _ _ _ => .int _) ha hb
theorem pd_mod (ha : PE X a (lE (kw X) W ra)) (hb : PE X b (lE (kw X) W rb)) : PE X (.BinOp a .Mod b pos) (lE (kw X) W (rOp oMod ra rb)) := pd_op op_mod (opI_ok fun _ _ _ => .int _) ha hb
theorem pd_pow (ha : PE X a (lE (kw X) W ra)) (hb : PE X b (lE (kw X) W rb)) : PE X (.BinOp a .Pow b pos) (lE (kw X) W (rOp oPow ra rb)) := pd_op op_pow (opI_ok fun _ _ _ => .int _) ha hb
/-! ### comparisons -/
abbrev oLt : DO := oI0 fun i j => .bl (decide (i < j))
abbrev oLe : DO := oI0 fun i j => .bl (decide (i ≤ j))
abbrev oGt : DO := oI0 fun i j => .bl (decide (j < i))
abbrev oGe : DO := oI0 fun i j => .bl (decide (j ≤ i))
theorem lt_ok : OpD (kw X) (rI0 fun i j => .bl (decide (i < j))) oLt := opI0_ok fun _ _ _ => .bl _
theorem le_ok : OpD (kw X) (rI0 fun i j => .bl (decide (i ≤ j))) oLe := opI0_ok fun _ _ _ => .bl _
theorem gt_ok : OpD (kw X) (rI0 fun i j => .bl (decide (j < i))) oGt := opI0_ok fun _ _ _ => .bl _
theorem ge_ok : OpD (kw X) (rI0 fun i j => .bl (decide (j ≤ i))) oGe := opI0_ok fun _ _ _ => .bl _
/-! ### data as the library's data -/
mutual
def py : D → PyData
  | .non => .none
  | .bl b => .bool b
  | .int i => .int i
  | .str x => .str x
  | .lst ds => .list (pyL ds)
  | .tup ds => .tuple (pyL ds)
  | .ty _ => .dict []
  | .adr _ => .dict []
  | .glb _ => .dict []
  | .exc _ _ _ _ _ => .dict []
  | .dct _ => .dict []
  | .ins _ _ => .dict []
def pyL : List D → List PyData
  | [] => []
  | d :: ds => py d :: pyL ds
end
mutual
theorem dp_of {K : PySem.W.Frag} {H : Hp} : ∀ {v : V} {d : D}, Rp K H v d → (py d).canLay0 = true → Dp K H v (py d)
  | _, _, .non, _ => by rw [py]; exact .non
  | _, _, .bl b, _ => by rw [py]; exact .bl b
  | _, _, .int i, _ => by rw [py]; exact .int i
  | _, _, .str x, _ => by rw [py]; exact .str x
  | _, _, .ty n, h => by rw [py, PyData.canLay0] at h; cases h
  | _, _, .adr a, h => by rw [py, PyData.canLay0] at h; cases h
  | _, _, .glb _, h => by rw [py, PyData.canLay0] at h; cases h
  | _, _, .exc _ _ _ _, h => by rw [py, PyData.canLay0] at h; cases h
  | _, _, .dct _ _ _, h => by rw [py, PyData.canLay0] at h; cases h
  | _, _, .ins _ _ _ _, h => by rw [py, PyData.canLay0] at h; cases h
  | _, _, .lst q r, h => by rw [py, PyData.canLay0] at h; rw [py]; exact .lst q (dpL_of r h)
  | _, _, .tup q r, h => by rw [py, PyData.canLay0] at h; rw [py]; exact .tup q (dpL_of r h)
theorem dpL_of {K : PySem.W.Frag} {H : Hp} : ∀ {vs : List V} {ds : List D}, RpL K H vs ds → PyData.canLayAll0 (pyL ds) = true → DpAll K H vs (pyL ds)
  | _, _, .nil, _ => by rw [pyL]; exact .nil
  | _, _, .cons q r, h => by
    rw [pyL, PyData.canLayAll0, Bool.and_eq_true] at h
    rw [pyL]
    exact .cons (dp_of q h.1) (dpL_of r h.2)
end
/-- a list of ours, read as data -/
def dat (m : Mu) (d : D) : D := match asL m d with
  | some ds => .lst ds
  | none => d
theorem dat_rp {K : KW} {F : Hp} {H0 H : Hp} {m : Mu} {v : V} {d : D} (ok : Ok K F H0 m H) (r : Rp K H0 v d) : Rp K H v (dat m d) := by
  unfold dat
  split
  · rename_i ds e
    obtain ⟨p, vs, rfl, q, t⟩ := asL_rp ok r e
    exact .lst q (t.mono ok.same)
  · exact r.mono ok.same
def shp (d : D) : Prop := SeqAt.shaped (py d) = true
def deq (d e : D) : Bool := PyData.eqv (py d) (py e)
/-- two flat things whose == is plain -/
def flatEq : D → D → Option Bool
  | .non, .non => some true | .non, .int _ => some false | .int _, .non => some false | .non, .bl _ => some false | .bl _, .non => some false | .non, .str _ => some false | .str _, .non => some false
  | .int i, .int j => some (decide (i = j)) | .bl i, .bl j => some (decide (i = j)) | .str i, .str j => some (decide (i = j))
  | .int _, .str _ => some false | .str _, .int _ => some false | .bl _, .str _ => some false | .str _, .bl _ => some false
  | _, _ => none
def oEqN (neg : Bool) : DO := fun x y m P => match flatEq x y with
  | some k => P (.bl (if neg then !k else k)) m
  | none => shp (dat m x) ∧ shp (dat m y) ∧ P (.bl (if neg then !deq (dat m x) (dat m y) else deq (dat m x) (dat m y))) m
abbrev oEq : DO := oEqN false
abbrev oNe : DO := oEqN true
theorem flat_scal {K : PySem.W.Frag} {H : Hp} {x y : V} {dx dy : D} {k : Bool} (rx : Rp K H x dx) (ry : Rp K H y dy) (h : flatEq dx dy = some k) : scal x y = true ∧ decide (x = y) = k := by
  unfold flatEq at h
  split at h <;> first | (cases h; cases rx; cases ry; exact ⟨rfl, by simp⟩) | cases h
theorem eq_ok (hu : X.A.units + 64 < cLine) : ∃ r, OpR X (compareOp .Eq) r ∧ OpD (kw X) r oEq := by
  refine ⟨_, op_eq.or (op_eqD hu), ?_⟩
  intro F H0 m H x y dx dy P Q ok rx ry h g
  unfold oEq oEqN at h
  split at h
  · rename_i k e
    obtain ⟨h1, h2⟩ := flat_scal rx ry e
    exact .inl ⟨h1, by rw [h2]; exact g.id ok (.bl _) h⟩
  · obtain ⟨s1, s2, h⟩ := h
    exact .inr ⟨_, _, dp_of (dat_rp ok rx) (SeqAt.canLay_of_shaped s1), dp_of (dat_rp ok ry) (SeqAt.canLay_of_shaped s2), s1, s2, g.id ok (.bl _) h⟩
theorem ne_ok (hu : X.A.units + 64 < cLine) : ∃ r, OpR X (compareOp .NotEq) r ∧ OpD (kw X) r oNe := by
  refine ⟨_, op_ne.or (op_neD hu), ?_⟩
  intro F H0 m H x y dx dy P Q ok rx ry h g
  unfold oNe oEqN at h
  split at h
  · rename_i k e
    obtain ⟨h1, h2⟩ := flat_scal rx ry e
    exact .inl ⟨h1, by rw [h2]; exact g.id ok (.bl _) h⟩
  · obtain ⟨s1, s2, h⟩ := h
    exact .inr ⟨_, _, dp_of (dat_rp ok rx) (SeqAt.canLay_of_shaped s1), dp_of (dat_rp ok ry) (SeqAt.canLay_of_shaped s2), s1, s2, g.id ok (.bl _) h⟩
/-- is None -/
def isNone : D → Bool
  | .non => true
  | _ => false
def oIsN (neg : Bool) : DO := fun x y m P => match y with
  | .non => P (.bl (if neg then !isNone x else isNone x)) m
  | _ => False
theorem non_of {K : PySem.W.Frag} {H : Hp} {x : V} {dx : D} (rx : Rp K H x dx) : decide (x = .non) = isNone dx := by
  cases rx <;> simp [isNone]
theorem isN_ok : OpD (kw X) (fun x y H Q => y = .non ∧ Q (.bl (decide (x = .non))) H) (oIsN false) := by
  intro F H0 m H x y dx dy P Q ok rx ry h g
  unfold oIsN at h
  split at h
  · cases ry
    exact ⟨rfl, by rw [non_of rx]; exact g.id ok (.bl _) h⟩
  · exact h.elim
theorem notN_ok : OpD (kw X) (fun x y H Q => y = .non ∧ Q (.bl (!decide (x = .non))) H) (oIsN true) := by
  intro F H0 m H x y dx dy P Q ok rx ry h g
  unfold oIsN at h
  split at h
  · cases ry
    exact ⟨rfl, by rw [non_of rx]; exact g.id ok (.bl _) h⟩
  · exact h.elim
theorem pd_lt (ha : PE X a (lE (kw X) W ra)) (hb : PE X b (lE (kw X) W rb)) : PE X (.Compare a [.Lt] [b] pos) (lE (kw X) W (rOp oLt ra rb)) := pd_cmp op_lt lt_ok ha hb
theorem pd_le (ha : PE X a (lE (kw X) W ra)) (hb : PE X b (lE (kw X) W rb)) : PE X (.Compare a [.LtE] [b] pos) (lE (kw X) W (rOp oLe ra rb)) := pd_cmp op_le le_ok ha hb
theorem pd_gt (ha : PE X a (lE (kw X) W ra)) (hb : PE X b (lE (kw X) W rb)) : PE X (.Compare a [.Gt] [b] pos) (lE (kw X) W (rOp oGt ra rb)) := pd_cmp op_gt gt_ok ha hb
theorem pd_ge (ha : PE X a (lE (kw X) W ra)) (hb : PE X b (lE (kw X) W rb)) : PE X (.Compare a [.GtE] [b] pos) (lE (kw X) W (rOp oGe ra rb)) := pd_cmp op_ge ge_ok ha hb
theorem pd_eq (hu : X.A.units + 64 < cLine) (ha : PE X a (lE (kw X) W ra)) (hb : PE X b (lE (kw X) W rb)) : PE X (.Compare a [.Eq] [b] pos) (lE (kw X) W (rOp oEq ra rb)) := let ⟨_, h1, h2⟩ := eq_ok hu; pd_cmp h1 h2 ha hb
/-! ### in -/
def flatD : D → Bool
  | .non => true | .bl _ => true | .int _ => true | .str _ => true | _ => false
def inStr (w z : Str) : Bool := match w.cps.toList with
  | [c] => decide (c ∈ z.cps.toList)
  | _ => !(Builtin.Str.occurrences z w 0 z.length 1).isEmpty
def oInN (neg : Bool) : DO := fun x y m P => match y with
  | .str z => match x with
    | .str w => P (.bl (if neg then !inStr w z else inStr w z)) m
    | _ => False
  | .tup ds => (flatD x = true ∧ ds.all flatD = true) ∧ P (.bl (if neg then !ds.any (fun z => deq z x) else ds.any fun z => deq z x)) m
  | y => match asL m y with
    | some ds => ((flatD x = true ∧ ds.all flatD = true) ∨ (shp (dat m x) ∧ shp (.lst ds))) ∧ P (.bl (if neg then !ds.any (fun z => deq z (dat m x)) else ds.any fun z => deq z (dat m x))) m
    | none => False
theorem flat_rp {K : PySem.W.Frag} {H : Hp} {x : V} {dx : D} (rx : Rp K H x dx) (h : flatD dx = true) : flatV x = true := by
  cases rx <;> first | rfl | cases h
theorem flatL_rp {K : PySem.W.Frag} {H : Hp} : ∀ {vs : List V} {ds : List D}, RpL K H vs ds → ds.all flatD = true → vs.all flatV = true
  | _, _, .nil, _ => rfl
  | _, _, .cons q r, h => by
    simp only [List.all_cons, Bool.and_eq_true] at h ⊢
    exact ⟨flat_rp q h.1, flatL_rp r h.2⟩
theorem flat_eq {K : PySem.W.Frag} {H H' : Hp} {x y : V} {dx dy : D} (rx : Rp K H x dx) (ry : Rp K H' y dy) (h : flatD dx = true) (h' : flatD dy = true) : eqV x y = deq dx dy := by
  unfold deq
  cases rx <;> first | cases h | skip
  all_goals (cases ry <;> first | cases h' | skip)
  all_goals (simp only [py, PyData.eqv, eqV])
theorem flat_any {K : PySem.W.Frag} {H H' : Hp} {x : V} {dx : D} (rx : Rp K H' x dx) (hx : flatD dx = true) : ∀ {vs : List V} {ds : List D}, RpL K H vs ds → ds.all flatD = true → inV x vs = ds.any fun z => deq z dx
  | _, _, .nil, _ => rfl
  | _, _, .cons q r, h => by
    simp only [List.all_cons, Bool.and_eq_true] at h
    have ih := flat_any rx hx r h.2
    unfold inV at ih ⊢
    simp only [List.any_cons]
    rw [ih, flat_eq q rx h.1 hx]
theorem dat_flat {m : Mu} {d : D} (h : flatD d = true) : dat m d = d := by
  cases d <;> first | rfl | cases h
theorem pyL_any (d : PyData) : ∀ ds : List D, (pyL ds).any (fun z => PyData.eqv z d) = ds.any fun z => PyData.eqv (py z) d
  | [] => by rw [pyL]; rfl
  | e :: ds => by rw [pyL, List.any_cons, List.any_cons, pyL_any d ds]
theorem in_core (neg : Bool) (hu : X.A.units + 65 < cLine) {op : CmpOp} (h1 : OpR X (compareOp op) (fun x y H Q => ∃ i j, x = .str i ∧ y = .str j ∧ Q (.bl (if neg then !(!(Builtin.Str.occurrences j i 0 j.length 1).isEmpty) else !(Builtin.Str.occurrences j i 0 j.length 1).isEmpty)) H))
    (h2 : OpR X (compareOp op) (fun x y H Q => ∃ (c : Nat) (z : Str), x = .str ⟨#[c]⟩ ∧ y = .str z ∧ Q (.bl (if neg then !decide (c ∈ z.cps.toList) else decide (c ∈ z.cps.toList))) H)) (h3 : OpR X (compareOp op) (rIn X.K neg))
    (h4 : OpR X (compareOp op) (fun x y H Q => ∃ d ds, Dp X.K H x d ∧ Dp X.K H y (.list ds) ∧ SeqAt.shaped d = true ∧ SeqAt.shaped (.list ds) = true ∧ Q (.bl (if neg then !ds.any fun z => PyData.eqv z d else ds.any fun z => PyData.eqv z d)) H)) :
    ∃ r, OpR X (compareOp op) r ∧ OpD (kw X) r (oInN neg) := by
  refine ⟨_, h1.or (h2.or (h3.or h4)), ?_⟩
  intro F H0 m H x y dx dy P Q ok rx ry h g
  unfold oInN at h
  split at h
  · rename_i z
    split at h
    · rename_i w
      cases rx; cases ry
      by_cases hc : ∃ c, w.cps.toList = [c]
      · obtain ⟨c, hc⟩ := hc
        have e : inStr w z = decide (c ∈ z.cps.toList) := by unfold inStr; rw [hc]
        rw [e] at h
        refine .inr (.inl ⟨c, z, ?_, rfl, g.id ok (.bl _) h⟩)
        obtain ⟨cp⟩ := w
        have : cp = #[c] := by
          have h2 : cp.toList = [c] := hc
          have := congrArg List.toArray h2
          simpa using this
        rw [this]
      · have e : inStr w z = !(Builtin.Str.occurrences z w 0 z.length 1).isEmpty := by
          unfold inStr
          split
          · rename_i c hw
            exact absurd ⟨c, hw⟩ hc
          · rfl
        rw [e] at h
        exact .inl ⟨w, z, rfl, rfl, g.id ok (.bl _) h⟩
    · exact h.elim
  · rename_i ds
    obtain ⟨⟨f1, f2⟩, h⟩ := h
    obtain ⟨p, vs, rfl, q, r⟩ := tup_rp ok ry
    refine .inr (.inr (.inl ⟨p, vs, rfl, .inr q, flat_rp rx f1, flatL_rp r f2, ?_⟩))
    rw [flat_any rx f1 r f2]
    exact g.id ok (.bl _) h
  · split at h
    · rename_i ds e
      obtain ⟨f, h⟩ := h
      obtain ⟨p, vs, rfl, q, r⟩ := asL_rp ok ry e
      rcases f with ⟨f1, f2⟩ | ⟨s1, s2⟩
      · refine .inr (.inr (.inl ⟨p, vs, rfl, .inl q, flat_rp rx f1, flatL_rp r f2, ?_⟩))
        rw [dat_flat f1] at h
        rw [flat_any rx f1 r f2]
        exact g.id ok (.bl _) h
      · have e2 : py (.lst ds) = .list (pyL ds) := by rw [py]
        have s2' := s2
        unfold shp at s2'
        rw [e2] at s2'
        have hd := dp_of (Rp.lst q (r.mono ok.same)) (SeqAt.canLay_of_shaped s2)
        rw [e2] at hd
        refine .inr (.inr (.inr ⟨_, _, dp_of (dat_rp ok rx) (SeqAt.canLay_of_shaped s1), hd, s1, s2', ?_⟩))
        rw [pyL_any]
        exact g.id ok (.bl _) h
    · exact h.elim
theorem in_ok (hu : X.A.units + 65 < cLine) : ∃ r, OpR X (compareOp .In) r ∧ OpD (kw X) r (oInN false) := in_core false hu op_in_str (by
  intro pins s σ H x y v u Q I rx ry h
  exact op_in_sign pins s σ H x y v u Q I rx ry h) op_in_seq (op_inD hu)
theorem notIn_ok (hu : X.A.units + 65 < cLine) : ∃ r, OpR X (compareOp .NotIn) r ∧ OpD (kw X) r (oInN true) := in_core true hu op_notin_str (by
  intro pins s σ H x y v u Q I rx ry h
  exact op_notIn_sign pins s σ H x y v u Q I rx ry h) op_notIn_seq (op_notInD hu)
theorem pd_in (hu : X.A.units + 65 < cLine) (ha : PE X a (lE (kw X) W ra)) (hb : PE X b (lE (kw X) W rb)) (hm : behindInMarks .In b = false := by rfl) : PE X (.Compare a [.In] [b] pos) (lE (kw X) W (rOp (oInN false) ra rb)) := let ⟨_, h1, h2⟩ := in_ok hu; pd_cmp h1 h2 ha hb hm
theorem pd_notIn (hu : X.A.units + 65 < cLine) (ha : PE X a (lE (kw X) W ra)) (hb : PE X b (lE (kw X) W rb)) (hm : behindInMarks .NotIn b = false := by rfl) : PE X (.Compare a [.NotIn] [b] pos) (lE (kw X) W (rOp (oInN true) ra rb)) := let ⟨_, h1, h2⟩ := notIn_ok hu; pd_cmp h1 h2 ha hb hm
end
end DL
namespace DL
open PySem L2
section
variable {X : Cx} {W : WX} {a b c : Expr} {ra rb rc : DE} {pos : Pos}
/-! ### tests -/
def truD (m : Mu) : D → Option Bool
  | .non => some false
  | .bl b => some b
  | .int i => some (i != 0)
  | .tup ds => some (!ds.isEmpty)
  | d => match asL m d with
    | some ds => some (!ds.isEmpty)
    | none => none
def rTru (ra : DE) : DT := fun δ m P PX => ra δ m (fun x m1 => match x with
  | .bl b => P b m1
  | .str y => y.length ≤ sizeLine ∧ P ((y.length : Int) != 0) m1
  | x => match truD m1 x with
    | some k => P k m1
    | none => False) PX
theorem isEmpty_rp {K : PySem.W.Frag} {H : Hp} {vs : List V} {ds : List D} (r : RpL K H vs ds) : vs.isEmpty = ds.isEmpty := by cases r <;> rfl
theorem tru_rp {K : KW} {F : Hp} {H0 H : Hp} {m : Mu} {v : V} {d : D} {k : Bool} (ok : Ok K F H0 m H) (r : Rp K H0 v d) (h : truD m d = some k) : TruV K v H k := by
  have fin : (match asL m d with | some ds => some (!ds.isEmpty) | none => none) = some k → TruV K v H k := fun h => by
    split at h
    · rename_i ds e
      cases h
      obtain ⟨p, vs, rfl, q, t⟩ := asL_rp ok r e
      exact .inl ⟨vs, q, by rw [isEmpty_rp t]⟩
    · cases h
  cases r with
  | non => cases h; rfl
  | bl b => cases h; rfl
  | int i => cases h; rfl
  | str x => exact fin h
  | ty n => exact fin h
  | adr p => exact fin h
  | lst q t => exact fin h
  | tup q t => cases h; exact .inr (.inl ⟨_, seqT_mono ok.same q, by rw [isEmpty_rp t]⟩)
  | dct _ _ _ => exact fin h
  | ins _ _ _ _ => exact fin h
  | glb _ => exact fin h
  | exc _ _ _ _ => exact fin h
theorem dt_tru (ha : PE X a (lE (kw X) W ra)) (he : ∀ whole, isTrue a X.env whole = (do let v ← whole; standAt a.pos; holding [v] (truthy v)) := by intro _; rfl) : PT X a (lT (kw X) W (rTru ra)) := by
  refine PT.imp (pt_truth ha he) fun σ H Q h => ?_
  obtain ⟨F, H0, m, δ, P, PX, ok, rs, h, g, gx⟩ := h
  refine ⟨F, H0, m, δ, _, PX, ok, rs, h, fun x H1 H01 m1 d s1 ok1 r1 h1 => ?_, gx⟩
  dsimp only at h1
  split at h1
  · cases r1
    exact ⟨_, rfl, g _ _ _ _ s1 ok1 h1⟩
  · cases r1
    exact ⟨_, ⟨h1.1, rfl⟩, g _ _ _ _ s1 ok1 h1.2⟩
  · split at h1
    · rename_i k e
      exact ⟨_, tru_rp ok1 r1 e, g _ _ _ _ s1 ok1 h1⟩
    · exact h1.elim
/-- a comparison as a test -/
def rTst (ra : DE) : DT := fun δ m P PX => ra δ m (fun x m1 => match x with | .bl b => P b m1 | _ => False) PX
theorem lT_test {K : KW} {σ : St} {H : Hp} {Q : Bool → Hp → Prop} (h : lT K W (rTst ra) σ H Q) : tTest (lE K W ra) σ H Q := by
  obtain ⟨F, H0, m, δ, P, PX, ok, rs, h, g, gx⟩ := h
  refine ⟨F, H0, m, δ, _, PX, ok, rs, h, fun x H1 H01 m1 d s1 ok1 r1 h1 => ?_, gx⟩
  dsimp only at h1
  split at h1
  · cases r1
    exact ⟨_, rfl, g _ _ _ _ s1 ok1 h1⟩
  · exact h1.elim
theorem tOp_mono {K : KW} {r : R2} {ro : DO} (od : OpD K r ro) {σ : St} {H : Hp} {Q : Bool → Hp → Prop} (h : lT K W (rTst (rOp ro ra rb)) σ H Q) : tTest (tOp r (lE K W ra) (lE K W rb)) σ H Q := lE_op od (lT_test h)
theorem dt_cmp {op : CmpOp} {r : R2} {ro : DO} (ho : OpR X (compareOp op) r) (od : OpD (kw X) r ro) (ha : PE X a (lE (kw X) W ra)) (hb : PE X b (lE (kw X) W rb)) (hm : behindInMarks op b = false := by first | exact nomark _ | rfl) : PT X (.Compare a [op] [b] pos) (lT (kw X) W (rTst (rOp ro ra rb))) :=
  PT.imp (pt_cmpR ho ha hb hm) fun _ _ _ h => tOp_mono od h
theorem dt_lt (ha : PE X a (lE (kw X) W ra)) (hb : PE X b (lE (kw X) W rb)) : PT X (.Compare a [.Lt] [b] pos) (lT (kw X) W (rTst (rOp oLt ra rb))) := dt_cmp op_lt lt_ok ha hb
theorem dt_gt (ha : PE X a (lE (kw X) W ra)) (hb : PE X b (lE (kw X) W rb)) : PT X (.Compare a [.Gt] [b] pos) (lT (kw X) W (rTst (rOp oGt ra rb))) := dt_cmp op_gt gt_ok ha hb
theorem dt_ge (ha : PE X a (lE (kw X) W ra)) (hb : PE X b (lE (kw X) W rb)) : PT X (.Compare a [.GtE] [b] pos) (lT (kw X) W (rTst (rOp oGe ra rb))) := dt_cmp op_ge ge_ok ha hb
theorem dt_eq (hu : X.A.units + 64 < cLine) (ha : PE X a (lE (kw X) W ra)) (hb : PE X b (lE (kw X) W rb)) : PT X (.Compare a [.Eq] [b] pos) (lT (kw X) W (rTst (rOp oEq ra rb))) := let ⟨_, h1, h2⟩ := eq_ok hu; dt_cmp h1 h2 ha hb
theorem dt_ne (hu : X.A.units + 64 < cLine) (ha : PE X a (lE (kw X) W ra)) (hb : PE X b (lE (kw X) W rb)) : PT X (.Compare a [.NotEq] [b] pos) (lT (kw X) W (rTst (rOp oNe ra rb))) := let ⟨_, h1, h2⟩ := ne_ok hu; dt_cmp h1 h2 ha hb
theorem dt_isN (ha : PE X a (lE (kw X) W ra)) (hb : PE X b (lE (kw X) W rb)) : PT X (.Compare a [.Is] [b] pos) (lT (kw X) W (rTst (rOp (oIsN false) ra rb))) := dt_cmp op_isN isN_ok ha hb
theorem dt_notN (ha : PE X a (lE (kw X) W ra)) (hb : PE X b (lE (kw X) W rb)) : PT X (.Compare a [.IsNot] [b] pos) (lT (kw X) W (rTst (rOp (oIsN true) ra rb))) := dt_cmp op_notN notN_ok ha hb
theorem dt_in (hu : X.A.units + 65 < cLine) (ha : PE X a (lE (kw X) W ra)) (hb : PE X b (lE (kw X) W rb)) (hm : behindInMarks .In b = false := by rfl) : PT X (.Compare a [.In] [b] pos) (lT (kw X) W (rTst (rOp (oInN false) ra rb))) := let ⟨_, h1, h2⟩ := in_ok hu; dt_cmp h1 h2 ha hb hm
theorem dt_notIn (hu : X.A.units + 65 < cLine) (ha : PE X a (lE (kw X) W ra)) (hb : PE X b (lE (kw X) W rb)) (hm : behindInMarks .NotIn b = false := by rfl) : PT X (.Compare a [.NotIn] [b] pos) (lT (kw X) W (rTst (rOp (oInN true) ra rb))) := let ⟨_, h1, h2⟩ := notIn_ok hu; dt_cmp h1 h2 ha hb hm
/-! ### chains of whole numbers -/
def rChain (ro ro' : DO) (ra rb rc : DE) : DE := fun δ m P PX => ra δ m (fun x m1 => rb δ m1 (fun y m2 => ro x y m2 fun z m3 => match z with
  | .bl true => rc δ m3 (fun w m4 => ro' y w m4 P) PX
  | .bl false => P (.bl false) m3
  | _ => False) PX) PX
theorem lE_chain {K : KW} {r r' : R2} {ro ro' : DO} (od : OpD K r ro) (od' : OpD K r' ro') {σ : St} {H : Hp} {Q : VK} (h : lE K W (rChain ro ro' ra rb rc) σ H Q) : tChain r r' (lE K W ra) (lE K W rb) (lE K W rc) σ H Q := by
  obtain ⟨F, H0, m, δ, P, PX, ok, rs, h, g, gx⟩ := h
  refine ⟨F, H0, m, δ, _, PX, ok, rs, h, fun x H1 H01 m1 d1 s1 ok1 r1 h1 => ⟨F, H01, m1, δ, _, PX, ok1, rs.mono s1, h1, fun y H2 H02 m2 d2 s2 ok2 r2 h2 => ?_, gx.mono s1⟩, gx⟩
  refine od F H02 m2 H2 x y d1 d2 _ _ ok2 (r1.mono s2) r2 h2 fun z H3 H03 m3 d3 s3 ok3 r3 h3 => ?_
  split at h3
  · cases r3
    refine ⟨true, rfl, ?_⟩
    rw [if_pos rfl]
    have s13 := (s1.trans s2).trans s3
    exact ⟨F, H03, m3, δ, _, PX, ok3, rs.mono s13, h3, fun w H4 H04 m4 d4 s4 ok4 r4 h4 => od' F H04 m4 H4 y w d2 d4 P Q ok4 (r2.mono (s3.trans s4)) r4 h4 (g.mono (s13.trans s4)), gx.mono s13⟩
  · cases r3
    refine ⟨false, rfl, ?_⟩
    rw [if_neg Bool.false_ne_true]
    exact g _ _ _ _ _ ((s1.trans s2).trans s3) ok3 (.bl _) h3
  · exact h3.elim
theorem pd_chain {op op' : CmpOp} {r r' : R2} {ro ro' : DO} (ho : OpR X (compareOp op) r) (ho' : OpR X (compareOp op') r') (od : OpD (kw X) r ro) (od' : OpD (kw X) r' ro') (ha : PE X a (lE (kw X) W ra)) (hb : PE X b (lE (kw X) W rb)) (hc : PE X c (lE (kw X) W rc))
    (hm : lastMarks [op, op'] [b, c] = false := by with_unfolding_all rfl) : PE X (.Compare a [op, op'] [b, c] pos) (lE (kw X) W (rChain ro ro' ra rb rc)) := PE.imp (pe_chain ho ho' ha hb hc hm) fun _ _ _ h => lE_chain od od' h
theorem dt_chain {op op' : CmpOp} {r r' : R2} {ro ro' : DO} (ho : OpR X (compareOp op) r) (ho' : OpR X (compareOp op') r') (od : OpD (kw X) r ro) (od' : OpD (kw X) r' ro') (ha : PE X a (lE (kw X) W ra)) (hb : PE X b (lE (kw X) W rb)) (hc : PE X c (lE (kw X) W rc))
    (hm : lastMarks [op, op'] [b, c] = false := by with_unfolding_all rfl) : PT X (.Compare a [op, op'] [b, c] pos) (lT (kw X) W (rTst (rChain ro ro' ra rb rc))) := PT.imp (pt_chain ho ho' ha hb hc hm) fun _ _ _ h => lE_chain od od' (lT_test h)
/-! ### and, or, not, if -/
variable {qa qb : DT} {rest : List Expr}
def rAnd (qa qb : DT) : DT := fun δ m P PX => qa δ m (fun k m1 => match k with | true => qb δ m1 P PX | false => P false m1) PX
def rOr (qa qb : DT) : DT := fun δ m P PX => qa δ m (fun k m1 => match k with | true => P true m1 | false => qb δ m1 P PX) PX
def rNot (qa : DT) : DT := fun δ m P PX => qa δ m (fun k m1 => P (!k) m1) PX
theorem dw_and1 (ha : PT X a (lT (kw X) W qa)) : PW X (.BoolOp .And [a] pos) (lT (kw X) W qa) := pw_and1 ha
theorem dw_or1 (ha : PT X a (lT (kw X) W qa)) : PW X (.BoolOp .Or [a] pos) (lT (kw X) W qa) := pw_or1 ha
theorem dw_and (ha : PT X a (lT (kw X) W qa)) (hb : PW X (.BoolOp .And (b :: rest) pos) (lT (kw X) W qb)) : PW X (.BoolOp .And (a :: b :: rest) pos) (lT (kw X) W (rAnd qa qb)) := by
  refine PW.imp (pw_and ha hb) fun σ H Q h => ?_
  obtain ⟨F, H0, m, δ, P, PX, ok, rs, h, g, gx⟩ := h
  refine ⟨F, H0, m, δ, _, PX, ok, rs, h, fun k H1 H01 m1 s1 ok1 h1 => ?_, gx⟩
  cases k with
  | true => rw [if_pos rfl]; exact ⟨F, H01, m1, δ, P, PX, ok1, rs.mono s1, h1, g.mono s1, gx.mono s1⟩
  | false => rw [if_neg Bool.false_ne_true]; exact g _ _ _ _ s1 ok1 h1
theorem dw_or (ha : PT X a (lT (kw X) W qa)) (hb : PW X (.BoolOp .Or (b :: rest) pos) (lT (kw X) W qb)) : PW X (.BoolOp .Or (a :: b :: rest) pos) (lT (kw X) W (rOr qa qb)) := by
  refine PW.imp (pw_or ha hb) fun σ H Q h => ?_
  obtain ⟨F, H0, m, δ, P, PX, ok, rs, h, g, gx⟩ := h
  refine ⟨F, H0, m, δ, _, PX, ok, rs, h, fun k H1 H01 m1 s1 ok1 h1 => ?_, gx⟩
  cases k with
  | true => rw [if_pos rfl]; exact g _ _ _ _ s1 ok1 h1
  | false => rw [if_neg Bool.false_ne_true]; exact ⟨F, H01, m1, δ, P, PX, ok1, rs.mono s1, h1, g.mono s1, gx.mono s1⟩
theorem dt_not (ha : PT X a (lT (kw X) W qa)) : PT X (.UnaryOp .Not a pos) (lT (kw X) W (rNot qa)) := by
  refine PT.imp (pt_not ha) fun σ H Q h => ?_
  obtain ⟨F, H0, m, δ, P, PX, ok, rs, h, g, gx⟩ := h
  exact ⟨F, H0, m, δ, _, PX, ok, rs, h, fun k H1 H01 m1 s1 ok1 h1 => g _ _ _ _ s1 ok1 h1, gx⟩
/-- as values, truths -/
def rAndV (ra rb : DE) : DE := fun δ m P PX => ra δ m (fun x m1 => match x with | .bl true => rb δ m1 P PX | .bl false => P (.bl false) m1 | _ => False) PX
def rOrV (ra rb : DE) : DE := fun δ m P PX => ra δ m (fun x m1 => match x with | .bl true => P (.bl true) m1 | .bl false => rb δ m1 P PX | _ => False) PX
def rNotV (ra : DE) : DE := fun δ m P PX => ra δ m (fun x m1 => match x with | .bl k => P (.bl (!k)) m1 | _ => False) PX
theorem pd_one {op} (h : PE X a (lE (kw X) W ra)) : PE X (.BoolOp op [a] pos) (lE (kw X) W ra) := pe_one h
theorem pd_and (ha : PE X a (lE (kw X) W ra)) (hb : PE X (.BoolOp .And (b :: rest) pos) (lE (kw X) W rb)) : PE X (.BoolOp .And (a :: b :: rest) pos) (lE (kw X) W (rAndV ra rb)) := by
  refine PE.imp (pe_and ha hb) fun σ H Q h => ?_
  obtain ⟨F, H0, m, δ, P, PX, ok, rs, h, g, gx⟩ := h
  refine ⟨F, H0, m, δ, _, PX, ok, rs, h, fun x H1 H01 m1 d s1 ok1 r1 h1 => ?_, gx⟩
  dsimp only at h1
  split at h1
  · cases r1
    exact ⟨true, rfl, by rw [if_pos rfl]; exact ⟨F, H01, m1, δ, P, PX, ok1, rs.mono s1, h1, g.mono s1, gx.mono s1⟩⟩
  · cases r1
    exact ⟨false, rfl, by rw [if_neg Bool.false_ne_true]; exact g _ _ _ _ _ s1 ok1 (.bl _) h1⟩
  · exact h1.elim
theorem pd_not (ha : PE X a (lE (kw X) W ra)) : PE X (.UnaryOp .Not a pos) (lE (kw X) W (rNotV ra)) := by
  refine PE.imp (pe_not ha) fun σ H Q h => ?_
  obtain ⟨F, H0, m, δ, P, PX, ok, rs, h, g, gx⟩ := h
  refine ⟨F, H0, m, δ, _, PX, ok, rs, h, fun x H1 H01 m1 d s1 ok1 r1 h1 => ?_, gx⟩
  dsimp only at h1
  split at h1
  · cases r1
    exact ⟨_, rfl, g _ _ _ _ _ s1 ok1 (.bl _) h1⟩
  · exact h1.elim
def rIfE (qa : DT) (ra rb : DE) : DE := fun δ m P PX => qa δ m (fun k m1 => match k with | true => ra δ m1 P PX | false => rb δ m1 P PX) PX
theorem pd_if (hc : PT X c (lT (kw X) W qa)) (ha : PE X a (lE (kw X) W ra)) (hb : PE X b (lE (kw X) W rb)) : PE X (.IfExp c a b pos) (lE (kw X) W (rIfE qa ra rb)) := by
  refine PE.imp (pe_ifExp hc ha hb) fun σ H Q h => ?_
  obtain ⟨F, H0, m, δ, P, PX, ok, rs, h, g, gx⟩ := h
  refine ⟨F, H0, m, δ, _, PX, ok, rs, h, fun k H1 H01 m1 s1 ok1 h1 => ?_, gx⟩
  cases k with
  | true => rw [if_pos rfl]; exact ⟨F, H01, m1, δ, P, PX, ok1, rs.mono s1, h1, g.mono s1, gx.mono s1⟩
  | false => rw [if_neg Bool.false_ne_true]; exact ⟨F, H01, m1, δ, P, PX, ok1, rs.mono s1, h1, g.mono s1, gx.mono s1⟩
/-! ### arguments, displays -/
variable {e : Expr} {es : List Expr} {qs : DA}
def rNil : DA := fun _ m P _ => P [] m
def rCons (ra : DE) (qs : DA) : DA := fun δ m P PX => ra δ m (fun x m1 => qs δ m1 (fun xs m2 => P (x :: xs) m2) PX) PX
theorem da_nil : PA X [] (lA (kw X) W rNil) := by
  refine PA.imp pa_nil fun σ H Q h => ?_
  obtain ⟨F, H0, m, δ, P, PX, ok, rs, h, g, gx⟩ := h
  exact g _ _ _ _ _ (Same.refl _) ok .nil h
theorem da_cons (ha : PE X e (lE (kw X) W ra)) (hr : PA X es (lA (kw X) W qs)) (hs : starEach (e :: es) X.env = (false, eval e X.env) :: starEach es X.env := by rfl) : PA X (e :: es) (lA (kw X) W (rCons ra qs)) := by
  refine PA.imp (pa_cons ha hr hs) fun σ H Q h => ?_
  obtain ⟨F, H0, m, δ, P, PX, ok, rs, h, g, gx⟩ := h
  exact ⟨F, H0, m, δ, _, PX, ok, rs, h, fun x H1 H01 m1 d s1 ok1 r1 h1 => ⟨F, H01, m1, δ, _, PX, ok1, rs.mono s1, h1, fun xs H2 H02 m2 ds s2 ok2 r2 h2 => g _ _ _ _ _ (s1.trans s2) ok2 (.cons (r1.mono s2) r2) h2, gx.mono s1⟩, gx⟩
def rTup (qs : DA) : DE := fun δ m P PX => qs δ m (fun xs m1 => xs.length ≤ sizeLine ∧ P (.tup xs) m1) PX
def rLst (qs : DA) : DE := fun δ m P PX => qs δ m (fun xs m1 => xs.length ≤ sizeLine ∧ P (.lst xs) m1) PX
theorem pd_tup {x1} (h : PA X es (lA (kw X) W qs)) : PE X (.Tuple es x1 pos) (lE (kw X) W (rTup qs)) := by
  refine PE.imp (pe_tup h) fun σ H Q h => ?_
  obtain ⟨F, H0, m, δ, P, PX, ok, rs, h, g, gx⟩ := h
  exact ⟨F, H0, m, δ, _, PX, ok, rs, h, fun xs H1 H01 m1 ds s1 ok1 r1 h1 => ⟨by rw [r1.length]; exact h1.1, fun p hp => (g.mono s1).tup ok1 hp r1 h1.2⟩, gx⟩
theorem pd_lst (h : PA X es (lA (kw X) W qs)) : PE X (.List es pos) (lE (kw X) W (rLst qs)) := by
  refine PE.imp (pe_lst h) fun σ H Q h => ?_
  obtain ⟨F, H0, m, δ, P, PX, ok, rs, h, g, gx⟩ := h
  exact ⟨F, H0, m, δ, _, PX, ok, rs, h, fun xs H1 H01 m1 ds s1 ok1 r1 h1 => ⟨by rw [r1.length]; exact h1.1, fun p hp => (g.mono s1).lst ok1 hp r1 h1.2⟩, gx⟩
/-- a list of ours -/
def rLstM (qs : DA) : DE := fun δ m P PX => qs δ m (fun xs m1 => xs.length ≤ sizeLine ∧ ∀ p, m1 p = none → P (.adr p) (mset m1 p (.lst xs))) PX
theorem GV.lstM {K : KW} {F : Hp} {H0 H : Hp} {m : Mu} {P : DK} {Q : VK} {p : Addr} {vs : List V} {ds : List D} (g : GV K F H0 P Q) (ok : Ok K F H0 m H) (hp : H p = none) (r : RpL K H0 vs ds) (h : ∀ p, m p = none → P (.adr p) (mset m p (.lst ds))) : Q (.ref p) (upd H p (.lst vs)) :=
  g _ _ H0 _ _ (Same.refl _) (ok.newM (o := .lst ds) hp ⟨vs, upd_same, r⟩) (.adr p) (h p (ok.free hp).2)
theorem pd_lstM (h : PA X es (lA (kw X) W qs)) : PE X (.List es pos) (lE (kw X) W (rLstM qs)) := by
  refine PE.imp (pe_lst h) fun σ H Q h => ?_
  obtain ⟨F, H0, m, δ, P, PX, ok, rs, h, g, gx⟩ := h
  exact ⟨F, H0, m, δ, _, PX, ok, rs, h, fun xs H1 H01 m1 ds s1 ok1 r1 h1 => ⟨by rw [r1.length]; exact h1.1, fun p hp => (g.mono s1).lstM ok1 hp r1 h1.2⟩, gx⟩
/-! ### items, slices -/
def oIx : DO := fun x y m P => match y with
  | .int i => match x with
    | .tup ds => match atI ds i with
      | some d => P d m
      | none => False
    | .str z => z.length ≤ sizeLine ∧ match atI z.cps.toList i with
      | some c => P (.str ⟨#[c]⟩) m
      | none => False
    | x => match asL m x with
      | some ds => match atI ds i with
        | some d => P d m
        | none => False
      | none => False
  | _ => False
theorem ix_ok {K : KW} : OpD K (fun x y H Q => rIxL K x y H Q ∨ rIxT K x y H Q ∨ rIxS x y H Q) oIx := by
  intro F H0 m H x y dx dy P Q ok rx ry h g
  unfold oIx at h
  split at h
  · rename_i i
    cases ry
    split at h
    · rename_i ds
      obtain ⟨p, vs, rfl, q, r⟩ := tup_rp ok rx
      split at h
      · rename_i d e
        obtain ⟨v, e2, rv⟩ := r.at_ e
        exact .inr (.inl ⟨p, vs, i, v, rfl, rfl, q, e2, g.id ok rv h⟩)
      · exact h.elim
    · rename_i z
      cases rx
      obtain ⟨hz, h⟩ := h
      split at h
      · rename_i c e
        exact .inr (.inr ⟨z, i, c, rfl, rfl, hz, e, g.id ok (.str _) h⟩)
      · exact h.elim
    · split at h
      · rename_i ds e
        obtain ⟨p, vs, rfl, q, r⟩ := asL_rp ok rx e
        split at h
        · rename_i d e
          obtain ⟨v, e2, rv⟩ := r.at_ e
          exact .inl ⟨p, vs, i, v, rfl, rfl, q, e2, g.id ok rv h⟩
        · exact h.elim
      · exact h.elim
  · exact h.elim
theorem pd_ix (ha : PE X a (lE (kw X) W ra)) (hb : PE X b (lE (kw X) W rb)) (hs : PlainIx b := by intro _ _; rfl) : PE X (.Subscript a b pos) (lE (kw X) W (rOp oIx ra rb)) :=
  PE.imp (pe_ix ix_seq ha hb hs) fun _ _ _ h => lE_op ix_ok h
abbrev DP := DSt → Mu → (Option Int → Mu → Prop) → DX → Prop
def GO (K : KW) (F : Hp) (H0 : Hp) (P : Option Int → Mu → Prop) (Q : Option Int → Hp → Prop) : Prop := ∀ o H' H0' m', Same H0 H0' → Ok K F H0' m' H' → P o m' → Q o H'
def lO (K : KW) (W : WX) (r : DP) : TO := fun σ H Q => ∃ F H0 m δ P PX, Ok K F H0 m H ∧ RpS K H0 σ δ ∧ r δ m P PX ∧ GO K F H0 P Q ∧ GX K F H0 PX fun c xd H' => W c xd σ H'
def rNoP : DP := fun _ m P _ => P none m
def rPart (ra : DE) : DP := fun δ m P PX => ra δ m (fun x m1 => match x with | .int i => P (some i) m1 | _ => False) PX
theorem PO.imp {X : Cx} {e : Option Expr} {t t' : TO} (h : PO X e t) (k : ∀ σ H Q, t' σ H Q → t σ H Q) : PO X e t' := ⟨fun pins s σ H Q I w => h.run pins s σ H Q I (k σ H Q w)⟩
theorem dp_none : PO X none (lO (kw X) W rNoP) := by
  refine PO.imp po_none fun σ H Q h => ?_
  obtain ⟨F, H0, m, δ, P, PX, ok, rs, h, g, gx⟩ := h
  exact g _ _ _ _ (Same.refl _) ok h
theorem dp_some (ha : PE X a (lE (kw X) W ra)) : PO X (some a) (lO (kw X) W (rPart ra)) := by
  refine PO.imp (po_some ha) fun σ H Q h => ?_
  obtain ⟨F, H0, m, δ, P, PX, ok, rs, h, g, gx⟩ := h
  refine ⟨F, H0, m, δ, _, PX, ok, rs, h, fun x H1 H01 m1 d s1 ok1 r1 h1 => ?_, gx⟩
  dsimp only at h1
  split at h1
  · cases r1
    exact ⟨_, rfl, g _ _ _ _ s1 ok1 h1⟩
  · exact h1.elim
def oSl : D → Option Int → Option Int → Mu → DK → Prop := fun x lo hi m P => match x with
  | .tup ds => P (.tup (cutD ds lo hi)) m
  | .str z => z.length ≤ sizeLine ∧ P (.str (cutS z lo hi)) m
  | x => match asL m x with
    | some ds => P (.lst (cutD ds lo hi)) m
    | none => False
def rSl (ra : DE) (pl ph : DP) : DE := fun δ m P PX => ra δ m (fun x m1 => pl δ m1 (fun l m2 => ph δ m2 (fun u m3 => oSl x l u m3 P) PX) PX) PX
theorem pd_sl {lo hi : Option Expr} {pl ph : DP} {p2 : Pos} (ha : PE X a (lE (kw X) W ra)) (hl : PO X lo (lO (kw X) W pl)) (hh : PO X hi (lO (kw X) W ph)) : PE X (.Subscript a (.Slice lo hi none p2) pos) (lE (kw X) W (rSl ra pl ph)) := by
  refine PE.imp (pe_slice (sl_list.or (sl_tupA.or sl_str)) ha hl hh) fun σ H Q h => ?_
  obtain ⟨F, H0, m, δ, P, PX, ok, rs, h, g, gx⟩ := h
  refine ⟨F, H0, m, δ, _, PX, ok, rs, h, fun x H1 H01 m1 d1 s1 ok1 r1 h1 => ⟨F, H01, m1, δ, _, PX, ok1, rs.mono s1, h1, fun l H2 H02 m2 s2 ok2 h2 => ⟨F, H02, m2, δ, _, PX, ok2, (rs.mono s1).mono s2, h2, fun u H3 H03 m3 s3 ok3 h3 => ?_, (gx.mono s1).mono s2⟩, gx.mono s1⟩, gx⟩
  have g3 := ((g.mono s1).mono s2).mono s3
  have r3 := (r1.mono s2).mono s3
  unfold oSl at h3
  split at h3
  · rename_i ds
    obtain ⟨p, vs, rfl, q, r⟩ := tup_rp ok3 r3
    refine .inr (.inl ⟨p, vs, rfl, q, fun hw => ?_, fun _ z hz => g3.tup ok3 hz (r.cut _ _) h3⟩)
    have e : cutD ds l u = ds := by
      unfold cutD
      rw [← r.length, hw.1, hw.2, r.length]
      simp
    rw [e] at h3
    exact g3.id ok3 r3 h3
  · cases r3
    exact .inr (.inr ⟨_, rfl, h3.1, g3.id ok3 (.str _) h3.2⟩)
  · split at h3
    · rename_i ds e
      obtain ⟨p, vs, rfl, q, r⟩ := asL_rp ok3 r3 e
      exact .inl ⟨p, vs, rfl, q, fun z hz => g3.lst ok3 hz (r.cut _ _) h3⟩
    · exact h3.elim
end
end DL
namespace DL
open PySem L2
section
variable {X : Cx} {W : WX} {a b c : Expr} {ra rb rc : DE} {pos p : Pos} {e : Expr} {es : List Expr} {qs : DA}
/-! ### calls of built-ins -/
abbrev DC := List D → Mu → DK → Prop
def CalD (K : KW) (r : List V → Hp → VK → Prop) (ro : DC) : Prop := ∀ F H0 m H vs ds P Q, Ok K F H0 m H → RpL K H0 vs ds → ro ds m P → GV K F H0 P Q → r vs H Q
def rCB (ro : DC) (qs : DA) : DE := fun δ m P PX => qs δ m (fun xs m1 => ro xs m1 P) PX
theorem lE_cb {K : KW} {r : List V → Hp → VK → Prop} {ro : DC} (cd : CalD K r ro) {σ : St} {H : Hp} {Q : VK} (h : lE K W (rCB ro qs) σ H Q) : tCB r (lA K W qs) σ H Q := by
  obtain ⟨F, H0, m, δ, P, PX, ok, rs, h, g, gx⟩ := h
  exact ⟨F, H0, m, δ, _, PX, ok, rs, h, fun xs H1 H01 m1 ds s1 ok1 r1 h1 => cd _ _ _ _ _ _ _ _ ok1 r1 h1 (g.mono s1), gx⟩
theorem pd_callB {x : Str} {id : String} {r : List V → Hp → VK → Prop} {ro : DC} (hc : CallR X (.builtin id) r) (cd : CalD (kw X) r ro) (hm : X.mg x = none) (hv : bootBuiltins x = some (.builtin id)) (ha : PA X (e :: es) (lA (kw X) W qs)) (hg : Gl X x := by rfl) (hn : x ≠ "__name__" := by decide) (hdb : (x == ("__debug__" : Str)) = false := by decide)
    (he : starEach (e :: es) X.env = (false, eval e X.env) :: starEach es X.env := by rfl) (hpl : (backTo pos (starEach es X.env)).any (·.1) = false := by rfl) : PE X (.Call (.Name x p) (e :: es) [] pos) (lE (kw X) W (rCB ro qs)) :=
  PE.imp (pe_callB hc hg hm hv ha hn hdb he hpl) fun _ _ _ h => lE_cb cd h
theorem pd_callTy {x : Str} {T : String} {r : List V → Hp → VK → Prop} {ro : DC} (hc : CallR X (.type T) r) (cd : CalD (kw X) r ro) (hm : X.mg x = none) (hv : bootBuiltins x = some (.type T)) (ha : PA X (e :: es) (lA (kw X) W qs)) (hg : Gl X x := by rfl) (hn : x ≠ "__name__" := by decide) (hdb : (x == ("__debug__" : Str)) = false := by decide)
    (he : starEach (e :: es) X.env = (false, eval e X.env) :: starEach es X.env := by rfl) (hpl : (backTo pos (starEach es X.env)).any (·.1) = false := by rfl) : PE X (.Call (.Name x p) (e :: es) [] pos) (lE (kw X) W (rCB ro qs)) :=
  PE.imp (pe_callTy hc hg hm hv ha hn hdb he hpl) fun _ _ _ h => lE_cb cd h
theorem RpL.one {K : PySem.W.Frag} {H : Hp} {vs : List V} {d : D} (r : RpL K H vs [d]) : ∃ v, vs = [v] ∧ Rp K H v d := by
  cases r with
  | cons h t => cases t; exact ⟨_, rfl, h⟩
theorem RpL.two {K : PySem.W.Frag} {H : Hp} {vs : List V} {d e : D} (r : RpL K H vs [d, e]) : ∃ v w, vs = [v, w] ∧ Rp K H v d ∧ Rp K H w e := by
  cases r with
  | cons h t =>
    obtain ⟨w, rfl, q⟩ := t.one
    exact ⟨_, _, rfl, h, q⟩
def cLen : DC := fun xs m P => match xs with
  | [.str y] => y.length ≤ sizeLine ∧ P (.int y.length) m
  | [.tup ds] => P (.int ds.length) m
  | [x] => match asL m x with
    | some ds => P (.int ds.length) m
    | none => False
  | _ => False
theorem len_ok {K : KW} : CalD K (fun xs H Q => ∃ x n, xs = [x] ∧ LenV K x H n ∧ Q (.int n) H) cLen := by
  intro F H0 m H vs ds P Q ok r h g
  unfold cLen at h
  split at h
  · obtain ⟨v, rfl, q⟩ := r.one
    cases q
    exact ⟨_, _, rfl, ⟨h.1, rfl⟩, g.id ok (.int _) h.2⟩
  · obtain ⟨v, rfl, q⟩ := r.one
    obtain ⟨p, ws, rfl, q2, r2⟩ := tup_rp ok q
    exact ⟨_, _, rfl, .inr ⟨_, q2, rfl⟩, by rw [r2.length]; exact g.id ok (.int _) h⟩
  · obtain ⟨v, rfl, q⟩ := r.one
    split at h
    · rename_i es e1
      obtain ⟨p, ws, rfl, q2, r2⟩ := asL_rp ok q e1
      exact ⟨_, _, rfl, .inl ⟨_, q2, rfl⟩, by rw [r2.length]; exact g.id ok (.int _) h⟩
    · exact h.elim
  · exact h.elim
theorem pd_len {x : Str} (hm : X.mg x = none) (hv : bootBuiltins x = some (.builtin "len")) (ha : PA X (e :: es) (lA (kw X) W qs)) (hg : Gl X x := by rfl) (hn : x ≠ "__name__" := by decide) (hdb : (x == ("__debug__" : Str)) = false := by decide)
    (he : starEach (e :: es) X.env = (false, eval e X.env) :: starEach es X.env := by rfl) (hpl : (backTo pos (starEach es X.env)).any (·.1) = false := by rfl) : PE X (.Call (.Name x p) (e :: es) [] pos) (lE (kw X) W (rCB cLen qs)) := pd_callB call_len len_ok hm hv ha hg hn hdb he hpl
def cInt : DC := fun xs m P => match xs with
  | [.int i] => P (.int i) m
  | [.bl k] => P (.int (if k then 1 else 0)) m
  | _ => False
theorem int_ok {K : KW} : CalD K (fun xs H Q => (∃ i, xs = [.int i] ∧ Q (.int i) H) ∨ ∃ k, xs = [.bl k] ∧ Q (.int (if k then 1 else 0)) H) cInt := by
  intro F H0 m H vs ds P Q ok r h g
  unfold cInt at h
  split at h
  · obtain ⟨v, rfl, q⟩ := r.one
    cases q
    exact .inl ⟨_, rfl, g.id ok (.int _) h⟩
  · obtain ⟨v, rfl, q⟩ := r.one
    cases q
    exact .inr ⟨_, rfl, g.id ok (.int _) h⟩
  · exact h.elim
theorem pd_intOf {x : Str} (hm : X.mg x = none) (hv : bootBuiltins x = some (.type "int")) (ha : PA X (e :: es) (lA (kw X) W qs)) (hg : Gl X x := by rfl) (hn : x ≠ "__name__" := by decide) (hdb : (x == ("__debug__" : Str)) = false := by decide)
    (he : starEach (e :: es) X.env = (false, eval e X.env) :: starEach es X.env := by rfl) (hpl : (backTo pos (starEach es X.env)).any (·.1) = false := by rfl) : PE X (.Call (.Name x p) (e :: es) [] pos) (lE (kw X) W (rCB cInt qs)) := pd_callTy call_int1 int_ok hm hv ha hg hn hdb he hpl
def cStr : DC := fun xs m P => match xs with
  | [.int i] => i.natAbs.log2 < 1920 ∧ P (.str (toString i)) m
  | _ => False
theorem str_ok {K : KW} : CalD K (fun xs H Q => ∃ i : Int, xs = [.int i] ∧ i.natAbs.log2 < 1920 ∧ Q (.str (toString i)) H) cStr := by
  intro F H0 m H vs ds P Q ok r h g
  unfold cStr at h
  split at h
  · obtain ⟨v, rfl, q⟩ := r.one
    cases q
    exact ⟨_, rfl, h.1, g.id ok (.str _) h.2⟩
  · exact h.elim
theorem pd_strOf {x : Str} (hm : X.mg x = none) (hv : bootBuiltins x = some (.type "str")) (ha : PA X (e :: es) (lA (kw X) W qs)) (hg : Gl X x := by rfl) (hn : x ≠ "__name__" := by decide) (hdb : (x == ("__debug__" : Str)) = false := by decide)
    (he : starEach (e :: es) X.env = (false, eval e X.env) :: starEach es X.env := by rfl) (hpl : (backTo pos (starEach es X.env)).any (·.1) = false := by rfl) : PE X (.Call (.Name x p) (e :: es) [] pos) (lE (kw X) W (rCB cStr qs)) := pd_callTy call_str_int str_ok hm hv ha hg hn hdb he hpl
/-! isinstance of a built-in class -/
def tyN (m : Mu) : D → Option String
  | .non => some "NoneType"
  | .bl _ => some "bool"
  | .int _ => some "int"
  | .str _ => some "str"
  | .lst _ => some "list"
  | .tup _ => some "tuple"
  | .dct _ => some "dict"
  | .adr a => match m a with
    | some (.lst _) => some "list"
    | some (.dct _) => some "dict"
    | _ => none
  | _ => none
theorem tyN_rp {K : KW} {F : Hp} {H0 H : Hp} {m : Mu} {v : V} {d : D} {t : String} (ok : Ok K F H0 m H) (r : Rp K H0 v d) (h : tyN m d = some t) : TyX K H v (.type t) := by
  cases r with
  | non => cases h; exact .base .non
  | bl b => cases h; exact .base (.bl b)
  | int i => cases h; exact .base (.int i)
  | str x => cases h; exact .base (.str x)
  | ty n => cases h
  | adr p =>
    unfold tyN at h
    dsimp only at h
    split at h
    · rename_i e1
      cases h
      obtain ⟨_, vs, hv, _⟩ := ok.cell _ _ e1
      exact .base (.lst hv)
    · rename_i e1
      cases h
      obtain ⟨_, vs, hv, _⟩ := ok.cell _ _ e1
      exact .base (.dK hv)
    · cases h
  | lst q _ =>
    cases h
    rcases ok.same.seq q with (q | ⟨o, q⟩) | ⟨o, its, n, h1, h2, _⟩
    · exact .base (.lst q)
    · exact .base (.frz q)
    · exact .kList h1 h2
  | tup q _ =>
    cases h
    rcases seqT_mono ok.same q with (q | ⟨o, q⟩) | ⟨o, its, n, h1, h2, _⟩
    · exact .base (.tup q)
    · exact .fTuple q
    · exact .kTuple h1 h2
  | dct q _ _ => cases h; exact .base (.dK (ok.same _ _ q))
  | ins _ _ _ _ => cases h
  | glb _ => cases h
  | exc _ _ _ _ => cases h
/-- is one built-in class under another one -/
def isB (t T : String) : Option Bool := kitB t T
def cIsi : DC := fun xs m P => match xs with
  | [x, .ty T] => match tyN m x with
    | some t => match isB t T with
      | some k => P (.bl k) m
      | none => False
    | none => False
  | _ => False
theorem isi_ok {K : KW} : CalD K (rIsi K) cIsi := by
  intro F H0 m H vs ds P Q ok r h g
  unfold cIsi at h
  split at h
  · obtain ⟨v, w, rfl, q1, q2⟩ := r.two
    cases q2
    split at h
    · rename_i t e1
      split at h
      · rename_i k e2
        exact ⟨_, _, _, _, k, rfl, .ty _, tyN_rp ok q1 e1, kit_ty e2, g.id ok (.bl _) h⟩
      · exact h.elim
    · exact h.elim
  · exact h.elim
theorem pd_isi {x : Str} (hm : X.mg x = none) (hv : bootBuiltins x = some (.builtin "isinstance")) (ha : PA X (e :: es) (lA (kw X) W qs)) (hg : Gl X x := by rfl) (hn : x ≠ "__name__" := by decide) (hdb : (x == ("__debug__" : Str)) = false := by decide)
    (he : starEach (e :: es) X.env = (false, eval e X.env) :: starEach es X.env := by rfl) (hpl : (backTo pos (starEach es X.env)).any (·.1) = false := by rfl) : PE X (.Call (.Name x p) (e :: es) [] pos) (lE (kw X) W (rCB cIsi qs)) := pd_callB call_isi isi_ok hm hv ha hg hn hdb he hpl
/-! list(..), tuple(..) -/
def cLst : DC := fun xs m P => match xs with
  | [.tup ds] => P (.lst ds) m
  | [x] => match asL m x with
    | some ds => P (.lst ds) m
    | none => False
  | _ => False
theorem list_ok {K : KW} : CalD K (fun xs H Q => ∃ p ys, xs = [.ref p] ∧ (SqL K H p ys ∨ SqT K H p ys) ∧ ∀ l, H l = none → Q (.ref l) (upd H l (.lst ys))) cLst := by
  intro F H0 m H vs ds P Q ok r h g
  unfold cLst at h
  split at h
  · obtain ⟨v, rfl, q⟩ := r.one
    obtain ⟨p, ws, rfl, q2, r2⟩ := tup_rp ok q
    exact ⟨p, ws, rfl, .inr q2, fun l hl => g.lst ok hl r2 h⟩
  · obtain ⟨v, rfl, q⟩ := r.one
    split at h
    · rename_i es e1
      obtain ⟨p, ws, rfl, q2, r2⟩ := asL_rp ok q e1
      exact ⟨p, ws, rfl, .inl q2, fun l hl => g.lst ok hl r2 h⟩
    · exact h.elim
  · exact h.elim
theorem pd_listOf {x : Str} (hm : X.mg x = none) (hv : bootBuiltins x = some (.type "list")) (ha : PA X (e :: es) (lA (kw X) W qs)) (hg : Gl X x := by rfl) (hn : x ≠ "__name__" := by decide) (hdb : (x == ("__debug__" : Str)) = false := by decide)
    (he : starEach (e :: es) X.env = (false, eval e X.env) :: starEach es X.env := by rfl) (hpl : (backTo pos (starEach es X.env)).any (·.1) = false := by rfl) : PE X (.Call (.Name x p) (e :: es) [] pos) (lE (kw X) W (rCB cLst qs)) := pd_callTy call_list_of list_ok hm hv ha hg hn hdb he hpl
def cTup : DC := fun xs m P => match xs with
  | [.tup ds] => P (.tup ds) m
  | [x] => match asL m x with
    | some ds => P (.tup ds) m
    | none => False
  | _ => False
theorem tuple_ok {K : KW} : CalD K (fun xs H Q => ∃ p ys, xs = [.ref p] ∧ ((SqL K H p ys ∧ ∀ l, H l = none → Q (.ref l) (upd H l (.tup ys))) ∨ (SqT K H p ys ∧ Q (.ref p) H))) cTup := by
  intro F H0 m H vs ds P Q ok r h g
  unfold cTup at h
  split at h
  · obtain ⟨v, rfl, q⟩ := r.one
    obtain ⟨p, ws, rfl, q2, r2⟩ := tup_rp ok q
    exact ⟨p, ws, rfl, .inr ⟨q2, g.id ok q h⟩⟩
  · obtain ⟨v, rfl, q⟩ := r.one
    split at h
    · rename_i es e1
      obtain ⟨p, ws, rfl, q2, r2⟩ := asL_rp ok q e1
      exact ⟨p, ws, rfl, .inl ⟨q2, fun l hl => g.tup ok hl r2 h⟩⟩
    · exact h.elim
  · exact h.elim
theorem pd_tupleOf {x : Str} (hm : X.mg x = none) (hv : bootBuiltins x = some (.type "tuple")) (ha : PA X (e :: es) (lA (kw X) W qs)) (hg : Gl X x := by rfl) (hn : x ≠ "__name__" := by decide) (hdb : (x == ("__debug__" : Str)) = false := by decide)
    (he : starEach (e :: es) X.env = (false, eval e X.env) :: starEach es X.env := by rfl) (hpl : (backTo pos (starEach es X.env)).any (·.1) = false := by rfl) : PE X (.Call (.Name x p) (e :: es) [] pos) (lE (kw X) W (rCB cTup qs)) := pd_callTy call_tuple_of tuple_ok hm hv ha hg hn hdb he hpl
/-! all, any of truths -/
def boolsD : List D → Option (List Bool)
  | [] => some []
  | .bl b :: ds => (boolsD ds).map (b :: ·)
  | _ :: _ => none
theorem boolsD_map : ∀ bs : List Bool, boolsD (bs.map .bl) = some bs
  | [] => rfl
  | b :: bs => by simp [boolsD, boolsD_map bs]
theorem boolsD_rp {K : PySem.W.Frag} {H : Hp} : ∀ {vs : List V} {ds : List D} {bs : List Bool}, RpL K H vs ds → boolsD ds = some bs → vs = bs.map V.bl
  | _, _, _, .nil, h => by cases h; rfl
  | _, _, _, .cons q r, h => by
    cases q with
    | bl b =>
      simp only [boolsD, Option.map_eq_some_iff] at h
      obtain ⟨z, e2, rfl⟩ := h
      rw [boolsD_rp r e2]; rfl
    | _ => simp [boolsD] at h
def cAllAny (f : List Bool → Bool) : DC := fun xs m P => match xs with
  | [x] => match asL m x with
    | some ds => match boolsD ds with
      | some bs => P (.bl (f bs)) m
      | none => False
    | none => False
  | _ => False
theorem allAny_ok {K : KW} {f : List Bool → Bool} : CalD K (fun vs H Q => ∃ (a : Addr) (bs : List Bool), vs = [V.ref a] ∧ SqL K H a (bs.map V.bl) ∧ Q (.bl (f bs)) H) (cAllAny f) := by
  intro F H0 m H vs ds P Q ok r h g
  unfold cAllAny at h
  split at h
  · obtain ⟨v, rfl, q⟩ := r.one
    split at h
    · rename_i es e1
      obtain ⟨p, ws, rfl, q2, r2⟩ := asL_rp ok q e1
      split at h
      · rename_i bs e2
        exact ⟨p, bs, rfl, by rw [← boolsD_rp r2 e2]; exact q2, g.id ok (.bl _) h⟩
      · exact h.elim
    · exact h.elim
  · exact h.elim
abbrev cAll : DC := cAllAny fun bs => bs.all id
theorem pd_all {x : Str} (hc : X.calm = true) (hm : X.mg x = none) (hv : bootBuiltins x = some (.builtin "all")) (ha : PA X (e :: es) (lA (kw X) W qs)) (hg : Gl X x := by rfl) (hn : x ≠ "__name__" := by decide) (hdb : (x == ("__debug__" : Str)) = false := by decide)
    (he : starEach (e :: es) X.env = (false, eval e X.env) :: starEach es X.env := by rfl) (hpl : (backTo pos (starEach es X.env)).any (·.1) = false := by rfl) : PE X (.Call (.Name x p) (e :: es) [] pos) (lE (kw X) W (rCB cAll qs)) := pd_callB (cr_all hc) allAny_ok hm hv ha hg hn hdb he hpl
/-! ### sep.join(texts) -/
def textsD : List D → Option (List Str)
  | [] => some []
  | .str b :: ds => (textsD ds).map (b :: ·)
  | _ :: _ => none
theorem textsD_map : ∀ bs : List Str, textsD (bs.map .str) = some bs
  | [] => rfl
  | b :: bs => by simp [textsD, textsD_map bs]
theorem textsD_rp {K : PySem.W.Frag} {H : Hp} : ∀ {vs : List V} {ds : List D} {bs : List Str}, RpL K H vs ds → textsD ds = some bs → vs = bs.map V.str
  | _, _, _, .nil, h => by cases h; rfl
  | _, _, _, .cons q r, h => by
    cases q with
    | str b =>
      simp only [textsD, Option.map_eq_some_iff] at h
      obtain ⟨z, e2, rfl⟩ := h
      rw [textsD_rp r e2]; rfl
    | _ => simp [textsD] at h
def asLT (m : Mu) : D → Option (List D)
  | .tup ds => some ds
  | d => asL m d
def rJoin (ra rb : DE) : DE := fun δ m P PX => ra δ m (fun x m1 => match x with
  | .str s => rb δ m1 (fun y m2 => match asLT m2 y with
    | some ds => match textsD ds with
      | some ys => (ys.map (·.length)).sum + ys.length * s.length ≤ 16777216 ∧ P (.str (Txt.join s ys)) m2
      | none => False
    | none => False) PX
  | _ => False) PX
theorem asLT_rp {K : KW} {F : Hp} {H0 H : Hp} {m : Mu} {v : V} {d : D} {ds : List D} (ok : Ok K F H0 m H) (r : Rp K H0 v d) (h : asLT m d = some ds) : ∃ a vs, v = .ref a ∧ (SqL K H a vs ∨ SqT K H a vs) ∧ RpL K H0 vs ds := by
  unfold asLT at h
  split at h
  · cases h
    obtain ⟨p, vs, rfl, q, r⟩ := tup_rp ok r
    exact ⟨p, vs, rfl, .inr q, r⟩
  · obtain ⟨p, vs, rfl, q, r⟩ := asL_rp ok r h
    exact ⟨p, vs, rfl, .inl q, r⟩
theorem pd_join {apos : Pos} (ho : PE X a (lE (kw X) W ra)) (he : PE X b (lE (kw X) W rb)) (hs : starEach [b] X.env = [(false, eval b X.env)] := by rfl) (hbase : attributeBase a "join" X.env (eval a X.env) = eval a X.env := by rfl) (hline : (apos.endLine == pos.line) = true := by rfl) :
    PE X (.Call (.Attribute a "join" apos) [b] [] pos) (lE (kw X) W (rJoin ra rb)) := by
  refine PE.imp (pe_join ho he hs hbase hline) fun σ H Q h => ?_
  obtain ⟨F, H0, m, δ, P, PX, ok, rs, h, g, gx⟩ := h
  refine ⟨F, H0, m, δ, _, PX, ok, rs, h, fun x H1 H01 m1 d s1 ok1 r1 h1 => ?_, gx⟩
  dsimp only at h1
  split at h1
  · cases r1
    refine ⟨⟨_, rfl⟩, F, H01, m1, δ, _, PX, ok1, rs.mono s1, h1, fun y H2 H02 m2 d2 s2 ok2 r2 h2 => ?_, gx.mono s1⟩
    dsimp only at h2
    split at h2
    · rename_i ds e1
      obtain ⟨q, vs, rfl, q2, r3⟩ := asLT_rp ok2 r2 e1
      split at h2
      · rename_i ys e2
        exact ⟨_, q, ys, rfl, rfl, by rw [← textsD_rp r3 e2]; exact q2, h2.1, (g.mono s1).mono s2 _ _ _ _ _ (Same.refl _) ok2 (.str _) h2.2⟩
      · exact h2.elim
    · exact h2.elim
  · exact h1.elim
end
end DL
namespace DL
open PySem L2
section
variable {X : Cx} {W : WX} {a b c : Expr} {ra rb rc : DE} {pos p : Pos} {e : Expr} {es : List Expr} {qs qk : DA}
/-! ### calls of defs -/
variable {k : Nat} {f : Addr} {fd : FuncData} {ps ks : List Str} {sp : SpD} {dvs : List V} {ds : List Value} {dD : List D} {x : Str}
def rCall (sp : SpD) (dD : List D) (qs : DA) : DE := fun δ m P PX => qs δ m (fun xs m1 => sp (xs ++ dD) m1 P PX) PX
theorem lE_call {K : KW} (hD : ∀ H, RpL K H dvs dD) {σ : St} {H : Hp} {Q : VK} (h : lE K W (rCall sp dD qs) σ H Q) : tCallSD (lP K sp) dvs (WE W) (lA K W qs) σ H Q := by
  obtain ⟨F, H0, m, δ, P, PX, ok, rs, h, g, gx⟩ := h
  exact ⟨F, H0, m, δ, _, PX, ok, rs, h, fun xs H1 H01 m1 es s1 ok1 r1 h1 => ⟨F, H01, m1, _, P, PX, ok1, r1.append (hD _), h1, g.mono s1, gx.mono s1⟩, gx⟩
theorem pd_call (G : FnOk X.prog X.w X.K X.mg X.base (L2.CX X.prog X.w) k f fd ps (lP (kw X) sp)) (hr : Room k X.A) (hm : X.mg x = some (.ref f)) (hk : PySem.W.keepIn X.K (.ref f) = true) (hb : Binds X.K fd ps ds) (hd : Vals dvs ds) (hD : ∀ H, RpL X.K H dvs dD) (tk : Takes X W)
    (ha : PA X (e :: es) (lA (kw X) W qs)) (hg : Gl X x := by rfl) (hdb : (x == ("__debug__" : Str)) = false := by decide) (he : starEach (e :: es) X.env = (false, eval e X.env) :: starEach es X.env := by rfl) (hpl : (backTo pos (starEach es X.env)).any (·.1) = false := by rfl) :
    PE X (.Call (.Name x p) (e :: es) [] pos) (lE (kw X) W (rCall sp dD qs)) :=
  PE.imp (pe_callSD G hr hg hm hk hb hd (fun σ => passAt tk σ) ha hdb he hpl) fun _ _ _ h => lE_call hD h
/-- how keywords bind, over data -/
structure KBd (K : PySem.W.Frag) (fd : FuncData) (ps : List Str) (n : Nat) (ks : List Str) (gD : List D → List D → List D) : Prop where
  ex : ∃ g gV, KBn K fd ps n ks g gV ∧ ∀ H vs ds zs es, vs.length = n → zs.length = ks.length → RpL K H vs ds → RpL K H zs es → RpL K H (gV vs zs) (gD ds es)
def rCallK (sp : SpD) (n j : Nat) (gD : List D → List D → List D) (qs qk : DA) : DE := fun δ m P PX => qs δ m (fun xs m1 => qk δ m1 (fun zs m2 => xs.length = n ∧ zs.length = j ∧ sp (gD xs zs) m2 P PX) PX) PX
theorem PK.imp {X : Cx} {e : List Keyword} {t t' : TA} (h : PK X e t) (k : ∀ σ H Q, t' σ H Q → t σ H Q) : PK X e t' := ⟨fun pos pins s σ H Q I w => h.run pos pins s σ H Q I (k σ H Q w)⟩
theorem dk_nil : PK X [] (lA (kw X) W rNil) := by
  refine PK.imp pk_nil fun σ H Q h => ?_
  obtain ⟨F, H0, m, δ, P, PX, ok, rs, h, g, gx⟩ := h
  exact g _ _ _ _ _ (Same.refl _) ok .nil h
theorem dk_cons {nm : Option Str} {kpos : Pos} {kws : List Keyword} (ha : PE X e (lE (kw X) W ra)) (hr : PK X kws (lA (kw X) W qs)) : PK X (⟨nm, e, kpos⟩ :: kws) (lA (kw X) W (rCons ra qs)) := by
  refine PK.imp (pk_cons ha hr) fun σ H Q h => ?_
  obtain ⟨F, H0, m, δ, P, PX, ok, rs, h, g, gx⟩ := h
  exact ⟨F, H0, m, δ, _, PX, ok, rs, h, fun x H1 H01 m1 d s1 ok1 r1 h1 => ⟨F, H01, m1, δ, _, PX, ok1, rs.mono s1, h1, fun xs H2 H02 m2 ds s2 ok2 r2 h2 => g _ _ _ _ _ (s1.trans s2) ok2 (.cons (r1.mono s2) r2) h2, gx.mono s1⟩, gx⟩
theorem run_kS {n : Nat} {g : List Value → List Value → List Value} {gV : List V → List V → List V} {spH : Sp} {E : XK} {pins : List (Addr × Obj)} {σ : St} {H : Hp} {s : Shared} {Q : VK} {us ws : List Value} {vs zs : List V} (G : FnOk X.prog X.w X.K X.mg X.base (L2.CX X.prog X.w) k f fd ps spH) (hr : Room k X.A) (hb : KBn X.K fd ps n ks g gV) (hx : PassesAt (L2.CX X.prog X.w) X σ E)
    (I : L2.Inv X pins σ H s) (r : Vals vs us) (rz : Vals zs ws) (l1 : vs.length = n) (l2 : zs.length = ks.length) (h : spH (gV vs zs) H Q E) : wpAny (model X.prog X.w) X.A (call (.ref f) us (ks.zip ws)) (EP X pins σ Q) X.xe s := by
  refine wpAny_call (codeAny_mono (G.run X.A X.stack s H _ (g us ws) (gV vs zs) Q E hr I.env0 (hb.to s us ws I.kIn (r.length.symm.trans l1) (rz.length.symm.trans l2)) (hb.rel r rz) h) fun rr s' hq => ?_)
  cases rr with
  | error er => exact hx pins H s er s' I hq
  | ok fl => cases fl with
    | ret u => exact I.after hq
    | _ => exact False.elim hq
theorem pd_callK0 {gD : List D → List D → List D} {kws : List Keyword} (G : FnOk X.prog X.w X.K X.mg X.base (L2.CX X.prog X.w) k f fd ps (lP (kw X) sp)) (hr : Room k X.A) (hm : X.mg x = some (.ref f)) (hk : PySem.W.keepIn X.K (.ref f) = true) (hb : KBd X.K fd ps 0 ks gD) (tk : Takes X W)
    (hkw : PK X kws (lA (kw X) W qk)) (hall : (backToKw pos (keywordEach kws X.env)).all (·.1.isSome) = true := by rfl) (hks : (backToKw pos (keywordEach kws X.env)).filterMap (·.1) = ks := by rfl) (hg : Gl X x := by rfl)
    (hdb : (x == ("__debug__" : Str)) = false := by decide)
    (hpl : ((backTo pos (starEach [] X.env)).any (·.1) || (backToKw pos (keywordEach kws X.env)).any (·.1.isNone)) = false := by rfl) :
    PE X (.Call (.Name x p) [] kws pos) (lE (kw X) W (rCallK sp 0 ks.length gD rNil qk)) := by
  obtain ⟨gg, gV, hb, hR⟩ := hb.ex
  refine PE.imp (t := fun σ H Q => lA (kw X) W qk σ H fun zs H2 => zs.length = ks.length ∧ lP (kw X) sp (gV [] zs) H2 Q (WE W σ)) ⟨fun pins s σ H Q I h => ?_⟩ fun σ H Q h => ?_
  · refine wpAny_Call_Name_kw (ld_glob I hg hm ?_ hdb)
    refine PySem.W.callWith_KW0 (h₀ := X.base) I.ok.mod.kin hk hall ?_ hpl
    refine thn (hkw.run pos pins s σ H _ I h) fun ws s2 hh2 => ?_
    obtain ⟨zs, H2, I2, rz, l2, q2⟩ := hh2
    refine ⟨I2.kIn, ?_⟩
    rw [hks]
    exact run_kS (us := []) (vs := []) G hr hb (passAt tk σ) I2 .nil rz rfl l2 q2
  · obtain ⟨F, H0, m, δ, P, PX, ok, rs, h, g, gx⟩ := h
    refine ⟨F, H0, m, δ, _, PX, ok, rs, h, fun zs H2 H02 m2 es s2 ok2 r2 h2 => ?_, gx⟩
    obtain ⟨e1, e2, h2⟩ := h2
    have l2 : zs.length = ks.length := r2.length.trans e2
    exact ⟨l2, F, H02, m2, _, P, PX, ok2, hR _ _ _ _ _ rfl l2 .nil r2, h2, g.mono s2, gx.mono s2⟩
/-! ### statements -/
variable {st : Stmt} {rest : List Stmt} {us ut : DS} {qa : DT}
def sSeq (us ut : DS) : DS := fun DD δ m => us { DD with nx := ut DD } δ m
def sNext : DS := fun DD δ m => DD.nx δ m
theorem dss_nil : PSs X [] (lS (kw X) W sNext) := by
  refine PSs.imp pss_nil fun Dn σ H h => ?_
  obtain ⟨F, H0, m, δ, DD, ok, rs, h, g⟩ := h
  exact g.nx _ _ _ _ _ (Same.refl _) ok rs h
theorem dss_cons (h1 : PS X st (lS (kw X) W us)) (h2 : PSs X rest (lS (kw X) W ut)) : PSs X (st :: rest) (lS (kw X) W (sSeq us ut)) := by
  refine PSs.imp (pss_cons h1 h2) fun Dn σ H h => ?_
  obtain ⟨F, H0, m, δ, DD, ok, rs, h, g⟩ := h
  exact ⟨F, H0, m, δ, _, ok, rs, h, ⟨fun σ1 H1 H01 m1 δ1 s1 ok1 rs1 h1 => ⟨F, H01, m1, δ1, DD, ok1, rs1, h1, g.mono s1⟩, g.rt, g.bk, g.ct, g.xx⟩⟩
theorem dss_one (h1 : PS X st (lS (kw X) W us)) : PSs X [st] (lS (kw X) W us) := pss_one h1
def sSet (i : Nat) (ra : DE) : DS := fun DD δ m => ra δ m (fun d m1 => DD.nx (δ.set i (some d)) m1) fun c fs m1 => DD.xx c fs δ m1
theorem GW.at_ {K : KW} {F H0 : Hp} {PX : Str → List (Str × D) → DSt → Mu → Prop} {W : WX} {σ : St} {δ : DSt} (g : GW K F H0 PX W) (rs : RpS K H0 σ δ) : GX K F H0 (fun c fs m1 => PX c fs δ m1) fun c xd H' => W c xd σ H' :=
  fun c xd H' H0' m' fs s ok x h => g c xd σ H' H0' m' fs δ s ok (rs.mono s) x h
theorem ds_set {i : Nat} {y : Str} {pos' : Pos} (hN : X.N.Nodup) (ha : PE X a (lE (kw X) W ra)) (hi : X.N[i]? = some y := by rfl) (hx : Loc X.env.scope y := by first | exact Or.inl rfl | exact Or.inr rfl) (hs : swapsWith a (some (.Name y pos')) pos.line X.env = pure false := by rfl) (hf : X.fn y = true ∨ X.env.scope.names.lookup y = some .local := by first | exact .inl rfl | exact .inr rfl) :
    PS X (.Assign [.Name y pos'] a pos) (lS (kw X) W (sSet i ra)) := by
  refine PS.imp (ps_set hN hi hx ha hs hf) fun Dn σ H h => ?_
  obtain ⟨F, H0, m, δ, DD, ok, rs, h, g⟩ := h
  exact ⟨F, H0, m, δ, _, _, ok, rs, h, fun v H1 H01 m1 d s1 ok1 r1 h1 => g.nx _ _ _ _ _ s1 ok1 ((rs.mono s1).set r1 i) h1, g.xx.at_ rs⟩
def sExpr (ra : DE) : DS := fun DD δ m => ra δ m (fun _ m1 => DD.nx δ m1) fun c fs m1 => DD.xx c fs δ m1
theorem ds_expr (ha : PE X a (lE (kw X) W ra)) (hs : swapsWith a none pos.line X.env = pure false := by rfl) : PS X (.Expr a pos) (lS (kw X) W (sExpr ra)) := by
  refine PS.imp (ps_expr ha hs) fun Dn σ H h => ?_
  obtain ⟨F, H0, m, δ, DD, ok, rs, h, g⟩ := h
  exact ⟨F, H0, m, δ, _, _, ok, rs, h, fun v H1 H01 m1 d s1 ok1 r1 h1 => g.nx _ _ _ _ _ s1 ok1 (rs.mono s1) h1, g.xx.at_ rs⟩
def sRet (ra : DE) : DS := fun DD δ m => ra δ m DD.rt fun c fs m1 => DD.xx c fs δ m1
theorem ds_ret (ha : PE X a (lE (kw X) W ra)) : PS X (.Return (some a) pos) (lS (kw X) W (sRet ra)) := by
  refine PS.imp (ps_ret ha) fun Dn σ H h => ?_
  obtain ⟨F, H0, m, δ, DD, ok, rs, h, g⟩ := h
  exact ⟨F, H0, m, δ, _, _, ok, rs, h, g.rt, g.xx.at_ rs⟩
def sIf (qa : DT) (us ut : DS) : DS := fun DD δ m => qa δ m (fun k m1 => match k with | true => us DD δ m1 | false => ut DD δ m1) fun c fs m1 => DD.xx c fs δ m1
theorem ds_if {body els : List Stmt} (hc : PT X c (lT (kw X) W qa)) (h1 : PSs X body (lS (kw X) W us)) (h2 : PSs X els (lS (kw X) W ut)) : PS X (.If c body els pos) (lS (kw X) W (sIf qa us ut)) := by
  refine PS.imp (ps_if hc h1 h2) fun Dn σ H h => ?_
  obtain ⟨F, H0, m, δ, DD, ok, rs, h, g⟩ := h
  refine ⟨F, H0, m, δ, _, _, ok, rs, h, fun k H1 H01 m1 s1 ok1 h1 => ?_, g.xx.at_ rs⟩
  cases k with
  | true => rw [if_pos rfl]; exact ⟨F, H01, m1, δ, DD, ok1, rs.mono s1, h1, g.mono s1⟩
  | false => rw [if_neg Bool.false_ne_true]; exact ⟨F, H01, m1, δ, DD, ok1, rs.mono s1, h1, g.mono s1⟩
/-- o[i] = v, o a list of ours -/
def sSetIx (rv ro ri : DE) : DS := fun DD δ m => rv δ m (fun v m1 => ro δ m1 (fun o m2 => ri δ m2 (fun i m3 => match o, i with
  | .adr p, .int k => match m3 p with
    | some (.lst ds) => match ixN ds.length k with
      | some j => DD.nx δ (mset m3 p (.lst (ds.set j v)))
      | none => False
    | _ => False
  | _, _ => False) fun c fs m1 => DD.xx c fs δ m1) fun c fs m1 => DD.xx c fs δ m1) fun c fs m1 => DD.xx c fs δ m1
theorem ds_setIx {o i : Expr} {ro ri rv : DE} {p2 : Pos} (hv : PE X a (lE (kw X) W rv)) (ho : PE X o (lE (kw X) W ro)) (hi : PE X i (lE (kw X) W ri))
    (hA : ∀ v, assign (.Subscript o i p2) X.env v = (do
      let ov ← holding [v] (eval o X.env)
      let iv ← holding [v, ov] (eval i X.env)
      standAt p2
      holding [v, ov, iv] (setItem ov iv v)
      release [v, ov, iv] []) := by intro _; rfl)
    (hs : swapsWithSole [.Subscript o i p2] a pos.line X.env = pure false := by rfl) (hw : swappedStores [.Subscript o i p2] a X.env = pure none := by rfl) (h1 : (assignEach [.Subscript o i p2] X.env).map (·.2) = [assign (.Subscript o i p2) X.env] := by rfl) :
    PS X (.Assign [.Subscript o i p2] a pos) (lS (kw X) W (sSetIx rv ro ri)) := by
  refine PS.imp (ps_asg hv (pg_sub ho hi set_list hA) hs hw h1) fun Dn σ H h => ?_
  obtain ⟨F, H0, m, δ, DD, ok, rs, h, g⟩ := h
  refine ⟨F, H0, m, δ, _, _, ok, rs, h, fun v H1 H01 m1 d1 s1 ok1 r1 h1 => ⟨F, H01, m1, δ, _, _, ok1, rs.mono s1, h1, fun o H2 H02 m2 d2 s2 ok2 r2 h2 => ⟨F, H02, m2, δ, _, _, ok2, (rs.mono s1).mono s2, h2, fun iv H3 H03 m3 d3 s3 ok3 r3 h3 => ?_, ((g.mono s1).mono s2).xx.at_ ((rs.mono s1).mono s2)⟩, (g.mono s1).xx.at_ (rs.mono s1)⟩, g.xx.at_ rs⟩
  dsimp only at h3
  split at h3
  · rename_i q k
    cases r3
    cases r2
    split at h3
    · rename_i ds e1
      obtain ⟨_, vs, hv3, rv3⟩ := ok3.cell q _ e1
      split at h3
      · rename_i j e2
        refine ⟨q, vs, k, j, rfl, rfl, hv3, by rw [rv3.length]; exact e2, ?_⟩
        have s123 := (s1.trans s2).trans s3
        exact g.nx _ _ _ _ _ s123 (ok3.write (o := .lst (ds.set j d1)) e1 ⟨_, upd_same, rv3.set ((r1.mono s2).mono s3) j⟩) (rs.mono s123) h3
      · exact h3.elim
    · exact h3.elim
  · exact h3.elim
/-- xs.append(v), xs a list of ours -/
def rApp (ro rv : DE) : DE := fun δ m P PX => ro δ m (fun o m1 => match o with
  | .adr p => (∃ es, m1 p = some (.lst es)) ∧ rv δ m1 (fun v m2 => match m2 p with
    | some (.lst ds) => ds.length < sizeLine ∧ P .non (mset m2 p (.lst (ds ++ [v])))
    | _ => False) PX
  | _ => False) PX
theorem pd_app {apos : Pos} (ho : PE X a (lE (kw X) W ra)) (hv : PE X b (lE (kw X) W rb)) (hbase : attributeBase a "append" X.env (eval a X.env) = eval a X.env := by rfl)
    (hfew : ((backTo pos (starEach [b] X.env)).all (fun x => !x.1) && (backToKw pos (keywordEach [] X.env)).all (fun x => x.1.isSome) && decide (([b] : List Expr).length + ([] : List Keyword).length + (if ([] : List Keyword).isEmpty then 0 else 1) < 30)) = true := by rfl)
    (hline : (apos.endLine == pos.line) = true := by rfl) (hs : starEach [b] X.env = (false, eval b X.env) :: starEach [] X.env := by rfl) (hpl : (backTo pos (starEach [] X.env)).any (·.1) = false := by rfl) :
    PE X (.Call (.Attribute a "append" apos) [b] [] pos) (lE (kw X) W (rApp ra rb)) := by
  refine PE.imp (pe_bm PySem.F.plainAttrs_list PySem.F.slot_list_append PySem.F.type_list_append mt_append ho (pa_cons hv pa_nil hs) hbase hfew hline hs hpl) fun σ H Q h => ?_
  obtain ⟨F, H0, m, δ, P, PX, ok, rs, h, g, gx⟩ := h
  have h' : ra δ m (fun o m1 => match o with
    | .adr p => (∃ es, m1 p = some (.lst es)) ∧ rb δ m1 (fun v m2 => match m2 p with
      | some (.lst ds) => ds.length < sizeLine ∧ P .non (mset m2 p (.lst (ds ++ [v])))
      | _ => False) PX
    | _ => False) PX := h
  refine ⟨F, H0, m, δ, _, PX, ok, rs, h', fun x H1 H01 m1 d s1 ok1 r1 h1 => ?_, gx⟩
  dsimp only at h1
  split at h1
  · rename_i q
    obtain ⟨⟨es, he⟩, h1⟩ := h1
    cases r1
    obtain ⟨_, vs, hv1, _⟩ := ok1.cell q _ he
    refine ⟨.inl ⟨rfl, vs, SqL.of hv1⟩, F, H01, m1, δ, _, PX, ok1, rs.mono s1, h1, fun v H2 H02 m2 d2 s2 ok2 r2 h2 => ?_, gx.mono s1⟩
    dsimp only at h2
    split at h2
    · rename_i ds e1
      obtain ⟨_, ws, hw, rw2⟩ := ok2.cell q _ e1
      refine ⟨q, ws, v, rfl, rfl, hw, by rw [rw2.length]; exact h2.1, ?_⟩
      exact g _ _ H02 _ _ (s1.trans s2) (ok2.write (o := .lst (ds ++ [d2])) e1 ⟨_, upd_same, rw2.snoc r2⟩) .non h2.2
    · exact h2.elim
  · exact h1.elim
end
end DL
namespace DL
open PySem L2
/-! ### what is walked: while Ph holds of what is ours, the items are ds -/
def ItD (K : KW) (F : Hp) (J : It) (H0 : Hp) (Ph : Mu → Prop) (ds : List D) : Prop := ∀ (i : Nat) (H H1 : Hp) (m : Mu), Same H0 H1 → Ok K F H1 m H → Ph m →
  (∀ d, ds[i]? = some d → J.go i H ∧ ∀ x H', J.yld i H x H' → ∃ H2, Same H1 H2 ∧ Ok K F H2 m H' ∧ Rp K H2 x d) ∧ (i = ds.length → J.stop i H)
abbrev DI := DSt → Mu → ((Mu → Prop) → List D → Mu → Prop) → DX → Prop
/-- (whatever further frame stands around) -/
def GI (K : KW) (F : Hp) (H0 : Hp) (P : (Mu → Prop) → List D → Mu → Prop) (R : It → Hp → Prop) : Prop := ∀ J H' H0' m' Ph ds, Same H0 H0' → Ok K F H0' m' H' → (∀ F', ItD K F' J H0' Ph ds) → Ph m' → P Ph ds m' → R J H'
def lI (K : KW) (W : WX) (r : DI) : TI := fun σ H R => ∃ F H0 m δ P PX, Ok K F H0 m H ∧ RpS K H0 σ δ ∧ r δ m P PX ∧ GI K F H0 P R ∧ GX K F H0 PX fun c xd H' => W c xd σ H'
section
variable {X : Cx} {W : WX} {a b c tg : Expr} {ra rb rc : DE} {pos p : Pos} {e : Expr} {es : List Expr} {qs : DA}
theorem PI.imp {X : Cx} {tg e : Expr} {t t' : TI} (h : PI X tg e t) (k : ∀ σ H R, t' σ H R → t σ H R) : PI X tg e t' := ⟨fun pins s σ H R I w => h.run pins s σ H R I (k σ H R w)⟩
/-- a list, a tuple, a text -/
theorem pi_any {l : Expr} {tl : TE} (hl : PE X l tl) : PI X tg l (fun σ H R => tl σ H fun x H1 => (∃ a, x = .ref a ∧ (∃ xs, SqL X.K H1 a xs) ∧ R (Itl X.K a) H1) ∨ (∃ a, x = .ref a ∧ (∃ xs, SqT X.K H1 a xs) ∧ R (Itt X.K a) H1) ∨ ∃ z, x = .str z ∧ R (Its z) H1) := by
  refine ⟨fun pins s σ H R I h => thn (hl.run pins s σ H _ I h) fun v s1 hh => ?_⟩
  obtain ⟨x, H1, I1, r1, q1⟩ := hh
  rcases q1 with ⟨a, rfl, ⟨xs, hq⟩, q⟩ | ⟨a, rfl, ⟨xs, hq⟩, q⟩ | ⟨z, rfl, q⟩
  · cases r1
    obtain ⟨its, rv, pl, hz⟩ := I1.list hq
    exact wpAny_pyIter_list pl.isList (pi_one (tk := s1.toks) I1 _ (turn_list a _) ⟨_, Heap.get?_push_size _ rfl, rfl, rfl⟩ q)
  · cases r1
    obtain ⟨its, rv, pl, hz⟩ := I1.tuple hq
    exact wpAny_pyIter_tuple (show s1.heap.IsTuple a its.toArray from pl) (pi_one (tk := s1.toks) I1 _ (turn_tuple a _) ⟨_, Heap.get?_push_size _ rfl, rfl, rfl⟩ q)
  · obtain ⟨t, rfl⟩ := r1
    cases ha : z.cps.all (· < 128)
    · exact wpAny_pyIter_wide ha (pi_one (tk := s1.toks) I1 _ (turn_str _ z t "str_iterator" (.inr rfl)) ⟨_, Heap.get?_push_size _ rfl, rfl, rfl⟩ q)
    · exact wpAny_pyIter_ascii ha (pi_one (tk := s1.toks) I1 _ (turn_str _ z t "str_ascii_iterator" (.inl rfl)) ⟨_, Heap.get?_push_size _ rfl, rfl, rfl⟩ q)
def signs (z : Str) : List D := z.cps.toList.map fun c => .str ⟨#[c]⟩
def iAny (ra : DE) : DI := fun δ m P PX => ra δ m (fun x m1 => match x with
  | .tup ds => P (fun _ => True) ds m1
  | .lst ds => P (fun _ => True) ds m1
  | .str z => P (fun _ => True) (signs z) m1
  | .adr q => match m1 q with
    | some (.lst ds) => P (fun m => m q = some (.lst ds)) ds m1
    | _ => False
  | _ => False) PX
theorem ItD.list {K : KW} {H0 : Hp} {q : Addr} {vs : List V} {ds : List D} {Ph : Mu → Prop} (r : RpL K H0 vs ds) (h : ∀ F H1 m H, Same H0 H1 → Ok K F H1 m H → Ph m → SqL K H q vs ∨ ∃ ws, SqL K H q ws ∧ RpL K H1 ws ds) (F : Hp) : ItD K F (Itl K q) H0 Ph ds := by
  intro i H H1 m s1 ok1 ph
  obtain ⟨ws, hq, rw1⟩ : ∃ ws, SqL K H q ws ∧ RpL K H1 ws ds := by
    rcases h F H1 m H s1 ok1 ph with h | h
    · exact ⟨vs, h, r.mono s1⟩
    · exact h
  refine ⟨fun d e => ?_, fun e => ⟨ws, hq, by rw [rw1.length, e]; exact Nat.le_refl _⟩⟩
  obtain ⟨v, e1, rv⟩ := rw1.get e
  refine ⟨⟨ws, v, hq, e1⟩, fun x H' y => ?_⟩
  obtain ⟨rfl, y⟩ := y
  have e2 := y ws hq
  rw [e1] at e2
  cases e2
  exact ⟨H1, Same.refl _, ok1, rv⟩
theorem ItD.tuple {K : KW} {H0 : Hp} {q : Addr} {vs : List V} {ds : List D} {Ph : Mu → Prop} (r : RpL K H0 vs ds) (h : SqT K H0 q vs) (F : Hp) : ItD K F (Itt K q) H0 Ph ds := by
  intro i H H1 m s1 ok1 ph
  have hq := seqT_mono (s1.trans ok1.same) h
  refine ⟨fun d e => ?_, fun e => ⟨vs, hq, by rw [r.length, e]; exact Nat.le_refl _⟩⟩
  obtain ⟨v, e1, rv⟩ := r.get e
  refine ⟨⟨vs, v, hq, e1⟩, fun x H' y => ?_⟩
  obtain ⟨rfl, y⟩ := y
  have e2 := y vs hq
  rw [e1] at e2
  cases e2
  exact ⟨H1, Same.refl _, ok1, rv.mono s1⟩
theorem ItD.text {K : KW} {H0 : Hp} {z : Str} {Ph : Mu → Prop} (F : Hp) : ItD K F (Its z) H0 Ph (signs z) := by
  intro i H H1 m s1 ok1 ph
  refine ⟨fun d e => ?_, fun e => ?_⟩
  · unfold signs at e
    rw [List.getElem?_map] at e
    cases hc : z.cps.toList[i]? with
    | none => rw [hc] at e; cases e
    | some c =>
      rw [hc] at e
      cases e
      have hlt : i < z.cps.size := by
        have := (List.getElem?_eq_some_iff.mp hc).1
        simpa using this
      refine ⟨hlt, fun x H' y => ?_⟩
      obtain ⟨rfl, c', e1, rfl⟩ := y
      have e2 : z.cps[i]? = some c := by simpa using hc
      rw [e2] at e1
      cases e1
      exact ⟨H1, Same.refl _, ok1, .str _⟩
  · show z.cps.size ≤ i
    rw [e]
    simp [signs]
theorem di_any (ha : PE X a (lE (kw X) W ra)) : PI X tg a (lI (kw X) W (iAny ra)) := by
  refine PI.imp (pi_any ha) fun σ H R h => ?_
  obtain ⟨F, H0, m, δ, P, PX, ok, rs, h, g, gx⟩ := h
  refine ⟨F, H0, m, δ, _, PX, ok, rs, h, fun x H1 H01 m1 d s1 ok1 r1 h1 => ?_, gx⟩
  dsimp only at h1
  split at h1
  · cases r1 with
    | tup q r => exact .inr (.inl ⟨_, rfl, ⟨_, seqT_mono ok1.same q⟩, g _ _ _ _ _ _ s1 ok1 (ItD.tuple r q) trivial h1⟩)
  · cases r1 with
    | lst q r => exact .inl ⟨_, rfl, ⟨_, ok1.same.seq q⟩, g _ _ _ _ _ _ s1 ok1 (ItD.list r fun F H1 m H s ok _ => .inl ((s.trans ok.same).seq q)) trivial h1⟩
  · cases r1
    exact .inr (.inr ⟨_, rfl, g _ _ _ _ _ _ s1 ok1 ItD.text trivial h1⟩)
  · rename_i q
    split at h1
    · rename_i ds e1
      cases r1
      obtain ⟨_, vs, hv, rv⟩ := ok1.cell q _ e1
      refine .inl ⟨q, rfl, ⟨vs, SqL.of hv⟩, g _ _ _ _ _ _ s1 ok1 (ItD.list rv fun F H1 m H s ok ph => ?_) e1 h1⟩
      obtain ⟨_, ws, hw, rw1⟩ := ok.cell q _ ph
      exact .inr ⟨ws, SqL.of hw, rw1⟩
    · exact h1.elim
  · exact h1.elim
def rangeD (lo : Int) (n : Nat) : List D := (List.range n).map fun i : Nat => .int (lo + i)
theorem ItD.range {K : KW} {H0 : Hp} {lo : Int} {n : Nat} {Ph : Mu → Prop} (F : Hp) : ItD K F (Itr lo n) H0 Ph (rangeD lo n) := by
  intro i H H1 m s1 ok1 ph
  refine ⟨fun d e => ?_, fun e => ?_⟩
  · unfold rangeD at e
    rw [List.getElem?_map] at e
    by_cases hi : i < n
    · rw [List.getElem?_range hi] at e
      cases e
      refine ⟨hi, fun x H' y => ?_⟩
      obtain ⟨rfl, rfl⟩ := y
      exact ⟨H1, Same.refl _, ok1, .int _⟩
    · rw [List.getElem?_eq_none (by simpa using hi)] at e
      cases e
  · show n ≤ i
    rw [e]
    simp [rangeD]
def iRange (qs : DA) : DI := fun δ m P PX => qs δ m (fun xs m1 => match xs with
  | [.int j] => (-(2 ^ 62) ≤ j ∧ j < 2 ^ 62) ∧ P (fun _ => True) (rangeD 0 j.toNat) m1
  | _ => False) PX
theorem di_range {q : Pos} (hm : X.mg "range" = none) (ha : PA X [a] (lA (kw X) W qs)) (hg : Gl X "range" := by rfl) (hs : starEach [a] X.env = [(false, eval a X.env)] := by rfl) : PI X tg (.Call (.Name "range" q) [a] [] pos) (lI (kw X) W (iRange qs)) := by
  refine PI.imp (pi_range1 hg hm ha hs) fun σ H R h => ?_
  obtain ⟨F, H0, m, δ, P, PX, ok, rs, h, g, gx⟩ := h
  refine ⟨F, H0, m, δ, _, PX, ok, rs, h, fun xs H1 H01 m1 ds s1 ok1 r1 h1 => ?_, gx⟩
  dsimp only at h1
  split at h1
  · obtain ⟨v, rfl, q⟩ := r1.one
    cases q
    exact ⟨_, rfl, h1.1.1, h1.1.2, g _ _ _ _ _ _ s1 ok1 ItD.range trivial h1.2⟩
  · exact h1.elim
def enumD : Nat → List D → List D
  | _, [] => []
  | i, d :: ds => .tup [.int (i : Nat), d] :: enumD (i + 1) ds
theorem enumD_get : ∀ (ds : List D) (k i : Nat), (enumD k ds)[i]? = ds[i]?.map fun d => .tup [.int ((k + i : Nat) : Int), d]
  | [], k, i => by simp [enumD]
  | d :: ds, k, 0 => by simp [enumD]
  | d :: ds, k, i + 1 => by
    simp only [enumD, List.getElem?_cons_succ]
    rw [enumD_get ds (k + 1) i]
    have e : k + 1 + i = k + (i + 1) := by omega
    rw [e]
theorem enumD_length : ∀ (ds : List D) (k : Nat), (enumD k ds).length = ds.length
  | [], _ => rfl
  | _ :: ds, k => by simp [enumD, enumD_length ds]
def iEnumD (qs : DA) : DI := fun δ m P PX => qs δ m (fun xs m1 => match xs with
  | [.lst ds] => P (fun _ => True) (enumD 0 ds) m1
  | [.adr q] => match m1 q with
    | some (.lst ds) => P (fun m => m q = some (.lst ds)) (enumD 0 ds) m1
    | _ => False
  | _ => False) PX
theorem ItD.enum {K : KW} {H0 : Hp} {q : Addr} {vs : List V} {ds : List D} {Ph : Mu → Prop} (r : RpL K H0 vs ds) (h : ∀ F H1 m H, Same H0 H1 → Ok K F H1 m H → Ph m → SqL K H q vs ∨ ∃ ws, SqL K H q ws ∧ RpL K H1 ws ds) (F : Hp) : ItD K F (Ite K q) H0 Ph (enumD 0 ds) := by
  intro i H H1 m s1 ok1 ph
  obtain ⟨ws, hq, rw1⟩ : ∃ ws, SqL K H q ws ∧ RpL K H1 ws ds := by
    rcases h F H1 m H s1 ok1 ph with h | h
    · exact ⟨vs, h, r.mono s1⟩
    · exact h
  refine ⟨fun d e => ?_, fun e => ⟨ws, hq, by rw [rw1.length, e, enumD_length]; exact Nat.le_refl _⟩⟩
  rw [enumD_get] at e
  cases e2 : ds[i]? with
  | none => rw [e2] at e; cases e
  | some d' =>
    rw [e2] at e
    cases e
    obtain ⟨v, e1, rv⟩ := rw1.get e2
    refine ⟨⟨ws, v, hq, e1⟩, fun x H' y => ?_⟩
    obtain ⟨T, x', rfl, hT, rfl, y⟩ := y
    have e3 := y ws hq
    rw [e1] at e3
    cases e3
    have sn := same_new (o := HO.tup [V.int (i : Nat), v]) (ok1.free hT).1
    refine ⟨_, sn, ok1.new hT _, .tup (SqT.of upd_same) (.cons ?_ (.cons (rv.mono sn) .nil))⟩
    have e4 : ((0 + i : Nat) : Int) = ((i : Nat) : Int) := by simp
    rw [e4]
    exact .int _
theorem di_enum {elts : List Expr} {kk : Nat} {tpos : Pos} {q : Pos} (hm : X.mg "enumerate" = none) (ha : PA X [a] (lA (kw X) W qs)) (hg : Gl X "enumerate" := by rfl) (hs : starEach [a] X.env = [(false, eval a X.env)] := by rfl) : PI X (.Tuple elts kk tpos) (.Call (.Name "enumerate" q) [a] [] pos) (lI (kw X) W (iEnumD qs)) := by
  refine PI.imp (pi_enum hg hm ha hs) fun σ H R h => ?_
  obtain ⟨F, H0, m, δ, P, PX, ok, rs, h, g, gx⟩ := h
  refine ⟨F, H0, m, δ, _, PX, ok, rs, h, fun xs H1 H01 m1 ds s1 ok1 r1 h1 => ?_, gx⟩
  dsimp only at h1
  split at h1
  · obtain ⟨v, rfl, r2⟩ := r1.one
    cases r2 with
    | lst q r => exact ⟨_, _, rfl, ok1.same.seq q, g _ _ _ _ _ _ s1 ok1 (ItD.enum r fun F H1 m H s ok _ => .inl ((s.trans ok.same).seq q)) trivial h1⟩
  · rename_i q
    obtain ⟨v, rfl, r2⟩ := r1.one
    cases r2
    split at h1
    · rename_i ds e1
      obtain ⟨_, vs, hv, rv⟩ := ok1.cell q _ e1
      refine ⟨q, vs, rfl, SqL.of hv, g _ _ _ _ _ _ s1 ok1 (ItD.enum rv fun F H1 m H s ok ph => ?_) e1 h1⟩
      obtain ⟨_, ws, hw, rw1⟩ := ok.cell q _ ph
      exact .inr ⟨ws, SqL.of hw, rw1⟩
    · exact h1.elim
  · exact h1.elim
end
end DL
namespace DL
open PySem L2
/-! ### targets -/
abbrev DG := D → DSt → Mu → (DSt → Mu → Prop) → Prop
def gN (i : Nat) : DG := fun d δ m P => P (δ.set i (some d)) m
def asg (δ : DSt) : List Nat → List D → DSt
  | j :: js, d :: ds => asg (δ.set j (some d)) js ds
  | _, _ => δ
def asgV (σ : St) : List Nat → List V → St
  | j :: js, v :: vs => asgV (σ.set j (some v)) js vs
  | _, _ => σ
def gT (js : List Nat) : DG := fun d δ m P => match d with
  | .tup ds => ds.length = js.length ∧ P (asg δ js ds) m
  | _ => False
theorem RpS.asg {K : PySem.W.Frag} {H0 : Hp} : ∀ {js : List Nat} {vs : List V} {ds : List D} {σ : St} {δ : DSt}, RpL K H0 vs ds → RpS K H0 σ δ → RpS K H0 (asgV σ js vs) (DL.asg δ js ds)
  | [], _, _, _, _, _, h => h
  | _ :: _, _, _, _, _, .nil, h => h
  | j :: js, _, _, _, _, .cons q r, h => RpS.asg (js := js) r (h.set q j)
theorem wipe_get (σ : St) : ∀ (vs : List Nat) (i : Nat), (wipe σ vs)[i]? = if i ∈ vs ∧ i < σ.length then some none else σ[i]?
  | [], i => by simp [wipe]
  | v :: vs, i => by
    have ih := wipe_get σ vs i
    unfold wipe
    by_cases hv : v = i
    · subst hv
      by_cases hl : v < σ.length
      · rw [List.getElem?_set_self (by rw [wipe_length]; exact hl), if_pos ⟨List.mem_cons_self, hl⟩]
      · rw [List.getElem?_eq_none (by simpa [wipe_length] using hl), if_neg (fun z => hl z.2), List.getElem?_eq_none (by simpa using hl)]
    · rw [List.getElem?_set_ne hv, ih]
      have e : (i ∈ v :: vs ∧ i < σ.length) ↔ (i ∈ vs ∧ i < σ.length) := by
        constructor
        · rintro ⟨h1, h2⟩
          rcases List.mem_cons.mp h1 with h | h
          · exact absurd h.symm hv
          · exact ⟨h, h2⟩
        · rintro ⟨h1, h2⟩
          exact ⟨List.mem_cons_of_mem _ h1, h2⟩
      by_cases hc : i ∈ vs ∧ i < σ.length
      · rw [if_pos hc, if_pos (e.mpr hc)]
      · rw [if_neg hc, if_neg (fun z => hc (e.mp z))]
theorem wipe_same {σ σ' : St} {vs : List Nat} (hl : σ'.length = σ.length) (h : ∀ i, i ∉ vs → σ'[i]? = σ[i]?) : wipe σ' vs = wipe σ vs := by
  apply List.ext_getElem?
  intro i
  rw [wipe_get, wipe_get, hl]
  by_cases hi : i ∈ vs
  · by_cases hlt : i < σ.length
    · rw [if_pos ⟨hi, hlt⟩, if_pos ⟨hi, hlt⟩]
    · rw [if_neg (fun z => hlt z.2), if_neg (fun z => hlt z.2), List.getElem?_eq_none (by omega), List.getElem?_eq_none (by omega)]
  · rw [if_neg (fun z => hi z.1), if_neg (fun z => hi z.1)]
    exact h i hi
theorem asgV_length : ∀ (js : List Nat) (vs : List V) (σ : St), (asgV σ js vs).length = σ.length
  | [], _, _ => rfl
  | _ :: _, [], _ => rfl
  | j :: js, v :: vs, σ => by
    show (asgV (σ.set j (some v)) js vs).length = σ.length
    rw [asgV_length js vs, List.length_set]
theorem asgV_out : ∀ (js : List Nat) (vs : List V) (σ : St) (i : Nat), i ∉ js → (asgV σ js vs)[i]? = σ[i]?
  | [], _, _, _, _ => rfl
  | _ :: _, [], _, _, _ => rfl
  | j :: js, v :: vs, σ, i, h => by
    show (asgV (σ.set j (some v)) js vs)[i]? = σ[i]?
    rw [asgV_out js vs _ i (fun z => h (List.mem_cons_of_mem _ z)), List.getElem?_set_ne (fun z => h (by rw [z]; exact List.mem_cons_self))]
/-- a target: what it does to the slots of js alone -/
def Gok (K : KW) (js : List Nat) (g : TG) (rg : DG) : Prop := ∀ F H0 m H σ δ v d P Q, Ok K F H0 m H → RpS K H0 σ δ → Rp K H0 v d → rg d δ m P → (∀ σ' δ', RpS K H0 σ' δ' → wipe σ' js = wipe σ js → P δ' m → Q σ' H) → g v σ H Q
theorem gN_ok {K : KW} {j : Nat} : Gok K [j] (gName j) (gN j) := fun F H0 m H σ δ v d P Q ok rs r h k =>
  k _ _ (rs.set r j) (wipe_same (by simp) fun i hi => List.getElem?_set_ne fun z => hi (by simp [z])) h
/-- a tuple of names -/
def gNames (js : List Nat) : TGs := fun vs σ H Q => vs.length = js.length ∧ Q (asgV σ js vs) H
section
variable {X : Cx} {W : WX} {a b c tg : Expr} {ra rb rc : DE} {pos p : Pos} {e : Expr} {es : List Expr} {qs : DA}
theorem PGs.imp {X : Cx} {e : List Expr} {t t' : TGs} (h : PGs X e t) (k : ∀ v σ H Q, t' v σ H Q → t v σ H Q) : PGs X e t' := ⟨fun pins s σ H vs us Q I r w => h.run pins s σ H vs us Q I r (k vs σ H Q w)⟩
theorem PG.imp {X : Cx} {e : Expr} {t t' : TG} (h : PG X e t) (k : ∀ v σ H Q, t' v σ H Q → t v σ H Q) : PG X e t' := ⟨fun pins s σ H v u Q I r w => h.run pins s σ H v u Q I r (k v σ H Q w)⟩
theorem dgs_nil : PGs X [] (gNames []) := PGs.imp pgs_nil fun vs σ H Q h => by
  have e : vs = [] := List.eq_nil_of_length_eq_zero h.1
  subst e
  exact ⟨rfl, h.2⟩
theorem dgs_cons {j : Nat} {js : List Nat} (h1 : PG X e (gName j)) (h2 : PGs X es (gNames js)) (hs : (assignEach (e :: es) X.env).map (·.2) = assign e X.env :: (assignEach es X.env).map (·.2) := by rfl) : PGs X (e :: es) (gNames (j :: js)) :=
  PGs.imp (pgs_cons h1 h2 hs) fun vs σ H Q h => by
    cases vs with
    | nil => exact absurd h.1 (by simp)
    | cons v vs => exact ⟨v, vs, rfl, by simpa using h.1, h.2⟩
theorem gT_ok {K : KW} {js : List Nat} : Gok K js (gTup K js.length (gNames js)) (gT js) := by
  intro F H0 m H σ δ v d P Q ok rs r h k
  unfold gT at h
  split at h
  · obtain ⟨q, vs, rfl, hq, rv⟩ := tup_rp ok r
    have hl : vs.length = js.length := rv.length.trans h.1
    exact ⟨q, vs, rfl, hq, hl, hl, k _ _ (rs.asg rv) (wipe_same (asgV_length _ _ _) fun i hi => asgV_out _ _ _ i hi) h.2⟩
  · exact h.elim
/-! ### for -/
def sLoop0 (Ph : Mu → Prop) (rg : DG) (rb : DS) (DD : DEnds) : List D → DSt → Mu → Prop
  | [], δ, m => Ph m ∧ DD.nx δ m
  | d :: ds, δ, m => Ph m ∧ rg d δ m fun δ' m' => rb { DD with nx := sLoop0 Ph rg rb DD ds, ct := sLoop0 Ph rg rb DD ds, bk := DD.nx } δ' m'
@[irreducible] def sLoop (Ph : Mu → Prop) (rg : DG) (rb : DS) (DD : DEnds) (ds : List D) (δ : DSt) (m : Mu) : Prop := sLoop0 Ph rg rb DD ds δ m
theorem sLoop_nil {Ph : Mu → Prop} {rg : DG} {rb : DS} {DD : DEnds} {δ : DSt} {m : Mu} : sLoop Ph rg rb DD [] δ m = (Ph m ∧ DD.nx δ m) := by unfold sLoop; rfl
theorem sLoop_cons {Ph : Mu → Prop} {rg : DG} {rb : DS} {DD : DEnds} {δ : DSt} {m : Mu} {d : D} {ds : List D} : sLoop Ph rg rb DD (d :: ds) δ m = (Ph m ∧ rg d δ m fun δ' m' => rb { DD with nx := sLoop Ph rg rb DD ds, ct := sLoop Ph rg rb DD ds, bk := DD.nx } δ' m') := by
  have e : sLoop Ph rg rb DD ds = sLoop0 Ph rg rb DD ds := by funext δ m; unfold sLoop; rfl
  rw [e]
  unfold sLoop
  rfl
def sFor (ri : DI) (rg : DG) (rb : DS) : DS := fun DD δ m => ri δ m (fun Ph ds m1 => sLoop Ph rg rb DD ds δ m1) fun c fs m1 => DD.xx c fs δ m1
theorem ds_for {iter : Expr} {body : List Stmt} {ri : DI} {g : TG} {rg : DG} {rb : DS} {js : List Nat} (hp : PassesOwn (model X.prog X.w) X.A X.env X.xe) (hc : X.calm = true) (hi : PI X tg iter (lI (kw X) W ri)) (hg : PG X tg g) (go : Gok (kw X) js g rg) (hb : PSs X body (lS (kw X) W rb))
    (hs : ∀ x, foldedSetIterable iter X.env x = pure x := by intro _; rfl) : PS X (.For tg iter body [] pos) (lS (kw X) W (sFor ri rg rb)) := by
  refine PS.imp (ps_for hp hc hi hg hb hs) fun Dn σ H h => ?_
  obtain ⟨F, H0, m, δ, DD, ok, rs, h, gd⟩ := h
  refine ⟨F, H0, m, δ, _, _, ok, rs, h, fun J H1 H01 m1 Ph ds s1 ok1 it ph h1 => ?_, gd.xx.at_ rs⟩
  refine ⟨fun i k σ' H' => ∃ H0' m' δ', Same H01 H0' ∧ Ok (kw X) F H0' m' H' ∧ RpS X.K H0' σ' δ' ∧ i + k = ds.length ∧ sLoop Ph rg rb DD (ds.drop i) δ' m', ⟨ds.length, H01, m1, δ, Same.refl _, ok1, rs.mono s1, by omega, h1⟩, ?_⟩
  rintro i k σ2 H2 ⟨H02, m2, δ2, s2, ok2, rs2, hik, h2⟩
  by_cases hlt : i < ds.length
  · have e1 : ds[i]? = some ds[i] := List.getElem?_eq_getElem hlt
    rw [List.drop_eq_getElem_cons hlt, sLoop_cons] at h2
    obtain ⟨ph2, h2⟩ := h2
    obtain ⟨go1, yl⟩ := (it F i H2 H02 m2 s2 ok2 ph2).1 _ e1
    refine .inr ⟨go1, fun σ' H' => ∃ H0' m' δ', Same H01 H0' ∧ Ok (kw X) F H0' m' H' ∧ RpS X.K H0' σ' δ' ∧ sLoop Ph rg rb DD (ds.drop (i + 1)) δ' m', fun σ' H' hN => ?_, fun x H' y => ?_⟩
    · obtain ⟨H0', m', δ', z1, z2, z3, z4⟩ := hN
      exact ⟨k - 1, by omega, H0', m', δ', z1, z2, z3, by omega, z4⟩
    · obtain ⟨H03, s3, ok3, r3⟩ := yl x H' y
      refine go F H03 m2 H' σ2 δ2 x _ _ _ ok3 (rs2.mono s3) r3 h2 fun σ4 δ4 rs4 _ h4 => ?_
      have s13 := s1.trans (s2.trans s3)
      refine ⟨F, H03, m2, δ4, _, ok3, rs4, h4, ⟨fun σ5 H5 H05 m5 δ5 s5 ok5 rs5 h5 => ⟨H05, m5, δ5, (s2.trans s3).trans s5, ok5, rs5, h5⟩, (gd.mono s13).rt, (gd.mono s13).nx, fun σ5 H5 H05 m5 δ5 s5 ok5 rs5 h5 => ⟨H05, m5, δ5, (s2.trans s3).trans s5, ok5, rs5, h5⟩, (gd.mono s13).xx⟩⟩
  · have e : i = ds.length := by omega
    subst e
    rw [List.drop_length, sLoop_nil] at h2
    exact .inl ⟨(it F _ H2 H02 m2 s2 ok2 h2.1).2 rfl, gd.nx _ _ _ _ _ (s1.trans s2) ok2 rs2 h2.2⟩
/-! ### list comprehensions -/
def wipeD (δ : DSt) : List Nat → DSt
  | [] => δ
  | v :: vs => (wipeD δ vs).set v none
theorem RpS.wipe {K : PySem.W.Frag} {H0 : Hp} {σ : St} {δ : DSt} (r : RpS K H0 σ δ) : ∀ vs : List Nat, RpS K H0 (L2.wipe σ vs) (wipeD δ vs)
  | [] => r
  | v :: vs => (RpS.wipe r vs).clear v
theorem wipe_twice (σ : St) (vs : List Nat) : wipe (wipe σ vs) vs = wipe σ vs := wipe_same (wipe_length σ vs) fun i hi => by rw [wipe_get, if_neg fun z => hi z.1]
abbrev noX : DX := fun _ _ _ => False
abbrev noW : WX := fun _ _ _ _ => False
def rComp0 (Ph : Mu → Prop) (rg : DG) (qt : DT) (re : DE) (δ : DSt) (P : List D → Mu → Prop) : List D → List D → Mu → Prop
  | [], acc, m => Ph m ∧ P acc m
  | d :: ds, acc, m => Ph m ∧ rg d δ m fun δ' m' => qt δ' m' (fun k m1 => match k with
    | true => re δ' m1 (fun x m2 => acc.length < sizeLine ∧ rComp0 Ph rg qt re δ P ds (acc ++ [x]) m2) noX
    | false => rComp0 Ph rg qt re δ P ds acc m1) noX
@[irreducible] def rComp (Ph : Mu → Prop) (rg : DG) (qt : DT) (re : DE) (δ : DSt) (P : List D → Mu → Prop) (ds acc : List D) (m : Mu) : Prop := rComp0 Ph rg qt re δ P ds acc m
theorem rComp_nil {Ph : Mu → Prop} {rg : DG} {qt : DT} {re : DE} {δ : DSt} {P : List D → Mu → Prop} {acc : List D} {m : Mu} : rComp Ph rg qt re δ P [] acc m = (Ph m ∧ P acc m) := by unfold rComp; rfl
theorem rComp_cons {Ph : Mu → Prop} {rg : DG} {qt : DT} {re : DE} {δ : DSt} {P : List D → Mu → Prop} {d : D} {ds acc : List D} {m : Mu} : rComp Ph rg qt re δ P (d :: ds) acc m = (Ph m ∧ rg d δ m fun δ' m' => qt δ' m' (fun k m1 => match k with
    | true => re δ' m1 (fun x m2 => acc.length < sizeLine ∧ rComp Ph rg qt re δ P ds (acc ++ [x]) m2) noX
    | false => rComp Ph rg qt re δ P ds acc m1) noX) := by
  have e : rComp Ph rg qt re δ P ds = rComp0 Ph rg qt re δ P ds := by funext acc m; unfold rComp; rfl
  rw [e]
  unfold rComp
  rfl
def rLc (ri : DI) (js : List Nat) (rg : DG) (qt : DT) (re : DE) : DE := fun δ m P PX => ri δ m (fun Ph ds m1 => rComp Ph rg qt re (wipeD δ js) (fun acc m2 => P (.lst acc) m2) ds [] m1) PX
def rLcM (ri : DI) (js : List Nat) (rg : DG) (qt : DT) (re : DE) : DE := fun δ m P PX => ri δ m (fun Ph ds m1 => rComp Ph rg qt re (wipeD δ js) (fun acc m2 => ∀ q, m2 q = none → P (.adr q) (mset m2 q (.lst acc))) ds [] m1) PX
theorem Ok.addF {K : KW} {F H0 H : Hp} {m : Mu} {q : Addr} {o : HO} (ok : Ok K F H0 m H) (h : H q = none) : Ok K (upd F q o) H0 m (upd H q o) := by
  obtain ⟨h0, hm⟩ := ok.free h
  refine ⟨fun b u e => ?_, fun a u e => ?_, fun a u e => ?_, fun P q l => have t := ok.tab P q l; have n := t.ne_none h; t.step (fun _ _ z => z) t.h0 ((upd_ne n).trans t.hF) (upd_ne n)⟩
  · rw [upd_ne (ne_of_none e h0)]; exact ok.same b u e
  · have ha : a ≠ q := fun z => by rw [z, hm] at e; cases e
    obtain ⟨c1, c2⟩ := ok.cell a u e
    exact ⟨c1, c2.mono (Same.refl _) (upd_ne ha)⟩
  · by_cases ha : a = q
    · subst ha; rw [upd_same] at e ⊢; exact ⟨e, h0, hm⟩
    · rw [upd_ne ha] at e ⊢; exact ok.fr a u e
theorem Ok.reF {K : KW} {F H0 H : Hp} {m : Mu} {q : Addr} {o o' : HO} (ok : Ok K (upd F q o) H0 m H) : Ok K (upd F q o') H0 m (upd H q o') := by
  obtain ⟨h1, h0, hm⟩ := ok.fr q o upd_same
  refine ⟨fun b u e => ?_, fun a u e => ?_, fun a u e => ?_, fun P q l => have t := ok.tab P q l; have n := t.ne_frame upd_same; t.step (fun _ _ z => z) t.h0 ((upd_ne n).trans ((upd_ne n).symm.trans t.hF)) (upd_ne n)⟩
  · rw [upd_ne (ne_of_none e h0)]; exact ok.same b u e
  · have ha : a ≠ q := fun z => by rw [z, hm] at e; cases e
    obtain ⟨c1, c2⟩ := ok.cell a u e
    exact ⟨c1, c2.mono (Same.refl _) (upd_ne ha)⟩
  · by_cases ha : a = q
    · subst ha; rw [upd_same] at e ⊢; exact ⟨e, h0, hm⟩
    · rw [upd_ne ha] at e ⊢
      exact ok.fr a u (by rw [upd_ne ha]; exact e)
theorem Ok.promote {K : KW} {F H0 H : Hp} {m : Mu} {q : Addr} {o : HO} (ok : Ok K F H0 m H) (h : H q = some o) (h0 : H0 q = none) (hm : m q = none) (hF : F q = none) (ht : ∀ ps, o ≠ .tbl ps := by intro _ z; cases z) : Ok K F (upd H0 q o) m H := by
  refine ⟨fun b u e => ?_, fun a u e => ?_, fun a u e => ?_, fun P q l => have t := ok.tab P q l; t.step (same_new h0) ((upd_ne (t.ne_some h ht)).trans t.h0) t.hF rfl⟩
  · by_cases hb : b = q
    · subst hb; rw [upd_same] at e; cases e; exact h
    · rw [upd_ne hb] at e; exact ok.same b u e
  · have ha : a ≠ q := fun z => by rw [z, hm] at e; cases e
    obtain ⟨c1, c2⟩ := ok.cell a u e
    exact ⟨by rw [upd_ne ha]; exact c1, c2.mono (same_new h0) rfl⟩
  · have ha : a ≠ q := ne_of_none e hF
    obtain ⟨c1, c2, c3⟩ := ok.fr a u e
    exact ⟨c1, by rw [upd_ne ha]; exact c2, c3⟩
theorem Ok.own {K : KW} {F H0 H : Hp} {m : Mu} {q : Addr} {o : MO} (ok : Ok K F H0 m H) (h : MRep K H0 H q o) (h0 : H0 q = none) (hF : F q = none) : Ok K F H0 (mset m q o) H := by
  refine ⟨ok.same, fun a u e => ?_, fun a u e => ?_, ok.tab⟩
  · unfold mset at e
    by_cases ha : a = q
    · subst ha; rw [if_pos rfl] at e; cases e; exact ⟨h0, h⟩
    · rw [if_neg ha] at e; exact ok.cell a u e
  · have ha : a ≠ q := ne_of_none e hF
    obtain ⟨c1, c2, c3⟩ := ok.fr a u e
    exact ⟨c1, c2, by unfold mset; rw [if_neg ha]; exact c3⟩
theorem lc_lift {K : KW} {ri : DI} {g : TG} {rg : DG} {qt : DT} {re : DE} {js : List Nat} {Pf : DK → List D → Mu → Prop} (go : Gok K js g rg)
    (fin : ∀ F H0 m H q vs acc P Q, Ok K F H0 m H → H q = some (.lst vs) → H0 q = none → m q = none → F q = none → RpL K H0 vs acc → Pf P acc m → GV K F H0 P Q → Q (.ref q) H)
    {σ : St} {H : Hp} {Q : VK} (h : lE K W (fun δ m P PX => ri δ m (fun Ph ds m1 => rComp Ph rg qt re (wipeD δ js) (Pf P) ds [] m1) PX) σ H Q) : tLc (lI K W ri) g (lT K noW qt) (lE K noW re) js σ H Q := by
  obtain ⟨F, H0, m, δ, P, PX, ok, rs, h, gv, gx⟩ := h
  refine ⟨F, H0, m, δ, _, _, ok, rs, h, fun J H1 H01 m1 Ph ds s1 ok1 it ph h1 q hq => ?_, gx⟩
  have hF : F q = none := ok1.freeF hq
  refine ⟨fun i k H' => ∃ H0' m' vs acc, Same H01 H0' ∧ Ok K (upd F q (.lst vs)) H0' m' H' ∧ RpL K H0' vs acc ∧ i + k = ds.length ∧ rComp Ph rg qt re (wipeD δ js) (Pf P) (ds.drop i) acc m', ⟨ds.length, H01, m1, [], [], Same.refl _, ok1.addF hq, .nil, by omega, h1⟩, ?_⟩
  rintro i k H2 ⟨H02, m2, vs, acc, s2, ok2, rl, hik, h2⟩
  by_cases hlt : i < ds.length
  · have e1 : ds[i]? = some ds[i] := List.getElem?_eq_getElem hlt
    rw [List.drop_eq_getElem_cons hlt, rComp_cons] at h2
    obtain ⟨ph2, h2⟩ := h2
    obtain ⟨go1, yl⟩ := (it _ i H2 H02 m2 s2 ok2 ph2).1 _ e1
    refine .inr ⟨go1, fun H' => ∃ H0' m' vs acc, Same H01 H0' ∧ Ok K (upd F q (.lst vs)) H0' m' H' ∧ RpL K H0' vs acc ∧ rComp Ph rg qt re (wipeD δ js) (Pf P) (ds.drop (i + 1)) acc m', fun H' hN => ?_, fun x H' y => ?_⟩
    · obtain ⟨H0', m', vs', acc', z1, z2, z3, z4⟩ := hN
      exact ⟨k - 1, by omega, H0', m', vs', acc', z1, z2, z3, by omega, z4⟩
    · obtain ⟨H03, s3, ok3, r3⟩ := yl x H' y
      have rs3 := (rs.wipe js).mono (s1.trans (s2.trans s3))
      refine go _ H03 m2 H' _ _ x _ _ _ ok3 rs3 r3 h2 fun σ4 δ4 rs4 hw4 h4 => ⟨by rw [hw4, wipe_twice], ?_⟩
      refine ⟨_, H03, m2, δ4, _, noX, ok3, rs4, h4, fun b H5 H05 m5 s5 ok5 h5 => ?_, fun _ _ _ _ _ _ _ _ _ z => z⟩
      cases b with
      | false =>
        rw [if_neg Bool.false_ne_true]
        exact ⟨H05, m5, vs, acc, (s2.trans s3).trans s5, ok5, (rl.mono s3).mono s5, h5⟩
      | true =>
        rw [if_pos rfl]
        refine ⟨_, H05, m5, δ4, _, noX, ok5, rs4.mono s5, h5, fun y H6 H06 m6 d6 s6 ok6 r6 h6 => ?_, fun _ _ _ _ _ _ _ _ _ z => z⟩
        have rl6 := ((rl.mono s3).mono s5).mono s6
        exact ⟨vs, (ok6.fr q _ upd_same).1, by rw [rl6.length]; exact h6.1, H06, m6, vs ++ [y], acc ++ [d6], ((s2.trans s3).trans s5).trans s6, ok6.reF, rl6.snoc r6, h6.2⟩
  · have e : i = ds.length := by omega
    subst e
    rw [List.drop_length, rComp_nil] at h2
    obtain ⟨ok3, z1, z2, z3⟩ := ok2.unframe hF
    exact .inl ⟨(it _ _ H2 H02 m2 s2 ok2 h2.1).2 rfl, fin F H02 m2 H2 q vs acc P Q ok3 z1 z2 z3 hF rl h2.2 (gv.mono (s1.trans s2))⟩
theorem lc_fin {K : KW} : ∀ F H0 m H q vs acc P Q, Ok K F H0 m H → H q = some (.lst vs) → H0 q = none → m q = none → F q = none → RpL K H0 vs acc → P (.lst acc) m → GV K F H0 P Q → Q (.ref q) H :=
  fun F H0 m H q vs acc P Q ok h h0 hm hF r h1 g => g _ _ (upd H0 q (.lst vs)) m _ (same_new h0) (ok.promote h h0 hm hF) (.lst (SqL.of upd_same) (r.mono (same_new h0))) h1
variable {ifs : List Expr} {scope : Scope} {own : List (Str × Nat)} {ri : DI} {g : TG} {rg : DG} {qt : DT} {re : DE}
theorem pd_lc {elt iter : Expr} {js : List Nat} (hc : X.calm = true) (hN : X.N.Nodup) (hi : PI X tg iter (lI (kw X) W ri)) (ok : BlkOk X.N X.env.scope scope own) (go : Gok (kw X) js g rg) (hj : own.map (·.2) = js)
    (hg : ∀ (s : Shared) (H : Hp) (C : Addr) (cl : List (Str × Addr)) (fp : List Addr), PG (X.blk s H scope (compEnvC scope cl C X.env) fp) tg g) (ht : ∀ (s : Shared) (H : Hp) (C : Addr) (cl : List (Str × Addr)) (fp : List Addr), PTs (X.blk s H scope (compEnvC scope cl C X.env) fp) ifs (lT (kw X) noW qt))
    (he : ∀ (s : Shared) (H : Hp) (C : Addr) (cl : List (Str × Addr)) (fp : List Addr), PE (X.blk s H scope (compEnvC scope cl C X.env) fp) elt (lE (kw X) noW re)) (hs : ∀ x, foldedSetIterable iter X.env x = pure x := by intro _; rfl) :
    PE X (.ListComp elt [⟨tg, iter, ifs, 0⟩] scope pos) (lE (kw X) W (rLc ri js rg qt re)) := by
  subst hj
  exact PE.imp (pe_lc hc hN hi ok hg ht he hs) fun _ _ _ h => lc_lift go lc_fin h
theorem ds_setLc {elt iter : Expr} {js : List Nat} {i : Nat} {y : Str} {py spos : Pos} (hc : X.calm = true) (hN : X.N.Nodup) (hsw : swapsWith (.ListComp elt [⟨tg, iter, ifs, 0⟩] scope pos) (some (.Name y py)) spos.line X.env = pure true) (hi : PI X tg iter (lI (kw X) W ri)) (ok : BlkOk X.N X.env.scope scope own) (go : Gok (kw X) js g rg) (hj : own.map (·.2) = js)
    (hg : ∀ (s : Shared) (H : Hp) (C : Addr) (cl : List (Str × Addr)) (fp : List Addr), PG (X.blk s H scope (compEnvC scope cl C X.env) fp) tg g) (ht : ∀ (s : Shared) (H : Hp) (C : Addr) (cl : List (Str × Addr)) (fp : List Addr), PTs (X.blk s H scope (compEnvC scope cl C X.env) fp) ifs (lT (kw X) noW qt))
    (he : ∀ (s : Shared) (H : Hp) (C : Addr) (cl : List (Str × Addr)) (fp : List Addr), PE (X.blk s H scope (compEnvC scope cl C X.env) fp) elt (lE (kw X) noW re)) (hy : X.N[i]? = some y := by rfl) (hyl : X.env.scope.names.lookup y = some .local := by rfl) (hs : ∀ x, foldedSetIterable iter X.env x = pure x := by intro _; rfl) :
    PS X (.Assign [.Name y py] (.ListComp elt [⟨tg, iter, ifs, 0⟩] scope pos) spos) (lS (kw X) W (sSet i (rLc ri js rg qt re))) := by
  subst hj
  refine PS.imp (ps_setLc (i := i) hc hN hy hyl hsw hi ok hg ht he hs) fun Dn σ H h => ?_
  obtain ⟨F, H0, m, δ, DD, ok, rs, h, gd⟩ := h
  unfold sSet rLc at h
  refine lc_lift go lc_fin (Q := fun x H1 => gName i x σ H1 Dn.nx) ⟨F, H0, m, δ, fun d m1 => DD.nx (δ.set i (some d)) m1, fun c fs m1 => DD.xx c fs δ m1, ok, rs, h, fun v H1 H01 m1 d s1 ok1 r1 h1 => gd.nx _ _ _ _ _ s1 ok1 ((rs.mono s1).set r1 i) h1, gd.xx.at_ rs⟩
def qYes : DT := fun _ m P _ => P true m
theorem PTs.imp {X : Cx} {e : List Expr} {t t' : TT} (h : PTs X e t) (k : ∀ σ H Q, t' σ H Q → t σ H Q) : PTs X e t' := ⟨fun pins s σ H Q I w => h.run pins s σ H Q I (k σ H Q w)⟩
theorem dts_nil : PTs X [] (lT (kw X) W qYes) := PTs.imp pts_nil fun σ H Q h => by
  obtain ⟨F, H0, m, δ, P, PX, ok, rs, h, g, gx⟩ := h
  exact g _ _ _ _ (Same.refl _) ok h
theorem dts_one (h : PT X c (lT (kw X) W qt)) : PTs X [c] (lT (kw X) W qt) := pts_one h
end
/-! ### a def -/
def dstart (N : List Str) (ds : List D) : DSt := ds.map some ++ List.replicate (N.length - ds.length) none
def dEnds (P : DK) (PX : DX) : DEnds := { nx := fun _ m => P .non m, rt := P, bk := fun _ _ => False, ct := fun _ _ => False, xx := fun c fs _ m => PX c fs m }
theorem rps_start {K : PySem.W.Frag} {H0 : Hp} {N : List Str} {vs : List V} {ds : List D} (r : RpL K H0 vs ds) : RpS K H0 (L2.start N vs) (dstart N ds) := by
  have hl := r.length
  refine ⟨by simp [L2.start, dstart, hl], fun i d e => ?_⟩
  unfold dstart at e
  unfold L2.start
  by_cases hi : i < ds.length
  · rw [List.getElem?_append_left (by simpa using hi), List.getElem?_map] at e
    cases e2 : ds[i]? with
    | none => rw [e2] at e; cases e
    | some d' =>
      rw [e2] at e
      cases e
      obtain ⟨v, e3, rv⟩ := r.get e2
      exact ⟨v, by rw [List.getElem?_append_left (by simpa [hl] using hi), List.getElem?_map, e3]; rfl, rv⟩
  · rw [List.getElem?_append_right (by simpa using hi)] at e
    rw [List.getElem?_replicate] at e
    split at e <;> cases e
section
variable {P : Program} {w : World} {K : PySem.W.Frag} {mg : Str → Option Value} {base : Heap}
theorem fn_ok {x qual : Str} {st : Stmt} {f : Addr} {fd : FuncData} {N ps : List Str} {k : Nat} {sp : SpD} {r : DS} (G : Fun K x qual st f fd) (S : FnScope N ps (defScope st)) (hlen : ∀ ds m Q PX, sp ds m Q PX → ds.length = ps.length)
    (hd : ∀ (cdv : Value) (A : Around) (outer : List Env) (s : Shared) (H : Hp) (E : XK), Room k (A.deeper (PyProof.Rows.envOfC qual (defScope st) s.heap.objs.size f cdv)) →
      PSs (cxOf (L2.CX P w) P w K mg base N qual (defScope st) f cdv A outer s H E) (defBody st) (lS ⟨K, w⟩ (fun c d _ H => E c d H) r))
    (hp : ∀ ds m Q PX, sp ds m Q PX → r (dEnds Q PX) (dstart N ds) m) : FnOk P w K mg base (L2.CX P w) (k + 1) f fd ps (lP ⟨K, w⟩ sp) := by
  refine G.okX S (fun vs H Q E h => ?_) (fun cdv A outer s H vs Q E hr h => ⟨_, hd cdv A outer s H E hr, ?_⟩)
  · obtain ⟨F, H0, m, ds, Q', PX, ok, rl, h, _⟩ := h
    exact rl.length.trans (hlen _ _ _ _ h)
  · obtain ⟨F, H0, m, ds, Q', PX, ok, rl, h, g, gx⟩ := h
    exact ⟨F, H0, m, _, _, ok, rps_start rl, hp ds m Q' PX h, ⟨fun σ' H' H0' m' δ' s ok' _ z => g _ _ _ _ _ s ok' .non z, g, fun _ _ _ _ _ _ _ _ z => z.elim, fun _ _ _ _ _ _ _ _ z => z.elim, fun c xd σ' H' H0' m' fs δ' s ok' _ x z => gx c xd H' H0' m' fs s ok' x z⟩⟩
end
/-! ### the law -/
theorem rpl_ints {K : PySem.W.Frag} {H : Hp} : ∀ ns : List Int, RpL K H (ns.map V.int) (ns.map D.int)
  | [] => .nil
  | n :: ns => .cons (.int n) (rpl_ints ns)
def spLaw : SpD := fun ds _ P _ => ∃ ns : List Int, ds = [.lst (ns.map .int)] ∧ ns.length ≤ 63 ∧ ∀ m, P (.bl true) m
theorem law_sp (K : KW) (NL : NoLam K.fr) (H : Hp) (a : Addr) (ns : List Int) (hl : ns.length ≤ 63) (hS : SqL K H a (ns.map V.int)) : lP K spLaw [.ref a] H (fun v _ => v = .bl true) fun _ _ _ => False :=
  ⟨fun _ => none, H, fun _ => none, [.lst (ns.map .int)], fun d _ => d = .bl true, fun _ _ _ => False, ⟨Same.refl _, fun _ _ e => (by cases e), fun _ _ e => (by cases e), fun P q l => (NL P q l).elim⟩, .cons (.lst hS (rpl_ints ns)) .nil, ⟨ns, rfl, hl, fun _ => rfl⟩, fun v H' H0' m' d _ _ r e => by subst e; cases r; rfl, fun _ _ _ _ _ _ _ _ _ z => z⟩
theorem cx_false {P : Program} {w : World} {H : Hp} {s : Shared} {e : Value} {s' : Shared} (h : L2.CX P w [] H s (fun _ _ _ => False) e s') : False := by
  obtain ⟨_, _, _, _, _, _, _, _, _, _, _, _, z⟩ := h
  exact z
end DL
namespace DL
open PySem L2
theorem units65 {k : Nat} {A : Around} (r : Room k A) : A.units + 65 < cLine := by have := r.un; omega
/-! ### a def of the text by its name -/
def FunAt (K : PySem.W.Frag) (mg : Str → Option Value) (x qual : Str) (st : Stmt) : Prop := ∃ f fd, mg x = some (.ref f) ∧ Fun K x qual st f fd
theorem funAt_mk {K : PySem.W.Frag} {h : Heap} {mg : Str → Option Value} {x : Str} {st : Stmt} {f : Addr} {oc : Value} {od an : Option Addr} {osl : Array (Option Value)} {kV doc pm cdv ct : Value} (X : K.In h) (G : h.Ns mainGlobals mg)
    (a : PySem.W.nsIn K mainGlobals x = some (some (.ref f))) (l : K.lookup f = some ⟨oc, od, .func (PySem.W.fnOf x x (defArgs st) (defBody st) (defScope st) .none kV doc pm an cdv ct), osl⟩)
    (c : PySem.W.codeIn K cdv x = true) (k : PySem.W.keepIn K (.ref f) = true) : FunAt K mg x x st := ⟨f, _, PySem.W.mg_of X G a, fun_mk l c k⟩
structure DefOk (P : Program) (w : World) (K : PySem.W.Frag) (mg : Str → Option Value) (base : Heap) (k : Nat) (x qual : Str) (st : Stmt) (ps : List Str) (sp : SpD) : Prop where
  ex : ∃ f fd, mg x = some (.ref f) ∧ Fun K x qual st f fd ∧ FnOk P w K mg base (L2.CX P w) k f fd ps (lP ⟨K, w⟩ sp)
def BindAll (x qual : Str) (st : Stmt) (ps : List Str) : Prop := ∀ (kV doc pm : Value) (an : Option Addr) (cdv ct : Value) (us : List Value), us.length = ps.length → bindArgs (PySem.W.fnOf x qual (defArgs st) (defBody st) (defScope st) .none kV doc pm an cdv ct) ⟨us, []⟩ = pure (ps.zip us)
section
variable {P : Program} {w : World} {K : PySem.W.Frag} {mg : Str → Option Value} {base : Heap}
theorem def_ok {x qual : Str} {st : Stmt} {N ps : List Str} {k : Nat} {sp : SpD} {r : DS} (G : FunAt K mg x qual st) (S : FnScope N ps (defScope st)) (hlen : ∀ ds m Q PX, sp ds m Q PX → ds.length = ps.length)
    (hd : ∀ (f : Addr) (cdv : Value) (A : Around) (outer : List Env) (s : Shared) (H : Hp) (E : XK), Room k (A.deeper (PyProof.Rows.envOfC qual (defScope st) s.heap.objs.size f cdv)) →
      PSs (cxOf (L2.CX P w) P w K mg base N qual (defScope st) f cdv A outer s H E) (defBody st) (lS ⟨K, w⟩ (fun c d _ H => E c d H) r))
    (hp : ∀ ds m Q PX, sp ds m Q PX → r (dEnds Q PX) (dstart N ds) m) : DefOk P w K mg base (k + 1) x qual st ps sp := by
  obtain ⟨f, fd, e, G⟩ := G
  exact ⟨f, fd, e, G, fn_ok G S hlen (hd f) hp⟩
theorem DefOk.mono {x qual : Str} {st : Stmt} {ps : List Str} {j k : Nat} {sp : SpD} (G : DefOk P w K mg base j x qual st ps sp) (h : j ≤ k) : DefOk P w K mg base k x qual st ps sp := by
  obtain ⟨f, fd, e, G1, G2⟩ := G.ex
  exact ⟨f, fd, e, G1, G2.mono h⟩
end
section
variable {X : Cx} {W : WX} {pos p : Pos} {e : Expr} {es : List Expr} {qs qk : DA} {k : Nat} {ps ks : List Str} {sp : SpD} {x qual : Str} {st : Stmt}
theorem pd_callD (G : DefOk X.prog X.w X.K X.mg X.base k x qual st ps sp) (B : BindAll x qual st ps) (hr : Room k X.A) (tk : Takes X W)
    (ha : PA X (e :: es) (lA (kw X) W qs)) (hg : Gl X x := by rfl) (hdb : (x == ("__debug__" : Str)) = false := by decide) (he : starEach (e :: es) X.env = (false, eval e X.env) :: starEach es X.env := by rfl) (hpl : (backTo pos (starEach es X.env)).any (·.1) = false := by rfl) :
    PE X (.Call (.Name x p) (e :: es) [] pos) (lE (kw X) W (rCall sp [] qs)) := by
  obtain ⟨f, fd, hm, G1, G2⟩ := G.ex
  exact pd_call G2 hr hm G1.kp (G1.binds B) .nil (fun _ => .nil) tk ha hg hdb he hpl
/-- the arguments in the parameters' order: by their places, positional ones first, then keywords -/
def gI {α : Type} (ix : List Nat) (us ws : List α) : List α := ix.filterMap fun i => (us ++ ws)[i]?
theorem gI_rp {K : PySem.W.Frag} {H : Hp} {vs zs : List V} {ds es : List D} (r1 : RpL K H vs ds) (r2 : RpL K H zs es) : ∀ ix : List Nat, RpL K H (gI ix vs zs) (gI ix ds es)
  | [] => .nil
  | i :: ix => by
    have ih := gI_rp r1 r2 ix
    have r := r1.append r2
    unfold gI at ih ⊢
    rw [List.filterMap_cons, List.filterMap_cons]
    cases h : (ds ++ es)[i]? with
    | none =>
      have h2 : (vs ++ zs)[i]? = none := by
        have := List.getElem?_eq_none_iff.mp h
        exact List.getElem?_eq_none_iff.mpr (by rw [r.length]; exact this)
      rw [h2]
      exact ih
    | some d =>
      obtain ⟨v, h2, q⟩ := r.get h
      rw [h2]
      exact .cons q ih
theorem gI_vals {vs zs : List V} {us ws : List Value} (r1 : Vals vs us) (r2 : Vals zs ws) : ∀ ix : List Nat, Vals (gI ix vs zs) (gI ix us ws)
  | [] => .nil
  | i :: ix => by
    have ih := gI_vals r1 r2 ix
    have r : Vals (vs ++ zs) (us ++ ws) := r1.append r2
    unfold gI at ih ⊢
    rw [List.filterMap_cons, List.filterMap_cons]
    cases h : (vs ++ zs)[i]? with
    | none => rw [r.none_of h]; exact ih
    | some d =>
      obtain ⟨v, h2, q⟩ := r.get h
      rw [h2]
      exact .cons q ih
def BindKw (x qual : Str) (st : Stmt) (ps : List Str) (n : Nat) (ks : List Str) (ix : List Nat) : Prop := ∀ (kV doc pm : Value) (an : Option Addr) (cdv ct : Value) (us ws : List Value), us.length = n → ws.length = ks.length → bindArgs (PySem.W.fnOf x qual (defArgs st) (defBody st) (defScope st) .none kV doc pm an cdv ct) ⟨us, ks.zip ws⟩ = pure (ps.zip (gI ix us ws))
theorem kbd_of {K : PySem.W.Frag} {n : Nat} {ix : List Nat} {f : Addr} {fd : FuncData} (G : Fun K x qual st f fd) (B : BindKw x qual st ps n ks ix) : KBd K fd ps n ks (gI ix) := by
  obtain ⟨oc, od, kV, doc, pm, an, cdv, ct, osl, rfl, lk, hcd⟩ := G.ex
  exact ⟨gI ix, gI ix, ⟨fun s us ws _ l1 l2 => BindsTo.of_eq (B kV doc pm an cdv ct us ws l1 l2), fun r1 r2 => gI_vals r1 r2 ix⟩, fun H vs ds zs es _ _ r1 r2 => gI_rp r1 r2 ix⟩
theorem pd_callDK0 {ix : List Nat} {kws : List Keyword} (G : DefOk X.prog X.w X.K X.mg X.base k x qual st ps sp) (B : BindKw x qual st ps 0 ks ix) (hr : Room k X.A) (tk : Takes X W)
    (hkw : PK X kws (lA (kw X) W qk)) (hall : (backToKw pos (keywordEach kws X.env)).all (·.1.isSome) = true := by rfl) (hks : (backToKw pos (keywordEach kws X.env)).filterMap (·.1) = ks := by rfl) (hg : Gl X x := by rfl)
    (hdb : (x == ("__debug__" : Str)) = false := by decide)
    (hpl : ((backTo pos (starEach [] X.env)).any (·.1) || (backToKw pos (keywordEach kws X.env)).any (·.1.isNone)) = false := by rfl) :
    PE X (.Call (.Name x p) [] kws pos) (lE (kw X) W (rCallK sp 0 ks.length (gI ix) rNil qk)) := by
  obtain ⟨f, fd, hm, G1, G2⟩ := G.ex
  exact pd_callK0 G2 hr hm G1.kp (kbd_of G1 B) tk hkw hall hks hg hdb hpl
end
/-- what the law's row asks of its def -/
theorem law_mk {P : Program} {w : World} {K : PySem.W.Frag} {mg : Str → Option Value} {k : Nat} {x : Str} {st : Stmt} {fa : Addr} (B : BindAll "law" "law" st [x]) (FA : FunAt K mg "law" "law" st) (hfa : mg "law" = some (.ref fa))
    (G : ∀ base : Heap, K.In base → base.Ns mainGlobals mg → DefOk P w K mg base k "law" "law" st [x] spLaw) :
    ∃ fd : FuncData, (∀ (s : Shared) (u : Value), BindsTo s fd ⟨[u], []⟩ [(x, u)]) ∧ ∀ base : Heap, K.In base → base.Ns mainGlobals mg → FnOk P w K mg base (L2.CX P w) k fa fd [x] (lP ⟨K, w⟩ spLaw) := by
  obtain ⟨f0, fd0, e0, F0⟩ := FA
  rw [hfa] at e0
  cases e0
  have look := F0
  obtain ⟨oc, od, kV, doc, pm, an, cdv, ct, osl, rfl, lk, hcd⟩ := F0.ex
  refine ⟨_, fun s u => BindsTo.of_eq (B kV doc pm an cdv ct [u] rfl), fun base hK hN => ?_⟩
  obtain ⟨f, fd, e, G1, G2⟩ := (G base hK hN).ex
  rw [hfa] at e
  cases e
  obtain ⟨oc', od', kV', doc', pm', an', cdv', ct', osl', e', lk', hcd'⟩ := G1.ex
  rw [lk] at lk'
  cases lk'
  exact G2
end DL
namespace DL
open PySem L2
section
variable {X : Cx} {W : WX} {a b c : Expr} {ra rb rc : DE} {pos p : Pos}
def rNeg (ra : DE) : DE := fun δ m P PX => ra δ m (fun x m1 => match x with | .int i => P (.int (-i)) m1 | _ => False) PX
theorem pd_neg (ha : PE X a (lE (kw X) W ra)) : PE X (.UnaryOp .USub a pos) (lE (kw X) W (rNeg ra)) := by
  refine PE.imp (pe_un un_neg ha) fun σ H Q h => ?_
  obtain ⟨F, H0, m, δ, P, PX, ok, rs, h, g, gx⟩ := h
  refine ⟨F, H0, m, δ, _, PX, ok, rs, h, fun x H1 H01 m1 d s1 ok1 r1 h1 => ?_, gx⟩
  dsimp only at h1
  split at h1
  · cases r1
    exact ⟨_, rfl, g _ _ _ _ _ s1 ok1 (.int _) h1⟩
  · exact h1.elim
/-! ### dicts that are handed about -/
def rDct0 : DE := fun _ m P _ => P (.dct []) m
def keyD : D → Option Key
  | .int i => some (.inl i)
  | .str x => some (.inr x)
  | _ => none
def rDct1 (ra rb : DE) : DE := fun δ m P PX => ra δ m (fun x m1 => rb δ m1 (fun y m2 => match keyD x with
  | some k => P (.dct [(k, y)]) m2
  | none => False) PX) PX
theorem keyD_rp {K : PySem.W.Frag} {H : Hp} {v : V} {d : D} {k : Key} (r : Rp K H v d) (h : keyD d = some k) : v = kV k := by
  cases r <;> first | (cases h; rfl) | cases h
end
end DL
namespace DL
open PySem L2
theorem constS_mk {K : PySem.W.Frag} {h : Heap} {mg : Str → Option Value} {x z : Str} {u : Value} (X : K.In h) (G : h.Ns mainGlobals mg) (a : PySem.W.nsIn K mainGlobals x = some (some u)) (r : ∃ t, u = .str z t) : ∃ t, mg x = some (.str z t) := by
  obtain ⟨t, rfl⟩ := r
  exact ⟨t, PySem.W.mg_of X G a⟩
theorem constI_mk {K : PySem.W.Frag} {h : Heap} {mg : Str → Option Value} {x : Str} {z : Int} {u : Value} (X : K.In h) (G : h.Ns mainGlobals mg) (a : PySem.W.nsIn K mainGlobals x = some (some u)) (r : ∃ t, u = .int z t) : ∃ t, mg x = some (.int z t) := by
  obtain ⟨t, rfl⟩ := r
  exact ⟨t, PySem.W.mg_of X G a⟩
end DL
namespace DL
open PySem L2
theorem isB_NoneType_int : isB "NoneType" "int" = some false := by decide +kernel
theorem isB_NoneType_bool : isB "NoneType" "bool" = some false := by decide +kernel
theorem isB_NoneType_str : isB "NoneType" "str" = some false := by decide +kernel
theorem isB_NoneType_tuple : isB "NoneType" "tuple" = some false := by decide +kernel
theorem isB_NoneType_list : isB "NoneType" "list" = some false := by decide +kernel
theorem isB_NoneType_dict : isB "NoneType" "dict" = some false := by decide +kernel
theorem isB_bool_int : isB "bool" "int" = some true := by decide +kernel
theorem isB_bool_bool : isB "bool" "bool" = some true := by decide +kernel
theorem isB_bool_str : isB "bool" "str" = some false := by decide +kernel
theorem isB_bool_tuple : isB "bool" "tuple" = some false := by decide +kernel
theorem isB_bool_list : isB "bool" "list" = some false := by decide +kernel
theorem isB_bool_dict : isB "bool" "dict" = some false := by decide +kernel
theorem isB_int_int : isB "int" "int" = some true := by decide +kernel
theorem isB_int_bool : isB "int" "bool" = some false := by decide +kernel
theorem isB_int_str : isB "int" "str" = some false := by decide +kernel
theorem isB_int_tuple : isB "int" "tuple" = some false := by decide +kernel
theorem isB_int_list : isB "int" "list" = some false := by decide +kernel
theorem isB_int_dict : isB "int" "dict" = some false := by decide +kernel
theorem isB_str_int : isB "str" "int" = some false := by decide +kernel
theorem isB_str_bool : isB "str" "bool" = some false := by decide +kernel
theorem isB_str_str : isB "str" "str" = some true := by decide +kernel
theorem isB_str_tuple : isB "str" "tuple" = some false := by decide +kernel
theorem isB_str_list : isB "str" "list" = some false := by decide +kernel
theorem isB_str_dict : isB "str" "dict" = some false := by decide +kernel
theorem isB_list_int : isB "list" "int" = some false := by decide +kernel
theorem isB_list_bool : isB "list" "bool" = some false := by decide +kernel
theorem isB_list_str : isB "list" "str" = some false := by decide +kernel
theorem isB_list_tuple : isB "list" "tuple" = some false := by decide +kernel
theorem isB_list_list : isB "list" "list" = some true := by decide +kernel
theorem isB_list_dict : isB "list" "dict" = some false := by decide +kernel
theorem isB_tuple_int : isB "tuple" "int" = some false := by decide +kernel
theorem isB_tuple_bool : isB "tuple" "bool" = some false := by decide +kernel
theorem isB_tuple_str : isB "tuple" "str" = some false := by decide +kernel
theorem isB_tuple_tuple : isB "tuple" "tuple" = some true := by decide +kernel
theorem isB_tuple_list : isB "tuple" "list" = some false := by decide +kernel
theorem isB_tuple_dict : isB "tuple" "dict" = some false := by decide +kernel
theorem isB_dict_int : isB "dict" "int" = some false := by decide +kernel
theorem isB_dict_bool : isB "dict" "bool" = some false := by decide +kernel
theorem isB_dict_str : isB "dict" "str" = some false := by decide +kernel
theorem isB_dict_tuple : isB "dict" "tuple" = some false := by decide +kernel
theorem isB_dict_list : isB "dict" "list" = some false := by decide +kernel
theorem isB_dict_dict : isB "dict" "dict" = some true := by decide +kernel
/-- the words of the readings, unfolded -/
local macro_rules | `(tactic| walk_at "dl") => `(tactic| simp only [rV, rC, rOp, rNil, rCons, rTup, rLst, rLstM, rCB, rCall, rCallK, rAndV, rOrV, rNotV, rIfE, rTru, rTst, rAnd, rOr, rNot, rChain, rSl, rNoP, rPart, rJoin, rApp, rLc, rLcM, rNeg, rDct0, rDct1, sSeq, sSet, sRet, sIf, sExpr, sNext, sFor, sSetIx, iAny, iRange, iEnumD, qYes, gN, gT, asg, wipeD, dEnds, dstart, oAdd, oI, oI0, oSub, oMul, oDiv, oMod, oPow, oLt, oLe, oGt, oGe, oIx, oSl, cLen, cInt, cStr, cLst, cTup, cIsi, asL, asLT, tyN, truD, gI, oIsN, isNone, isB_NoneType_int, isB_NoneType_bool, isB_NoneType_str, isB_NoneType_tuple, isB_NoneType_list, isB_NoneType_dict, isB_bool_int, isB_bool_bool, isB_bool_str, isB_bool_tuple, isB_bool_list, isB_bool_dict, isB_int_int, isB_int_bool, isB_int_str, isB_int_tuple, isB_int_list, isB_int_dict, isB_str_int, isB_str_bool, isB_str_str, isB_str_tuple, isB_str_list, isB_str_dict, isB_list_int, isB_list_bool, isB_list_str, isB_list_tuple, isB_list_list, isB_list_dict, isB_tuple_int, isB_tuple_bool, isB_tuple_str, isB_tuple_tuple, isB_tuple_list, isB_tuple_dict, isB_dict_int, isB_dict_bool, isB_dict_str, isB_dict_tuple, isB_dict_list, isB_dict_dict, List.getElem?_cons_zero, List.getElem?_cons_succ, List.set_cons_zero, List.set_cons_succ, List.map_cons, List.map_nil, List.length_cons, List.length_nil, List.cons_append, List.nil_append, List.append_nil, List.replicate, Nat.sub_self, Nat.reduceSub, Nat.reduceAdd, List.filterMap_cons, List.filterMap_nil, Bool.not_true, Bool.not_false, if_true, if_false, Bool.false_eq_true])
end DL
namespace DL
open PySem L2
/-! ### reading loops and comprehensions -/
section
variable {Ph : Mu → Prop} {rg : DG} {rb : DS} {DD : DEnds} {qt : DT} {re : DE} {δ : DSt} {P : List D → Mu → Prop}
theorem loop_inv {ds : List D} (I : Nat → DSt → Mu → Prop) (hs : ∀ (i : Nat) d δ m, ds[i]? = some d → I i δ m → Ph m ∧ ∀ Nx : DSt → Mu → Prop, (∀ δ' m', I (i + 1) δ' m' → Nx δ' m') → rg d δ m fun δ' m' => rb { DD with nx := Nx, ct := Nx, bk := DD.nx } δ' m')
    (hd : ∀ δ m, I ds.length δ m → Ph m ∧ DD.nx δ m) {δ : DSt} {m : Mu} (h0 : I 0 δ m) : sLoop Ph rg rb DD ds δ m := by
  have go : ∀ (k i : Nat) δ m, i + k = ds.length → I i δ m → sLoop Ph rg rb DD (ds.drop i) δ m := by
    intro k
    induction k with
    | zero =>
      intro i δ m e h
      have e : i = ds.length := by omega
      subst e
      rw [List.drop_length, sLoop_nil]
      exact hd δ m h
    | succ k ih =>
      intro i δ m e h
      have hlt : i < ds.length := by omega
      rw [List.drop_eq_getElem_cons hlt, sLoop_cons]
      obtain ⟨ph, h2⟩ := hs i _ δ m (List.getElem?_eq_getElem hlt) h
      exact ⟨ph, h2 _ fun δ' m' h' => ih (i + 1) δ' m' (by omega) h'⟩
  exact go ds.length 0 δ m (by omega) h0
theorem comp_inv {ds : List D} (I : Nat → List D → Mu → Prop) (hl : ∀ (i : Nat) acc m, I i acc m → acc.length ≤ i) (hn : ds.length ≤ 16777216)
    (hs : ∀ (i : Nat) d acc m, ds[i]? = some d → I i acc m → Ph m ∧ ∀ (Kt : D → Mu → Prop) (Kf : Mu → Prop), (∀ x m2, I (i + 1) (acc ++ [x]) m2 → Kt x m2) → (∀ m1, I (i + 1) acc m1 → Kf m1) → rg d δ m fun δ' m' => qt δ' m' (fun k m1 => match k with
      | true => re δ' m1 Kt noX
      | false => Kf m1) noX)
    (hd : ∀ acc m, I ds.length acc m → Ph m ∧ P acc m) {m : Mu} (h0 : I 0 [] m) : rComp Ph rg qt re δ P ds [] m := by
  have go : ∀ (k i : Nat) acc m, i + k = ds.length → I i acc m → rComp Ph rg qt re δ P (ds.drop i) acc m := by
    intro k
    induction k with
    | zero =>
      intro i acc m e h
      have e : i = ds.length := by omega
      subst e
      rw [List.drop_length, rComp_nil]
      exact hd acc m h
    | succ k ih =>
      intro i acc m e h
      have hlt : i < ds.length := by omega
      rw [List.drop_eq_getElem_cons hlt, rComp_cons]
      obtain ⟨ph, h2⟩ := hs i _ acc m (List.getElem?_eq_getElem hlt) h
      have hz : acc.length < sizeLine := by
        have h3 := hl i acc m h
        have h4 : sizeLine = 16777216 := sizeLine_eq
        omega
      exact ⟨ph, h2 (fun x m2 => acc.length < sizeLine ∧ rComp Ph rg qt re δ P (ds.drop (i + 1)) (acc ++ [x]) m2) (fun m1 => rComp Ph rg qt re δ P (ds.drop (i + 1)) acc m1) (fun x m2 h' => ⟨hz, ih (i + 1) _ m2 (by omega) h'⟩) (fun m1 h' => ih (i + 1) _ m1 (by omega) h')⟩
  exact go ds.length 0 [] m (by omega) h0
/-- where nothing changes -/
theorem comp_fm {ds : List D} {j : Nat} {m : Mu} (p : D → Bool) (f : D → D) (hn : ds.length ≤ 16777216) (ph : Ph m) (ht : ∀ d ∈ ds, ∀ Q : Bool → Mu → Prop, Q (p d) m → qt (δ.set j (some d)) m Q noX) (he : ∀ d ∈ ds, p d = true → ∀ Q : DK, Q (f d) m → re (δ.set j (some d)) m Q noX)
    (h : P ((ds.filter p).map f) m) : rComp Ph (gN j) qt re δ P ds [] m := by
  refine comp_inv (fun i acc m' => m' = m ∧ acc = ((ds.take i).filter p).map f) (fun i acc m' h => ?_) hn (fun i d acc m' e h => ?_) (fun acc m' h => ?_) ⟨rfl, by simp⟩
  · rw [h.2, List.length_map]
    exact Nat.le_trans (List.length_filter_le _ _) (by rw [List.length_take]; omega)
  · obtain ⟨rfl, rfl⟩ := h
    refine ⟨ph, fun Kt Kf h1 h2 => ?_⟩
    have hm := List.mem_of_getElem? e
    have e2 : ds.take (i + 1) = ds.take i ++ [d] := by
      rw [List.take_succ, e]; rfl
    show qt (δ.set j (some d)) m' _ noX
    refine ht d hm _ ?_
    cases hp : p d with
    | true => exact he d hm hp _ (h1 _ _ ⟨rfl, by rw [e2]; simp [hp]⟩)
    | false => exact h2 _ ⟨rfl, by rw [e2]; simp [hp]⟩
  · obtain ⟨rfl, rfl⟩ := h
    rw [List.take_length]
    exact ⟨ph, h⟩
theorem comp_map {ds : List D} {j : Nat} {m : Mu} (f : D → D) (hn : ds.length ≤ 16777216) (ph : Ph m) (he : ∀ d ∈ ds, ∀ Q : DK, Q (f d) m → re (δ.set j (some d)) m Q noX)
    (h : P (ds.map f) m) : rComp Ph (gN j) qYes re δ P ds [] m :=
  comp_fm (fun _ => true) f hn ph (fun _ _ _ q => q) (fun d hd _ => he d hd) (by rw [List.filter_eq_self.mpr (fun _ _ => rfl)]; exact h)
end
/-! ### what is ours -/
theorem mset_same {m : Mu} {a : Addr} {o : MO} : mset m a o a = some o := by unfold mset; rw [if_pos rfl]
theorem mset_ne {m : Mu} {a b : Addr} {o : MO} (h : b ≠ a) : mset m a o b = m b := by unfold mset; rw [if_neg h]
theorem asL_adr {m : Mu} {a : Addr} {ds : List D} (h : m a = some (.lst ds)) : asL m (.adr a) = some ds := by unfold asL; dsimp only; rw [h]
/-- things that may be handed about -/
def plain : D → Bool
  | .ty _ => false
  | .adr _ => false
  | .glb _ => false
  | .exc _ _ _ _ _ => false
  | .ins _ _ => false
  | _ => true
/-- a text's size -/
theorem len_line {n : Nat} (h : n ≤ 1000000) : n ≤ sizeLine := Nat.le_trans h (by decide)
/-! ### a well: three numbers -/
structure Wl (m : Mu) (w : Addr) (k : Nat) : Prop where
  ex : ∃ a b c : Int, m w = some (.lst [.int a, .int b, .int c]) ∧ 0 ≤ b ∧ b < 2147483629 ∧ 0 ≤ c ∧ c ≤ k
/-- nothing but the well has changed -/
def Only1 (w : Addr) (m m' : Mu) : Prop := ∀ a, a ≠ w → m' a = m a
theorem Only1.refl (w : Addr) (m : Mu) : Only1 w m m := fun _ _ => rfl
theorem Only1.trans {w : Addr} {m m1 m2 : Mu} (a : Only1 w m m1) (b : Only1 w m1 m2) : Only1 w m m2 := fun x h => (b x h).trans (a x h)
theorem Wl.mono {m : Mu} {w : Addr} {k j : Nat} (h : Wl m w k) (hj : k ≤ j) : Wl m w j := by
  obtain ⟨a, b, c, e, h1, h2, h3, h4⟩ := h.ex
  exact ⟨a, b, c, e, h1, h2, h3, by omega⟩
def spDraw : SpD := fun ds m P _ => ∃ (w : Addr) (many : Int) (k : Nat), ds = [.adr w, .int many] ∧ Wl m w k ∧ k ≤ 1000000000 ∧ 0 < many ∧ many.natAbs < 2 ^ 200 ∧
  ∀ (r : Int) m', 0 ≤ r → r < many → Only1 w m m' → Wl m' w (k + 1) → P (.int r) m'
def spCellAt : SpD := fun ds m P _ => ∃ (ns : List Int) (k : Nat), ds = [.lst (ns.map .int), .int k] ∧ ∀ c : Int, P (.int c) m
end DL
namespace DL
open PySem L2
local macro_rules | `(tactic| walk_at "dl") => `(tactic| ((conv => whnf); try dsimp only))
theorem only_mset (w : Addr) (m : Mu) (o : MO) : Only1 w m (mset m w o) := fun _ h => mset_ne h
end DL
namespace DL
open PySem L2
local macro_rules | `(tactic| walk_at "dl") => `(tactic| ((conv => whnf); try dsimp only))
def rdCellAt : DS :=
    sSeq (sIf (rTst (rOp oLt (rV 1) (rCB cLen (rCons (rV 0) (rNil))))) (sRet (rOp oIx (rV 0) (rV 1))) (sNext))
    (sRet (rC (.int 0)))
theorem atI_some {α : Type} {xs : List α} {i : Int} (h0 : 0 ≤ i) (h1 : i < xs.length) : ∃ x, atI xs i = some x ∧ xs[i.toNat]? = some x := by
  unfold atI ixN
  rw [if_pos h0, if_pos h1]
  have hl : i.toNat < xs.length := by omega
  exact ⟨xs[i.toNat], by simp [hl], by simp [hl]⟩
theorem cellAt_pure (x1 x2 : Str) : ∀ ds m Q PX, spCellAt ds m Q PX → rdCellAt (dEnds Q PX) (dstart [x1, x2] ds) m := by
  rintro ds m Q PX ⟨ns, k, rfl, h⟩
  walk_at "dl"
  cases hk : decide ((k : Int) < ((ns.map D.int).length : Nat)) with
  | true =>
    have hk' := of_decide_eq_true hk
    obtain ⟨x, e1, e2⟩ := atI_some (by omega) hk'
    walk_at "dl"
    rw [e1]
    rw [List.getElem?_map] at e2
    cases e3 : ns[((k : Nat) : Int).toNat]? with
    | none => rw [e3] at e2; cases e2
    | some n =>
      rw [e3] at e2
      cases e2
      exact h n
  | false => exact h 0
end DL
namespace DL
open PySem L2
/-! ### a new object that a rule of the ledger has laid -/
theorem obj_alive {P : Program} {w : World} {H : Hp} {h : Heap} {a : Addr} {o : HO} (x : ObjOk P w H h a o) : ∃ u, h.get? a = some u := by
  cases o with
  | lst xs => obtain ⟨_, _, _, _, e⟩ := x; exact ⟨_, e⟩
  | tup xs => obtain ⟨_, _, _, o, e, _⟩ := x; exact ⟨_, e⟩
  | dK kvs => obtain ⟨_, _, _, _, o, _, _, e, _⟩ := x; exact ⟨_, e⟩
  | dT kvs => obtain ⟨_, _, _, _, o, _, _, e, _⟩ := x; exact ⟨_, e⟩
  | set S n => obtain ⟨o, _, _, _, e, _⟩ := x; exact ⟨_, e⟩
  | ins C dx fs => obtain ⟨_, _, _, e, _⟩ := x; exact ⟨_, e⟩
  | own y => exact x
  | xd fs => obtain ⟨_, ⟨_, _, _, e, _⟩, _⟩ := x; exact ⟨_, e⟩
  | rng lo hi => obtain ⟨_, _, _, e⟩ := x; exact ⟨_, e⟩
  | frz ob u => obtain ⟨e, _⟩ := x; exact ⟨_, e⟩
  | tbl ps => exact ⟨_, x⟩
  | met f y => exact ⟨_, x⟩
  | ext φ => exact x.2.1
theorem inv_news {X : Cx} {pins : List (Addr × Obj)} {σ : St} {H : Hp} {s : Shared} {h' : Heap} {tk : Nat} {q : Addr} {o : Obj} {u : HO} {mm : Str → Option Value} (I : L2.Inv X pins σ H s) (F0 : PyProof.Rows.Fr X.base X.env.locals s.heap mm) (F' : PyProof.Rows.Fr X.base X.env.locals h' mm)
    (N' : PyProof.Rows.News X.base X.env.locals h' ((q, o) :: allNews X.base s.heap X.env.locals)) (l1 : ∀ z ∈ allNews X.base s.heap X.env.locals, z.1 < q)
    (new : ∀ H2, ObjOk X.prog X.w H2 h' q u) : L2.Inv X pins σ (upd H q u) { s with heap := h', toks := tk } ∧ H q = none := by
  have nq := N' _ List.mem_cons_self
  have keep : ∀ b ob, b ≠ X.env.locals → s.heap.get? b = some ob → h'.get? b = some ob := fun b ob hb e => by
    cases z : X.base.get? b with
    | some v =>
      have := I.bk b v z
      rw [e] at this; cases this
      exact F'.keep b _ z
    | none => exact (N' (b, ob) (List.mem_cons_of_mem _ (mem_allNews hb z e))).1
  have dead : s.heap.get? q = none := by
    cases z : s.heap.get? q with
    | none => rfl
    | some v => exact absurd (l1 (q, v) (mem_allNews nq.2.1 nq.2.2 z)) (Nat.lt_irrefl _)
  have hq : H q = none := by
    cases z : H q with
    | none => rfl
    | some v =>
      obtain ⟨w, hw⟩ := obj_alive (I.hok q v z)
      rw [dead] at hw; cases hw
  have ne : ∀ b ob, s.heap.get? b = some ob → b ≠ q := fun b ob e z => by rw [z, dead] at e; cases e
  refine ⟨I.step (g' := s.gens) (d' := s.drawn) (ch := []) (fun _ z => nomatch z) (fun b ob hb _ _ e _ => keep b ob hb e) (fun b ob hb _ _ e _ => ⟨ob.slots, keep b ob hb e⟩) (fun b ob _ e n => by rw [upd_ne (ne b ob e)]; exact n)
    (fun b ob _ e => ?_) (fun b xs e => by rw [upd_ne (ne_of_none e hq)]; exact e) (fun b ob xs e => by rw [upd_ne (ne_of_none e hq)]; exact e) (fun b ps e => ⟨#[], by rw [upd_ne (ne_of_none e hq), e]; simp⟩) (fun m2 hm => ?_) (fun b v e => ?_) I.bare, hq⟩
  · by_cases hb : b = X.env.locals
    · obtain ⟨ob2, _, _, e2, _⟩ := F'.ns
      exact ⟨ob2, by rw [hb]; exact e2⟩
    · exact ⟨ob, keep b ob hb e⟩
  · have e : m2 = mm := by rw [hm.eq_nsMap, F0.ns.eq_nsMap]
    rw [e]
    exact F'.ns
  · by_cases hb : b = q
    · subst hb
      rw [upd_same] at e; cases e
      exact new _
    · rw [upd_ne hb] at e
      refine (I.hok b v e).stay (fun c w hc z => keep c w ?_ z) (fun c z => by rw [upd_ne (ne_of_none z hq)]; exact z) fun c xs z => by rw [upd_ne (ne_of_none z hq)]; exact z
      rcases hc with rfl | hc
      · intro z; rw [z, I.free] at e; cases e
      · intro z; rw [z, I.free] at hc; cases hc
/-! ### x, *rest = a tuple or list -/
def gStarV (K : PySem.W.Frag) (i j : Nat) : TG := fun v σ H Q => ∃ a z zs, v = .ref a ∧ (SqL K H a (z :: zs) ∨ SqT K H a (z :: zs)) ∧ zs.length < 16000 ∧ ∀ q, H q = none → Q ((σ.set i (some z)).set j (some (.ref q))) (upd H q (.lst zs))
section
variable {X : Cx} {W : WX} {a b c : Expr} {ra rb rc : DE} {pos p : Pos}
theorem pg_star {i j : Nat} {x y : Str} {p1 p2 p3 : Pos} {k : Nat} (hc : X.calm = true) (hx : PG X (.Name x p1) (gName i)) (hy : PG X (.Name y p2) (gName j)) : PG X (.Tuple [.Name x p1, .Starred (.Name y p2) p3] k pos) (gStarV X.K i j) := by
  refine ⟨fun pins s σ H v u Q I r hw => ?_⟩
  obtain ⟨q, z, zs, rfl, hq, hl, hw⟩ := hw
  cases r
  obtain ⟨mm, F0⟩ := I.fr
  have names : PGs X [.Name x p1, .Name y p2] (gCons (gName i) (gCons (gName j) gNil)) := pgs_cons hx (pgs_cons hy pgs_nil)
  have fin : ∀ (z' : Value) (zs' : List Value) D h' tk, RelV z z' → Vals zs zs' → PyProof.Rows.Fr X.base X.env.locals h' mm → PyProof.Rows.News X.base X.env.locals h' ((D, PySem.W.listOf zs'.toArray 0) :: allNews X.base s.heap X.env.locals) → (∀ w ∈ allNews X.base s.heap X.env.locals, w.1 < D) →
      wpAny (model X.prog X.w) X.A (assignInOrder ((assignEach [.Name x p1, .Starred (.Name y p2) p3] X.env).map (·.2)) ([z'] ++ [.ref D] ++ [])) (fun _ s' => ∃ σ' H', L2.Inv X pins σ' H' s' ∧ Q σ' H') X.xe { s with heap := h', toks := tk } := fun z' zs' D h' tk rz rzs F' N' l1 => by
    have hlen := rzs.length
    obtain ⟨I', hD⟩ := inv_news (u := .lst zs) (tk := tk) I F0 F' N' l1 fun H2 => ⟨by rw [sizeLine_eq]; omega, zs', 0, rzs, (N' _ List.mem_cons_self).1⟩
    exact names.run pins _ σ _ [z, .ref D] [z', .ref D] Q I' (.cons rz (.cons rfl .nil)) ⟨z, _, rfl, _, _, rfl, rfl, hw D hD⟩
  rcases hq with hq | hq
  · obtain ⟨its, rv, pl, hz⟩ := I.list hq
    cases rv with
    | @cons _ z' _ zs' rz rzs =>
      have hlen := rzs.length
      exact PySem.W.kun_assignL (n := 2) (i := 1) (first := [z']) (mids := zs') (lasts := []) F0 news_all pl.isList (I.ok.hd hc) rfl rfl (by decide) (by simp) (by simp; omega) (by simp) (by simp) (by simp) fun D h' tk F' N' l1 => fin z' zs' D h' tk rz rzs F' N' l1
  · obtain ⟨its, rv, pl, hz⟩ := I.tuple hq
    cases rv with
    | @cons _ z' _ zs' rz rzs =>
      have hlen := rzs.length
      exact PySem.W.kun_assignT (n := 2) (i := 1) (first := [z']) (mids := zs') (lasts := []) F0 news_all pl (I.ok.hd hc) rfl rfl (by decide) (by simp) (by simp; omega) (by simp) (by simp) (by simp) fun D h' tk F' N' l1 => fin z' zs' D h' tk rz rzs F' N' l1
/-- over data -/
def sStar (i j : Nat) (ra : DE) : DS := fun DD δ m => ra δ m (fun d m1 => match asLT m1 d with
  | some (z :: zs) => zs.length < 16000 ∧ DD.nx ((δ.set i (some z)).set j (some (.lst zs))) m1
  | _ => False) fun c fs m1 => DD.xx c fs δ m1
theorem ds_star {i j : Nat} {x y : Str} {p1 p2 p3 p4 : Pos} {k : Nat} (hc : X.calm = true) (ha : PE X a (lE (kw X) W ra)) (hx : PG X (.Name x p1) (gName i)) (hy : PG X (.Name y p2) (gName j))
    (hs : swapsWithSole [.Tuple [.Name x p1, .Starred (.Name y p2) p3] k p4] a pos.line X.env = pure false := by rfl) (hw : swappedStores [.Tuple [.Name x p1, .Starred (.Name y p2) p3] k p4] a X.env = pure none := by rfl) (h1 : (assignEach [.Tuple [.Name x p1, .Starred (.Name y p2) p3] k p4] X.env).map (·.2) = [assign (.Tuple [.Name x p1, .Starred (.Name y p2) p3] k p4) X.env] := by rfl) :
    PS X (.Assign [.Tuple [.Name x p1, .Starred (.Name y p2) p3] k p4] a pos) (lS (kw X) W (sStar i j ra)) := by
  refine PS.imp (ps_asg ha (pg_star hc hx hy) hs hw h1) fun Dn σ H h => ?_
  obtain ⟨F, H0, m, δ, DD, ok, rs, h, g⟩ := h
  refine ⟨F, H0, m, δ, _, _, ok, rs, h, fun v H1 H01 m1 d s1 ok1 r1 h1 => ?_, g.xx.at_ rs⟩
  dsimp only at h1
  split at h1
  · rename_i z zs e1
    obtain ⟨q, vs, rfl, hq, rv⟩ := asLT_rp ok1 r1 e1
    cases rv with
    | @cons zv vs' _ _ rz rzs =>
      refine ⟨q, zv, vs', rfl, hq, by rw [rzs.length]; exact h1.1, fun D hD => ?_⟩
      have sn := same_new (o := HO.lst vs') (ok1.free hD).1
      exact g.nx _ _ _ _ _ (s1.trans sn) (ok1.new hD _) ((((rs.mono s1).mono sn).set (rz.mono sn) i).set (.lst (SqL.of upd_same) (rzs.mono sn)) j) h1.2
  · exact h1.elim
end
end DL
namespace DL
open PySem L2
/-! ### pairs of a dict -/
section
variable {κ : Type} [DecidableEq κ]
@[irreducible] def valD (kvs : List (κ × D)) (k : κ) : Option D := (kvs.find? fun kv => decide (kv.1 = k)).map (·.2)
theorem valD_nil {k : κ} : valD ([] : List (κ × D)) k = none := by unfold valD; rfl
theorem valD_pos {p : κ × D} {r : List (κ × D)} {k : κ} (e : p.1 = k) : valD (p :: r) k = some p.2 := by unfold valD; simp [List.find?_cons, e]
theorem valD_neg {p : κ × D} {r : List (κ × D)} {k : κ} (e : ¬ p.1 = k) : valD (p :: r) k = valD r k := by unfold valD; simp [List.find?_cons, e]
@[irreducible] def putD (kvs : List (κ × D)) (k : κ) (d : D) : List (κ × D) := if (valD kvs k).isSome then kvs.map (fun kv => if kv.1 = k then (kv.1, d) else kv) else kvs ++ [(k, d)]
theorem putD_new {kvs : List (κ × D)} {k : κ} {d : D} (h : valD kvs k = none) : putD kvs k d = kvs ++ [(k, d)] := by unfold putD; rw [h]; rfl
inductive RpK (K : PySem.W.Frag) (H : Hp) : List (κ × V) → List (κ × D) → Prop
  | nil : RpK K H [] []
  | cons {k : κ} {v : V} {d : D} {r : List (κ × V)} {t : List (κ × D)} : Rp K H v d → RpK K H r t → RpK K H ((k, v) :: r) ((k, d) :: t)
theorem rpK_of {K : PySem.W.Frag} {H : Hp} : ∀ {kv : List (κ × V)} {ds : List (κ × D)}, kv.map (·.1) = ds.map (·.1) → RpL K H (kv.map (·.2)) (ds.map (·.2)) → RpK K H kv ds
  | [], [], _, _ => .nil
  | [], _ :: _, e, _ => by simp at e
  | _ :: _, [], e, _ => by simp at e
  | (k, v) :: r, (k2, d) :: t, e, q => by
    simp only [List.map_cons, List.cons.injEq] at e
    obtain ⟨rfl, e⟩ := e
    cases q with
    | cons q1 q2 => exact .cons q1 (rpK_of e q2)
theorem RpK.keys {K : PySem.W.Frag} {H : Hp} {kv : List (κ × V)} {ds : List (κ × D)} (r : RpK K H kv ds) : kv.map (·.1) = ds.map (·.1) := by
  induction r with
  | nil => rfl
  | cons _ _ ih => simp [ih]
theorem RpK.vals {K : PySem.W.Frag} {H : Hp} {kv : List (κ × V)} {ds : List (κ × D)} (r : RpK K H kv ds) : RpL K H (kv.map (·.2)) (ds.map (·.2)) := by
  induction r with
  | nil => exact .nil
  | cons q _ ih => exact .cons q ih
theorem RpK.length {K : PySem.W.Frag} {H : Hp} {kv : List (κ × V)} {ds : List (κ × D)} (r : RpK K H kv ds) : kv.length = ds.length := by
  have := congrArg List.length r.keys; simpa using this
theorem RpK.mono {K : PySem.W.Frag} {H H' : Hp} (s : Same H H') {kv : List (κ × V)} {ds : List (κ × D)} (r : RpK K H kv ds) : RpK K H' kv ds := by
  induction r with
  | nil => exact .nil
  | cons q _ ih => exact .cons (q.mono s) ih
theorem RpK.val {K : PySem.W.Frag} {H : Hp} {kv : List (κ × V)} {ds : List (κ × D)} (r : RpK K H kv ds) (k : κ) : (valV kv k = none ∧ valD ds k = none) ∨ ∃ v d, valV kv k = some v ∧ valD ds k = some d ∧ Rp K H v d := by
  induction r with
  | nil => exact .inl ⟨valV_nil, valD_nil⟩
  | @cons k2 v d r t q _ ih =>
    by_cases e : k2 = k
    · exact .inr ⟨v, d, valV_pos e, valD_pos e, q⟩
    · rw [valV_neg e, valD_neg e]; exact ih
theorem RpK.append {K : PySem.W.Frag} {H : Hp} {kv kv' : List (κ × V)} {ds ds' : List (κ × D)} (r : RpK K H kv ds) (r' : RpK K H kv' ds') : RpK K H (kv ++ kv') (ds ++ ds') := by
  induction r with
  | nil => exact r'
  | cons q _ ih => exact .cons q ih
theorem RpK.put {K : PySem.W.Frag} {H : Hp} {kv : List (κ × V)} {ds : List (κ × D)} (r : RpK K H kv ds) (k : κ) {v : V} {d : D} (q : Rp K H v d) : RpK K H (putK kv k v) (putD ds k d) := by
  unfold putK putD
  rw [valV_any]
  have e : (valV kv k).isSome = (valD ds k).isSome := by
    rcases r.val k with ⟨a, b⟩ | ⟨_, _, a, b, _⟩ <;> rw [a, b] <;> rfl
  rw [e]
  split
  · rename_i hh
    clear e hh
    induction r with
    | nil => exact .nil
    | @cons k2 v2 d2 r t q2 _ ih =>
      simp only [List.map_cons]
      by_cases e : k2 = k
      · rw [if_pos e, if_pos e]; exact .cons q ih
      · rw [if_neg e, if_neg e]; exact .cons q2 ih
  · exact r.append (.cons q .nil)
end
def mergeD (kvs more : List (Key × D)) : List (Key × D) := more.foldl (fun acc kv => putD acc kv.1 kv.2) kvs
theorem RpK.merge {K : PySem.W.Frag} {H : Hp} {more : List (Key × V)} {mo : List (Key × D)} (q : RpK K H more mo) : ∀ {kv : List (Key × V)} {ds : List (Key × D)}, RpK K H kv ds → RpK K H (mergeK kv more) (mergeD ds mo) := by
  induction q with
  | nil => exact fun r => r
  | cons q _ ih => exact fun r => ih (r.put _ q)
theorem Rp.dctK {K : PySem.W.Frag} {H : Hp} {a : Addr} {kv : List (Key × V)} {ds : List (Key × D)} (h : H a = some (.dK kv)) (r : RpK K H kv ds) : Rp K H (.ref a) (.dct ds) := .dct h r.keys r.vals
section
variable {X : Cx} {W : WX} {a b c : Expr} {ra rb rc : DE} {pos p : Pos}
/-! ### {k: v, ..} -/
def rPairs : List (DE × DE) → DSt → Mu → (List (Key × D) → Mu → Prop) → DX → Prop
  | [], _, m, P, _ => P [] m
  | (ra, rb) :: r, δ, m, P, PX => ra δ m (fun x m1 => rb δ m1 (fun y m2 => match keyD x with
    | some k => rPairs r δ m2 (fun ps m3 => P ((k, y) :: ps) m3) PX
    | none => False) PX) PX
def lPair (K : KW) (W : WX) (p : DE × DE) : TE × TE := (lE K W p.1, lE K W p.2)
theorem pairs_up {K : KW} {F : Hp} {δ : DSt} {σ : St} {PX : DX} : ∀ (rs : List (DE × DE)) {H0 H : Hp} {m : Mu} {P : List (Key × D) → Mu → Prop} {Q : List (V × V) → Hp → Prop}, Ok K F H0 m H → RpS K H0 σ δ → rPairs rs δ m P PX →
    (∀ kvs H' H0' m' ds, Same H0 H0' → Ok K F H0' m' H' → RpK K H0' kvs ds → P ds m' → Q (kvs.map fun kv => (kV kv.1, kv.2)) H') → GX K F H0 PX (fun c xd H' => W c xd σ H') → tPairs (rs.map (lPair K W)) σ H Q
  | [], H0, H, m, P, Q, ok, rs, h, g, gx => g [] H H0 m [] (Same.refl _) ok .nil h
  | (ra, rb) :: r, H0, H, m, P, Q, ok, rs, h, g, gx => by
    refine ⟨F, H0, m, δ, _, PX, ok, rs, h, fun x H1 H01 m1 d1 s1 ok1 r1 h1 => ⟨F, H01, m1, δ, _, PX, ok1, rs.mono s1, h1, fun y H2 H02 m2 d2 s2 ok2 r2 h2 => ?_, gx.mono s1⟩, gx⟩
    dsimp only at h2
    split at h2
    · rename_i k e
      have ek := keyD_rp (r1.mono s2) e
      subst ek
      refine pairs_up r ok2 (rs.mono (s1.trans s2)) h2 (fun kvs H' H0' m' ds s3 ok3 rk h3 => ?_) (gx.mono (s1.trans s2))
      exact g ((k, y) :: kvs) H' H0' m' _ ((s1.trans s2).trans s3) ok3 (.cons (r2.mono s3) rk) h3
    · exact h2.elim
def rDctN (rs : List (DE × DE)) : DE := fun δ m P PX => rPairs rs δ m (fun ps m1 => ps.length ≤ 15 ∧ P (.dct (mergeD [] ps)) m1) PX
theorem dps_nil : PPs X pos [] [] ([].map (lPair (kw X) W)) := pps_nil
theorem dps_cons {k v : Expr} {ks : List (Option Expr)} {vs : List Expr} {rs : List (DE × DE)} (ha : PE X k (lE (kw X) W ra)) (hb : PE X v (lE (kw X) W rb)) (hr : PPs X pos ks vs (rs.map (lPair (kw X) W))) : PPs X pos (some k :: ks) (v :: vs) (((ra, rb) :: rs).map (lPair (kw X) W)) := pps_cons ha hb hr
theorem pd_dctN {keys : List (Option Expr)} {values : List Expr} {rs : List (DE × DE)} (h : PPs X pos keys values (rs.map (lPair (kw X) W))) (hall : keys.all (·.isSome) = true := by rfl) (hl : keys.length = values.length := by rfl) (h0 : keys ≠ [] := by intro z; cases z) (h15 : keys.length ≤ 15 := by decide) :
    PE X (.Dict keys values pos) (lE (kw X) W (rDctN rs)) := by
  refine PE.imp (pe_disp h hall hl h0 h15) fun σ H Q h => ?_
  obtain ⟨F, H0, m, δ, P, PX, ok, rs, h, g, gx⟩ := h
  intro q hq
  have hF : F q = none := ok.freeF hq
  have okq : Ok (kw X) (upd F q (.dK [])) H0 m (upd H q (.dK [])) := ok.addF hq
  refine pairs_up _ okq rs h (fun kvs H' H0' m' ds s1 ok1 rk h1 => ?_) fun c xd H' H0' m' fs s' ok' x z => gx c xd H' H0' m' fs s' (ok'.unframe hF).1 x z
  obtain ⟨z1, z2, z3⟩ := ok1.fr q _ upd_same
  refine ⟨z1, kvs, rfl, by rw [rk.length]; exact h1.1, ?_⟩
  obtain ⟨ok3, w1, w2, w3⟩ := (ok1.reF (o' := .dK (mergeK [] kvs))).unframe hF
  exact g _ _ _ _ _ (s1.trans (same_new w2)) (ok3.promote w1 w2 w3 hF) (.dctK upd_same ((rk.merge .nil).mono (same_new w2))) h1.2
/-! ### d[k] -/
def asDc (m : Mu) : D → Option (List (Key × D))
  | .dct kvs => some kvs
  | .adr q => match m q with | some (.dct kvs) => some kvs | _ => none
  | _ => none
theorem asDc_rp {K : KW} {F H0 H : Hp} {m : Mu} {v : V} {d : D} {ds : List (Key × D)} (ok : Ok K F H0 m H) (r : Rp K H0 v d) (h : asDc m d = some ds) : ∃ q kv, v = .ref q ∧ H q = some (.dK kv) ∧ RpK K H0 kv ds := by
  cases d with
  | dct kvs =>
    cases h
    cases r with
    | dct e1 e2 e3 => exact ⟨_, _, rfl, ok.same _ _ e1, rpK_of e2 e3⟩
  | adr q =>
    cases r
    change (match m q with | some (.dct kvs) => some kvs | _ => none) = some ds at h
    cases e : m q with
    | none => rw [e] at h; cases h
    | some o =>
      rw [e] at h
      cases o with
      | dct kvs =>
        cases h
        obtain ⟨_, kv, e1, e2, e3⟩ := ok.cell q _ e
        exact ⟨q, kv, rfl, e1, rpK_of e2 e3⟩
      | _ => cases h
  | _ => cases h
def oDGet : DO := fun x y m P => match asDc m x, keyD y with
  | some kvs, some k => match valD kvs k with | some d => P d m | none => False
  | _, _ => False
theorem pd_dget (hu : X.A.units + 1 < cLine) (ha : PE X a (lE (kw X) W ra)) (hb : PE X b (lE (kw X) W rb)) (hs : NoSl b := by intro _ _; rfl) : PE X (.Subscript a b pos) (lE (kw X) W (rOp oDGet ra rb)) := by
  refine PE.imp (pe_dget hu ha hb hs) fun σ H Q h => ?_
  obtain ⟨F, H0, m, δ, P, PX, ok, rs, h, g, gx⟩ := h
  refine ⟨F, H0, m, δ, _, PX, ok, rs, h, fun x H1 H01 m1 d1 s1 ok1 r1 h1 => ⟨F, H01, m1, δ, _, PX, ok1, rs.mono s1, h1, fun y H2 H02 m2 d2 s2 ok2 r2 h2 => ?_, gx.mono s1⟩, gx⟩
  unfold oDGet at h2
  dsimp only at h2
  split at h2
  · rename_i kvs k e1 e2
    obtain ⟨q, kv, rfl, e3, rk⟩ := asDc_rp ok2 (r1.mono s2) e1
    have ek := keyD_rp r2 e2
    subst ek
    rcases rk.val k with ⟨_, z⟩ | ⟨v, d, z1, z2, z3⟩
    · rw [z] at h2; exact h2.elim
    · rw [z2] at h2
      exact ⟨q, v, rfl, z1 ▸ DGet.k e3, g _ _ _ _ _ (s1.trans s2) ok2 z3 h2⟩
  · exact h2.elim
/-! ### while -/
end
/-! ### a def that calls itself: at depth 0 nothing is promised -/
def spNo : SpD := fun _ _ _ _ => False
theorem def_no {P : Program} {w : World} {K : PySem.W.Frag} {mg : Str → Option Value} {base : Heap} {x qual : Str} {st : Stmt} {ps : List Str} {sp : SpD} (k : Nat) (G : FunAt K mg x qual st) (h : ∀ ds m Q PX, ¬ sp ds m Q PX) : DefOk P w K mg base k x qual st ps sp := by
  obtain ⟨f, fd, e, G⟩ := G
  exact ⟨f, fd, e, G, fun vs H Q E ⟨_, _, _, _, _, _, _, _, z, _⟩ => (h _ _ _ _ z).elim, fun A outer s H args us vs Q E _ _ _ _ ⟨_, _, _, _, _, _, _, _, z, _⟩ => (h _ _ _ _ z).elim⟩
end DL
namespace DL
open PySem L2
theorem units1 {k : Nat} {A : Around} (r : Room k A) : A.units + 1 < cLine := by have := r.un; omega
end DL
namespace DL
open PySem L2
/-! ### == of data without truths -/
mutual
def pur : D → Bool
  | .non => true
  | .int _ => true
  | .str _ => true
  | .lst ds => purL ds
  | .tup ds => purL ds
  | .bl _ => false
  | .ty _ => false
  | .adr _ => false
  | .glb _ => false
  | .exc _ _ _ _ _ => false
  | .dct _ => false
  | .ins _ _ => false
def purL : List D → Bool
  | [] => true
  | d :: ds => pur d && purL ds
end
mutual
theorem eqv_iff : ∀ (d e : D), pur d = true → pur e = true → (PyData.eqv (py d) (py e) = true ↔ d = e)
  | .non, e, h1, h2 => by cases e <;> simp [pur, py, PyData.eqv] at h2 ⊢
  | .int i, e, h1, h2 => by cases e <;> simp [pur, py, PyData.eqv] at h2 ⊢
  | .str i, e, h1, h2 => by cases e <;> simp [pur, py, PyData.eqv] at h2 ⊢
  | .lst ds, e, h1, h2 => by
    rw [pur] at h1
    cases e with
    | lst es => rw [pur] at h2; rw [py, py, PyData.eqv, eqvL_iff ds es h1 h2]; simp
    | _ => simp [pur, py, PyData.eqv] at h2 ⊢
  | .tup ds, e, h1, h2 => by
    rw [pur] at h1
    cases e with
    | tup es => rw [pur] at h2; rw [py, py, PyData.eqv, eqvL_iff ds es h1 h2]; simp
    | _ => simp [pur, py, PyData.eqv] at h2 ⊢
  | .bl _, _, h1, _ => by rw [pur] at h1; cases h1
  | .ty _, _, h1, _ => by rw [pur] at h1; cases h1
  | .adr _, _, h1, _ => by rw [pur] at h1; cases h1
  | .dct _, _, h1, _ => by rw [pur] at h1; cases h1
  | .ins _ _, _, h1, _ => by rw [pur] at h1; cases h1
  | .glb _, _, h1, _ => by rw [pur] at h1; cases h1
  | .exc _ _ _ _ _, _, h1, _ => by rw [pur] at h1; cases h1
theorem eqvL_iff : ∀ (ds es : List D), purL ds = true → purL es = true → (PyData.eqvAll (pyL ds) (pyL es) = true ↔ ds = es)
  | [], [], _, _ => by rw [pyL, PyData.eqvAll]; simp
  | [], _ :: _, _, _ => by rw [pyL, pyL, PyData.eqvAll]; simp
  | _ :: _, [], _, _ => by rw [pyL, pyL, PyData.eqvAll]; simp
  | d :: ds, e :: es, h1, h2 => by
    rw [purL, Bool.and_eq_true] at h1 h2
    rw [pyL, pyL, PyData.eqvAll, Bool.and_eq_true, eqv_iff d e h1.1 h2.1, eqvL_iff ds es h1.2 h2.2]
    simp
end
theorem deq_iff {d e : D} (h1 : pur d = true) (h2 : pur e = true) : deq d e = true ↔ d = e := eqv_iff d e h1 h2
/-! ### data that == may look at -/
def fitD : Nat → D → Prop
  | _, .non => True
  | _, .bl _ => True
  | _, .int _ => True
  | _, .str x => ∀ c ∈ x.cps.toList, c < 1114112
  | n + 1, .lst ds => ∀ d ∈ ds, fitD n d
  | n + 1, .tup ds => ∀ d ∈ ds, fitD n d
  | _, _ => False
theorem fit_lay : ∀ (n : Nat) (d : D), fitD n d → PyData.canLay0 (py d) = true ∧ PyData.depth (py d) ≤ n + 1 := by
  have str : ∀ (n : Nat) (x : Str), (∀ c ∈ x.cps.toList, c < 1114112) → PyData.canLay0 (py (.str x)) = true ∧ PyData.depth (py (.str x)) ≤ n + 1 := fun n x h => by
    rw [py, PyData.canLay0, PyData.depth, PyData.strOk]
    refine ⟨?_, Nat.zero_le _⟩
    rw [← Array.all_toList, List.all_eq_true]
    intro c hc
    exact decide_eq_true (h c hc)
  intro n
  induction n with
  | zero =>
    intro d h
    cases d with
    | str x => exact str 0 x h
    | lst ds => exact h.elim
    | tup ds => exact h.elim
    | non => rw [py, PyData.canLay0, PyData.depth]; exact ⟨rfl, Nat.zero_le _⟩
    | bl b => rw [py, PyData.canLay0, PyData.depth]; exact ⟨rfl, Nat.zero_le _⟩
    | int i => rw [py, PyData.canLay0, PyData.depth]; exact ⟨rfl, Nat.zero_le _⟩
    | _ => exact h.elim
  | succ n ih =>
    have all : ∀ ds : List D, (∀ d ∈ ds, fitD n d) → PyData.canLayAll0 (pyL ds) = true ∧ PyData.depthAll (pyL ds) ≤ n + 1 := fun ds => by
      induction ds with
      | nil => intro _; rw [pyL, PyData.canLayAll0, PyData.depthAll]; exact ⟨rfl, Nat.zero_le _⟩
      | cons d ds ih2 =>
        intro h
        obtain ⟨a1, a2⟩ := ih d (h d List.mem_cons_self)
        obtain ⟨b1, b2⟩ := ih2 fun e he => h e (List.mem_cons_of_mem _ he)
        rw [pyL, PyData.canLayAll0, PyData.depthAll, a1, b1]
        exact ⟨rfl, Nat.max_le.mpr ⟨a2, b2⟩⟩
    intro d h
    cases d with
    | str x => exact str (n + 1) x h
    | lst ds =>
      obtain ⟨a1, a2⟩ := all ds h
      rw [py, PyData.canLay0, PyData.depth]
      exact ⟨a1, by omega⟩
    | tup ds =>
      obtain ⟨a1, a2⟩ := all ds h
      rw [py, PyData.canLay0, PyData.depth]
      exact ⟨a1, by omega⟩
    | non => rw [py, PyData.canLay0, PyData.depth]; exact ⟨rfl, Nat.zero_le _⟩
    | bl b => rw [py, PyData.canLay0, PyData.depth]; exact ⟨rfl, Nat.zero_le _⟩
    | int i => rw [py, PyData.canLay0, PyData.depth]; exact ⟨rfl, Nat.zero_le _⟩
    | _ => exact h.elim
theorem shp_of {n : Nat} {d : D} (h : fitD n d) (hn : n ≤ 60 := by decide) : shp d := by
  obtain ⟨a, b⟩ := fit_lay n d h
  unfold shp SeqAt.shaped
  rw [a]
  simp
  omega
theorem valD_put {κ : Type} [DecidableEq κ] (kvs : List (κ × D)) (k j : κ) (d : D) : valD (putD kvs k d) j = if j = k then some d else valD kvs j := by
  unfold putD
  split
  · rename_i h
    induction kvs with
    | nil => rw [valD_nil] at h; cases h
    | cons p r ih =>
      simp only [List.map_cons]
      by_cases e : p.1 = k
      · rw [if_pos e]
        by_cases ej : j = k
        · rw [if_pos ej]; exact valD_pos (p := (p.1, d)) (e.trans ej.symm)
        · rw [if_neg ej, valD_neg (by intro z; exact ej (z.symm.trans e)), valD_neg (by intro z; exact ej (z.symm.trans e))]
          clear ih h
          induction r with
          | nil => rfl
          | cons p2 r2 ih2 =>
            simp only [List.map_cons]
            by_cases e2 : p2.1 = k
            · rw [if_pos e2, valD_neg (by intro z; exact ej (z.symm.trans e2)), valD_neg (by intro z; exact ej (z.symm.trans e2))]; exact ih2
            · rw [if_neg e2]
              by_cases e3 : p2.1 = j
              · rw [valD_pos e3, valD_pos e3]
              · rw [valD_neg e3, valD_neg e3]; exact ih2
      · rw [if_neg e]
        rw [valD_neg e] at h
        by_cases e3 : p.1 = j
        · rw [valD_pos e3, valD_pos e3, if_neg (fun z => e (e3.trans z))]
        · rw [valD_neg e3, valD_neg e3]; exact ih h
  · rename_i h
    have h : valD kvs k = none := by cases z : valD kvs k with
      | none => rfl
      | some d => rw [z] at h; exact absurd rfl h
    induction kvs with
    | nil =>
      by_cases ej : j = k
      · rw [if_pos ej]; exact valD_pos ej.symm
      · rw [if_neg ej]; exact valD_neg (fun z => ej z.symm)
    | cons p r ih =>
      have e : ¬ p.1 = k := fun z => by rw [valD_pos z] at h; cases h
      rw [valD_neg e] at h
      by_cases e3 : p.1 = j
      · rw [List.cons_append, valD_pos e3, valD_pos e3, if_neg (fun z => e (e3.trans z))]
      · rw [List.cons_append, valD_neg e3, valD_neg e3]; exact ih (by rename_i q _; rw [h]; simp) h
/-! ### texts -/
theorem cps_app (x y : Str) : (x ++ y).cps.toList = x.cps.toList ++ y.cps.toList := PyProof.Rows.cps_toList_append x y
theorem str_ext {x y : Str} (h : x.cps.toList = y.cps.toList) : x = y := by
  cases x; cases y
  congr
  exact Array.toList_inj.mp h
/-! ### a number's text -/
abbrev dig (n : Int) : Str := (toString n : String)
theorem dig_free {k : Nat} (n : Int) (hk : k ≠ 45 ∧ (k < 48 ∨ 57 < k) := by decide) : k ∉ (dig n).cps.toList := PyProof.Rows.int_text_free' k hk n
theorem dig_nat (m : Nat) : (dig (m : Nat)).cps.toList = (Nat.toDigits 10 m).map Char.toNat := PySem.W.KIN.signs_num m
theorem dig_neg (m : Nat) : (dig (-((m + 1 : Nat) : Int))).cps.toList = 45 :: (dig ((m + 1 : Nat) : Int)).cps.toList := by
  show (Str.ofString (toString (Int.negSucc m))).cps.toList = _
  rw [PyProof.Rows.signs_ofString]
  show ("-" ++ Nat.repr (m + 1)).toList.map Char.toNat = _
  rw [String.toList_append, List.map_append]
  show [45] ++ (Nat.repr (m + 1)).toList.map Char.toNat = _
  rw [← PyProof.Rows.signs_ofString]
  rfl
theorem dig_ne (n : Int) : (dig n).cps.toList ≠ [] := by
  cases n with
  | ofNat m =>
    show (dig ((m : Nat) : Int)).cps.toList ≠ []
    rw [dig_nat]
    intro e
    have h := PySem.toDigits_len_ge 10 m
    rw [List.map_eq_nil_iff.mp e] at h
    exact absurd h (by decide)
  | negSucc m =>
    show (dig (-((m + 1 : Nat) : Int))).cps.toList ≠ []
    rw [dig_neg]
    simp
/-! ### what stays: all but ws -/
def Kp (ws : List Addr) (m m' : Mu) : Prop := ∀ a o, a ∉ ws → m a = some o → m' a = some o
theorem Kp.refl (ws : List Addr) (m : Mu) : Kp ws m m := fun _ _ _ h => h
theorem Kp.trans {ws : List Addr} {m m1 m2 : Mu} (a : Kp ws m m1) (b : Kp ws m1 m2) : Kp ws m m2 := fun x o h e => b x o h (a x o h e)
theorem Kp.more {ws vs : List Addr} {m m' : Mu} (a : Kp ws m m') (h : ∀ x ∈ ws, x ∈ vs) : Kp vs m m' := fun x o hx e => a x o (fun z => hx (h x z)) e
theorem Only1.kp {w : Addr} {m m' : Mu} (h : Only1 w m m') : Kp [w] m m' := fun a o ha e => by rw [h a (by simpa using ha)]; exact e
theorem kp_new {ws : List Addr} {m : Mu} {q : Addr} {o : MO} (h : m q = none) : Kp ws m (mset m q o) := fun a u _ e => by
  rw [mset_ne (fun z => by rw [z, h] at e; cases e)]; exact e
/-- drawn from the well w in at most n turns -/
def Dr (w : Addr) (n : Nat) (R : D → Prop) (m : Mu) (P : DK) : Prop := ∃ k, Wl m w k ∧ k + n ≤ 1000000000 ∧ ∀ d m', R d → Kp [w] m m' → Wl m' w (k + n) → P d m'
theorem Wl.keep {m m' : Mu} {w : Addr} {k : Nat} {ws : List Addr} (h : Wl m w k) (kp : Kp ws m m') (hw : w ∉ ws) : Wl m' w k := by
  obtain ⟨a, b, c, e, r⟩ := h.ex
  exact ⟨a, b, c, kp w _ hw e, r⟩
def spDrawK : SpD := fun ds m P _ => ∃ (w : Addr) (many : Int), ds = [.adr w, .int many] ∧ 0 < many ∧ many.natAbs < 2 ^ 200 ∧ Dr w 1 (fun d => ∃ r : Int, 0 ≤ r ∧ r < many ∧ d = .int r) m P
theorem drawK_draw {ds : List D} {m : Mu} {P : DK} {PX : DX} (h : spDrawK ds m P PX) : spDraw ds m P PX := by
  obtain ⟨w, many, rfl, h0, h1, k, wl, hk, h⟩ := h
  exact ⟨w, many, k, rfl, wl, by omega, h0, h1, fun r m' r0 r1 o w1 => h _ m' ⟨r, r0, r1, rfl⟩ o.kp w1⟩
end DL
namespace DL
open PySem L2
/-! ### set(xs) of a list of whole numbers -/
abbrev voidSet (w : World) : Obj := { cls := .type "set", dict := none, data := .set #[] 0 (.fresh 0 0 (!w.params.followText "set-order")) }
section
open PyProof.Rows
variable {P : Program} {w : World} {A : Around} {E : Value → Shared → Prop} {s : Shared}
theorem set_list {l : Addr} {xs : Array Value} (ns : List Int) {Q : Value → Shared → Prop} (calm : A.handled = none) (il : s.heap.IsList l xs) (hin : IntsAre xs.toList ns) (few : ns.length + 1 < scanBound)
    (fin : ∀ (g : Heap) (tk c : Nat), SetR w g s.heap.objs.size (fun j => decide (j ∈ ns)) c → c ≤ ns.length → (∀ b u, s.heap.get? b = some u → g.get? b = some u) → Q (.ref s.heap.objs.size) { s with heap := g, toks := tk }) :
    wpAny (model P w) A (call (.type "set") [.ref l]) Q E s := by
  have size : xs.size = ns.length := by rw [← Array.length_toList]; exact IntsAre.length hin
  obtain ⟨_, _, k1⟩ := F.called_set.mro
  have k2 := F.called_set.made; have k3 := F.called_set.sub; have k4 := F.called_set.notType
  have k5 := F.called_set.canCreate; have k6 := F.typeCall_set_1 (.ref l)
  refine wpAny_call (codeAny_of_tree (show wpAny _ _ (callAny (.type "set") _) _ _ _ from ?_))
  refine wpAny_pure ⟨Code.quiet_builtin _ (by decide +kernel), codeAny_builtin F.entry_type_call ?_⟩; rw [Around.under_plain (weight_type_call_type "set" [.ref l] []) rfl]
  repeat (any_goals (first | assumption | wp_step)); skip
  refine codeAny_mono (L2.code_set_led1 (.ref l) (E := E) (Q₁ := fun y z => y = .ref s.heap.objs.size ∧ z = { s with heap := s.heap.push (voidSet w) }) ⟨rfl, rfl⟩) fun r1 s1 z1 => ?_
  match r1, z1 with
  | .error e, z1 => exact z1
  | .ok (.ret y), ⟨ey, es⟩ =>
    subst ey es
    have new : (s.heap.push (voidSet w)).get? s.heap.objs.size = some (voidSet w) := Heap.get?_push_size _ rfl
    have is : Shared.TypeIs { s with heap := s.heap.push (voidSet w) } (.ref s.heap.objs.size) "set" := ⟨_, new, rfl⟩
    have k7 := F.called_set.init.lookup; have k8 := F.called_set.init.bind (.ref s.heap.objs.size)
    repeat (any_goals (first | assumption | wp_step)); skip
    refine codeAny_mono (codeAny_call_builtin (R := wants (fun y z => y = .none ∧ ∃ g tk c, z = { s with heap := g, toks := tk } ∧ SetR w g s.heap.objs.size (fun j => decide (j ∈ ns)) c ∧ c ≤ ns.length ∧ (∀ b u, s.heap.get? b = some u → g.get? b = some u)) E) F.called_set.init.plain F.entry_set_init (check_set_init_1 is ?_)) fun r2 s2 z2 => ?_
    · obtain ⟨⟨oc, od, odt, osl⟩, go, gc, gn, gd⟩ := il
      simp only at gc gd; subst gc; subst gd
      have go2 : (s.heap.push (voidSet w)).get? l = some ⟨.type "list", od, .seq xs gn, osl⟩ := Heap.get?_push_of_some _ go
      have il2 : (s.heap.push (voidSet w)).IsList l xs := ⟨_, go2, rfl, gn, rfl⟩
      have k9 := F.sub_list_set; have k10 := F.sub_list_frozenset; have k11 : (Value.type "list" == Value.type "dict") = false := by decide
      unfold Builtin.«set.__init__» noKeywords Builtin.Frozenset.updateFrom; generalize hit : pyIter = it
      wp_walk; subst hit
      refine wpAny_pyIter_list il2 (wpAny_bind (wpAny_runValue ?_))
      have lt : l < s.heap.objs.size := Heap.lt_size go
      have sz : (s.heap.push (voidSet w)).objs.size = s.heap.objs.size + 1 := Heap.size_push ..
      have off : s.heap.objs.size ∉ [(s.heap.push (voidSet w)).objs.size, l] := by
        rw [sz]; intro z; rcases List.mem_cons.mp z with z | z
        · exact absurd z (Nat.ne_of_lt (Nat.lt_succ_self _))
        · exact Nat.lt_irrefl _ (show l < l from (List.mem_singleton.mp z) ▸ lt)
      refine L2.set_update_ints ((Walks.list (by simp [calm]) _ l (by rw [sz]; exact Nat.ne_of_lt (Nat.lt_succ_of_lt lt)) xs).toS) s.heap.objs.size off ns size few (fun i v hv => ?_) (xs.size - 0) 0 _ (by omega) (Nat.zero_le _) ⟨⟨_, Heap.get?_push_size _ rfl, rfl, rfl⟩, il2.push _⟩ ⟨0, Nat.le_refl 0, L2.setR_new_at (Heap.get?_push_of_some _ new)⟩ fun s3 c3 mv le3 in3 => ?_
      · have hi : i < ns.length := by rw [← size]; exact (Array.getElem?_eq_some_iff.mp hv).1
        obtain ⟨t, e⟩ := IntsAre.int_at hin i v (by rw [Array.getElem?_toList]; exact hv)
        exact ⟨ns[i], t, List.getElem?_eq_getElem hi, by rw [e, List.getD_eq_getElem?_getD, List.getElem?_eq_getElem hi] <;> rfl⟩
      · obtain ⟨g3, gens3, dr3, tk3, os3⟩ := s3
        obtain rfl : gens3 = s.gens := mv.gens
        obtain rfl : dr3 = s.drawn := mv.drawn
        obtain rfl : os3 = s.os := mv.os
        refine wpAny_pure (show wpAny _ _ (ret Value.none) _ _ _ from wpAny_pure ⟨rfl, g3, tk3, c3, rfl, in3, by omega, fun b u e => ?_⟩)
        have lb : b < s.heap.objs.size := Heap.lt_size e
        refine mv.heap b u (fun z => ?_) (Heap.get?_push_of_some _ (Heap.get?_push_of_some _ e))
        rcases List.mem_cons.mp z with z | z
        · exact absurd z (Nat.ne_of_lt lb)
        · exact absurd ((List.mem_singleton.mp z).trans sz) (Nat.ne_of_lt (Nat.lt_succ_of_lt lb))
    · match r2, z2 with
      | .error e, z2 => exact z2
      | .ok (.ret y), ⟨ey, g, tk, c, es, in2, le2, kp2⟩ =>
        subst ey es
        repeat (any_goals (first | assumption | wp_step)); skip
        exact fin _ _ _ in2 le2 kp2
end
end DL
/-! # sorted(a set of ints), any number of them -/
namespace DL
open PySem L2
end DL
namespace DL
open PySem L2
/-! ### whole numbers in a list -/
/-! ### rising lists -/
section
variable {X : Cx} {W : WX} {a b c tg : Expr} {ra rb rc : DE} {pos p : Pos} {e : Expr} {es : List Expr} {qs : DA}
/-! ### sorted(set(xs)) -/
/-! ### sorted(xs), min(xs), max(xs), sum(xs) of whole numbers -/
theorem CallR.or {f : Value} {r r2 : List V → Hp → VK → Prop} (h1 : CallR X f r) (h2 : CallR X f r2) : CallR X f (fun xs H Q => r xs H Q ∨ r2 xs H Q) := by
  intro pins s σ H vs us Q I rv h
  rcases h with h | h
  · exact h1 pins s σ H vs us Q I rv h
  · exact h2 pins s σ H vs us Q I rv h
/-! ### xs.clear() -/
/-! ### xs + ys as a list of our own -/
/-! ### a, b = e -/
def sTup (js : List Nat) (ra : DE) : DS := fun DD δ m => ra δ m (fun d m1 => gT js d δ m1 DD.nx) fun c fs m1 => DD.xx c fs δ m1
theorem ds_tup {g : TG} {js : List Nat} (ha : PE X a (lE (kw X) W ra)) (hg : PG X tg g) (go : Gok (kw X) js g (gT js)) (hs : swapsWithSole [tg] a pos.line X.env = pure false := by rfl) (hw : swappedStores [tg] a X.env = pure none := by rfl) (h1 : (assignEach [tg] X.env).map (·.2) = [assign tg X.env] := by rfl) :
    PS X (.Assign [tg] a pos) (lS (kw X) W (sTup js ra)) := by
  refine PS.imp (ps_asg ha hg hs hw h1) fun Dn σ H h => ?_
  obtain ⟨F, H0, m, δ, DD, ok, rs, h, gd⟩ := h
  exact ⟨F, H0, m, δ, _, _, ok, rs, h, fun v H1 H01 m1 d s1 ok1 r1 h1 => go F H01 m1 H1 σ δ v d _ _ ok1 (rs.mono s1) r1 h1 fun σ' δ' rs' _ h2 => gd.nx _ _ _ _ _ s1 ok1 rs' h2, gd.xx.at_ rs⟩
/-! ### [e for .. for ..] -/
variable {ifs ifs1 : List Expr} {scope : Scope} {own : List (Str × Nat)} {ri ri1 : DI} {g g1 : TG} {rg rg1 : DG} {qt qt1 : DT} {re : DE} {tg1 : Expr}
end
end DL
namespace DL
open PySem L2
/-! ### what the written part holds, by a look that computes -/
def clsAddr (K : PySem.W.Frag) (n : Str) : Option Addr := match PySem.W.nsIn K mainGlobals n with
  | some (some (.ref C)) => some C
  | _ => none
theorem ClsAt.addr {K : PySem.W.Frag} {n : Str} {C : Addr} (h : ClsAt K n C) : clsAddr K n = some C := by unfold clsAddr; rw [h]
theorem ClsAt.uniq {K : PySem.W.Frag} {n : Str} {C C' : Addr} (h : ClsAt K n C) (h' : ClsAt K n C') : C = C' := by
  have := h.addr.symm.trans h'.addr
  cases this; rfl
def clsB (K : PySem.W.Frag) (n : Str) : Bool := match clsAddr K n with
  | some C => PySem.W.plainGet K C Str.empty && PySem.W.hasDictIn K C && PySem.W.plainOver K C && decide (PySem.W.findIn K (.ref C) "__setattr__" = some (some (.builtin "object.__setattr__")))
  | none => false
/-- an own class of plain instances -/
structure ClsF (K : PySem.W.Frag) (n : Str) : Prop where
  ok : ∀ C, ClsAt K n C → Cls K C
theorem clsB_ok {K : PySem.W.Frag} {n : Str} (h : clsB K n = true) : ClsF K n := ⟨fun C hC => by
  unfold clsB at h
  rw [hC.addr] at h
  simp only [Bool.and_eq_true, decide_eq_true_eq] at h
  exact ⟨h.1.1.1, h.1.1.2, h.1.2, h.2⟩⟩
/-- a field of it -/
structure FldF (K : PySem.W.Frag) (n f : Str) : Prop where
  ok : ∀ C, ClsAt K n C → Cls K C ∧ NoAttr K C f
def fldB (K : PySem.W.Frag) (n f : Str) : Bool := clsB K n && match clsAddr K n with
  | some C => decide (PySem.W.findIn K (.ref C) f = some none)
  | none => false
theorem fldB_ok {K : PySem.W.Frag} {n f : Str} (h : fldB K n f = true) : FldF K n f := ⟨fun C hC => by
  unfold fldB at h
  rw [Bool.and_eq_true, hC.addr] at h
  exact ⟨(clsB_ok h.1).ok C hC, show PySem.W.findIn K (.ref C) f = some none from of_decide_eq_true h.2⟩⟩
/-! ### fields -/
def putFd (f : Str) (v : D) : List (Str × D) → List (Str × D)
  | [] => [(f, v)]
  | (g, x) :: r => if g = f then (g, v) :: r else (g, x) :: putFd f v r
theorem put_rp {K : PySem.W.Frag} {H : Hp} {f : Str} {v : V} {d : D} (q : Rp K H v d) : ∀ {fv : List (Str × V)} {fs : List (Str × D)}, fv.map (·.1) = fs.map (·.1) → RpL K H (fv.map (·.2)) (fs.map (·.2)) → (putF f v fv).map (·.1) = (putFd f d fs).map (·.1) ∧ RpL K H ((putF f v fv).map (·.2)) ((putFd f d fs).map (·.2))
  | [], [], _, _ => ⟨rfl, .cons q .nil⟩
  | [], _ :: _, e, _ => by simp at e
  | _ :: _, [], e, _ => by simp at e
  | (g, x) :: fv, (g', y) :: fs, e, r => by
    simp only [List.map_cons, List.cons.injEq] at e r
    obtain ⟨e1, e2⟩ := e
    obtain rfl : g = g' := e1
    cases r with
    | cons r1 r2 =>
      unfold putF putFd
      by_cases hg : g = f
      · rw [if_pos hg, if_pos hg]
        simp only [List.map_cons]
        exact ⟨by rw [e2], .cons q r2⟩
      · rw [if_neg hg, if_neg hg]
        obtain ⟨i1, i2⟩ := put_rp q e2 r2
        simp only [List.map_cons]
        exact ⟨by rw [i1], .cons r1 i2⟩
theorem lookup_rp {K : PySem.W.Frag} {H : Hp} {f : Str} {d : D} : ∀ {fv : List (Str × V)} {fs : List (Str × D)}, fv.map (·.1) = fs.map (·.1) → RpL K H (fv.map (·.2)) (fs.map (·.2)) → fs.lookup f = some d → ∃ v, fv.lookup f = some v ∧ Rp K H v d
  | [], [], _, _, h => by cases h
  | [], _ :: _, e, _, _ => by simp at e
  | _ :: _, [], e, _, _ => by simp at e
  | (g, x) :: fv, (g', y) :: fs, e, r, h => by
    simp only [List.map_cons, List.cons.injEq] at e r
    obtain ⟨e1, e2⟩ := e
    obtain rfl : g = g' := e1
    cases r with
    | cons r1 r2 =>
      unfold List.lookup at h ⊢
      cases hb : f == g with
      | true => rw [hb] at h; cases h; exact ⟨x, rfl, r1⟩
      | false => rw [hb] at h; exact lookup_rp e2 r2 h
/-- an instance of the class n: one that never changes, or one of ours -/
def insOf (m : Mu) (n : Str) : D → Option (List (Str × D))
  | .ins k fs => if k = n then some fs else none
  | .adr a => match m a with
    | some (.ins k fs) => if k = n then some fs else none
    | _ => none
  | _ => none
theorem insOf_rp {K : KW} {F : Hp} {H0 H : Hp} {m : Mu} {n : Str} {v : V} {d : D} {fs : List (Str × D)} (ok : Ok K F H0 m H) (r : Rp K H0 v d) (h : insOf m n d = some fs) : ∃ a C dx fv, v = .ref a ∧ ClsAt K n C ∧ H a = some (.ins C dx fv) ∧ fv.map (·.1) = fs.map (·.1) ∧ RpL K H0 (fv.map (·.2)) (fs.map (·.2)) := by
  unfold insOf at h
  split at h
  · split at h
    · rename_i e; subst e; cases h
      cases r with
      | ins c q e2 t => exact ⟨_, _, _, _, rfl, c, ok.same _ _ q, e2, t⟩
    · cases h
  · split at h
    · rename_i k fs' e1
      split at h
      · rename_i e; subst e; cases h
        cases r
        obtain ⟨_, C, dx, fv, c, hv, e2, t⟩ := ok.cell _ _ e1
        exact ⟨_, C, dx, fv, rfl, c, hv, e2, t⟩
      · cases h
    · cases h
  · cases h
section
variable {X : Cx} {W : WX} {a b c o : Expr} {ra rb rc ro : DE} {pos p apos : Pos} {e : Expr} {es : List Expr} {qs qk : DA} {n f : Str}
def rFld (n f : Str) (ra : DE) : DE := fun δ m P PX => ra δ m (fun x m1 => match insOf m1 n x with
  | some fs => match fs.lookup f with
    | some d => P d m1
    | none => False
  | none => False) PX
theorem pd_fld (T : FldF X.K n f) (ha : PE X a (lE (kw X) W ra)) (hb : attributeBase a f X.env (eval a X.env) = eval a X.env := by rfl) : PE X (.Attribute a f pos) (lE (kw X) W (rFld n f ra)) := by
  refine PE.imp (pe_fld ha hb) fun σ H Q h => ?_
  obtain ⟨F, H0, m, δ, P, PX, ok, rs, h, g, gx⟩ := h
  refine ⟨F, H0, m, δ, _, PX, ok, rs, h, fun x H1 H01 m1 d s1 ok1 r1 h1 => ?_, gx⟩
  dsimp only at h1
  split at h1
  · rename_i fs e1
    split at h1
    · rename_i d' e2
      obtain ⟨q, C, dx, fv, rfl, c, hq, e3, t⟩ := insOf_rp ok1 r1 e1
      obtain ⟨v, e4, rv⟩ := lookup_rp e3 t e2
      exact ⟨q, C, dx, fv, v, rfl, hq, (T.ok C c).1, (T.ok C c).2, e4, g _ _ _ _ _ s1 ok1 rv h1⟩
    · exact h1.elim
  · exact h1.elim
/-- self.f = v, self one of ours -/
def gFld (n f : Str) (ro : DE) : DG := fun v δ m P => ro δ m (fun o m1 => match o with
  | .adr q => match m1 q with
    | some (.ins k fs) => k = n ∧ fs.length < 900 ∧ P δ (mset m1 q (.ins n (putFd f v fs)))
    | _ => False
  | _ => False) noX
theorem putFd_len (f : Str) (v : D) : ∀ fs : List (Str × D), (putFd f v fs).length ≤ fs.length + 1
  | [] => by simp [putFd]
  | (g, x) :: r => by
    unfold putFd
    have ih := putFd_len f v r
    split <;> simp <;> omega
/-! ### targets that may change what is ours -/
def GokM (K : KW) (g : TG) (rg : DG) : Prop := ∀ F H0 m H σ δ v d P Q, Ok K F H0 m H → RpS K H0 σ δ → Rp K H0 v d → rg d δ m P → (∀ σ' H' H0' m' δ', Same H0 H0' → Ok K F H0' m' H' → RpS K H0' σ' δ' → P δ' m' → Q σ' H') → g v σ H Q
def gFldV (K : PySem.W.Frag) (f : Str) (to : TE) : TG := fun v σ H Q => to σ H fun x H1 => ∃ a C dx fs, x = .ref a ∧ H1 a = some (.ins C dx fs) ∧ Cls K C ∧ NoAttr K C f ∧ fs.length < 1000 ∧ Q σ (upd H1 a (.ins C dx (putF f v fs)))
theorem pg_fld {to : TE} (ho : PE X o to) (hA : ∀ v, assign (.Attribute o f pos) X.env v = (do
    let ov ← holding [v] (eval o X.env)
    standAt pos.atName
    holding [v, ov] (setAttr ov f v)
    release [v, ov] []) := by intro _; rfl) : PG X (.Attribute o f pos) (gFldV X.K f to) := by
  refine ⟨fun pins s σ H v u Q I r h => ?_⟩
  rw [hA]
  refine wpAny_bind (wpAny_holding (thn (ho.run pins s σ H _ I h) fun ov s1 ⟨x, H1, I1, r1, a, C, dx, fs, e1, e2, c, n, l, q⟩ => ?_))
  subst e1
  obtain rfl : ov = Value.ref a := r1
  refine wpAny_bind (wpAny_standAt (wpAny_bind (wpAny_holding (setattr_ok I1 e2 c n l r fun s3 I3 => ?_))))
  exact wpAny_release ⟨σ, _, I3, q⟩
theorem gkm_fld (T : FldF X.K n f) : GokM (kw X) (gFldV X.K f (lE (kw X) W ro)) (gFld n f ro) := by
  intro F H0 m H σ δ v d P Q ok rs r h k
  refine ⟨F, H0, m, δ, _, noX, ok, rs, h, fun x H1 H01 m1 d1 s1 ok1 r1 h1 => ?_, fun _ _ _ _ _ _ _ _ _ z => z.elim⟩
  dsimp only at h1
  split at h1
  · rename_i q
    cases r1
    split at h1
    · rename_i kk fs e1
      obtain ⟨rfl, hl, h1⟩ := h1
      obtain ⟨_, C, dx, fv, cA, hq, e2, t⟩ := ok1.cell q _ e1
      have hl2 : fv.length = fs.length := by have := congrArg List.length e2; simpa using this
      obtain ⟨z1, z2⟩ := put_rp (f := f) (r.mono s1) e2 t
      exact ⟨q, C, dx, fv, rfl, hq, (T.ok C cA).1, (T.ok C cA).2, by omega, k _ _ _ _ _ s1 (ok1.write (o := .ins kk (putFd f d fs)) e1 ⟨C, dx, _, cA, upd_same, z1, z2⟩) (rs.mono s1) h1⟩
    · exact h1.elim
  · exact h1.elim
/-- several targets, over data -/
abbrev DGs := List D → DSt → Mu → (DSt → Mu → Prop) → Prop
def gNilD : DGs := fun ds δ m P => ds = [] ∧ P δ m
def gConsD (g : DG) (gs : DGs) : DGs := fun ds δ m P => match ds with
  | d :: r => g d δ m fun δ' m' => gs r δ' m' P
  | [] => False
def GokMs (K : KW) (g : TGs) (rg : DGs) : Prop := ∀ F H0 m H σ δ vs ds P Q, Ok K F H0 m H → RpS K H0 σ δ → RpL K H0 vs ds → rg ds δ m P → (∀ σ' H' H0' m' δ', Same H0 H0' → Ok K F H0' m' H' → RpS K H0' σ' δ' → P δ' m' → Q σ' H') → g vs σ H Q
theorem gkms_nil {K : KW} : GokMs K gNil gNilD := fun F H0 m H σ δ vs ds P Q ok rs r h k => by
  obtain ⟨rfl, h⟩ := h
  cases r
  exact ⟨rfl, k _ _ _ _ _ (Same.refl _) ok rs h⟩
theorem gkms_cons {K : KW} {g : TG} {gs : TGs} {rg : DG} {rgs : DGs} (h1 : GokM K g rg) (h2 : GokMs K gs rgs) : GokMs K (gCons g gs) (gConsD rg rgs) := fun F H0 m H σ δ vs ds P Q ok rs r h k => by
  cases r with
  | nil => exact h.elim
  | @cons v vs' d ds' r1 r2 =>
    exact ⟨v, vs', rfl, h1 F H0 m H σ δ v d _ _ ok rs r1 h fun σ1 H1 H01 m1 δ1 s1 ok1 rs1 q1 => h2 F H01 m1 H1 σ1 δ1 vs' ds' P Q ok1 rs1 (r2.mono s1) q1 fun σ2 H2 H02 m2 δ2 s2 ok2 rs2 q2 => k _ _ _ _ _ (s1.trans s2) ok2 rs2 q2⟩
def gTupD (n : Nat) (rgs : DGs) : DG := fun d δ m P => match d with
  | .tup ds => ds.length = n ∧ rgs ds δ m P
  | _ => False
theorem gkm_tup {K : KW} {gs : TGs} {rgs : DGs} {k : Nat} (h1 : GokMs K gs rgs) : GokM K (gTup K k gs) (gTupD k rgs) := fun F H0 m H σ δ v d P Q ok rs r h kk => by
  unfold gTupD at h
  split at h
  · obtain ⟨q, vs, rfl, hq, rv⟩ := tup_rp ok r
    exact ⟨q, vs, rfl, hq, rv.length.trans h.1, h1 F H0 m H σ δ vs _ P Q ok rs rv h.2 kk⟩
  · exact h.elim
def sAsgM (rg : DG) (ra : DE) : DS := fun DD δ m => ra δ m (fun d m1 => rg d δ m1 DD.nx) fun c fs m1 => DD.xx c fs δ m1
theorem ds_asgM {tg : Expr} {g : TG} {rg : DG} (ha : PE X a (lE (kw X) W ra)) (hg : PG X tg g) (gk : GokM (kw X) g rg) (hs : swapsWithSole [tg] a pos.line X.env = pure false := by rfl) (hw : swappedStores [tg] a X.env = pure none := by rfl)
    (h1 : (assignEach [tg] X.env).map (·.2) = [assign tg X.env] := by rfl) : PS X (.Assign [tg] a pos) (lS (kw X) W (sAsgM rg ra)) := by
  refine PS.imp (ps_asg ha hg hs hw h1) fun Dn σ H h => ?_
  obtain ⟨F, H0, m, δ, DD, ok, rs, h, gd⟩ := h
  exact ⟨F, H0, m, δ, _, _, ok, rs, h, fun v H1 H01 m1 d s1 ok1 r1 h1 => gk F H01 m1 H1 σ δ v d _ _ ok1 (rs.mono s1) r1 h1 fun σ2 H2 H02 m2 δ2 s2 ok2 rs2 q2 => gd.nx _ _ _ _ _ (s1.trans s2) ok2 rs2 q2, gd.xx.at_ rs⟩
end
/-! ### a def, whatever its defaults -/
/-- x : d among what is written -/
def valB (K : PySem.W.Frag) : Nat → Value → D → Bool
  | _, .none, .non => true
  | _, .bool b, .bl c => b == c
  | _, .int i _, .int j => i == j
  | _, .str x _, .str y => x == y
  | k + 1, .ref a, .tup ds => match K.lookup a with
    | some o => decide (o.cls = .type "tuple") && match o.data with
      | .seq its _ => decide (its.size ≤ 1000) && go k its.toList ds
      | _ => false
    | none => false
  | _, _, _ => false
where go (k : Nat) : List Value → List D → Bool
  | [], [] => true
  | u :: us, d :: ds => valB K k u d && go k us ds
  | _, _ => false
theorem valB_ok {K : PySem.W.Frag} : ∀ (k : Nat) {u : Value} {d : D}, valB K k u d = true → ∃ v, RelV v u ∧ ∀ H, Rp K H v d := by
  intro k
  induction k with
  | zero =>
    intro u d h
    unfold valB at h
    split at h <;> first | exact ⟨.non, rfl, fun _ => .non⟩ | (simp at h; done) | skip
    · rename_i b c; obtain rfl : b = c := by simpa using h
      exact ⟨.bl b, rfl, fun _ => .bl b⟩
    · rename_i i t j; obtain rfl : i = j := by simpa using h
      exact ⟨.int i, ⟨t, rfl⟩, fun _ => .int i⟩
    · rename_i x t y; obtain rfl : x = y := by simpa using h
      exact ⟨.str x, ⟨t, rfl⟩, fun _ => .str x⟩
    · rename_i hk; exact absurd hk (by omega)
  | succ k ih =>
    have all : ∀ (us : List Value) (ds : List D), valB.go K k us ds = true → ∃ vs, Vals vs us ∧ ∀ H, RpL K H vs ds := by
      intro us
      induction us with
      | nil =>
        intro ds h
        cases ds with
        | nil => exact ⟨[], .nil, fun _ => .nil⟩
        | cons d ds => simp [valB.go] at h
      | cons u us ihl =>
        intro ds h
        cases ds with
        | nil => simp [valB.go] at h
        | cons d ds =>
          simp only [valB.go, Bool.and_eq_true] at h
          obtain ⟨v, r, q⟩ := ih h.1
          obtain ⟨vs, rs, qs⟩ := ihl ds h.2
          exact ⟨v :: vs, .cons r rs, fun H => .cons (q H) (qs H)⟩
    intro u d h
    unfold valB at h
    split at h <;> first | exact ⟨.non, rfl, fun _ => .non⟩ | (simp at h; done) | skip
    · rename_i b c; obtain rfl : b = c := by simpa using h
      exact ⟨.bl b, rfl, fun _ => .bl b⟩
    · rename_i i t j; obtain rfl : i = j := by simpa using h
      exact ⟨.int i, ⟨t, rfl⟩, fun _ => .int i⟩
    · rename_i x t y; obtain rfl : x = y := by simpa using h
      exact ⟨.str x, ⟨t, rfl⟩, fun _ => .str x⟩
    · rename_i k' a ds hk
      obtain rfl : k = k' := by omega
      split at h
      · rename_i o ho
        rw [Bool.and_eq_true] at h
        obtain ⟨h1, h2⟩ := h
        split at h2
        · rename_i its nn hd
          rw [Bool.and_eq_true] at h2
          obtain ⟨vs, rs, qs⟩ := all its.toList ds h2.2
          have hsz := of_decide_eq_true h2.1
          exact ⟨.ref a, rfl, fun H => .tup (.inr ⟨o, its, nn, ho, of_decide_eq_true h1, hd, Nat.le_trans hsz (by decide), rs⟩) (qs H)⟩
        · cases h2
      · cases h
def valsB (K : PySem.W.Frag) (us : List Value) (ds : List D) : Bool := valB.go K 3 us ds
theorem valsB_ok {K : PySem.W.Frag} : ∀ {us : List Value} {ds : List D}, valsB K us ds = true → ∃ vs, Vals vs us ∧ ∀ H, RpL K H vs ds
  | [], [], _ => ⟨[], .nil, fun _ => .nil⟩
  | [], _ :: _, h => by simp [valsB, valB.go] at h
  | _ :: _, [], h => by simp [valsB, valB.go] at h
  | u :: us, d :: ds, h => by
    simp only [valsB, valB.go, Bool.and_eq_true] at h
    obtain ⟨v, r, q⟩ := valB_ok _ h.1
    obtain ⟨vs, rs, qs⟩ := valsB_ok (us := us) (ds := ds) h.2
    exact ⟨v :: vs, .cons r rs, fun H => .cons (q H) (qs H)⟩
/-- a constant of the text -/
structure ConF (K : PySem.W.Frag) (mg : Str → Option Value) (x : Str) (d : D) : Prop where
  ex : ∃ u v, mg x = some u ∧ RelV v u ∧ ∀ H, Rp K H v d
theorem con_mk {K : PySem.W.Frag} {h : Heap} {mg : Str → Option Value} {x : Str} {d : D} {u : Value} (X : K.In h) (G : h.Ns mainGlobals mg) (a : PySem.W.nsIn K mainGlobals x = some (some u)) (b : valB K 3 u d = true) : ConF K mg x d := by
  obtain ⟨v, r, q⟩ := valB_ok _ b
  exact ⟨u, v, PySem.W.mg_of X G a, r, q⟩
theorem pd_con {X : Cx} {W : WX} {x : Str} {d : D} {pos : Pos} (T : ConF X.K X.mg x d) (hg : Gl X x := by rfl) (hd : (x == ("__debug__" : Str)) = false := by decide) : PE X (.Name x pos) (lE (kw X) W (rC d)) := by
  obtain ⟨u, v, e, r, q⟩ := T.ex
  exact pd_tC (pe_glob hg e (v := v) r hd) q
/-- the name of a class, a def, as a value -/
theorem pd_glb {X : Cx} {W : WX} {x : Str} {C : Addr} {pos : Pos} (hm : X.mg x = some (.ref C)) (hc : ClsAt X.K x C) (hg : Gl X x := by rfl) (hd : (x == ("__debug__" : Str)) = false := by decide) : PE X (.Name x pos) (lE (kw X) W (rC (.glb x))) := pd_tC (pe_glob hg hm (v := .ref C) rfl hd) fun _ => .glb hc
def GlbF (K : PySem.W.Frag) (mg : Str → Option Value) (x : Str) : Prop := ∃ C, mg x = some (.ref C) ∧ ClsAt K x C
theorem glb_mk {K : PySem.W.Frag} {h : Heap} {mg : Str → Option Value} {x : Str} {C : Addr} (X : K.In h) (G : h.Ns mainGlobals mg) (a : PySem.W.nsIn K mainGlobals x = some (some (.ref C))) : GlbF K mg x := ⟨C, PySem.W.mg_of X G a, a⟩
theorem pd_gl {X : Cx} {W : WX} {x : Str} {pos : Pos} (T : GlbF X.K X.mg x) (hg : Gl X x := by rfl) (hd : (x == ("__debug__" : Str)) = false := by decide) : PE X (.Name x pos) (lE (kw X) W (rC (.glb x))) := let ⟨_, h1, h2⟩ := T; pd_glb h1 h2 hg hd
/-! ### defs with defaults -/
structure FunG (K : PySem.W.Frag) (x qual : Str) (st : Stmt) (dD : List D) (kD : List (Str × D)) (f : Addr) (fd : FuncData) : Prop where
  ex : ∃ dvs kws, FunD K x qual (defArgs st) (defBody st) (defScope st) dvs kws f fd ∧ (∀ H, RpL K H dvs dD) ∧ kws.map (·.1) = kD.map (·.1) ∧ ∀ H, RpL K H (kws.map (·.2)) (kD.map (·.2))
/-- the defaults as they stand: dV None or a tuple, kV None or a dict -/
def dflB (K : PySem.W.Frag) (dV : Value) (dD : List D) : Bool := match dD with
  | [] => match dV with
    | .none => true
    | _ => false
  | _ :: _ => match dV with
    | .ref T => match K.lookup T with
      | some o => match o.data with
        | .seq its _ => valsB K its.toList dD
        | _ => false
      | none => false
    | _ => false
def kwdB (K : PySem.W.Frag) (kV : Value) (kD : List (Str × D)) : Bool := match kD with
  | [] => true
  | _ :: _ => match kV with
    | .ref D => kD.all fun q => match PySem.W.nsIn K D q.1 with
      | some (some u) => valB K 3 u q.2
      | _ => false
    | _ => false
theorem dflB_ok {K : PySem.W.Frag} {dV : Value} {dD : List D} (h : dflB K dV dD = true) : ∃ dvs, DflV K dV dvs ∧ ∀ H, RpL K H dvs dD := by
  unfold dflB at h
  split at h
  · split at h
    · exact ⟨[], .inl ⟨rfl, rfl⟩, fun _ => .nil⟩
    · cases h
  · split at h
    · rename_i T
      split at h
      · rename_i o ho
        split at h
        · rename_i its nn hd
          obtain ⟨vs, r, q⟩ := valsB_ok h
          refine ⟨vs, .inr ⟨fun z => ?_, T, o, its.toList, nn, rfl, ho, by simpa using hd, r⟩, q⟩
          subst z
          have := q fun _ => none
          cases this
        · cases h
      · cases h
    · cases h
theorem kwds {K : PySem.W.Frag} {D' : Addr} : ∀ {kD : List (Str × D)}, (kD.all fun q => match PySem.W.nsIn K D' q.1 with | some (some u) => valB K 3 u q.2 | _ => false) = true →
    ∃ kws : List (Str × V), kws.map (·.1) = kD.map (·.1) ∧ (∀ H, RpL K H (kws.map (·.2)) (kD.map (·.2))) ∧ ∀ q ∈ kws, ∃ u, PySem.W.nsIn K D' q.1 = some (some u) ∧ RelV q.2 u
  | [], _ => ⟨[], rfl, fun _ => .nil, fun _ z => by cases z⟩
  | (x, d) :: kD, h => by
    rw [List.all_cons, Bool.and_eq_true] at h
    obtain ⟨h1, h2⟩ := h
    obtain ⟨kws, e1, e2, e3⟩ := kwds (kD := kD) h2
    dsimp only at h1
    split at h1
    · rename_i u hu
      obtain ⟨v, r, q⟩ := valB_ok _ h1
      refine ⟨(x, v) :: kws, by simp [e1], fun H => .cons (q H) (e2 H), fun z hz => ?_⟩
      rcases List.mem_cons.mp hz with rfl | hz
      · exact ⟨u, hu, r⟩
      · exact e3 z hz
    · cases h1
theorem kwdB_ok {K : PySem.W.Frag} {kV : Value} {kD : List (Str × D)} (h : kwdB K kV kD = true) : ∃ kws, KwdV K kV kws ∧ kws.map (·.1) = kD.map (·.1) ∧ ∀ H, RpL K H (kws.map (·.2)) (kD.map (·.2)) := by
  unfold kwdB at h
  split at h
  · exact ⟨[], .inl rfl, rfl, fun _ => .nil⟩
  · split at h
    · rename_i D'
      obtain ⟨kws, e1, e2, e3⟩ := kwds h
      exact ⟨kws, .inr ⟨D', rfl, e3⟩, e1, e2⟩
    · cases h
theorem funG_mk {K : PySem.W.Frag} {x qual : Str} {st : Stmt} {dD : List D} {kD : List (Str × D)} {f : Addr} {oc : Value} {od an : Option Addr} {osl : Array (Option Value)} {dV kV doc pm cdv ct : Value}
    (l : K.lookup f = some ⟨oc, od, .func (PySem.W.fnOf x qual (defArgs st) (defBody st) (defScope st) dV kV doc pm an cdv ct), osl⟩) (c : PySem.W.codeIn K cdv qual = true) (k : PySem.W.keepIn K (.ref f) = true) (hd : dflB K dV dD = true) (hk : kwdB K kV kD = true) :
    FunG K x qual st dD kD f (PySem.W.fnOf x qual (defArgs st) (defBody st) (defScope st) dV kV doc pm an cdv ct) := by
  obtain ⟨dvs, d1, d2⟩ := dflB_ok hd
  obtain ⟨kws, k1, k2, k3⟩ := kwdB_ok hk
  exact ⟨dvs, kws, ⟨⟨oc, od, dV, kV, doc, pm, an, cdv, ct, osl, rfl, l, c, d1, k1⟩, k⟩, d2, k2, k3⟩
/-! ### how a call binds: ix takes from positional values, keywords, defaults, keyword-only defaults, in that order -/
def BindT0 (x qual : Str) (st : Stmt) (ps : List Str) (n : Nat) (ks : List Str) (dn : Nat) (ix : List Nat) : Prop := ∀ (T : Addr) (kV doc pm : Value) (an : Option Addr) (cdv ct : Value) (us its ws : List Value), us.length = n → its.length = dn → ws.length = ks.length →
  ∃ k, bindArgs (PySem.W.fnOf x qual (defArgs st) (defBody st) (defScope st) (.ref T) kV doc pm an cdv ct) ⟨us, ks.zip ws⟩ = seqItems? (.ref T) >>= k ∧ k (some its.toArray) = pure (ps.zip (gI ix (us ++ ws) its))
section
variable {K : PySem.W.Frag} {x qual : Str} {st : Stmt} {ps ks ms : List Str} {n : Nat} {ix : List Nat} {f : Addr} {fd : FuncData} {dD : List D} {kD : List (Str × D)}
theorem gI_rp2 {H : Hp} {vs zs ws : List V} {ds es fs : List D} (ix : List Nat) (r1 : RpL K H vs ds) (r2 : RpL K H zs es) (r3 : RpL K H ws fs) : RpL K H (gI ix (vs ++ zs) ws) (gI ix (ds ++ es) fs) := gI_rp (r1.append r2) r3 ix
theorem kbd_T0 (G : FunG K x qual st dD kD f fd) (hne : dD ≠ []) (B : BindT0 x qual st ps n ks dD.length ix) : KBd K fd ps n ks fun ds es => gI ix (ds ++ es) dD := by
  obtain ⟨dvs, kws, F, d1, k1, k2⟩ := G.ex
  obtain ⟨oc, od, dV, kV, doc, pm, an, cdv, ct, osl, rfl, lk, hcd, hD, hK⟩ := F.ex
  have el : dvs.length = dD.length := (d1 fun _ => none).length
  rcases hD with ⟨rfl, _⟩ | ⟨_, T, o, its, m, rfl, lT, oT, rT⟩
  · exact absurd (List.eq_nil_of_length_eq_zero el.symm) hne
  · refine ⟨fun us ws => gI ix (us ++ ws) its, fun vs zs => gI ix (vs ++ zs) dvs, ⟨fun s us ws X l1 l2 => ?_, fun r1 r2 => gI_vals (r1.append r2) rT ix⟩, fun H vs ds zs es _ _ r1 r2 => gI_rp2 ix r1 r2 (d1 H)⟩
    obtain ⟨k, e1, e2⟩ := B T kV doc pm an cdv ct us its ws l1 (rT.length.symm.trans el) l2
    refine BindsTo.of_looks fun M => ?_
    rw [e1]
    exact looks_items X lT oT (.of_pure e2)
/-- the keyword-only ones that lack -/
theorem pick {kws : List (Str × V)} {kD : List (Str × D)} (e : kws.map (·.1) = kD.map (·.1)) (r : ∀ H, RpL K H (kws.map (·.2)) (kD.map (·.2))) : ∀ ms : List Str, (∀ y ∈ ms, (kD.lookup y).isSome = true) →
    ∃ mk : List (Str × V), mk.map (·.1) = ms ∧ (∀ q ∈ mk, q ∈ kws) ∧ ∀ H, RpL K H (mk.map (·.2)) (ms.map fun y => (kD.lookup y).getD .non)
  | [], _ => ⟨[], rfl, (fun _ z => by cases z), fun _ => .nil⟩
  | y :: ms, h => by
    obtain ⟨mk, e1, e2, e3⟩ := pick e r ms fun z hz => h z (List.mem_cons_of_mem _ hz)
    have hy := h y List.mem_cons_self
    cases hl : kD.lookup y with
    | none => rw [hl] at hy; cases hy
    | some d =>
      have mem : ∀ {kws : List (Str × V)} {v : V}, kws.lookup y = some v → (y, v) ∈ kws := by
        intro kws v
        induction kws with
        | nil => intro h; cases h
        | cons q kws ih =>
          obtain ⟨g, x⟩ := q
          intro h
          unfold List.lookup at h
          cases hb : y == g with
          | true => rw [hb] at h; cases h; have : y = g := by simpa using hb
                    rw [this]; exact List.mem_cons_self
          | false => rw [hb] at h; exact List.mem_cons_of_mem _ (ih h)
      obtain ⟨v, ev, _⟩ := lookup_rp e (r fun _ => none) hl
      refine ⟨(y, v) :: mk, by simp [e1], fun q hq => ?_, fun H => ?_⟩
      · rcases List.mem_cons.mp hq with rfl | hq
        · exact mem ev
        · exact e2 q hq
      · rw [List.map_cons, List.map_cons, hl]
        obtain ⟨v', ev', rv⟩ := lookup_rp e (r H) hl
        rw [ev] at ev'; cases ev'
        exact .cons rv (e3 H)
end
end DL
namespace DL
open PySem L2
/-! ### the arguments of a call, of whatever is called -/
structure Cal (X : Cx) (W : WX) (pos : Pos) (args : List Expr) (kws : List Keyword) (ks : List Str) (qs qk : DA) : Prop where
  run : ∀ (f : Value) (first : List Value) (pins : List (Addr × Obj)) (s : Shared) (σ : St) (H : Hp) (B : List V → List V → Hp → Prop) (Q : Value → Shared → Prop), PySem.W.keepIn X.K f = true → L2.Inv X pins σ H s →
    lA (kw X) W qs σ H (fun vs H1 => lA (kw X) W qk σ H1 (B vs)) →
    (∀ us ws vs zs s2 H2, L2.Inv X pins σ H2 s2 → Vals vs us → Vals zs ws → B vs zs H2 → wpAny (model X.prog X.w) X.A (call f (first ++ us) (ks.zip ws)) Q X.xe s2) →
    wpAny (model X.prog X.w) X.A (callWith pos f first (backTo pos (starEach args X.env)) (backToKw pos (keywordEach kws X.env))) Q X.xe s
section
variable {X : Cx} {W : WX} {a b c o : Expr} {ra rb rc ro : DE} {pos p apos : Pos} {e : Expr} {es args : List Expr} {kws : List Keyword} {qs qk : DA} {n f x : Str} {ks ps : List Str}
theorem cal_cons (ha : PA X (e :: es) (lA (kw X) W qs)) (hkw : PK X kws (lA (kw X) W qk)) (hall : (backToKw pos (keywordEach kws X.env)).all (·.1.isSome) = true := by rfl) (hks : (backToKw pos (keywordEach kws X.env)).filterMap (·.1) = ks := by rfl)
    (he : starEach (e :: es) X.env = (false, eval e X.env) :: starEach es X.env := by rfl) (hpl : ((backTo pos (starEach (e :: es) X.env)).any (·.1) || (backToKw pos (keywordEach kws X.env)).any (·.1.isNone)) = false := by rfl) : Cal X W pos (e :: es) kws ks qs qk := by
  refine ⟨fun f first pins s σ H B Q hk I h k => PySem.W.callWith_KW (h₀ := X.base) I.ok.mod.kin hk hall (thn (ha.run pos pins s σ H _ I h) fun us s1 hh => ?_) hpl he⟩
  obtain ⟨vs, H1, I1, r, q⟩ := hh
  refine thn (hkw.run pos pins s1 σ H1 _ I1 q) fun ws s2 hh2 => ?_
  obtain ⟨zs, H2, I2, rz, q2⟩ := hh2
  rw [hks]
  exact ⟨I2.kIn, k us ws vs zs s2 H2 I2 r rz q2⟩
/-- a call's values over data -/
def aCal (np nk : Nat) (qs qk : DA) (B : List D → List D → Mu → Prop) : DSt → Mu → DX → Prop := fun δ m PX => qs δ m (fun xs m1 => qk δ m1 (fun zs m2 => xs.length = np ∧ zs.length = nk ∧ B xs zs m2) PX) PX
theorem aCal_up {K : KW} {F H0 H : Hp} {m : Mu} {δ : DSt} {σ : St} {np nk : Nat} {B : List D → List D → Mu → Prop} {PX : DX} (ok : Ok K F H0 m H) (rs : RpS K H0 σ δ) (h : aCal np nk qs qk B δ m PX) (gx : GX K F H0 PX fun c xd H' => W c xd σ H')
    {C : List V → List V → Hp → Prop} (k : ∀ vs zs H' H0' m' ds es, Same H0 H0' → Ok K F H0' m' H' → RpL K H0' vs ds → RpL K H0' zs es → ds.length = np → es.length = nk → B ds es m' → C vs zs H') :
    lA K W qs σ H (fun vs H1 => lA K W qk σ H1 (C vs)) :=
  ⟨F, H0, m, δ, _, PX, ok, rs, h, fun vs H1 H01 m1 ds s1 ok1 r1 h1 => ⟨F, H01, m1, δ, _, PX, ok1, rs.mono s1, h1, fun zs H2 H02 m2 es s2 ok2 r2 h2 => k vs zs H2 H02 m2 ds es (s1.trans s2) ok2 (r1.mono s2) r2 h2.1 h2.2.1 h2.2.2, gx.mono s1⟩, gx⟩
/-! ### defs -/
/-- what makes an instance -/
def MkAt (K : PySem.W.Frag) (mg : Str → Option Value) (n qual : Str) (st : Stmt) (dD : List D) (kD : List (Str × D)) : Prop := ∃ C f fd, mg n = some (.ref C) ∧ ClsAt K n C ∧ Mk K C f ∧ FunG K "__init__" qual st dD kD f fd
structure MkG (P : Program) (w : World) (K : PySem.W.Frag) (mg : Str → Option Value) (base : Heap) (k : Nat) (n qual : Str) (st : Stmt) (ps : List Str) (dD : List D) (kD : List (Str × D)) (sp : SpD) : Prop where
  ex : ∃ C f fd, mg n = some (.ref C) ∧ ClsAt K n C ∧ Mk K C f ∧ FunG K "__init__" qual st dD kD f fd ∧ FnOk P w K mg base (L2.CX P w) k f fd ps (lP ⟨K, w⟩ sp)
end
section
variable {P : Program} {w : World} {K : PySem.W.Frag} {mg : Str → Option Value} {base : Heap}
theorem fn_okG {x qual : Str} {st : Stmt} {f : Addr} {fd : FuncData} {N ps : List Str} {k : Nat} {sp : SpD} {r : DS} {dD : List D} {kD : List (Str × D)} (G : FunG K x qual st dD kD f fd) (S : FnScope N ps (defScope st)) (hlen : ∀ ds m Q PX, sp ds m Q PX → ds.length = ps.length)
    (hd : ∀ (f : Addr) (cdv : Value) (A : Around) (outer : List Env) (s : Shared) (H : Hp) (E : XK), Room k (A.deeper (PyProof.Rows.envOfC qual (defScope st) s.heap.objs.size f cdv)) →
      PSs (cxOf (L2.CX P w) P w K mg base N qual (defScope st) f cdv A outer s H E) (defBody st) (lS ⟨K, w⟩ (fun c d _ H => E c d H) r))
    (hp : ∀ ds m Q PX, sp ds m Q PX → r (dEnds Q PX) (dstart N ds) m) : FnOk P w K mg base (L2.CX P w) (k + 1) f fd ps (lP ⟨K, w⟩ sp) := by
  obtain ⟨dvs, kws, F, _⟩ := G.ex
  refine F.ok S (fun vs H Q E h => ?_) (fun cdv A outer s H vs Q E hr h => ⟨_, hd f cdv A outer s H E hr, ?_⟩)
  · obtain ⟨F', H0, m, ds, Q', PX, ok, rl, h, _⟩ := h
    exact rl.length.trans (hlen _ _ _ _ h)
  · obtain ⟨F', H0, m, ds, Q', PX, ok, rl, h, g, gx⟩ := h
    exact ⟨F', H0, m, _, _, ok, rps_start rl, hp ds m Q' PX h, ⟨fun σ' H' H0' m' δ' s ok' _ z => g _ _ _ _ _ s ok' .non z, g, fun _ _ _ _ _ _ _ _ z => z.elim, fun _ _ _ _ _ _ _ _ z => z.elim, fun c xd σ' H' H0' m' fs δ' s ok' _ x z => gx c xd H' H0' m' fs s ok' x z⟩⟩
theorem mk_ok {n qual : Str} {st : Stmt} {N ps : List Str} {k : Nat} {sp : SpD} {r : DS} {dD : List D} {kD : List (Str × D)} (G : MkAt K mg n qual st dD kD) (S : FnScope N ps (defScope st)) (hlen : ∀ ds m Q PX, sp ds m Q PX → ds.length = ps.length)
    (hd : ∀ (f : Addr) (cdv : Value) (A : Around) (outer : List Env) (s : Shared) (H : Hp) (E : XK), Room k (A.deeper (PyProof.Rows.envOfC qual (defScope st) s.heap.objs.size f cdv)) →
      PSs (cxOf (L2.CX P w) P w K mg base N qual (defScope st) f cdv A outer s H E) (defBody st) (lS ⟨K, w⟩ (fun c d _ H => E c d H) r))
    (hp : ∀ ds m Q PX, sp ds m Q PX → r (dEnds Q PX) (dstart N ds) m) : MkG P w K mg base (k + 1) n qual st ps dD kD sp := by
  obtain ⟨C, f, fd, h1, h2, h3, G⟩ := G
  exact ⟨C, f, fd, h1, h2, h3, G, fn_okG G S hlen hd hp⟩
end
section
variable {X : Cx} {W : WX} {a b c o : Expr} {ra rb rc ro : DE} {pos p apos : Pos} {e : Expr} {es args : List Expr} {kws : List Keyword} {qs qk : DA} {n m f x qual : Str} {ks ps : List Str} {st : Stmt} {k np : Nat} {dD : List D} {kD : List (Str × D)} {sp : SpD} {gD : List D → List D → List D}
theorem FunG.kp {K : PySem.W.Frag} {x qual : Str} {st : Stmt} {dD : List D} {kD : List (Str × D)} {f : Addr} {fd : FuncData} (G : FunG K x qual st dD kD f fd) : PySem.W.keepIn K (.ref f) = true := let ⟨_, _, F, _⟩ := G.ex; F.kp
/-- the instance x becomes data -/
theorem Ok.seal {K : KW} {F H0 H : Hp} {m : Mu} {q : Addr} {n : Str} {fs : List (Str × D)} (ok : Ok K F H0 m H) (h : m q = some (.ins n fs)) : ∃ H0', Same H0 H0' ∧ Ok K F H0' (mdel m q) H ∧ Rp K H0' (.ref q) (.ins n fs) := by
  obtain ⟨h0, C, dx, fv, cA, hq, e, t⟩ := ok.cell q _ h
  have sn := same_new (o := HO.ins C dx fv) h0
  refine ⟨upd H0 q (.ins C dx fv), sn, ⟨fun b u z => ?_, fun b u z => ?_, fun b u z => ?_, fun P y l => have t := ok.tab P y l; t.step sn ((upd_ne (ok.neM l h)).trans t.h0) t.hF rfl⟩, .ins cA upd_same e (t.mono sn)⟩
  · by_cases hb : b = q
    · subst hb; rw [upd_same] at z; cases z; exact hq
    · rw [upd_ne hb] at z; exact ok.same b u z
  · unfold mdel at z
    by_cases hb : b = q
    · rw [if_pos hb] at z; cases z
    · rw [if_neg hb] at z
      obtain ⟨c1, c2⟩ := ok.cell b u z
      exact ⟨by rw [upd_ne hb]; exact c1, c2.mono sn rfl⟩
  · obtain ⟨c1, c2, c3⟩ := ok.fr b u z
    have hb : b ≠ q := fun w => by rw [w, h] at c3; cases c3
    exact ⟨c1, by rw [upd_ne hb]; exact c2, by unfold mdel; rw [if_neg hb]; exact c3⟩
theorem Ok.less {K : KW} {F H0 H : Hp} {m : Mu} (ok : Ok K F H0 m H) (q : Addr) : Ok K F H0 (mdel m q) H := ok.weak fun b u z => by
  unfold mdel at z
  split at z
  · cases z
  · exact z
theorem Ok.born {K : KW} {F H0 H : Hp} {m : Mu} {q dx C : Addr} {n : Str} (ok : Ok K F H0 m H) (hq : H q = none) (hd : H dx = none) (hne : dx ≠ q) (cA : ClsAt K n C) : Ok K F H0 (mset m q (.ins n [])) (upd (upd H dx (.own q)) q (.ins C dx [])) := by
  have ok1 : Ok K F H0 m (upd H dx (.own q)) := ⟨fun b u z => by rw [upd_ne (ne_of_none (ok.same b u z) hd)]; exact ok.same b u z, fun b u z => by
    obtain ⟨c1, c2⟩ := ok.cell b u z
    obtain ⟨y, hy⟩ := c2.some
    exact ⟨c1, c2.mono (Same.refl _) (upd_ne (ne_of_none hy hd))⟩, fun b u z => by
    obtain ⟨c1, c2, c3⟩ := ok.fr b u z
    exact ⟨by rw [upd_ne (ne_of_none c1 hd)]; exact c1, c2, c3⟩, fun P y l => have t := ok.tab P y l; t.step (fun _ _ z => z) t.h0 t.hF (upd_ne (t.ne_none hd))⟩
  exact ok1.newM (o := .ins n []) (by rw [upd_ne (Ne.symm hne)]; exact hq) ⟨C, dx, [], cA, upd_same, rfl, .nil⟩
theorem run_mk {pins : List (Addr × Obj)} {σ : St} {H : Hp} {s : Shared} {Q : VK} {E : XK} {C fI : Addr} {fd : FuncData} {gg : List Value → List Value → List Value} {gV : List V → List V → List V} {spH : Sp} {us ws : List Value} {vs zs : List V} (M : Mk X.K C fI) (G : FnOk X.prog X.w X.K X.mg X.base (L2.CX X.prog X.w) k fI fd ps spH) (hr : Room (k + 1) X.A)
    (hb : KBn X.K fd ps (np + 1) ks gg gV) (hx : PassesAt (L2.CX X.prog X.w) X σ E) (I : L2.Inv X pins σ H s) (r : Vals vs us) (rz : Vals zs ws) (l1 : vs.length = np) (l2 : zs.length = ks.length)
    (h : ∀ q dx, H q = none → H dx = none → dx ≠ q → spH (gV (.ref q :: vs) zs) (upd (upd H dx (.own q)) q (.ins C dx [])) (fun v H2 => v = .non ∧ Q (.ref q) H2) E) : wpAny (model X.prog X.w) X.A (call (.ref C) us (ks.zip ws)) (EP X pins σ Q) X.xe s := by
  have n1 := I.hok.fresh (Nat.le_succ s.heap.objs.size)
  have n2 := I.hok.fresh (Nat.le_refl s.heap.objs.size)
  have hne : s.heap.objs.size ≠ s.heap.objs.size + 1 := by omega
  have J := L2.Inv.made (C := C) I
  have rs : Vals (V.ref (s.heap.objs.size + 1) :: vs) (Value.ref (s.heap.objs.size + 1) :: us) := .cons rfl r
  have el : (Value.ref (s.heap.objs.size + 1) :: us).length = np + 1 := by rw [← rs.length]; simp [l1]
  have run := G.run _ X.stack _ _ ⟨Value.ref (s.heap.objs.size + 1) :: us, ks.zip ws⟩ _ _ _ E (hr.make C us (ks.zip ws)) (J.env0.make C us (ks.zip ws)) (hb.to _ _ ws J.kIn el (rz.length.symm.trans l2)) (hb.rel rs rz) (h _ _ n1 n2 hne)
  refine wpAny_call (make_map (f := fI) I.kIn M.makes M.init (beq_iff_eq.mp M.fn) (codeAny_mono run fun res s' hq => ?_))
  cases res with
  | error er => exact hx pins _ _ er s' J hq
  | ok fl => cases fl with
    | ret u =>
      obtain ⟨v, H', J', rv, ev, q⟩ := J.after hq
      subst ev
      exact ⟨rv, .ref (s.heap.objs.size + 1), H', J', rfl, q⟩
    | _ => exact False.elim hq
/-- C(..), the new instance data from then on -/
def rMk (n : Str) (sp : SpD) (np nk : Nat) (gD : List D → List D → List D) (qs qk : DA) : DE := fun δ m P PX => aCal np nk qs qk (fun xs zs m2 => ∀ q, m2 q = none → sp (gD (.adr q :: xs) zs) (mset m2 q (.ins n []))
  (fun v m3 => v = .non ∧ ∃ fs, m3 q = some (.ins n fs) ∧ P (.ins n fs) (mdel m3 q)) fun c fs m3 => PX c fs (mdel m3 q)) δ m PX
theorem mk_core {Pf : Addr → DK → DK} (hPf : ∀ F H0 m H q v d P Q, Ok (kw X) F H0 m H → Rp X.K H0 v d → Pf q P d m → GV (kw X) F H0 P Q → v = .non ∧ Q (.ref q) H) (G : MkG X.prog X.w X.K X.mg X.base k n qual st ps dD kD sp) (B : ∀ f fd, FunG X.K "__init__" qual st dD kD f fd → KBd X.K fd ps (np + 1) ks gD) (hr : Room (k + 1) X.A) (tk : Takes X W) (ca : Cal X W pos args kws ks qs qk) (hg : Gl X n) (hdb : (n == ("__debug__" : Str)) = false) :
    PE X (.Call (.Name n p) args kws pos) (lE (kw X) W fun δ m P PX => aCal np ks.length qs qk (fun xs zs m2 => ∀ q, m2 q = none → sp (gD (.adr q :: xs) zs) (mset m2 q (.ins n [])) (Pf q P) fun c fs m3 => PX c fs (mdel m3 q)) δ m PX) := by
  obtain ⟨C, fI, fd, hm, cA, M, G1, G2⟩ := G.ex
  obtain ⟨gg, gV, hb, hR⟩ := (B fI fd G1).ex
  refine ⟨fun pins s σ H Q I h => ?_⟩
  obtain ⟨F, H0, m, δ, P, PX, ok, rs, h, g, gx⟩ := h
  refine wpAny_Call_Name_kw (ld_glob I hg hm ?_ hdb)
  refine ca.run (.ref C) [] pins s σ H (fun vs zs H2 => vs.length = np ∧ zs.length = ks.length ∧ ∀ q dx, H2 q = none → H2 dx = none → dx ≠ q → lP (kw X) sp (gV (.ref q :: vs) zs) (upd (upd H2 dx (.own q)) q (.ins C dx [])) (fun v H3 => v = .non ∧ Q (.ref q) H3) (WE W σ)) _ M.kp I (aCal_up ok rs h gx fun vs zs H' H0' m' ds es s1 ok1 r1 r2 l1 l2 h1 => ?_) fun us ws vs zs s2 H2 I2 r rz q => ?_
  · have e1 := r1.length.trans l1
    have e2 := r2.length.trans l2
    refine ⟨e1, e2, fun q dx hq hdx hne => ⟨F, H0', _, _, Pf q P, fun c fs m3 => PX c fs (mdel m3 q), ok1.born hq hdx hne cA, hR _ _ _ _ _ (by simp [e1]) e2 (.cons (.adr q) r1) r2, h1 q (ok1.free hq).2, fun v H3 H03 m3 d s3 ok3 r3 h3 => ?_, fun cc xd H3 H03 m3 fs s3 ok3 x z => (gx.mono s1) cc xd H3 H03 _ fs s3 (ok3.less q) x z⟩⟩
    exact hPf F H03 m3 H3 q v d P Q ok3 r3 h3 (g.mono (s1.trans s3))
  · exact run_mk M G2 hr hb (passAt tk σ) I2 r rz q.1 q.2.1 q.2.2
theorem pd_mk (G : MkG X.prog X.w X.K X.mg X.base k n qual st ps dD kD sp) (B : ∀ f fd, FunG X.K "__init__" qual st dD kD f fd → KBd X.K fd ps (np + 1) ks gD) (hr : Room (k + 1) X.A) (tk : Takes X W) (ca : Cal X W pos args kws ks qs qk) (hg : Gl X n := by rfl) (hdb : (n == ("__debug__" : Str)) = false := by decide) :
    PE X (.Call (.Name n p) args kws pos) (lE (kw X) W (rMk n sp np ks.length gD qs qk)) :=
  mk_core (Pf := fun q P v m3 => v = .non ∧ ∃ fs, m3 q = some (.ins n fs) ∧ P (.ins n fs) (mdel m3 q)) (fun F H0 m H q v d P Q ok r h g => by
    obtain ⟨rfl, fs, e, h⟩ := h
    cases r
    obtain ⟨H0', s, ok', r'⟩ := ok.seal e
    exact ⟨rfl, g _ _ _ _ _ s ok' r' h⟩) G B hr tk ca hg hdb
end
end DL
/-! ### isinstance of an exception that has fields -/
namespace DLX
open PySem PySem.W PySem.Spec PySem.Calls PyProof.Rows
section
variable {P : Program} {w : World} {A : Around} {E : Value → Shared → Prop} {s : Shared} {K : Frag} {q C : Addr} {oq od : Obj}
theorem class_of {R : Option Value → Shared → Prop} (T : L2.ExcC K C) (X : K.In s.heap) (J : InstAt s.heap q oq C (some od)) (h : R (some (.ref C)) { s with toks := s.toks + 1 }) : wpAny (model P w) A (getAttr? (.ref q) "__class__") R E s := by
  have ic : (clsIn K C).isSome = true := by
    obtain ⟨cd, hc, _⟩ := any_some T.hd
    rw [hc]
    rfl
  have found : findObj K C (some od) "__class__" = some (.bind (.builtin "getset_descriptor.__get__") (.builtin "object.__class__")) := findObj_data ic T.ha T.hn T.ht
  obtain ⟨hp, g, d, t, os⟩ := s
  have ty := J.type (M := model P w)
  have ga := looks_findIn (M := model P w) X T.hg
  have gt := looks_findIn (M := model P w) X T.hk
  have fo := looks_find (M := model P w) X J found
  have isx : Looks (model P w) hp (isInstance (.ref q) (.type "BaseException")) true := ty.andThen (looks_subIn X T.hs)
  have n0 : (false && onTheHeap (Value.builtin "BaseException.__getattribute__")) = false := rfl
  have n1 : (onTheHeap (Value.ref C) && Value.builtin "BaseException.__getattribute__" == Value.builtin "object.__getattribute__") = false := by
    rw [show (Value.builtin "BaseException.__getattribute__" == Value.builtin "object.__getattribute__") = false by decide +kernel]; rfl
  unfold getAttr? getAttrBy? getAttrBy
  refine wpAny_bind (wpAny_mkText ?_)
  refine wpAny_bind (wpAny_attempt (wpAny_holding ?_))
  refine wpAny_bind (ty.at ?_)
  refine wpAny_bind (ga.at ?_)
  show wpAny _ _ (if (onTheHeap (Value.ref C) && Value.builtin "BaseException.__getattribute__" == Value.builtin "object.__getattribute__") = true then _ else _) _ _ _
  rw [n1, if_neg (by decide)]
  unfold getAttrByItsOwn hookBefore
  refine wpAny_bind ?_
  rw [if_pos (show onTheHeap (Value.ref C) = true from rfl)]
  refine gt.at (wpAny_bind (wpAny_attempt (wpAny_holding ?_)))
  unfold callGetattribute
  rw [n0, if_neg (by decide)]
  unfold boundAndCalled
  rw [PySem.F.excAttr_ValueError.ga.bind (.ref q)]
  refine wpAny_bind (wpAny_pure ?_)
  show wpAny _ _ (call (.builtin "BaseException.__getattribute__") [.ref q, .str "__class__" t]) _ _ _
  refine wpAny_call (codeAny_call_builtin PySem.F.excAttr_ValueError.ga.plain PySem.F.entry_bexc_ga ?_)
  refine @check_slot (model P w) _ _ ⟨hp, g, d, t + 1, os⟩ "BaseException.__getattribute__" "BaseException" "__getattribute__" (.ref q) [.str "__class__" t] [] _ (by decide +kernel) (by decide +kernel) isx (PySem.F.args_bexc_ga (.ref q) (.str "__class__" t)) ?_
  unfold Builtin.«object.__getattribute__»
  refine wpAny_bind (wpAny_of_eq (a := ((Value.ref q : Value), [Value.str "__class__" t])) (by first | rfl | (simp only [slotArgs]; rfl)) ?_)
  refine wpAny_bind (wpAny_pure ?_)
  refine wpAny_bind (ty.at ?_)
  refine wpAny_bind (fo.at ?_)
  show wpAny _ _ (holding [Value.builtin "object.__class__"] (call (.builtin "getset_descriptor.__get__") [.builtin "object.__class__", .ref q, .ref C]) >>= ret) _ _ _
  refine wpAny_bind (wpAny_holding (wpAny_call (class_get (s := ⟨hp, g, d, t + 1, os⟩) (ox := oq) (od := some od) X J T.hm ?_)))
  refine wpAny_pure ?_
  show wpAny _ _ (handedOut (.ref C)) _ _ _
  rw [handedOut_of (v := .ref C) rfl]
  first
    | exact wpAny_pure (wpAny_pure h)
    | exact wpAny_pure h
    | exact wpAny_pure (wpAny_bind (wpAny_pure (wpAny_pure h)))
theorem kitx_xd (T : L2.ExcC K C) : KitX K (.ref q) (.ref C) (fun h => InstAt h q oq C (some od)) where
  ty := fun _ _ _ J => J.type
  it := fun _ _ X _ => by
    obtain ⟨cd, hc, _⟩ := any_some T.hd
    unfold clsIn at hc
    split at hc
    · rename_i c1 d1 cd1 sl1 ho
      intro A1 Q1 E1 s1 k q1
      unfold isType loadHead
      refine wpAny_bind (wpAny_loadPart (k _ _ (X _ _ ho)) ?_)
      exact wpAny_pure q1
    · cases hc
  ne := fun h tp dd its n sl X htp => by
    obtain ⟨cd, hc, _⟩ := any_some T.hd
    refine Bool.eq_false_iff.mpr fun z => ?_
    obtain rfl : C = tp := Value.ref.inj (beq_iff_eq.mp z)
    unfold clsIn at hc
    split at hc
    · rename_i c1 d1 cd1 sl1 ho
      have := (X _ _ ho).symm.trans htp
      cases this
    · cases hc
  ca := fun X J k => class_of T X J k
end
end DLX
namespace DL
open PySem L2
/-! ### the kinds of refusals of the program -/
def exNames : List Str := ["TrialError", "BadLook", "BadAsk", "BadWish", "BadPlan", "BadRule", "BadRooms", "BadTrial", "NoRow", "TooMany", "TooLong", "TooDeep", "Barred", "BadText", "NoAnswer", "NoName"]
/-- is the class n under the class c -/
def exSub (n c : Str) : Bool := n == c || (if n == "NoAnswer" then c == "LookupError" else if n == "NoName" then c == "KeyError" || c == "LookupError" else c == "TrialError" || c == "ValueError") || c == "Exception" || c == "BaseException" || c == "object"
/-- what an except clause of the class c, at cv, catches -/
structure ExF (K : PySem.W.Frag) (c : Str) (cv : Value) : Prop where
  ok : ∀ n ∈ exNames, ∀ C, ClsAt K n C → PySem.W.exmOne K (.ref C) cv = some (exSub n c)
def exB (K : PySem.W.Frag) (c : Str) (cv : Value) : Bool := exNames.all fun n => match clsAddr K n with
  | none => true
  | some C => decide (PySem.W.exmOne K (.ref C) cv = some (exSub n c))
theorem exB_ok {K : PySem.W.Frag} {c : Str} {cv : Value} (h : exB K c cv = true) : ExF K c cv := ⟨fun n hn C hC => by
  have := List.all_eq_true.mp h n hn
  rw [hC.addr] at this
  exact of_decide_eq_true this⟩
/-- the name x of an except clause: a class of the text or a built-in one -/
def ExAt (K : PySem.W.Frag) (mg : Str → Option Value) (x : Str) : Prop := ∃ cv, (mg x = some cv ∨ (mg x = none ∧ bootBuiltins x = some cv ∧ x ≠ "__name__")) ∧ ExF K x cv
theorem exAt_own {K : PySem.W.Frag} {h : Heap} {mg : Str → Option Value} {x : Str} {C : Addr} (X : K.In h) (G : h.Ns mainGlobals mg) (a : PySem.W.nsIn K mainGlobals x = some (some (.ref C))) (b : exB K x (.ref C) = true) : ExAt K mg x := ⟨.ref C, .inl (PySem.W.mg_of X G a), exB_ok b⟩
/-- fields and isinstance of exceptions, for those of the text -/
structure XcK (K : PySem.W.Frag) (C : Addr) : Prop where
  xf : XfC K C
  ec : ExcC K C
def xckB (K : PySem.W.Frag) (C : Addr) : Bool := xfB K C && decide (PySem.W.findIn K (.ref C) "__getattribute__" = some (some (.builtin "BaseException.__getattribute__"))) && decide (PySem.W.findIn K (.ref C) "__getattr__" = some none) && decide (PySem.W.subIn K (.ref C) (.type "BaseException") = some true) && PySem.W.hasDictIn K C &&
  decide (PySem.W.findIn K (.ref C) "__class__" = some (some (.builtin "object.__class__"))) && decide (PySem.W.specialIn K (.builtin "object.__class__") "__get__" = some (some (.builtin "getset_descriptor.__get__"))) && decide (PySem.W.takesIn K (.builtin "object.__class__") = some true) && decide (PySem.W.mroIn K C (.type "object") = some true)
theorem xckB_ok {K : PySem.W.Frag} {C : Addr} (h : xckB K C = true) : XcK K C := by
  simp only [xckB, Bool.and_eq_true, decide_eq_true_eq] at h
  exact ⟨xfB_ok h.1.1.1.1.1.1.1.1, ⟨h.1.1.1.1.1.1.1.2, h.1.1.1.1.1.1.2, h.1.1.1.1.1.2, h.1.1.1.1.2, h.1.1.1.2, h.1.1.2, h.1.2, h.2⟩⟩
structure XcF (K : PySem.W.Frag) : Prop where
  ok : ∀ n ∈ exNames, ∀ C, ClsAt K n C → XcK K C
def xcB (K : PySem.W.Frag) : Bool := exNames.all fun n => match clsAddr K n with
  | none => true
  | some C => xckB K C
theorem xcB_ok {K : PySem.W.Frag} (h : xcB K = true) : XcF K := ⟨fun n hn C hC => by
  have := List.all_eq_true.mp h n hn
  rw [hC.addr] at this
  exact xckB_ok this⟩
section
variable {X : Cx} {W : WX} {a : Addr} {oe : Obj} {cls : Value} {d : Option Addr} {pn : List (Addr × Obj)} {e : Expr} {ra : DE} {pos p : Pos} {f x : Str} {es : List Expr} {qs : DA}
/-- e.f in a suite -/
structure XnF (K : PySem.W.Frag) (f : Str) : Prop where
  ok : ∀ n ∈ exNames, ∀ C, ClsAt K n C → PySem.W.findIn K (.ref C) f = some none
def xnB (K : PySem.W.Frag) (f : Str) : Bool := exNames.all fun n => match clsAddr K n with
  | none => true
  | some C => decide (PySem.W.findIn K (.ref C) f = some none)
theorem xnB_ok {K : PySem.W.Frag} {f : Str} (h : xnB K f = true) : XnF K f := ⟨fun n hn C hC => by
  have := List.all_eq_true.mp h n hn
  rw [hC.addr] at this
  exact of_decide_eq_true this⟩
def rXf (a : Addr) (cls : Value) (d : Option Addr) (f : Str) (ra : DE) : DE := fun δ m P PX => ra δ m (fun y m1 => match y with
  | .exc a' C dd n fs => (a' = a ∧ cls = .ref C ∧ d = some dd ∧ n ∈ exNames) ∧ match fs.lookup f with
    | some v => P v m1
    | none => False
  | _ => False) PX
theorem pd_xf (T : XcF X.K) (T2 : XnF X.K f) (hz : Zc cls d oe) (hf : ∃ vs, oe.data = .fields vs) (he : PE (X.suite a ((a, oe) :: pn)) e (lE (kw X) W ra)) (hb : attributeBase e f X.env (eval e X.env) = eval e X.env := by rfl) :
    PE (X.suite a ((a, oe) :: pn)) (.Attribute e f pos) (lE (kw X) W (rXf a cls d f ra)) := by
  refine ⟨fun pins s σ H Q I h => ?_⟩
  by_cases hC : ∃ C n, cls = .ref C ∧ n ∈ exNames ∧ ClsAt X.K n C
  · obtain ⟨C, n, e1, hn, hA⟩ := hC
    refine (pe_xf (T.ok n hn C hA).xf (T2.ok n hn C hA) hz hf he hb).run pins s σ H Q I ?_
    obtain ⟨F, H0, m, δ, P, PX, ok, rs, h, g, gx⟩ := h
    refine ⟨F, H0, m, δ, _, PX, ok, rs, h, fun v H1 H01 m1 dd s1 ok1 r1 h1 => ?_, gx⟩
    dsimp only at h1
    split at h1
    · obtain ⟨⟨rfl, e2, e3, _⟩, h1⟩ := h1
      split at h1
      · rename_i v' e4
        cases r1 with
        | exc c hq e5 t =>
          obtain ⟨y, e6, ry⟩ := lookup_rp e5 t e4
          exact ⟨rfl, e1, _, _, y, e3, ok1.same _ _ hq, e6, g _ _ _ _ _ s1 ok1 ry h1⟩
      · exact h1.elim
    · exact h1.elim
  · obtain ⟨F, H0, m, δ, P, PX, ok, rs, h, g, gx⟩ := h
    refine attr_of hb (thn (he.run pins s σ H (fun _ _ => False) I ⟨F, H0, m, δ, _, PX, ok, rs, h, fun v H1 H01 m1 dd s1 ok1 r1 h1 => ?_, gx⟩) fun u s1 hh => ?_)
    · dsimp only at h1
      split at h1
      · obtain ⟨⟨rfl, e2, e3, hn⟩, h1⟩ := h1
        cases r1 with
        | exc c hq e5 t => exact hC ⟨_, _, e2, hn, c⟩
      · exact h1.elim
    · obtain ⟨_, _, _, _, z⟩ := hh
      exact z.elim
/-- isinstance(e, c) in a suite, c a class or some of them -/
def exTys : List String := ["ValueError", "LookupError", "KeyError", "ZeroDivisionError"]
structure XiF (K : PySem.W.Frag) : Prop where
  own : ∀ n ∈ exNames, ∀ C, ClsAt K n C → ∀ k ∈ exNames, ∀ C', ClsAt K k C' → PySem.W.kitOne K (.ref C) (.ref C') = some (exSub n k)
  ty : ∀ n ∈ exNames, ∀ C, ClsAt K n C → ∀ k ∈ exTys, PySem.W.kitOne K (.ref C) (.type k) = some (exSub n (Str.ofString k))
def xiB (K : PySem.W.Frag) : Bool := exNames.all fun n => match clsAddr K n with
  | none => true
  | some C => (exNames.all fun k => match clsAddr K k with
    | none => true
    | some C' => decide (PySem.W.kitOne K (.ref C) (.ref C') = some (exSub n k))) && exTys.all fun k => decide (PySem.W.kitOne K (.ref C) (.type k) = some (exSub n (Str.ofString k)))
theorem xiB_ok {K : PySem.W.Frag} (h : xiB K = true) : XiF K := by
  refine ⟨fun n hn C hC k hk C' hC' => ?_, fun n hn C hC k hk => ?_⟩
  · have := List.all_eq_true.mp h n hn
    rw [hC.addr] at this
    simp only [Bool.and_eq_true] at this
    have := List.all_eq_true.mp this.1 k hk
    rw [hC'.addr] at this
    exact of_decide_eq_true this
  · have := List.all_eq_true.mp h n hn
    rw [hC.addr] at this
    simp only [Bool.and_eq_true] at this
    exact of_decide_eq_true (List.all_eq_true.mp this.2 k hk)
def isX1 (n : Str) : D → Option Bool
  | .glb k => if k ∈ exNames then some (exSub n k) else none
  | .ty k => if k ∈ exTys then some (exSub n (Str.ofString k)) else none
  | _ => none
def isXs (n : Str) : List D → Option Bool
  | [] => some false
  | d :: r => match isX1 n d, isXs n r with
    | some b, some c => some (b || c)
    | _, _ => none
theorem isX1_ok {K : PySem.W.Frag} {H : Hp} (T : XiF K) {n : Str} {C : Addr} (hn : n ∈ exNames) (hC : ClsAt K n C) {v : V} {c : D} {b : Bool} {u : Value} (r : Rp K H v c) (h : isX1 n c = some b) (ru : RelV v u) : PySem.W.kitOne K (.ref C) u = some b := by
  unfold isX1 at h
  split at h
  · split at h
    · rename_i hk
      cases h
      cases r with
      | glb z => cases (show u = Value.ref _ from ru); exact T.own n hn C hC _ hk _ z
    · cases h
  · split at h
    · rename_i hk
      cases h
      cases r
      cases (show u = Value.type _ from ru)
      exact T.ty n hn C hC _ hk
    · cases h
  · cases h
theorem isXs_ok {K : PySem.W.Frag} {H : Hp} (T : XiF K) {n : Str} {C : Addr} (hn : n ∈ exNames) (hC : ClsAt K n C) : ∀ {vs : List V} {cs : List D} {b : Bool} {us : List Value}, RpL K H vs cs → isXs n cs = some b → Vals vs us → PySem.W.kitAny K (.ref C) us = some b
  | _, _, _, _, .nil, h, .nil => by cases h; rfl
  | _, _, b, _, .cons r1 r2, h, .cons u1 u2 => by
    unfold isXs at h
    split at h
    · rename_i b1 b2 e1 e2
      cases h
      have h1 := isX1_ok T hn hC r1 e1 u1
      have h2 := isXs_ok T hn hC r2 e2 u2
      unfold PySem.W.kitAny
      rw [h1]
      cases b1
      · simpa using h2
      · rfl
    · cases h
def cIsX (a : Addr) (cls : Value) (d : Option Addr) : DC := fun xs m P => match xs with
  | [.exc a' C dd n fs, c] => (a' = a ∧ cls = .ref C ∧ d = some dd ∧ n ∈ exNames) ∧ match (match c with | .tup ds => isXs n ds | c => isX1 n c) with
    | some b => P (.bl b) m
    | none => False
  | _ => False
theorem pd_isX {e1 e2 : Expr} (T : XcF X.K) (T2 : XiF X.K) (hz : Zc cls d oe) (hf : ∃ vs, oe.data = .fields vs) (hm : X.mg "isinstance" = none) (hv : bootBuiltins "isinstance" = some (.builtin "isinstance")) (ha : PA (X.suite a ((a, oe) :: pn)) [e1, e2] (lA (kw X) W qs)) (hg : Gl (X.suite a ((a, oe) :: pn)) "isinstance" := by rfl)
    (he : starEach [e1, e2] X.env = (false, eval e1 X.env) :: starEach [e2] X.env := by rfl) (hpl : (backTo pos (starEach [e2] X.env)).any (·.1) = false := by rfl) : PE (X.suite a ((a, oe) :: pn)) (.Call (.Name "isinstance" p) [e1, e2] [] pos) (lE (kw X) W (rCB (cIsX a cls d) qs)) := by
  have cr : CallR (X.suite a ((a, oe) :: pn)) (.builtin "isinstance") (fun vs H Q => ∃ (v : V) (b : Bool) (C : Addr) (n : Str), vs = [.ref a, v] ∧ cls = .ref C ∧ n ∈ exNames ∧ ClsAt X.K n C ∧ (∃ dd fv, d = some dd ∧ H dd = some (.xd fv)) ∧
      ((∀ u, RelV v u → PySem.W.kitOne X.K (.ref C) u = some b) ∨ ∃ tp ws, v = .ref tp ∧ SqT X.K H tp ws ∧ ∀ us, Vals ws us → PySem.W.kitAny X.K (.ref C) us = some b) ∧ Q (.bl b) H) := by
    intro pins s σ H xs us Q I r h
    obtain ⟨v, b, C, n, rfl, rfl, hn, hA, ⟨dd, fv, rfl, hd⟩, hk, q⟩ := h
    obtain ⟨hget, _⟩ := I.pin (a, oe) (List.mem_append.mpr (.inl List.mem_cons_self))
    obtain ⟨vs, hvs⟩ := hf
    obtain ⟨mA, hns, _⟩ : ObjOk X.prog X.w H s.heap dd (.xd fv) := I.hok dd _ hd
    obtain ⟨od, ho, _⟩ := lookIn_ns hns
    have J : PySem.W.InstAt s.heap a oe C (some od) := ⟨hget, hz.1, by unfold PySem.W.notCls; rw [hvs] <;> rfl, by rw [hz.2]; exact ho⟩
    have Z := DLX.kitx_xd (K := X.K) (q := a) (oq := oe) (od := od) (T.ok n hn C hA).ec
    cases r with
    | cons rx rr =>
      cases rr with
      | cons rt rr =>
        cases rr
        cases rx
        rcases hk with hk | ⟨tp, ws, rfl, ht, hk⟩
        · exact PySem.W.kia_one Z I.kIn J (hk _ rt) (fun z => nomatch z) fun tk => ⟨.bl b, H, I.kept (t' := tk) fun _ _ z => z, rfl, q⟩
        · cases rt
          obtain ⟨its, rv, ⟨o, h1, h2, nn, h3⟩, _⟩ := I.tuple ht
          have hk2 := hk its rv
          obtain ⟨oc, od', dt, sl⟩ := o
          simp only at h2 h3
          subst h2 h3
          exact PySem.W.kia_tup Z I.kIn J h1 hk2 (fun z => nomatch z) fun tk => ⟨.bl b, H, I.kept (t' := tk) fun _ _ z => z, rfl, q⟩
  refine pd_callB cr (fun F H0 m H vs ds P Q ok r h g => ?_) hm hv ha hg (by decide) (by decide) he hpl
  unfold cIsX at h
  split at h
  · rename_i a' C dd n fs c
    obtain ⟨⟨rfl, e2, e3, hn⟩, h⟩ := h
    obtain ⟨v, w, rfl, q1, q2⟩ := r.two
    cases q1 with
    | exc hA hq e5 t =>
      split at h
      · rename_i b eb
        refine ⟨w, b, C, n, rfl, e2, hn, hA, ⟨dd, _, e3, ok.same _ _ hq⟩, ?_, g.id ok (.bl _) h⟩
        split at eb
        · obtain ⟨tp, ws, rfl, ht, rw'⟩ := tup_rp ok q2
          exact .inr ⟨tp, ws, rfl, ht, fun us hu => isXs_ok T2 hn hA rw' eb hu⟩
        · exact .inl fun u hu => isX1_ok T2 hn hA q2 eb hu
      · exact h.elim
  · exact h.elim
end
/-! ### raise -/
/-- what the text says of a refusal's class whose __init__ is TrialError's own -/
def oexB (K : PySem.W.Frag) (C : Addr) : Bool := decide (PySem.W.findIn K (.ref C) "__setattr__" = some (some (.builtin "object.__setattr__"))) && decide (PySem.W.subIn K (.ref C) (.type "BaseException") = some true) && decide (PySem.W.typeIn K (.ref C) = some (.type "type")) && PySem.W.keepIn K (.ref C) &&
  match K.lookup C with
  | some ⟨.type "type", _, .cls cd, sl⟩ => match cd.mro, sl.toList with
    | .ref C' :: bm, [_, _, _, _, some (.builtin n), _] => C' == C && n == "ValueError.__new__" && !cd.hasDel && cd.hasDict && PySem.HandSPX.refsVE bm
    | _, _ => false
  | _ => false
theorem oexB_ok {K : PySem.W.Frag} {C : Addr} (h : oexB K C = true) : OexC K C := by
  simp only [oexB, Bool.and_eq_true, decide_eq_true_eq] at h
  obtain ⟨⟨⟨⟨h1, h2⟩, h3⟩, h4⟩, h5⟩ := h
  refine ⟨?_, h1, h2, h3, h4⟩
  split at h5
  · rename_i dd cd sl ho
    split at h5
    · rename_i C' bm k0 k1 k2 k3 n k5 hm hs
      simp only [Bool.and_eq_true, beq_iff_eq, Bool.not_eq_true'] at h5
      obtain ⟨⟨⟨⟨rfl, rfl⟩, hdel⟩, hdi⟩, hr⟩ := h5
      obtain ⟨nm, bs, mro, ns, qn, hd, sn, sub, ab, col, del⟩ := cd
      dsimp only at hm hdel hdi
      subst hm hdel hdi
      obtain ⟨l⟩ := sl
      simp only at hs
      subst hs
      exact ⟨nm, qn, ns, bs, bm, sn, sub, ab, col, dd, k0, k1, k2, k3, k5, ho, hr⟩
    · cases h5
  · cases h5
def spTE (K : PySem.W.Frag) : Sp := fun vs H Q _ => ∃ (a C : Addr) (y : V), vs = [.ref a, y] ∧ OexC K C ∧ PySem.W.findIn K (.ref C) "why" = some none ∧ H a = some (exo a C none) ∧ ∀ dx, H dx = none → dx ≠ a → Q .non (upd (upd H dx (exd dx [("why", y)])) a (exo a C (some dx)))
/-- the refusal n, its class at C, made by the __init__ at fI -/
structure XMk (P : Program) (w : World) (K : PySem.W.Frag) (mg : Str → Option Value) (base : Heap) (k : Nat) (n : Str) (ps : List Str) (spX : PySem.W.Frag → Sp) (B : FuncData → Prop) : Prop where
  ex : ∃ C fI fd, mg n = some (.ref C) ∧ ClsAt K n C ∧ OexC K C ∧ PySem.W.findIn K (.ref C) "__init__" = some (some (.ref fI)) ∧ PySem.W.typeIn K (.ref fI) = some (.type "function") ∧ PySem.W.findIn K (.ref C) "why" = some none ∧ B fd ∧ FnOk P w K mg base (L2.CX P w) k fI fd ps (spX K)
theorem Ok.xd {K : KW} {F H0 H : Hp} {m : Mu} {q dx C : Addr} {fs : List (Str × V)} (ok : Ok K F H0 m H) (hq : H q = none) (hd : H dx = none) (hne : dx ≠ q) :
    upd (del (upd (upd (upd H q (exo q C none)) dx (exd dx fs)) q (exo q C (some dx))) q) dx (.xd fs) = upd H dx (.xd fs) := by
  funext b
  by_cases h1 : b = dx
  · subst h1; rw [upd_same, upd_same]
  · rw [upd_ne h1, upd_ne h1]
    by_cases h2 : b = q
    · subst h2; rw [del_same, hq]
    · rw [del_ne h2, upd_ne h2, upd_ne h1, upd_ne h2]
theorem no_cx {P : Program} {w : World} {outer : List Env} {H : Hp} {s : Shared} {e : Value} {s' : Shared} (h : L2.CX P w outer H s (fun _ _ _ => False) e s') : False := by
  obtain ⟨_, _, _, _, _, _, _, _, _, _, _, _, z⟩ := h
  exact z
section
variable {X : Cx} {W : WX} {e : Expr} {ra : DE} {pos p rp : Pos} {n : Str} {k : Nat} {ps : List Str} {qs : DA}
def sRaise (n : Str) (qs : DA) : DS := fun DD δ m => qs δ m (fun vs m1 => match vs with
  | [v] => DD.xx n [("why", v)] δ m1
  | _ => False) fun c fs m1 => DD.xx c fs δ m1
theorem ds_raise {Bd : FuncData → Prop} (hc : X.calm = true) (T : XMk X.prog X.w X.K X.mg X.base k n ps spTE Bd) (hb : ∀ fd, Bd fd → Binds X.K fd ps []) (hr : Room (k + 1) X.A) (tk : Takes X W) (ha : PA X [e] (lA (kw X) W qs)) (hg : Gl X n := by rfl) (hdb : (n == ("__debug__" : Str)) = false := by decide)
    (he : starEach [e] X.env = (false, eval e X.env) :: starEach [] X.env := by rfl) (hpl : (backTo pos (starEach [] X.env)).any (·.1) = false := by rfl) :
    PS X (.Raise (some (.Call (.Name n p) [e] [] pos)) none rp) (lS (kw X) W (sRaise n qs)) := by
  obtain ⟨C, fI, fd, hm, hA, oC, iC, tI, wC, hB, G⟩ := T.ex
  refine PS.imp (ps_raise hc tk (pmk_oex oC iC tI G hr (hb fd hB) .nil (fun pins σ H s e s' I c => (no_cx c).elim) hg hm ha hdb he hpl)) fun Dn σ H h => ?_
  obtain ⟨F, H0, m, δ, DD, ok, rs, h, g⟩ := h
  refine ⟨F, H0, m, δ, _, _, ok, rs, h, fun vs H1 H01 m1 ds s1 ok1 r1 h1 => ?_, g.xx.at_ rs⟩
  dsimp only at h1
  split at h1
  · obtain ⟨v, rfl, rv⟩ := r1.one
    refine ⟨by simp, fun q hq => ⟨q, C, v, rfl, oC, wC, upd_same, fun dx hdx hne => ⟨rfl, dx, [("why", v)], upd_same, by rw [upd_ne hne, upd_same], ?_, ?_⟩⟩⟩
    · rw [upd_ne hne] at hdx; exact hdx
    · rw [upd_ne hne] at hdx
      rw [ok1.xd hq hdx hne]
      have sn := same_new (o := HO.xd [("why", v)]) (ok1.free hdx).1
      exact g.xx _ _ _ _ _ _ (n, [("why", _)]) _ (s1.trans sn) (ok1.new hdx _) ((rs.mono s1).mono sn) ⟨C, rfl, hA, dx, _, rfl, upd_same, rfl, .cons (rv.mono sn) .nil⟩ h1
  · exact h1.elim
/-! ### try .. except -/
variable {body suite : List Stmt} {b₀ : Stmt} {np pos' : Pos} {x y : Str} {i : Nat} {rb : DS}
/-- what an except clause does with an exception: rs its suite's reading -/
def xOnly (c : Str) (rs : Addr → Value → Option Addr → DS) (DD : DEnds) : Str → List (Str × D) → DSt → Mu → Prop := fun n fs δ m => n ∈ exNames ∧ match exSub n c with
  | true => ∀ a C dd, m a = none → rs a (.ref C) (some dd) { DD with xx := fun _ _ _ _ => False } δ m
  | false => DD.xx n fs δ m
def sTryO (c : Str) (rb : DS) (rs : Addr → Value → Option Addr → DS) : DS := fun DD δ m => rb { DD with xx := xOnly c rs DD } δ m
theorem ds_tryO {rs : Addr → Value → Option Addr → DS} (hs : X.stack = X.env :: X.outer) (hf : X.env.frame = some X.env.locals) (T : ExAt X.K X.mg x) (tk : Takes X W)
    (hb : ∀ (W' : WX) (pn : List (Addr × Obj)) (xe : Value → Shared → Prop), Takes (X.tr pn xe) W' → PassesOwn (model X.prog X.w) X.A X.env xe → PSs (X.tr pn xe) body (lS (kw X) W' rb))
    (hsu : ∀ (a : Addr) (oe : Obj) (cls : Value) (d : Option Addr) (pn : List (Addr × Obj)), Zc cls d oe → (∃ vs, oe.data = .fields vs) → PSs (X.suite a ((a, oe) :: pn)) (b₀ :: suite) (lS (kw X) noW (rs a cls d)))
    (hg : Gl X x := by rfl) (hdb : (x == ("__debug__" : Str)) = false := by decide) : PS X (.Try body [.ExceptHandler (some (.Name x np)) none (b₀ :: suite) pos'] [] [] pos) (lS (kw X) W (sTryO x rb rs)) := by
  obtain ⟨cv, hn, T⟩ := T
  refine PS.imp (ps_try_only (tb := fun W' => lS (kw X) W' rb) hs hf ⟨hg, hdb, hn⟩ tk hb hsu) fun Dn σ H h => ?_
  obtain ⟨F, H0, m, δ, DD, ok, rs', h, g⟩ := h
  refine ⟨F, H0, m, δ, _, ok, rs', h, ⟨g.nx, g.rt, g.bk, g.ct, fun cls xd σ1 H1 H01 m1 nf δ1 s1 ok1 rs1 xr h1 => ?_⟩⟩
  obtain ⟨hne, h1⟩ := h1
  have xr0 := xr
  obtain ⟨C, rfl, hA, dd, fv, rfl, hd, e1, t⟩ := xr
  refine ⟨exSub nf.1 x, T.ok _ hne C hA, fun eb a ha => ?_, fun eb => ?_⟩
  · rw [eb] at h1
    exact ⟨F, H01, m1, δ1, _, ok1, rs1, h1 a C dd (ok1.free ha).2, ⟨(g.mono s1).nx, (g.mono s1).rt, (g.mono s1).bk, (g.mono s1).ct, fun _ _ _ _ _ _ _ _ _ _ _ _ z => z.elim⟩⟩
  · rw [eb] at h1
    exact g.xx _ _ _ _ _ _ _ _ s1 ok1 rs1 xr0 h1
/-- .. as a name, in slot i -/
def xAs (c : Str) (i : Nat) (rs : Addr → Value → Option Addr → DS) (DD : DEnds) : Str → List (Str × D) → DSt → Mu → Prop := fun n fs δ m => n ∈ exNames ∧ match exSub n c with
  | true => ∀ a C dd, m a = none → rs a (.ref C) (some dd) { nx := fun δ' m' => DD.nx (δ'.set i none) m', rt := DD.rt, bk := fun δ' m' => DD.bk (δ'.set i none) m', ct := fun δ' m' => DD.ct (δ'.set i none) m', xx := fun _ _ _ _ => False } (δ.set i (some (.exc a C dd n fs))) m
  | false => DD.xx n fs δ m
def sTryA (c : Str) (i : Nat) (rb : DS) (rs : Addr → Value → Option Addr → DS) : DS := fun DD δ m => rb { DD with xx := xAs c i rs DD } δ m
theorem ds_tryA {rs : Addr → Value → Option Addr → DS} (hs : X.stack = X.env :: X.outer) (hf : X.env.frame = some X.env.locals) (hN : X.N.Nodup) (T : ExAt X.K X.mg x) (tk : Takes X W)
    (hb : ∀ (W' : WX) (pn : List (Addr × Obj)) (xe : Value → Shared → Prop), Takes (X.tr pn xe) W' → PassesOwn (model X.prog X.w) X.A X.env xe → PSs (X.tr pn xe) body (lS (kw X) W' rb))
    (hsu : ∀ (a : Addr) (oe : Obj) (cls : Value) (d : Option Addr) (pn : List (Addr × Obj)), Zc cls d oe → (∃ vs, oe.data = .fields vs) → PSs (X.suite a ((a, oe) :: pn)) (b₀ :: suite) (lS (kw X) noW (rs a cls d)))
    (hi : X.N[i]? = some y := by rfl) (hl : X.env.kindOf y = some .local := by rfl) (hg : Gl X x := by rfl) (hdb : (x == ("__debug__" : Str)) = false := by decide) : PS X (.Try body [.ExceptHandler (some (.Name x np)) (some y) (b₀ :: suite) pos'] [] [] pos) (lS (kw X) W (sTryA x i rb rs)) := by
  obtain ⟨cv, hn, T⟩ := T
  refine PS.imp (ps_try_as (tb := fun W' => lS (kw X) W' rb) hs hf hN hi hl ⟨hg, hdb, hn⟩ tk hb hsu) fun Dn σ H h => ?_
  obtain ⟨F, H0, m, δ, DD, ok, rs', h, g⟩ := h
  refine ⟨F, H0, m, δ, _, ok, rs', h, ⟨g.nx, g.rt, g.bk, g.ct, fun cls xd σ1 H1 H01 m1 nf δ1 s1 ok1 rs1 xr h1 => ?_⟩⟩
  obtain ⟨hne, h1⟩ := h1
  have xr0 := xr
  obtain ⟨C, rfl, hA, dd, fv, rfl, hd, e1, t⟩ := xr
  have g1 := g.mono s1
  refine ⟨exSub nf.1 x, T.ok _ hne C hA, fun eb a ha => ?_, fun eb => ?_⟩
  · rw [eb] at h1
    exact ⟨F, H01, m1, _, _, ok1, rs1.set (.exc hA hd e1 t) i, h1 a C dd (ok1.free ha).2, ⟨fun σ2 H2 H02 m2 δ2 s2 ok2 rs2 z => g1.nx _ _ _ _ _ s2 ok2 (rs2.clear i) z, g1.rt, fun σ2 H2 H02 m2 δ2 s2 ok2 rs2 z => g1.bk _ _ _ _ _ s2 ok2 (rs2.clear i) z, fun σ2 H2 H02 m2 δ2 s2 ok2 rs2 z => g1.ct _ _ _ _ _ s2 ok2 (rs2.clear i) z, fun _ _ _ _ _ _ _ _ _ _ _ _ z => z.elim⟩⟩
  · rw [eb] at h1
    exact g.xx _ _ _ _ _ _ _ _ s1 ok1 rs1 xr0 h1
end
/-! ### TrialError's __init__ -/
def XAt (K : PySem.W.Frag) (mg : Str → Option Value) (n : Str) (st : Stmt) : Prop := ∃ C fI fd, mg n = some (.ref C) ∧ ClsAt K n C ∧ OexC K C ∧ PySem.W.findIn K (.ref C) "__init__" = some (some (.ref fI)) ∧ PySem.W.typeIn K (.ref fI) = some (.type "function") ∧ PySem.W.findIn K (.ref C) "why" = some none ∧ FunG K "__init__" "TrialError.__init__" st [.str "refused"] [] fI fd
theorem xAt_mk {K : PySem.W.Frag} {h : Heap} {mg : Str → Option Value} {n : Str} {st : Stmt} {C fI : Addr} {oc : Value} {od an : Option Addr} {osl : Array (Option Value)} {dV kV doc pm cdv ct : Value} (X : K.In h) (G : h.Ns mainGlobals mg)
    (a : PySem.W.nsIn K mainGlobals n = some (some (.ref C))) (b : PySem.W.findIn K (.ref C) "__init__" = some (some (.ref fI))) (l : K.lookup fI = some ⟨oc, od, .func (PySem.W.fnOf "__init__" "TrialError.__init__" (defArgs st) (defBody st) (defScope st) dV kV doc pm an cdv ct), osl⟩) (c : PySem.W.codeIn K cdv "TrialError.__init__" = true) (k : PySem.W.keepIn K (.ref fI) = true)
    (t : PySem.W.typeIn K (.ref fI) = some (.type "function")) (w : PySem.W.findIn K (.ref C) "why" = some none) (hd : dflB K dV [.str "refused"] = true) (ho : oexB K C = true) : XAt K mg n st :=
  ⟨C, fI, _, PySem.W.mg_of X G a, a, oexB_ok ho, b, t, w, funG_mk l c k hd rfl⟩
theorem te_binds {K : PySem.W.Frag} {st : Stmt} {fI : Addr} {fd : FuncData} (G : FunG K "__init__" "TrialError.__init__" st [.str "refused"] [] fI fd) (B : BindT0 "__init__" "TrialError.__init__" st ["self", "why"] 2 [] 1 [0, 1]) : Binds K fd ["self", "why"] [] := by
  obtain ⟨g, gV, kb, _⟩ := (kbd_T0 G (by simp) B).ex
  intro s us hK hl
  rw [List.append_nil] at hl ⊢
  match us, hl with
  | [u, v], _ =>
    obtain ⟨dvs, kws, F, d1, k1, k2⟩ := G.ex
    obtain ⟨oc, od, dV, kV, doc, pm, an, cdv, ct, osl, rfl, lk, hcd, hD, hK'⟩ := F.ex
    have el : dvs.length = 1 := (d1 fun _ => none).length
    rcases hD with ⟨rfl, _⟩ | ⟨_, T, o, its, m, rfl, lT, oT, rT⟩
    · cases el
    · obtain ⟨k, e1, e2⟩ := B T kV doc pm an cdv ct [u, v] its [] rfl (rT.length.symm.trans el) rfl
      have e0 : gI [0, 1] ([u, v] ++ []) its = [u, v] := by simp [gI]
      rw [e0] at e2
      refine BindsTo.of_looks fun M => ?_
      have e1' : bindArgs (PySem.W.fnOf "__init__" "TrialError.__init__" (defArgs st) (defBody st) (defScope st) (.ref T) kV doc pm an cdv ct) ⟨[u, v], []⟩ = seqItems? (.ref T) >>= k := e1
      rw [e1']
      exact looks_items hK lT oT (.of_pure e2)
def tTE (K : PySem.W.Frag) : TS := fun D σ H => ∃ (a C : Addr) (y : V), σ[0]? = some (some (.ref a)) ∧ σ[1]? = some (some y) ∧ OexC K C ∧ PySem.W.findIn K (.ref C) "why" = some none ∧ H a = some (exo a C none) ∧ ∀ dx, H dx = none → dx ≠ a → D.nx σ (upd (upd H dx (exd dx [("why", y)])) a (exo a C (some dx)))
section
variable {P : Program} {w : World} {K : PySem.W.Frag} {mg : Str → Option Value} {base : Heap}
theorem xmk_of {n : Str} {st : Stmt} (T : XAt K mg n st) (S : FnScope ["self", "why"] ["self", "why"] (defScope st)) (hd : ∀ (f : Addr) (cdv : Value) (A : Around) (outer : List Env) (s : Shared) (H : Hp) (E : XK), PSs (cxOf (L2.CX P w) P w K mg base ["self", "why"] "TrialError.__init__" (defScope st) f cdv A outer s H E) (defBody st) (tTE K)) :
    XMk P w K mg base 1 n ["self", "why"] spTE fun fd => ∃ fI, FunG K "__init__" "TrialError.__init__" st [.str "refused"] [] fI fd := by
  obtain ⟨C, fI, fd, h1, h2, h3, h4, h5, h6, G⟩ := T
  refine ⟨C, fI, fd, h1, h2, h3, h4, h5, h6, ⟨fI, G⟩, ?_⟩
  obtain ⟨dvs, kws, F, _⟩ := G.ex
  refine F.ok S (fun vs H Q E h => ?_) (fun cdv A outer s H vs Q E hr h => ⟨_, hd fI cdv A outer s H E, ?_⟩)
  · obtain ⟨a, C, y, rfl, _⟩ := h
    rfl
  · obtain ⟨a, C, y, rfl, q1, q2, q3, q4⟩ := h
    exact ⟨a, C, y, rfl, rfl, q1, q2, q3, q4⟩
end
/-- the walk through it -/
theorem te_walk {X : Cx} {p1 p2 p3 p4 p5 p6 p7 p8 p9 p10 : Pos} (hm : X.mg "ValueError" = none) (hg : Gl X "ValueError") (vV : PySem.W.findCls X.K (.type "ValueError") (.type "type") "__init__" = some (.val (.builtin "ValueError.__init__"))) (v0 : PE X (.Name "self" p3) (fun σ H Q => ∃ v, σ[0]? = some (some v) ∧ Q v H)) (v1 : PE X (.Name "why" p4) (fun σ H Q => ∃ v, σ[1]? = some (some v) ∧ Q v H))
    (v2 : PE X (.Name "self" p7) (fun σ H Q => ∃ v, σ[0]? = some (some v) ∧ Q v H)) (v3 : PE X (.Name "why" p9) (fun σ H Q => ∃ v, σ[1]? = some (some v) ∧ Q v H))
    (he : starEach [.Name "self" p3, .Name "why" p4] X.env = (false, eval (.Name "self" p3) X.env) :: starEach [.Name "why" p4] X.env) (he2 : starEach [.Name "why" p4] X.env = (false, eval (.Name "why" p4) X.env) :: starEach [] X.env) {pl : Sem Bool}
    (hc : eval (.Call (.Attribute (.Name "ValueError" p1) "__init__" p2) [.Name "self" p3, .Name "why" p4] [] p5) X.env = (do
      let ov ← eval (.Name "ValueError" p1) X.env
      standAt p2.atName
      let (f, first) ← holding [ov] (getMethod ov "__init__" pl)
      callWith p5 f first (backTo p5 (starEach [.Name "self" p3, .Name "why" p4] X.env)) (backToKw p5 (keywordEach [] X.env))))
    (hpl : (backTo p5 (starEach [.Name "why" p4] X.env)).any (·.1) = false) (hsw : swapsWith (.Call (.Attribute (.Name "ValueError" p1) "__init__" p2) [.Name "self" p3, .Name "why" p4] [] p5) none p6.line X.env = pure false) (hsw2 : swapsWith (.Name "why" p9) (some (.Attribute (.Name "self" p7) "why" p8)) p10.line X.env = pure false) :
    PSs X [.Expr (.Call (.Attribute (.Name "ValueError" p1) "__init__" p2) [.Name "self" p3, .Name "why" p4] [] p5) p6, .Assign [.Attribute (.Name "self" p7) "why" p8] (.Name "why" p9) p10] (tTE X.K) := by
  refine PSs.imp (pss_cons (ps_expr (pe_veinit hg hm vV (pa_cons v0 (pa_cons v1 pa_nil he2) he) hc he hpl) hsw) (pss_one (ps_ost v2 v3 hsw2))) fun D σ H h => ?_
  obtain ⟨a, C, y, e0, e1, o, wC, hH, k⟩ := h
  refine ⟨_, e0, _, e1, a, C, [y], rfl, by simp, o, hH, ?_⟩
  exact ⟨_, e1, _, e0, a, C, rfl, o, wC, .inl ⟨hH, fun dx hdx hne => k dx hdx hne⟩⟩
end DL
namespace DL
open PySem L2
/-! ### isinstance, own classes too -/
def insNames : List Str := ["Wish", "Plan", "Rule", "Doer", "Watch", "StandIns", "Desk", "Lines"]
def biTys : List String := ["NoneType", "bool", "int", "str", "list", "tuple", "dict"]
structure InsT (K : PySem.W.Frag) (C : Addr) : Prop where
  cl : Cls K C
  ha : PySem.W.findIn K (.ref C) "__class__" = some (some (.builtin "object.__class__"))
  hn : PySem.W.specialIn K (.builtin "object.__class__") "__get__" = some (some (.builtin "getset_descriptor.__get__"))
  ht : PySem.W.takesIn K (.builtin "object.__class__") = some true
  hm : PySem.W.mroIn K C (.type "object") = some true
structure IsoF (K : PySem.W.Frag) : Prop where
  ty : ∀ n ∈ insNames, ∀ C, ClsAt K n C → ∀ t ∈ biTys, PySem.W.kitOne K (.type t) (.ref C) = some false ∧ PySem.W.kitOne K (.ref C) (.type t) = some false
  own : ∀ n ∈ insNames, ∀ C, ClsAt K n C → ∀ k ∈ insNames, ∀ C', ClsAt K k C' → PySem.W.kitOne K (.ref C) (.ref C') = some (n == k)
  ins : ∀ n ∈ insNames, ∀ C, ClsAt K n C → InsT K C
def isoB (K : PySem.W.Frag) : Bool := insNames.all fun n => match clsAddr K n with
  | none => true
  | some C => (biTys.all fun t => decide (PySem.W.kitOne K (.type t) (.ref C) = some false) && decide (PySem.W.kitOne K (.ref C) (.type t) = some false)) && (insNames.all fun k => match clsAddr K k with
    | none => true
    | some C' => decide (PySem.W.kitOne K (.ref C) (.ref C') = some (n == k))) && clsB K n && decide (PySem.W.findIn K (.ref C) "__class__" = some (some (.builtin "object.__class__"))) && decide (PySem.W.specialIn K (.builtin "object.__class__") "__get__" = some (some (.builtin "getset_descriptor.__get__"))) &&
      decide (PySem.W.takesIn K (.builtin "object.__class__") = some true) && decide (PySem.W.mroIn K C (.type "object") = some true)
theorem isoB_ok {K : PySem.W.Frag} (h : isoB K = true) : IsoF K := by
  have at_ : ∀ n ∈ insNames, ∀ C, ClsAt K n C → _ := fun n hn C hC => by
    have := List.all_eq_true.mp h n hn
    rw [hC.addr] at this
    simp only [Bool.and_eq_true, decide_eq_true_eq] at this
    exact this
  refine ⟨fun n hn C hC t ht => ?_, fun n hn C hC k hk C' hC' => ?_, fun n hn C hC => ?_⟩
  · have := List.all_eq_true.mp (at_ n hn C hC).1.1.1.1.1.1 t ht
    simpa using this
  · have := List.all_eq_true.mp (at_ n hn C hC).1.1.1.1.1.2 k hk
    rw [hC'.addr] at this
    exact of_decide_eq_true this
  · have z := at_ n hn C hC
    exact ⟨(clsB_ok z.1.1.1.1.2).ok C hC, z.1.1.1.2, z.1.1.2, z.1.2, z.2⟩
/-- the class of an instance -/
def insN (m : Mu) : D → Option Str
  | .ins k _ => some k
  | .adr a => match m a with
    | some (.ins k _) => some k
    | _ => none
  | _ => none
theorem insN_rp {K : KW} {F H0 H : Hp} {m : Mu} {v : V} {d : D} {n : Str} (ok : Ok K F H0 m H) (r : Rp K H0 v d) (h : insN m d = some n) : ∃ a C dx fv, v = .ref a ∧ ClsAt K n C ∧ H a = some (.ins C dx fv) := by
  unfold insN at h
  split at h
  · cases h
    cases r with
    | ins c q e2 t => exact ⟨_, _, _, _, rfl, c, ok.same _ _ q⟩
  · split at h
    · rename_i k fs' e1
      cases h
      cases r
      obtain ⟨_, C, dx, fv, c, hv, _⟩ := ok.cell _ _ e1
      exact ⟨_, C, dx, fv, rfl, c, hv⟩
    · cases h
  · cases h
/-- isinstance of x with one class -/
def isi1 (m : Mu) (x : D) : D → Option Bool
  | .ty T => match tyN m x with
    | some t => isB t T
    | none => match insN m x with
      | some n => if n ∈ insNames ∧ T ∈ biTys then some false else none
      | none => none
  | .glb k => if k ∈ insNames then (match tyN m x with
    | some t => if t ∈ biTys then some false else none
    | none => match insN m x with
      | some n => if n ∈ insNames then some (n == k) else none
      | none => none) else none
  | _ => none
def isis (m : Mu) (x : D) : List D → Option Bool
  | [] => some false
  | c :: r => match isi1 m x c, isis m x r with
    | some a, some b => some (a || b)
    | _, _ => none
def cIsG : DC := fun xs m P => match xs with
  | [x, c] => match (match c with | .tup (c :: cs) => isis m x (c :: cs) | c => isi1 m x c) with
    | some b => P (.bl b) m
    | none => False
  | _ => False
/-- x's type -/
def TyD (K : PySem.W.Frag) (m : Mu) (x : D) (t : Value) : Prop := (∃ s, tyN m x = some s ∧ t = .type s) ∨ (tyN m x = none ∧ ∃ n C, insN m x = some n ∧ n ∈ insNames ∧ ClsAt K n C ∧ t = .ref C)
theorem tyD_of {K : KW} {F H0 H : Hp} {m : Mu} {v : V} {x : D} (T : IsoF K) (ok : Ok K F H0 m H) (r : Rp K H0 v x) {t : Value} (h : TyD K m x t) : TyX K H v t := by
  rcases h with ⟨s, e, rfl⟩ | ⟨_, n, C, e, hn, hC, rfl⟩
  · exact tyN_rp ok r e
  · obtain ⟨a, C', dx, fv, rfl, hC', hv⟩ := insN_rp ok r e
    obtain rfl := hC.uniq hC'
    have z := T.ins n hn C hC
    exact .base (.ins hv z.cl z.ha z.hn z.ht z.hm)
theorem isi1_ok {K : PySem.W.Frag} {H : Hp} {m : Mu} {x c : D} {w : V} {u t : Value} {b : Bool} (T : IsoF K) (rc : Rp K H w c) (ru : RelV w u) (ht : TyD K m x t) (h : isi1 m x c = some b) : PySem.W.kitOne K t u = some b := by
  unfold isi1 at h
  split at h
  · rename_i T'
    cases rc
    cases (show u = Value.type _ from ru)
    rcases ht with ⟨s, e, rfl⟩ | ⟨e0, n, C, e, hn, hC, rfl⟩
    · rw [e] at h
      exact kit_ty h
    · rw [e0, e] at h
      dsimp only at h
      split at h
      · rename_i hk
        cases h
        exact (T.ty n hn C hC _ hk.2).2
      · cases h
  · rename_i k
    cases rc with
    | glb hk' =>
      cases (show u = Value.ref _ from ru)
      split at h
      · rename_i hk
        rcases ht with ⟨s, e, rfl⟩ | ⟨e0, n, C, e, hn, hC, rfl⟩
        · rw [e] at h
          dsimp only at h
          split at h
          · rename_i hs
            cases h
            exact (T.ty k hk _ hk' s hs).1
          · cases h
        · rw [e0, e] at h
          dsimp only at h
          rw [if_pos hn] at h
          cases h
          exact T.own n hn C hC k hk _ hk'
      · cases h
  · cases h
theorem isis_ok {K : PySem.W.Frag} {H : Hp} {m : Mu} {x : D} {t : Value} (T : IsoF K) (ht : TyD K m x t) : ∀ {ws : List V} {cs : List D} {us : List Value} {b : Bool}, RpL K H ws cs → Vals ws us → isis m x cs = some b → PySem.W.kitAny K t us = some b
  | _, _, _, _, .nil, .nil, h => by cases h; rfl
  | _, _, _, _, .cons r1 r2, .cons u1 u2, h => by
    unfold isis at h
    split at h
    · rename_i b1 b2 e1 e2
      cases h
      have h1 := isi1_ok T r1 u1 ht e1
      have h2 := isis_ok T ht r2 u2 e2
      unfold PySem.W.kitAny
      rw [h1]
      cases b1
      · simpa using h2
      · rfl
    · cases h
section
variable {X : Cx} {W : WX} {a b c : Expr} {ra rb rc : DE} {pos p : Pos} {e : Expr} {es : List Expr} {qs : DA}
theorem call_isG : CallR X (.builtin "isinstance") (fun vs H Q => ∃ (v w : V) (t : Value) (k : Bool), vs = [v, w] ∧ TyX X.K H v t ∧ ((∀ u, RelV w u → PySem.W.kitOne X.K t u = some k) ∨ ∃ tp ws, w = .ref tp ∧ SqT X.K H tp ws ∧ ∀ us, Vals ws us → PySem.W.kitAny X.K t us = some k) ∧ Q (.bl k) H) := by
  intro pins s σ H xs us Q I r h
  obtain ⟨v, w, t, k, rfl, ty, hk, q⟩ := h
  cases r with
  | cons rx rr =>
    cases rr with
    | cons rt rr =>
      cases rr
      obtain ⟨P, Z, pz, hx⟩ := kit_of I rx ty
      rcases hk with hk | ⟨tp, ws, rfl, ht, hk⟩
      · exact PySem.W.kia_one Z I.kIn pz (hk _ rt) hx fun tk => ⟨.bl k, H, I.tok tk, rfl, q⟩
      · cases rt
        obtain ⟨its, rv, ⟨o, h1, h2, nn, h3⟩, _⟩ := I.tuple ht
        have hk2 := hk its rv
        obtain ⟨oc, od', dt, sl⟩ := o
        simp only at h2 h3
        subst h2 h3
        exact PySem.W.kia_tup Z I.kIn pz h1 hk2 hx fun tk => ⟨.bl k, H, I.tok tk, rfl, q⟩
theorem tyD_ex {K : KW} {F H0 H : Hp} {m : Mu} {v : V} {x : D} (ok : Ok K F H0 m H) (r : Rp K H0 v x) (h : (∃ s, tyN m x = some s) ∨ ∃ n, insN m x = some n ∧ n ∈ insNames) : ∃ t, TyD K m x t := by
  cases e : tyN m x with
  | some s => exact ⟨_, .inl ⟨s, e, rfl⟩⟩
  | none =>
    rcases h with ⟨s, z⟩ | ⟨n, z, hn⟩
    · rw [e] at z; cases z
    · obtain ⟨a, C', dx, fv, rfl, hC', hv⟩ := insN_rp ok r z
      exact ⟨_, .inr ⟨e, n, C', z, hn, hC', rfl⟩⟩
theorem isi1_ty {m : Mu} {x c : D} {b : Bool} (h : isi1 m x c = some b) : (∃ s, tyN m x = some s) ∨ ∃ n, insN m x = some n ∧ n ∈ insNames := by
  unfold isi1 at h
  split at h
  · cases e : tyN m x with
    | some s => exact .inl ⟨s, rfl⟩
    | none =>
      rw [e] at h
      dsimp only at h
      split at h
      · rename_i n e2
        split at h
        · rename_i hk; exact .inr ⟨n, e2, hk.1⟩
        · cases h
      · cases h
  · split at h
    · cases e : tyN m x with
      | some s => exact .inl ⟨s, rfl⟩
      | none =>
        rw [e] at h
        dsimp only at h
        split at h
        · rename_i n e2
          split at h
          · rename_i hk; exact .inr ⟨n, e2, hk⟩
          · cases h
        · cases h
    · cases h
  · cases h
theorem isG_ok {K : KW} (T : IsoF K) : CalD K (fun vs H Q => ∃ (v w : V) (t : Value) (k : Bool), vs = [v, w] ∧ TyX K H v t ∧ ((∀ u, RelV w u → PySem.W.kitOne K t u = some k) ∨ ∃ tp ws, w = .ref tp ∧ SqT K H tp ws ∧ ∀ us, Vals ws us → PySem.W.kitAny K t us = some k) ∧ Q (.bl k) H) cIsG := by
  intro F H0 m H vs ds P Q ok r h g
  unfold cIsG at h
  split at h
  · rename_i x c
    obtain ⟨v, w, rfl, q1, q2⟩ := r.two
    split at h
    · rename_i k ek
      split at ek
      · rename_i c0 cs
        obtain ⟨tp, ws, rfl, ht, rw'⟩ := tup_rp ok q2
        have hex : (∃ s, tyN m x = some s) ∨ ∃ n, insN m x = some n ∧ n ∈ insNames := by
          unfold isis at ek
          split at ek
          · rename_i b1 b2 e1 e2; exact isi1_ty e1
          · cases ek
        obtain ⟨t, htd⟩ := tyD_ex (K := K) ok q1 hex
        exact ⟨v, _, t, k, rfl, tyD_of T ok q1 htd, .inr ⟨tp, ws, rfl, ht, fun us hu => isis_ok T htd rw' hu ek⟩, g.id ok (.bl _) h⟩
      · obtain ⟨t, htd⟩ := tyD_ex (K := K) ok q1 (isi1_ty ek)
        exact ⟨v, w, t, k, rfl, tyD_of T ok q1 htd, .inl fun u hu => isi1_ok T q2 hu htd ek, g.id ok (.bl _) h⟩
    · exact h.elim
  · exact h.elim
theorem pd_isG {x : Str} (T : IsoF X.K) (hm : X.mg x = none) (hv : bootBuiltins x = some (.builtin "isinstance")) (ha : PA X (e :: es) (lA (kw X) W qs)) (hg : Gl X x := by rfl) (hn : x ≠ "__name__" := by decide) (hdb : (x == ("__debug__" : Str)) = false := by decide)
    (he : starEach (e :: es) X.env = (false, eval e X.env) :: starEach es X.env := by rfl) (hpl : (backTo pos (starEach es X.env)).any (·.1) = false := by rfl) : PE X (.Call (.Name x p) (e :: es) [] pos) (lE (kw X) W (rCB cIsG qs)) := pd_callB call_isG (isG_ok T) hm hv ha hg hn hdb he hpl
/-! ### is True, is False -/
/-! ### x or y, x and y by truth -/
def rOrT (ra rb : DE) : DE := fun δ m P PX => ra δ m (fun x m1 => match x with
  | .bl k => match k with
    | true => P (.bl true) m1
    | false => rb δ m1 P PX
  | .str z => z.length ≤ sizeLine ∧ (if z.length = 0 then rb δ m1 P PX else P (.str z) m1)
  | x => match truD m1 x with
    | some true => P x m1
    | some false => rb δ m1 P PX
    | none => False) PX
theorem pd_orT {rest : List Expr} (ha : PE X a (lE (kw X) W ra)) (hb : PE X (.BoolOp .Or (b :: rest) pos) (lE (kw X) W rb)) : PE X (.BoolOp .Or (a :: b :: rest) pos) (lE (kw X) W (rOrT ra rb)) := by
  refine PE.imp (pe_orT ha hb) fun σ H Q h => ?_
  obtain ⟨F, H0, m, δ, P, PX, ok, rs, h, g, gx⟩ := h
  refine ⟨F, H0, m, δ, _, PX, ok, rs, h, fun x H1 H01 m1 d s1 ok1 r1 h1 => ?_, gx⟩
  dsimp only at h1
  split at h1
  · rename_i k
    cases r1
    cases k with
    | true => exact ⟨true, rfl, by rw [if_pos rfl]; exact g _ _ _ _ _ s1 ok1 (.bl _) h1⟩
    | false => exact ⟨false, rfl, by rw [if_neg Bool.false_ne_true]; exact ⟨F, H01, m1, δ, P, PX, ok1, rs.mono s1, h1, g.mono s1, gx.mono s1⟩⟩
  · rename_i z
    cases r1
    obtain ⟨hz, h1⟩ := h1
    refine ⟨_, ⟨hz, rfl⟩, ?_⟩
    by_cases hl : z.length = 0
    · rw [if_pos hl] at h1
      rw [hl, if_neg (by decide)]
      exact ⟨F, H01, m1, δ, P, PX, ok1, rs.mono s1, h1, g.mono s1, gx.mono s1⟩
    · rw [if_neg hl] at h1
      have : ((z.length : Int) != 0) = true := by simp [hl]
      rw [this, if_pos rfl]
      exact g _ _ _ _ _ s1 ok1 (.str _) h1
  · split at h1
    · rename_i e1
      exact ⟨true, tru_rp ok1 r1 e1, by rw [if_pos rfl]; exact g _ _ _ _ _ s1 ok1 r1 h1⟩
    · rename_i e1
      exact ⟨false, tru_rp ok1 r1 e1, by rw [if_neg Bool.false_ne_true]; exact ⟨F, H01, m1, δ, P, PX, ok1, rs.mono s1, h1, g.mono s1, gx.mono s1⟩⟩
    · exact h1.elim
end
/-! ### a dict of the text -/
def entB (K : PySem.W.Frag) : List DictEntry → List (Str × D) → Bool
  | [], [] => true
  | e :: es, (z, d) :: r => (match e.key with
    | .str y _ => y == z
    | _ => false) && valB K 3 e.val d && entB K es r
  | _, _ => false
theorem ent_ok {K : PySem.W.Frag} (x : Str) : ∀ {es : List DictEntry} {tbl : List (Str × D)}, entB K es tbl = true → es.any (·.refKey) = false ∧ match tbl.lookup x with
    | some d => ∃ e u v, es.find? (·.key.isStr x) = some e ∧ e.val = u ∧ RelV v u ∧ ∀ H, Rp K H v d
    | none => es.find? (·.key.isStr x) = none
  | [], [], _ => ⟨rfl, rfl⟩
  | [], _ :: _, h => by simp [entB] at h
  | _ :: _, [], h => by simp [entB] at h
  | e :: es, (z, d) :: r, h => by
    simp only [entB, Bool.and_eq_true] at h
    obtain ⟨⟨h1, h2⟩, h3⟩ := h
    obtain ⟨i1, i2⟩ := ent_ok x (es := es) (tbl := r) h3
    split at h1
    · rename_i y t ek
      obtain rfl : y = z := by simpa using h1
      refine ⟨?_, ?_⟩
      · rw [List.any_cons, i1]
        simp [DictEntry.refKey, ek]
      · unfold List.lookup
        have es1 : e.key.isStr x = (x == y) := by
          rw [ek]
          show (y == x) = (x == y)
          rw [Bool.eq_iff_iff, beq_iff_eq, beq_iff_eq]
          exact ⟨fun z => z.symm, fun z => z.symm⟩
        rw [List.find?_cons, es1]
        cases hb : x == y with
        | true =>
          obtain ⟨v, rv, q⟩ := valB_ok _ h2
          exact ⟨e, _, v, rfl, rfl, rv, q⟩
        | false => exact i2
    · cases h1
structure KdF (K : PySem.W.Frag) (w : World) (mg : Str → Option Value) (x : Str) (tbl : List (Str × D)) : Prop where
  ex : ∃ a es n, mg x = some (.ref a) ∧ K.lookup a = some ⟨.type "dict", none, .dict es n, #[]⟩ ∧ PySem.W.KeysLit w.params es.toList ∧ (a == sysModules) = false ∧ entB K es.toList tbl = true
theorem kd_mk {K : PySem.W.Frag} {w : World} {h : Heap} {mg : Str → Option Value} {x : Str} {tbl : List (Str × D)} {a : Addr} {es : Array DictEntry} {n : Nat} (X : K.In h) (G : h.Ns mainGlobals mg) (e1 : PySem.W.nsIn K mainGlobals x = some (some (.ref a))) (e2 : K.lookup a = some ⟨.type "dict", none, .dict es n, #[]⟩) (e3 : PySem.W.KeysLit w.params es.toList) (e4 : (a == sysModules) = false) (e5 : entB K es.toList tbl = true) : KdF K w mg x tbl := ⟨a, es, n, PySem.W.mg_of X G e1, e2, e3, e4, e5⟩
theorem kd_get {K : PySem.W.Frag} {a : Addr} {es : Array DictEntry} {n : Nat} {tbl : List (Str × D)} (hl : K.lookup a = some ⟨.type "dict", none, .dict es n, #[]⟩) (h : entB K es.toList tbl = true) (x : Str) : match tbl.lookup x with
    | some d => ∃ u v, PySem.W.nsIn K a x = some (some u) ∧ RelV v u ∧ ∀ H, Rp K H v d
    | none => PySem.W.nsIn K a x = some none := by
  obtain ⟨i1, i2⟩ := ent_ok x h
  split at i2
  · rename_i d ed
    obtain ⟨e, u, v, f1, f2, f3, f4⟩ := i2
    refine ⟨u, v, ?_, f3, f4⟩
    unfold PySem.W.nsIn
    rw [hl]
    dsimp only
    rw [f1]
    show some (some e.val) = _
    rw [f2]
  · unfold PySem.W.nsIn
    rw [hl]
    dsimp only
    rw [i2, i1]
    rfl
section
variable {X : Cx} {W : WX} {a b c : Expr} {ra rb rc : DE} {pos p : Pos} {x : Str} {tbl : List (Str × D)}
def rIxK (tbl : List (Str × D)) (ra : DE) : DE := fun δ m P PX => ra δ m (fun k m1 => match k with
  | .str z => match tbl.lookup z with
    | some d => P d m1
    | none => False
  | _ => False) PX
theorem pd_ixK (T : KdF X.K X.w X.mg x tbl) (ha : PE X a (lE (kw X) W ra)) (hs : PlainIx a := by intro _ _; rfl) (hg : Gl X x := by rfl) (hd : (x == ("__debug__" : Str)) = false := by decide) : PE X (.Subscript (.Name x p) a pos) (lE (kw X) W (rIxK tbl ra)) := by
  obtain ⟨q, es, n, hm, hl, hk, hy, hT⟩ := T.ex
  refine PE.imp (pe_ix ix_kdict (pe_glob hg hm (v := .ref q) rfl hd) ha hs) fun σ H Q h => ?_
  obtain ⟨F, H0, m, δ, P, PX, ok, rs, h, g, gx⟩ := h
  refine ⟨F, H0, m, δ, _, PX, ok, rs, h, fun y H1 H01 m1 d s1 ok1 r1 h1 => ?_, gx⟩
  dsimp only at h1
  split at h1
  · rename_i z
    cases r1
    split at h1
    · rename_i d ed
      have := kd_get hl hT z
      rw [ed] at this
      obtain ⟨u, v, f1, f2, f3⟩ := this
      exact ⟨q, z, v, rfl, rfl, ⟨es, n, u, hl, hk, f1, f2⟩, g _ _ _ _ _ s1 ok1 (f3 _) h1⟩
    · exact h1.elim
  · exact h1.elim
def oInK (neg : Bool) (tbl : List (Str × D)) : DO := fun x y m P => match x with
  | .str z => P (.bl (if neg then !(tbl.lookup z).isSome else (tbl.lookup z).isSome)) m
  | _ => False
def rInK (neg : Bool) (tbl : List (Str × D)) (q : Addr) : R2 := fun v u H Q => ∃ z, v = .str z ∧ u = .ref q ∧ Q (.bl (if neg then !(tbl.lookup z).isSome else (tbl.lookup z).isSome)) H
theorem inK_opr (neg : Bool) {op : CmpOp} {q : Addr} {es : Array DictEntry} {n : Nat} (hl : X.K.lookup q = some ⟨.type "dict", none, .dict es n, #[]⟩) (hT : entB X.K es.toList tbl = true) (h1 : ∀ (A : Around) (E : Value → Shared → Prop) (s : Shared) (Q : Value → Shared → Prop) (z : Str) (t : Tok) (r : Option Value), X.K.In s.heap → PySem.W.nsIn X.K q z = some r → Q (.bool (if neg then !r.isSome else r.isSome)) { s with toks := s.toks + 1 } → wpAny (model X.prog X.w) A (compareOp op (.str z t) (.ref q)) Q E s) :
    OpR X (compareOp op) (rInK neg tbl q) := by
  intro pins s σ H v u v' u' Q I rx ry h
  obtain ⟨z, rfl, rfl, qq⟩ := h
  obtain ⟨t, rfl⟩ := (show ∃ t, v' = Value.str z t from rx)
  cases (show u' = Value.ref q from ry)
  have := kd_get hl hT z
  cases e : tbl.lookup z with
  | some d =>
    rw [e] at this qq
    obtain ⟨uu, v, f1, f2, f3⟩ := this
    exact h1 _ _ _ _ z t _ I.kIn f1 ⟨.bl (if neg then !(some uu).isSome else (some uu).isSome), H, I.tok _, rfl, qq⟩
  | none =>
    rw [e] at this qq
    exact h1 _ _ _ _ z t _ I.kIn this ⟨.bl (if neg then !(none : Option Value).isSome else (none : Option Value).isSome), H, I.tok _, rfl, qq⟩
theorem lE_inK {neg : Bool} {q : Addr} {σ : St} {H : Hp} {Q : VK} (h : lE (kw X) W (rOp (oInK neg tbl) ra (rC .non)) σ H Q) : tOp (rInK neg tbl q) (lE (kw X) W ra) (tC (.ref q)) σ H Q := by
  obtain ⟨F, H0, m, δ, P, PX, ok, rs, h, g, gx⟩ := h
  refine ⟨F, H0, m, δ, _, PX, ok, rs, h, fun y H1 H01 m1 d s1 ok1 r1 h1 => ?_, gx⟩
  change oInK neg tbl d .non m1 P at h1
  unfold oInK at h1
  split at h1
  · rename_i z
    cases r1
    exact ⟨z, rfl, rfl, g _ _ _ _ _ s1 ok1 (.bl _) h1⟩
  · exact h1.elim
theorem inK_not {q : Addr} {es : Array DictEntry} {n : Nat} (hl : X.K.lookup q = some ⟨.type "dict", none, .dict es n, #[]⟩) (hk : PySem.W.KeysLit X.w.params es.toList) (hy : (q == sysModules) = false) (hT : entB X.K es.toList tbl = true) : OpR X (compareOp .NotIn) (rInK true tbl q) :=
  inK_opr true hl hT fun A E s Q z t r hK e h => wpAny_notIn_of (strKind_is X.prog X.w z t) hy (PySem.W.mapOf_K (prog := X.prog) hK hl hk) (by rw [PySem.W.find_K hl e]; exact h)
theorem dt_notInK (T : KdF X.K X.w X.mg x tbl) (ha : PE X a (lE (kw X) W ra)) (hmk : behindInMarks .NotIn (.Name x p) = false := by rfl) (hg : Gl X x := by rfl) (hd : (x == ("__debug__" : Str)) = false := by decide) : PT X (.Compare a [.NotIn] [.Name x p] pos) (lT (kw X) W (rTst (rOp (oInK true tbl) ra (rC .non)))) := by
  obtain ⟨q, es, n, hm, hl, hk, hy, hT⟩ := T.ex
  exact PT.imp (pt_cmpR (inK_not hl hk hy hT) ha (pe_glob hg hm (v := .ref q) rfl hd) hmk) fun _ _ _ h => lE_inK (lT_test h)
end
end DL
namespace DL
open PySem L2
/-- a statement of a class of the text -/
def clsSt (s : Stmt) (j : Nat) : Stmt := match s with
  | .ClassDef _ _ _ body _ _ _ _ _ _ _ => body.getD j (.Pass ⟨0, 0, 0, 0⟩)
  | _ => .Pass ⟨0, 0, 0, 0⟩
section
variable {K : PySem.W.Frag} {h : Heap} {mg : Str → Option Value} {n m x qual : Str} {st : Stmt} {C f : Addr} {oc : Value} {od an : Option Addr} {osl : Array (Option Value)} {dV kV doc pm cdv ct : Value} {dD : List D} {kD : List (Str × D)}
theorem mkAt_mk (X : K.In h) (G : h.Ns mainGlobals mg) (a : PySem.W.nsIn K mainGlobals n = some (some (.ref C))) (b : PySem.W.findIn K (.ref C) "__init__" = some (some (.ref f))) (l : K.lookup f = some ⟨oc, od, .func (PySem.W.fnOf "__init__" qual (defArgs st) (defBody st) (defScope st) dV kV doc pm an cdv ct), osl⟩) (c : PySem.W.codeIn K cdv qual = true)
    (k : PySem.W.keepIn K (.ref f) = true) (fn : PySem.W.isFn K (.ref f) = true) (mk : PySem.W.makesIn K C = true) (kc : PySem.W.keepIn K (.ref C) = true) (hd : dflB K dV dD = true) (hk : kwdB K kV kD = true) : MkAt K mg n qual st dD kD :=
  ⟨C, f, _, PySem.W.mg_of X G a, a, ⟨mk, b, fn, kc⟩, funG_mk l c k hd hk⟩
end
/-! ### zip -/
end DL
/-! # what may change becomes data -/
namespace DL
open PySem L2
theorem Ok.sealO {K : KW} {F H0 H : Hp} {m : Mu} {q : Addr} {o : MO} {u : HO} (ok : Ok K F H0 m H) (h : m q = some o) (hq : H q = some u) : Same H0 (upd H0 q u) ∧ Ok K F (upd H0 q u) (mdel m q) H := by
  have h0 := (ok.cell q _ h).1
  have sn := same_new (o := u) h0
  refine ⟨sn, ⟨fun b u z => ?_, fun b u z => ?_, fun b u z => ?_, fun P y l => have t := ok.tab P y l; t.step sn ((upd_ne (ok.neM l h)).trans t.h0) t.hF rfl⟩⟩
  · by_cases hb : b = q
    · subst hb; rw [upd_same] at z; cases z; exact hq
    · rw [upd_ne hb] at z; exact ok.same b u z
  · unfold mdel at z
    by_cases hb : b = q
    · rw [if_pos hb] at z; cases z
    · rw [if_neg hb] at z
      obtain ⟨c1, c2⟩ := ok.cell b u z
      exact ⟨by rw [upd_ne hb]; exact c1, c2.mono sn rfl⟩
  · obtain ⟨e1, e2, e3⟩ := ok.fr b u z
    have hb : b ≠ q := fun z => by rw [z, h] at e3; cases e3
    exact ⟨e1, by rw [upd_ne hb]; exact e2, by unfold mdel; rw [if_neg hb]; exact e3⟩
/-- a value, told as data -/
def rSeal (ra : DE) : DE := fun δ m P PX => ra δ m (fun x m1 => match x with
  | .adr q => match m1 q with
    | some (.lst ds) => P (.lst ds) (mdel m1 q)
    | some (.dct ds) => P (.dct ds) (mdel m1 q)
    | some (.ins n fs) => P (.ins n fs) (mdel m1 q)
    | _ => False
  | x => P x m1) PX
section
variable {X : Cx} {W : WX} {a : Expr} {ra : DE}
theorem pd_seal (ha : PE X a (lE (kw X) W ra)) : PE X a (lE (kw X) W (rSeal ra)) := by
  refine PE.imp ha fun σ H Q h => ?_
  obtain ⟨F, H0, m, δ, P, PX, ok, rs, h, g, gx⟩ := h
  refine ⟨F, H0, m, δ, _, PX, ok, rs, h, fun x H1 H01 m1 d s1 ok1 r1 h1 => ?_, gx⟩
  dsimp only at h1
  split at h1
  · cases r1
    rename_i q
    split at h1
    · rename_i ds e
      obtain ⟨vs, hq, rv⟩ := (ok1.cell q _ e).2
      obtain ⟨s2, ok2⟩ := ok1.sealO e hq
      exact g _ _ _ _ _ (s1.trans s2) ok2 (.lst (.inl (.inl upd_same)) (rv.mono s2)) h1
    · rename_i ds e
      obtain ⟨vs, hq, e2, rv⟩ := (ok1.cell q _ e).2
      obtain ⟨s2, ok2⟩ := ok1.sealO e hq
      exact g _ _ _ _ _ (s1.trans s2) ok2 (.dct upd_same e2 (rv.mono s2)) h1
    · rename_i n fs e
      obtain ⟨H0', s2, ok2, r2⟩ := ok1.seal e
      exact g _ _ _ _ _ (s1.trans s2) ok2 r2 h1
    · exact h1.elim
  · exact g _ _ _ _ _ s1 ok1 r1 h1
end
end DL
/-! # a tuple times an int -/
namespace DL
open PySem L2 PySem.Spec PyProof.Rows
end DL
/-! # a list times an int; the other way round -/
namespace DL
open PySem L2 PySem.Spec PyProof.Rows
/-! ### t[::-1] -/
end DL
/-! # a, b = a list -/
namespace DL
open PySem L2
/-! ### abs(i) -/
def cAbs : DC := fun xs m P => match xs with
  | [.int i] => P (.int (if i < 0 then -i else i)) m
  | _ => False
theorem abs_ok {K : KW} : CalD K (fun xs H Q => ∃ i, xs = [.int i] ∧ Q (.int (if i < 0 then -i else i)) H) cAbs := by
  intro F H0 m H vs ds P Q ok r h g
  unfold cAbs at h
  split at h
  · obtain ⟨v, rfl, q⟩ := r.one
    cases q
    exact ⟨_, rfl, g.id ok (.int _) h⟩
  · exact h.elim
section
variable {X : Cx} {W : WX} {e : Expr} {es : List Expr} {qs : DA} {p pos : Pos}
theorem pd_abs {x : Str} (hm : X.mg x = none) (hv : bootBuiltins x = some (.builtin "abs")) (ha : PA X (e :: es) (lA (kw X) W qs)) (hg : Gl X x := by rfl) (hn : x ≠ "__name__" := by decide) (hdb : (x == ("__debug__" : Str)) = false := by decide)
    (he : starEach (e :: es) X.env = (false, eval e X.env) :: starEach es X.env := by rfl) (hpl : (backTo pos (starEach es X.env)).any (·.1) = false := by rfl) : PE X (.Call (.Name x p) (e :: es) [] pos) (lE (kw X) W (rCB cAbs qs)) := pd_callB call_abs abs_ok hm hv ha hg hn hdb he hpl
end
end DL
/-! # max(xs, default=d) -/
namespace DL
open PySem L2
/-! ### range(i, j); list(xs), a list of ours -/
/-! ### x = [.. for .. for ..]; s.upper(); what is never reached -/
end DL
/-! # sorted(a tuple of texts) -/
namespace DL
open PySem L2
open PyProof.Rows (seqObj sortedAll)
theorem rpl_strs {K : PySem.W.Frag} {H : Hp} : ∀ (ys : List Str), RpL K H (ys.map V.str) (ys.map D.str)
  | [] => .nil
  | y :: ys => .cons (.str y) (rpl_strs ys)
end DL
/-! # == and != of lists whose items may change -/
namespace DL
open PySem L2
end DL
namespace DL
open PySem L2
/-! ### a comprehension of any number of clauses: bodies -/
abbrev TB := St → Hp → (Hp → Prop) → Prop
end DL
namespace DL
open PySem L2
/-! ### over data -/
end DL
/-! # != of two lists that hold the same objects -/
namespace DL
open PySem L2
end DL
/-! # zip of a list and a tuple -/
namespace DL
open PySem L2
theorem five {α : Type} {p : α → Prop} {a b c d e : α} (h1 : p a) (h2 : p b) (h3 : p c) (h4 : p d) (h5 : p e) : ∀ x ∈ [a, b, c, d, e], p x := by
  intro x hx
  simp only [List.mem_cons, List.not_mem_nil, or_false] at hx
  rcases hx with rfl | rfl | rfl | rfl | rfl <;> assumption
end DL
/-! # enumerate of a tuple -/
namespace DL
open PySem L2
end DL
/-! # xs.index(x); {k: v for ..}; sorted(set(a list of tuples of whole numbers)) -/
namespace DL
open PySem L2
end DL
/-! # sorted(set(..)) of tuples of whole numbers -/
namespace DL
open PySem L2
/-! ### the order of tuples -/
/-! ### the model's comparison of tuples -/
/-! ### over data -/
end DL
/-! # x in a tuple of data -/
namespace DL
open PySem L2
end DL
namespace DL
open PySem L2
/-! ### own == of instances, lists of them; own len -/
/-- all that is there and not in H0 -/
def Frm (H0 H : Hp) : Hp := fun a => match H0 a with
  | none => H a
  | some _ => none
theorem Frm.ok {K : KW} (NL : NoLam K.fr) {H0 H : Hp} (s : Same H0 H) : Ok K (Frm H0 H) H0 (fun _ => none) H := by
  refine ⟨s, fun a o e => (by cases e), fun a o e => ?_, fun P q l => (NL P q l).elim⟩
  unfold Frm at e
  split at e
  · rename_i z
    exact ⟨e, z, rfl⟩
  · cases e
theorem Frm.ext {K : KW} {H0 H H0' H' : Hp} {m' : Mu} (s : Same H0 H) (s' : Same H0 H0') (ok : Ok K (Frm H0 H) H0' m' H') : Ext H H' := by
  intro a o e
  cases z : H0 a with
  | none => exact (ok.fr a o (by unfold Frm; rw [z]; exact e)).1
  | some o' =>
    have := s a o' z
    rw [e] at this
    cases this
    exact ok.same a o (s' a o z)
theorem Ok.ext {K : KW} {F H0 H H' : Hp} {m : Mu} (ok : Ok K F H0 m H) (e : Ext H H') : Ok K F H0 m H' := by
  refine ⟨fun a o h => e a o (ok.same a o h), fun a o h => ?_, fun a o h => ?_, fun a o h => ?_⟩
  · obtain ⟨c1, c2⟩ := ok.cell a o h
    obtain ⟨u, hu⟩ := c2.some
    exact ⟨c1, c2.mono (Same.refl _) ((e a u hu).trans hu.symm)⟩
  · obtain ⟨c1, c2, c3⟩ := ok.fr a o h
    exact ⟨e a o c1, c2, c3⟩
  · exact (ok.tab a o h).step (fun _ _ z => z) (ok.tab a o h).h0 (ok.tab a o h).hF (let ⟨_, h1, _⟩ := (ok.tab a o h).tab; (e a _ h1).trans h1.symm)
def EqI (n : Str) (sp : SpD) (d e : D) : Prop := ∃ fs gs, d = .ins n fs ∧ e = .ins n gs ∧ sp [d, e] (fun _ => none) (fun r _ => r = .bl true) (fun _ _ _ => False)
def EqLs (n : Str) (sp : SpD) (ds es : List D) : Prop := ds.length = es.length ∧ ∀ (i : Nat) d e, ds[i]? = some d → es[i]? = some e → EqI n sp d e
theorem EqLs.refl {n : Str} {sp : SpD} {ds : List D} (h : ∀ d, d ∈ ds → EqI n sp d d) : EqLs n sp ds ds := ⟨rfl, fun i d e h1 h2 => by
  rw [h1] at h2
  cases h2
  exact h d (List.mem_of_getElem? h1)⟩
end DL
namespace DL
open PySem L2
/-! ### text * int -/
def repS (k : Nat) (x : Str) : Str := ⟨(List.replicate k x.cps).foldl (· ++ ·) #[]⟩
theorem foldl_app : ∀ (l : List (Array Nat)) (a : Array Nat), (l.foldl (· ++ ·) a).toList = a.toList ++ (l.map Array.toList).flatten
  | [], a => by simp
  | x :: l, a => by rw [List.foldl_cons, foldl_app l (a ++ x)]; simp
theorem repS_cps (k : Nat) (x : Str) : (repS k x).cps.toList = (List.replicate k x.cps.toList).flatten := by
  unfold repS
  rw [foldl_app, List.map_replicate]
  simp
theorem repS_one (x : Str) : repS 1 x = x := str_ext (by rw [repS_cps]; simp)
theorem repS_len (k : Nat) (x : Str) : (repS k x).length = k * x.length := by
  show (repS k x).cps.size = k * x.cps.size
  rw [← Array.length_toList, repS_cps]
  simp
section
variable {X : Cx} {W : WX} {a b : Expr} {ra rb : DE} {pos : Pos}
def rRepS : R2 := fun x y H Q => ∃ z k, x = .str z ∧ y = .int k ∧ 1 ≤ k ∧ k ≤ 1000 ∧ 1 ≤ z.length ∧ z.length ≤ 1000 ∧ Q (.str (repS k.toNat z)) H
theorem op_repS : OpR X (binaryOp .Mult) rRepS := by
  intro pins s σ H x y v u Q I rx ry h
  obtain ⟨z, k, rfl, rfl, h1, h2, h0, h3, q⟩ := h
  obtain ⟨t, rfl⟩ := rx
  obtain ⟨t', rfl⟩ := ry
  have hm : z.length * k.toNat ≤ 1000000 := by
    have : z.length * k.toNat ≤ 1000 * 1000 := Nat.mul_le_mul h3 (by omega)
    omega
  refine PySem.P.mul_str (by rw [decide_eq_false (by omega), decide_eq_false (by omega)]; rfl) (fun _ _ => ?_) (fun _ _ => ?_) ?_
  · have : (z.length : Int) ≤ (2 ^ 63 - 1) / k := by
      rw [Int.le_ediv_iff_mul_le (by omega)]
      have a1 : (z.length : Int) * k ≤ 1000 * 1000 := Int.mul_le_mul (by omega) h2 (by omega) (by omega)
      omega
    omega
  · exact decide_eq_false (Nat.not_lt.mpr (len_line hm))
  · rw [if_neg (by omega)]
    by_cases e : k = 1
    · subst e
      rw [if_pos (by simp)]
      have : repS (1 : Int).toNat z = z := repS_one z
      rw [this] at q
      exact ⟨.str z, H, I, ⟨_, rfl⟩, q⟩
    · have hz0 : z.length ≠ 0 := by omega
      rw [if_neg (by simp [e, hz0])]
      refine ⟨len_line ?_, ⟨.str (repS k.toNat z), H, I.tok _, ⟨_, rfl⟩, q⟩⟩
      have := repS_len k.toNat z
      show (repS k.toNat z).length ≤ 1000000
      rw [this, Nat.mul_comm]; exact hm
def oMulS : DO := fun x y m P => match x, y with
  | .str z, .int k => (1 ≤ k ∧ k ≤ 1000 ∧ 1 ≤ z.length ∧ z.length ≤ 1000) ∧ P (.str (repS k.toNat z)) m
  | _, _ => False
theorem mulS_ok {K : KW} : OpD K rRepS oMulS := by
  intro F H0 m H x y dx dy P Q ok rx ry h g
  unfold oMulS at h
  split at h
  · cases rx; cases ry
    exact ⟨_, _, rfl, rfl, h.1.1, h.1.2.1, h.1.2.2.1, h.1.2.2.2, g.id ok (.str _) h.2⟩
  · exact h.elim
theorem pd_mulS (ha : PE X a (lE (kw X) W ra)) (hb : PE X b (lE (kw X) W rb)) : PE X (.BinOp a .Mult b pos) (lE (kw X) W (rOp oMulS ra rb)) := pd_op op_repS mulS_ok ha hb
end
end DL
namespace DL
open PySem L2
/-! ### keys -/
/-! ### lists with keys -/
/-! ### the dict on the machine -/
end DL
namespace DL
open PySem L2
/-! ### dicts of ours whose keys are tuples -/
end DL
namespace DL
open PySem L2
open PyProof.Rows
/-! ### for k, v in d.items() -/
end DL
namespace DL
open PySem L2
open PyProof.Rows
/-! ### list(d.values()), list(d.keys()) -/
/-! ### x += e -/
section
variable {X : Cx} {W : WX} {a : Expr} {ra : DE} {pos : Pos}
def sAug (i : Nat) (ra : DE) : DS := fun DD δ m => match δ[i]? with
  | some (some (.int x)) => ra δ m (fun d m1 => match d with
    | .int y => DD.nx (δ.set i (some (.int (x + y)))) m1
    | _ => False) fun c fs m1 => DD.xx c fs δ m1
  | _ => False
theorem ds_aug {i : Nat} {y : Str} {pos' : Pos} (hN : X.N.Nodup) (ha : PE X a (lE (kw X) W ra)) (hi : X.N[i]? = some y := by rfl) (hx : Loc X.env.scope y := by first | exact Or.inl rfl | exact Or.inr rfl) (hf : X.fn y = true ∨ X.env.scope.names.lookup y = some .local := by first | exact .inl rfl | exact .inr rfl) :
    PS X (.AugAssign (.Name y pos') .Add a pos) (lS (kw X) W (sAug i ra)) := by
  refine PS.imp (ps_aug hN hi hx ha (ti := rI0 fun i j => .int (i + j)) (fun pins s σ H x y u v Q I rx ry h => iop_add pins s σ H x y u v Q I rx ry h) hf) fun Dn σ H h => ?_
  obtain ⟨F, H0, m, δ, DD, ok, rs, h, g⟩ := h
  unfold sAug at h
  split at h
  · rename_i x e
    obtain ⟨v, hv, rv⟩ := rs.at_ i _ e
    cases rv
    refine ⟨_, hv, F, H0, m, δ, _, _, ok, rs, h, fun z H1 H01 m1 d s1 ok1 r1 h1 => ?_, g.xx.at_ rs⟩
    dsimp only at h1
    split at h1
    · cases r1
      exact ⟨_, _, rfl, rfl, g.nx _ _ _ _ _ s1 ok1 ((rs.mono s1).set (.int _) i) h1⟩
    · exact h1.elim
  · exact h.elim
end
end DL
namespace DL
open PySem L2
open PyProof.Rows
/-! ### {k: v} with a tuple as the key -/
end DL
namespace DL
open PySem L2
open PyProof.Rows
/-! ### x.pop(0) of a list that may change -/
end DL
/-! # a tuple times nought or one -/
namespace DL
open PySem L2 PySem.Spec PyProof.Rows
end DL
/-! # sets of texts: made of a list, sorted -/
namespace DL
open PySem L2
open PyProof.Rows
def txK (e : Int × Value) : Str := match e.2 with
  | .str k _ => k
  | _ => Str.empty
def TxE (w : World) (e : Int × Value) : Prop := ∃ k u, e = (hashStr w k, Value.str k u)
/-- the texts that a set's payload holds, each once -/
structure TxSet (w : World) (en : Array (Int × Value)) (tb : SetTable) (S : Str → Bool) : Prop where
  el : ∀ e ∈ en.toList, TxE w e
  once : (en.toList.map txK).Nodup
  mem : ∀ k, S k = true ↔ k ∈ en.toList.map txK
  few : en.size < scanBound
  fit : tb.fits en.size = true
  ris : Ris tb.place.toList
  led : w.params.followText "set-order" = true ∨ tb.led = true
def SetX (w : World) (h : Heap) (a : Addr) (S : Str → Bool) (n : Nat) : Prop :=
  ∃ o en ep tb, h.get? a = some o ∧ o.ExactSet ∧ o.data = .set en ep tb ∧ TxSet w en tb S ∧ en.size = n
section
variable {P : Program} {w : World} {A : Around} {E : Value → Shared → Prop} {s : Shared} {a : Addr} {S : Str → Bool} {n : Nat}
theorem SetX.at {h h' : Heap} (R : SetX w h a S n) (k : ∀ o, h.get? a = some o → h'.get? a = some o) : SetX w h' a S n := by
  obtain ⟨o, en, ep, tb, ho, r⟩ := R
  exact ⟨o, en, ep, tb, k o ho, r⟩
end
end DL
/-! # set(a list of texts) -/
namespace DL
open PySem L2
open PyProof.Rows
end DL
/-! # sorted(set(xs)) of texts -/
namespace DL
open PySem L2
/-! ### in the layer -/
end DL
namespace DL
open PySem L2
open PyProof.Rows
/-! ### a def whose code object is known -/
/-! ### a lambda, called -/
/-! ### records of ours that are not tracked -/
structure Own1 (X : Cx) (pins : List (Addr × Obj)) (H : Hp) (b : Addr) : Prop where
  h : H b = none
  nl : b ≠ X.env.locals
  nf : b ∉ X.fs
  sz : b ∈ X.ex ∨ X.s_0.heap.objs.size ≤ b
  nc : ∀ x c, X.env.cells.lookup x = some c → c ≠ b
  np : ∀ p ∈ X.pn ++ pins, p.1 ≠ b
section
variable {X : Cx} {pins : List (Addr × Obj)} {σ : L2.St} {H H' : Hp} {s : Shared}
theorem Own1.to {b : Addr} (O : Own1 X pins H b) (h : H' b = none) : Own1 X pins H' b := ⟨h, O.nl, O.nf, O.sz, O.nc, O.np⟩
theorem Own1.pin {b : Addr} {o : Obj} (O : Own1 X pins H b) (e : s.heap.get? b = some o) (hc : ∀ v, o.data ≠ .cell v) (I : L2.Inv X pins σ H s) : L2.Inv X ((b, o) :: pins) σ H s :=
  I.pins_of fun p hp => by
    rcases List.mem_cons.mp hp with rfl | hp
    · exact ⟨e, O.h, O.nl, O.nf, hc⟩
    · exact I.pin p (List.mem_append_right _ hp)
theorem Own1.more {b a : Addr} {o : Obj} (O : Own1 X pins H b) (hne : a ≠ b) : Own1 X ((a, o) :: pins) H b := ⟨O.h, O.nl, O.nf, O.sz, O.nc, fun p hp => by
  rcases List.mem_append.mp hp with z | z
  · exact O.np p (List.mem_append_left _ z)
  · rcases List.mem_cons.mp z with rfl | z
    · exact hne
    · exact O.np p (List.mem_append_right _ z)⟩
end
/-! ### the lambda is made -/
end DL
namespace DL
open PySem L2
open PyProof.Rows
/-! ### min(d.keys(), key=lambda a: ..) -/
section
variable {X : Cx} {pins : List (Addr × Obj)} {σ : L2.St} {F H0 H : Hp} {m : Mu} {s : Shared} {δ : DSt} {f c' : Addr} {q : Str} {params : Arguments} {body : Expr} {scope : Scope} {pm ctv : Value} {N fr : List Str} {a : Str} {k : Nat} {js : List Nat} {rb : DE}
/-- what the list of the best so far holds -/
def BstA (K : PySem.W.Frag) (H0 : Hp) : Option (D × Int) → Array Value → Prop
  | none, arr => arr = #[]
  | some b, arr => ∃ v u t, arr = #[u, .int b.2 t] ∧ RelV v u ∧ Rp K H0 v b.1
theorem BstA.mono {K : PySem.W.Frag} {H0 H0' : Hp} {b : Option (D × Int)} {arr : Array Value} (s : Same H0 H0') (h : BstA K H0 b arr) : BstA K H0' b arr := by
  cases b with
  | none => exact h
  | some b => obtain ⟨v, u, t, e, r, p⟩ := h; exact ⟨v, u, t, e, r, p.mono s⟩
end
/-! ### the rule -/
/-- the table of the def whose code object is cd; its name -/
structure LamF (K : PySem.W.Frag) (mg : Str → Option Value) (base : Heap) (cd : Value) (q : Str) : Prop where
  ex : ∃ c P, cd = .ref c ∧ LamX.TabB base mg c P ∧ LamT K P q ∧ ∀ P' q', LamT K P' q' → P' = P ∧ q' = q
end DL
namespace DL
open PySem L2
open PyProof.Rows
/-! ### the end of a law whose text makes one lambda -/
structure LamK (K : PySem.W.Frag) (c P : Addr) (q : Str) : Prop where
  hd : PySem.W.codeHdIn K c P = true
  cd : PySem.W.codeIn K (.ref c) q = true
  nm : q ∈ lamNs
  only : ∀ c' n, n ∈ lamNs → PySem.W.codeIn K (.ref c') n = true → c' = c
theorem mem_of_look {c : Addr} {o : Obj} : ∀ {K : List (Addr × Obj)}, K.lookup c = some o → (c, o) ∈ K
  | [], h => by cases h
  | (a, z) :: K, h => by
    rw [List.lookup_cons] at h
    split at h
    · rename_i e
      rw [beq_iff_eq.mp e, Option.some.inj h]
      exact List.mem_cons_self
    · exact List.mem_cons_of_mem _ (mem_of_look h)
theorem codeIn_mem {K : PySem.W.Frag} {c : Addr} {n : Str} (h : PySem.W.codeIn K (.ref c) n = true) : ∃ o, (c, o) ∈ K := by
  unfold PySem.W.codeIn at h
  cases e : K.lookup c with
  | none => simp [e] at h
  | some o => exact ⟨o, mem_of_look e⟩
theorem codeIn_uniq {K : PySem.W.Frag} {c : Value} {n n' : Str} (h : PySem.W.codeIn K c n = true) (h' : PySem.W.codeIn K c n' = true) : n = n' := by
  unfold PySem.W.codeIn at h h'
  split at h
  · split at h
    · rename_i vs _ hk
      simp only [hk] at h'
      split at h
      · rename_i a m t r e
        simp only [e] at h'
        rw [← beq_iff_eq.mp h, ← beq_iff_eq.mp h']
      · cases h
    · cases h
  · cases h
theorem codeHd_uniq {K : PySem.W.Frag} {c P P' : Addr} (h : PySem.W.codeHdIn K c P = true) (h' : PySem.W.codeHdIn K c P' = true) : P = P' := by
  unfold PySem.W.codeHdIn at h h'
  split at h
  · rename_i vs _ hk
    simp only [hk] at h'
    simp only [Bool.and_eq_true] at h h'
    obtain ⟨⟨⟨⟨⟨h1, _⟩, _⟩, _⟩, _⟩, _⟩ := h
    obtain ⟨⟨⟨⟨⟨h2, _⟩, _⟩, _⟩, _⟩, _⟩ := h'
    split at h1
    · rename_i P'' e
      simp only [e] at h2
      rw [← beq_iff_eq.mp h1, ← beq_iff_eq.mp h2]
    · cases h1
  · cases h
theorem LamK.T {K : PySem.W.Frag} {c P : Addr} {q : Str} (L : LamK K c P q) : LamT K P q := ⟨c, L.hd, L.cd, L.nm⟩
theorem LamK.uniq {K : PySem.W.Frag} {c P : Addr} {q : Str} (L : LamK K c P q) : ∀ P' q', LamT K P' q' → P' = P ∧ q' = q := fun P' q' ⟨c', h1, h2, h3⟩ => by
  have e := L.only c' q' h3 h2
  subst e
  exact ⟨codeHd_uniq h1 L.hd, codeIn_uniq h2 L.cd⟩
def LamAll (K : PySem.W.Frag) (mg : Str → Option Value) (base : Heap) (q : Str) : Prop := ∀ cd, PySem.W.codeIn K cd q = true → LamF K mg base cd q
theorem LamK.all {K : PySem.W.Frag} {mg : Str → Option Value} {base : Heap} {c P : Addr} {q : Str} (L : LamK K c P q) (TB : LamX.TabB base mg c P) : LamAll K mg base q := fun cd h => by
  obtain ⟨c', rfl⟩ : ∃ c', cd = .ref c' := by
    unfold PySem.W.codeIn at h
    split at h
    · exact ⟨_, rfl⟩
    · cases h
  have e := L.only c' q L.nm h
  subst e
  exact ⟨c', P, rfl, TB, L.T, L.uniq⟩
def NoLamB (K : PySem.W.Frag) : Bool := K.all fun p => !(lamNs.any fun n => PySem.W.codeIn K (.ref p.1) n)
theorem noLam_by {K : PySem.W.Frag} (h : NoLamB K = true) : NoLam K := fun P q ⟨c, _, hc, hn⟩ => by
  obtain ⟨o, ho⟩ := codeIn_mem hc
  have := List.all_eq_true.mp h _ ho
  rw [Bool.not_eq_true', List.any_eq_false] at this
  exact absurd hc (by simpa using this q hn)
end DL
namespace DL
open PySem L2
open PyProof.Rows
/-! ### d == {} -/
/-! ### the least by a key -/
end DL
namespace DL
open PySem L2
/-! ### xs.index(x), deep -/
end DL
namespace DL
open PySem L2
open PyProof.Rows
/-! ### sorted(a list of tuples of whole numbers) -/
end DL
namespace DL
open PySem L2
/-! ### a list of ours becomes data while its name stays -/
end DL
namespace DL
open PySem L2
/-! ### a, b = x, y -/
end DL
namespace DL
open PySem L2
open PyProof.Rows
/-! ### list(d.keys()), sorted(d.keys()) -/
end DL
namespace DL
open PySem L2
open PyProof.Rows
/-! ### sorted(d.keys()), the keys tuples of whole numbers -/
end DL
namespace DL
open PySem L2
open PyProof.Rows PySem.W
/-! ### sorted(xs, key=sum, reverse=True), xs a list of tuples of whole numbers -/
end DL
namespace DL
open PySem L2
/-! ### x in a list or a tuple, as the case may be, the items nested -/
end DL
namespace DL
open PySem L2
open PyProof.Rows
/-! ### for k in d.keys(), d with tuples as keys -/
end DL
/-! # zip of a tuple and a list -/
namespace DL
open PySem L2
end DL
/-! # a tuple times a whole number that is not negative -/
namespace DL
open PySem L2 PySem.Spec PyProof.Rows
end DL
/-! # a refusal with a field of its own: its __init__ calls TrialError.__init__ -/
namespace DL
open PySem L2
section
variable {X : Cx} {CX : CXT} {k : Nat} {C f : Addr} {fd : FuncData} {ps : List Str} {sp : Sp} {ds : List Value} {dvs : List V} {E : XK} {x m : Str} {mc : Value} {e : Expr} {es : List Expr} {t : TA} {p apos pos : Pos} {pl : Sem Bool}
/-- C.m(..), C a class of the text, m a def of it -/
theorem pe_clsf (F : FnOk X.prog X.w X.K X.mg X.base CX k f fd ps sp) (hr : Room k X.A) (hg : Gl X x) (hm : X.mg x = some (.ref C)) (r : ClX.CRead X.K C mc) (c : PySem.W.findCls X.K (.ref C) mc m = some (.val (.ref f))) (hk : PySem.W.keepIn X.K (.ref f) = true) (hb : Binds X.K fd ps ds) (hd : Vals dvs ds) (hx : Passes CX X E)
    (ha : PA X (e :: es) t) (ht : eval (.Call (.Attribute (.Name x p) m apos) (e :: es) [] pos) X.env = (do
      let ov ← eval (.Name x p) X.env
      standAt apos.atName
      let (f, first) ← holding [ov] (getMethod ov m pl)
      callWith pos f first (backTo pos (starEach (e :: es) X.env)) (backToKw pos (keywordEach [] X.env))) := by rfl)
    (hdb : (x == ("__debug__" : Str)) = false := by decide) (he : starEach (e :: es) X.env = (false, eval e X.env) :: starEach es X.env := by rfl) (hpl : (backTo pos (starEach es X.env)).any (·.1) = false := by rfl) :
    PE X (.Call (.Attribute (.Name x p) m apos) (e :: es) [] pos) (tCall sp dvs E t) := by
  refine ⟨fun pins s σ H Q I h => ?_⟩
  refine PySem.W.methodCall_KW (pl := pl) (ld_glob I hg hm ?_ hdb) ht
  refine PySem.W.method_cls I.kIn r.ga (PySem.W.cls_value I.kIn r.rd c rfl ?_)
  refine PySem.W.callWith_K (h₀ := X.base) I.ok.mod.kin hk (thn (ha.run pos pins _ σ H _ (I.tok _) h) fun us s1 ⟨vs, H1, I1, r, q⟩ => ⟨I1.kIn, ?_⟩) he hpl
  exact run_fn F hr hb hd hx I1 r q
end
def spT1 (f txt : Str) (K : PySem.W.Frag) : Sp := fun vs H Q _ => ∃ (a C : Addr) (y : V), vs = [.ref a, y] ∧ OexC K C ∧ PySem.W.findIn K (.ref C) "why" = some none ∧ PySem.W.findIn K (.ref C) f = some none ∧ H a = some (exo a C none) ∧ ∀ dx, H dx = none → dx ≠ a → Q .non (upd (upd H dx (exd dx [(f, y), ("why", .str txt)])) a (exo a C (some dx)))
/-- the refusal n with the field f, its __init__ at fI -/
structure XMf (P : Program) (w : World) (K : PySem.W.Frag) (mg : Str → Option Value) (base : Heap) (k : Nat) (n f txt : Str) (ps : List Str) (B : FuncData → Prop) : Prop where
  ex : ∃ C fI fd, mg n = some (.ref C) ∧ ClsAt K n C ∧ OexC K C ∧ PySem.W.findIn K (.ref C) "__init__" = some (some (.ref fI)) ∧ PySem.W.typeIn K (.ref fI) = some (.type "function") ∧ PySem.W.findIn K (.ref C) "why" = some none ∧ PySem.W.findIn K (.ref C) f = some none ∧ B fd ∧ FnOk P w K mg base (L2.CX P w) k fI fd ps (spT1 f txt K)
section
variable {X : Cx} {W : WX} {e : Expr} {ra : DE} {pos p rp : Pos} {n f txt : Str} {k : Nat} {ps : List Str} {qs : DA}
def sRaise1 (n f txt : Str) (qs : DA) : DS := fun DD δ m => qs δ m (fun vs m1 => match vs with
  | [v] => DD.xx n [(f, v), ("why", .str txt)] δ m1
  | _ => False) fun c fs m1 => DD.xx c fs δ m1
theorem ds_raise1 {Bd : FuncData → Prop} (hc : X.calm = true) (T : XMf X.prog X.w X.K X.mg X.base k n f txt ps Bd) (hb : ∀ fd, Bd fd → Binds X.K fd ps []) (hr : Room (k + 1) X.A) (tk : Takes X W) (ha : PA X [e] (lA (kw X) W qs)) (hg : Gl X n := by rfl) (hdb : (n == ("__debug__" : Str)) = false := by decide)
    (he : starEach [e] X.env = (false, eval e X.env) :: starEach [] X.env := by rfl) (hpl : (backTo pos (starEach [] X.env)).any (·.1) = false := by rfl) :
    PS X (.Raise (some (.Call (.Name n p) [e] [] pos)) none rp) (lS (kw X) W (sRaise1 n f txt qs)) := by
  obtain ⟨C, fI, fd, hm, hA, oC, iC, tI, wC, wf, hB, G⟩ := T.ex
  refine PS.imp (ps_raise hc tk (pmk_oex oC iC tI G hr (hb fd hB) .nil (fun pins σ H s e s' I c => (no_cx c).elim) hg hm ha hdb he hpl)) fun Dn σ H h => ?_
  obtain ⟨F, H0, m, δ, DD, ok, rs, h, g⟩ := h
  refine ⟨F, H0, m, δ, _, _, ok, rs, h, fun vs H1 H01 m1 ds s1 ok1 r1 h1 => ?_, g.xx.at_ rs⟩
  dsimp only at h1
  split at h1
  · obtain ⟨v, rfl, rv⟩ := r1.one
    refine ⟨by simp, fun q hq => ⟨q, C, v, rfl, oC, wC, wf, upd_same, fun dx hdx hne => ⟨rfl, dx, [(f, v), ("why", .str txt)], upd_same, by rw [upd_ne hne, upd_same], ?_, ?_⟩⟩⟩
    · rw [upd_ne hne] at hdx; exact hdx
    · rw [upd_ne hne] at hdx
      rw [ok1.xd hq hdx hne]
      have sn := same_new (o := HO.xd [(f, v), ("why", .str txt)]) (ok1.free hdx).1
      exact g.xx _ _ _ _ _ _ (n, [(f, _), ("why", .str txt)]) _ (s1.trans sn) (ok1.new hdx _) ((rs.mono s1).mono sn) ⟨C, rfl, hA, dx, _, rfl, upd_same, rfl, .cons (rv.mono sn) (.cons (.str _) .nil)⟩ h1
  · exact h1.elim
end
/-! ### what the text must tell -/
structure CiF (K : PySem.W.Frag) (n : Str) : Prop where
  ex : ∃ (C f : Addr) (mc : Value), ClsAt K n C ∧ ClX.CRead K C mc ∧ PySem.W.findCls K (.ref C) mc "__init__" = some (.val (.ref f)) ∧ PySem.W.findIn K (.ref C) "__init__" = some (some (.ref f)) ∧ PySem.W.keepIn K (.ref f) = true
theorem ci_mk {K : PySem.W.Frag} {n : Str} {C f : Addr} (a : PySem.W.nsIn K mainGlobals n = some (some (.ref C))) (b : PySem.W.readsIn K C (.type "type") = true) (c : PySem.W.specialIn K (.ref C) "__getattribute__" = some (some (.builtin "type.__getattribute__"))) (d : PySem.W.findCls K (.ref C) (.type "type") "__init__" = some (.val (.ref f)))
    (e : PySem.W.findIn K (.ref C) "__init__" = some (some (.ref f))) (g : PySem.W.keepIn K (.ref f) = true) : CiF K n := ⟨C, f, _, a, ⟨b, c⟩, d, e, g⟩
def XAf (K : PySem.W.Frag) (mg : Str → Option Value) (n q f : Str) (st : Stmt) : Prop := ∃ C fI fd, mg n = some (.ref C) ∧ ClsAt K n C ∧ OexC K C ∧ PySem.W.findIn K (.ref C) "__init__" = some (some (.ref fI)) ∧ PySem.W.typeIn K (.ref fI) = some (.type "function") ∧ PySem.W.findIn K (.ref C) "why" = some none ∧ PySem.W.findIn K (.ref C) f = some none ∧ FunG K "__init__" q st [] [] fI fd
theorem xAf_mk {K : PySem.W.Frag} {h : Heap} {mg : Str → Option Value} {n q f : Str} {st : Stmt} {C fI : Addr} {oc : Value} {od an : Option Addr} {osl : Array (Option Value)} {dV kV doc pm cdv ct : Value} (X : K.In h) (G : h.Ns mainGlobals mg)
    (a : PySem.W.nsIn K mainGlobals n = some (some (.ref C))) (b : PySem.W.findIn K (.ref C) "__init__" = some (some (.ref fI))) (l : K.lookup fI = some ⟨oc, od, .func (PySem.W.fnOf "__init__" q (defArgs st) (defBody st) (defScope st) dV kV doc pm an cdv ct), osl⟩) (c : PySem.W.codeIn K cdv q = true) (k : PySem.W.keepIn K (.ref fI) = true)
    (t : PySem.W.typeIn K (.ref fI) = some (.type "function")) (w : PySem.W.findIn K (.ref C) "why" = some none) (wf : PySem.W.findIn K (.ref C) f = some none) (hd : dflB K dV [] = true) (hk : kwdB K kV [] = true) (ho : oexB K C = true) : XAf K mg n q f st :=
  ⟨C, fI, _, PySem.W.mg_of X G a, a, oexB_ok ho, b, t, w, wf, funG_mk l c k hd hk⟩
theorem xf_binds {K : PySem.W.Frag} {q : Str} {st : Stmt} {ps : List Str} {fI : Addr} {fd : FuncData} (G : FunG K "__init__" q st [] [] fI fd) (B : BindAll "__init__" q st ps) : Binds K fd ps [] := by
  obtain ⟨dvs, kws, F, d1, k1, k2⟩ := G.ex
  obtain ⟨oc, od, dV, kV, doc, pm, an, cdv, ct, osl, rfl, lk, hcd, hD, hK'⟩ := F.ex
  have e : dvs = [] := by have := (d1 fun _ => none).length; simpa using this
  subst e
  intro s us hK hl
  rw [List.append_nil] at hl ⊢
  rcases hD with ⟨_, rfl⟩ | ⟨z, _⟩
  · exact BindsTo.of_eq (B kV doc pm an cdv ct us hl)
  · exact absurd rfl z
def tT1 (K : PySem.W.Frag) (f txt : Str) : TS := fun D σ H => ∃ (a C : Addr) (y : V), σ[0]? = some (some (.ref a)) ∧ σ[1]? = some (some y) ∧ OexC K C ∧ PySem.W.findIn K (.ref C) "why" = some none ∧ PySem.W.findIn K (.ref C) f = some none ∧ H a = some (exo a C none) ∧ ∀ dx, H dx = none → dx ≠ a → D.nx σ (upd (upd H dx (exd dx [(f, y), ("why", .str txt)])) a (exo a C (some dx)))
section
variable {P : Program} {w : World} {K : PySem.W.Frag} {mg : Str → Option Value} {base : Heap}
theorem xmf_of {n q f txt y : Str} {st : Stmt} (T : XAf K mg n q f st) (S : FnScope ["self", y] ["self", y] (defScope st)) (hd : ∀ (fa : Addr) (cdv : Value) (A : Around) (outer : List Env) (s : Shared) (H : Hp) (E : XK), Room 1 (cxOf (L2.CX P w) P w K mg base ["self", y] q (defScope st) fa cdv A outer s H E).A → PSs (cxOf (L2.CX P w) P w K mg base ["self", y] q (defScope st) fa cdv A outer s H E) (defBody st) (tT1 K f txt)) :
    XMf P w K mg base 2 n f txt ["self", y] fun fd => ∃ fI, FunG K "__init__" q st [] [] fI fd := by
  obtain ⟨C, fI, fd, h1, h2, h3, h4, h5, h6, h7, G⟩ := T
  refine ⟨C, fI, fd, h1, h2, h3, h4, h5, h6, h7, ⟨fI, G⟩, ?_⟩
  obtain ⟨dvs, kws, F, _⟩ := G.ex
  refine F.ok S (fun vs H Q E h => ?_) (fun cdv A outer s H vs Q E hr h => ⟨_, hd fI cdv A outer s H E hr, ?_⟩)
  · obtain ⟨a, C, y, rfl, _⟩ := h
    rfl
  · obtain ⟨a, C, y, rfl, q1, q2, q3, q4, q5⟩ := h
    exact ⟨a, C, y, rfl, rfl, q1, q2, q3, q4, q5⟩
end
/-- the walk through it -/
theorem t1_walk {X : Cx} {f txt y : Str} {st : Stmt} {p1 p2 p3 p4 p5 p6 p7 p8 p9 p10 : Pos} {kk : Nat} (hg : Gl X "TrialError") (CI : CiF X.K "TrialError") (T : XMk X.prog X.w X.K X.mg X.base 1 "TrialError" ["self", "why"] spTE (fun fd => ∃ fI, FunG X.K "__init__" "TrialError.__init__" st [.str "refused"] [] fI fd)) (B : BindT0 "__init__" "TrialError.__init__" st ["self", "why"] 2 [] 1 [0, 1]) (hr : Room 1 X.A)
    (v0 : PE X (.Name "self" p3) (fun σ H Q => ∃ v, σ[0]? = some (some v) ∧ Q v H)) (v2 : PE X (.Name "self" p7) (fun σ H Q => ∃ v, σ[0]? = some (some v) ∧ Q v H)) (v3 : PE X (.Name y p9) (fun σ H Q => ∃ v, σ[1]? = some (some v) ∧ Q v H))
    (he : starEach [.Name "self" p3, .Constant (.str txt) kk p4] X.env = (false, eval (.Name "self" p3) X.env) :: starEach [.Constant (.str txt) kk p4] X.env) (he2 : starEach [.Constant (.str txt) kk p4] X.env = (false, eval (.Constant (.str txt) kk p4) X.env) :: starEach [] X.env) {pl : Sem Bool}
    (hc : eval (.Call (.Attribute (.Name "TrialError" p1) "__init__" p2) [.Name "self" p3, .Constant (.str txt) kk p4] [] p5) X.env = (do
      let ov ← eval (.Name "TrialError" p1) X.env
      standAt p2.atName
      let (f, first) ← holding [ov] (getMethod ov "__init__" pl)
      callWith p5 f first (backTo p5 (starEach [.Name "self" p3, .Constant (.str txt) kk p4] X.env)) (backToKw p5 (keywordEach [] X.env))))
    (hpl : (backTo p5 (starEach [.Constant (.str txt) kk p4] X.env)).any (·.1) = false) (hsw : swapsWith (.Call (.Attribute (.Name "TrialError" p1) "__init__" p2) [.Name "self" p3, .Constant (.str txt) kk p4] [] p5) none p6.line X.env = pure false) (hsw2 : swapsWith (.Name y p9) (some (.Attribute (.Name "self" p7) f p8)) p10.line X.env = pure false) :
    PSs X [.Expr (.Call (.Attribute (.Name "TrialError" p1) "__init__" p2) [.Name "self" p3, .Constant (.str txt) kk p4] [] p5) p6, .Assign [.Attribute (.Name "self" p7) f p8] (.Name y p9) p10] (tT1 X.K f txt) := by
  obtain ⟨C0, f0, mc, a0, rd, fc, fi0, kp⟩ := CI.ex
  obtain ⟨C1, f1, fd, hm, hA, oC, iC, tI, wC, ⟨fI', hB⟩, G⟩ := T.ex
  have e1 : C1 = C0 := by have := hA.symm.trans a0; cases this; rfl
  subst e1
  have e2 : f1 = f0 := by have := iC.symm.trans fi0; cases this; rfl
  subst e2
  refine PSs.imp (pss_cons (ps_expr (pe_clsf (E := fun _ _ _ => False) G hr hg hm rd fc kp (te_binds hB B) .nil (fun pins σ H s e s' I c => (no_cx c).elim) (pa_cons v0 (pa_cons pe_str pa_nil he2) he) hc (by decide) he hpl) hsw) (pss_one (ps_ost v2 v3 hsw2))) fun D σ H h => ?_
  obtain ⟨a, C, y, e0, e1, o, wC, wf, hH, k⟩ := h
  refine ⟨_, e0, a, C, .str txt, rfl, o, wC, hH, fun dx hdx hne => ?_⟩
  refine ⟨_, e1, _, e0, a, C, rfl, o, wf, .inr ⟨dx, [("why", .str txt)], upd_same, by rw [upd_ne hne, upd_same], (by show 1 ≤ 900; decide), ?_⟩⟩
  have e : upd (upd (upd H dx (exd dx [("why", .str txt)])) a (exo a C (some dx))) dx (exd dx ((f, y) :: [("why", .str txt)])) = upd (upd H dx (exd dx [(f, y), ("why", .str txt)])) a (exo a C (some dx)) := by
    funext b
    by_cases h1 : b = dx
    · subst h1; rw [upd_same, upd_ne hne, upd_same]
    · rw [upd_ne h1]
      by_cases h2 : b = a
      · subst h2; rw [upd_same, upd_same]
      · rw [upd_ne h2, upd_ne h2, upd_ne h1, upd_ne h1]
  rw [e]
  exact k dx hdx hne
/-! ### a tuple of things of ours becomes data -/
end DL
namespace DL
open PySem L2
open PyProof.Rows
/-! ### sorted(d.keys()), the keys nested tuples -/
end DL
namespace DL
open PySem L2
open PyProof.Rows
/-! ### f(..), f a local name that holds one of two defs -/
end DL
namespace DL
open PySem L2
open PyProof.Rows
/-! ### sorted(a list of nested tuples) -/
end DL
/-! # sorted(set(xs)), xs a list of tuples of whole numbers, long, but few of them unlike -/
namespace DL
open PySem L2
open PyProof.Rows
section
variable {P : Program} {w : World} {A : Around} {E : Value → Shared → Prop} {s : Shared}
def HasT (P : Program) (w : World) (h : Heap) (a : Addr) (ks : List (Addr × List Int)) (i : Nat) : Prop := ∃ L es ep t, SetTR P w h a L es ep t ∧ Got ks i L
theorem HasT.keep {h h' h0 : Heap} {a : Addr} {ks : List (Addr × List Int)} {i : Nat} (x : HasT P w h a ks i) (ha : ∀ o, h.get? a = some o → h'.get? a = some o) (hk : ∀ p ∈ ks, IsT P w h0 p.2 p.1) (kp : ∀ b o, h0.get? b = some o → h'.get? b = some o) : HasT P w h' a ks i := by
  obtain ⟨L, es, ep, t, R, g⟩ := x
  exact ⟨L, es, ep, t, R.keep ha fun p hp => isT_keep (hk p (List.mem_of_mem_take (g.sub p hp))) kp, g⟩
end
/-! ### over data -/
end DL
/-! # sorted(set(x)), x a tuple of tuples of whole numbers -/
namespace DL
open PySem L2
open PyProof.Rows
end DL
namespace DL
open PySem L2
/-! ### list(range(n)), a list that may change -/
end DL
namespace DL
open PySem L2
/-! ### t < u of tuples of ints -/
end DL
namespace DL
open PySem L2
/-! ### xs.extend(ys), both lists of ours; xs.reverse() -/
end DL
namespace DL
open PySem L2
/-! ### what is walked, one way or the other -/
end DL
/-! ends of iterators while an exception is handled -/
namespace HK
open PySem PySem.Spec PyProof.Rows L2 HotX L2H
section
variable {prog : Program} {w : World} {A : Around} {E : Value → Shared → Prop} {s : Shared}
theorem HotAt.ext {x1 it : Addr} {h h' : Heap} (hot : HotAt A x1 h) (hne : x1 ≠ it) (k : Heap.ExtBut it h h') : HotAt A x1 h' := by
  obtain ⟨hh, o1, vs1, h1, d1, c1⟩ := hot
  exact ⟨hh, o1, vs1, k _ _ hne h1, d1, c1⟩
end
end HK
/-! what is walked while an exception is handled -/
namespace HK
open PySem PySem.Spec PyProof.Rows L2 HotX L2H
/-- the handled exception stands among what is kept in sight -/
def HotP (X : Cx) (pins : List (Addr × Obj)) : Prop := ∃ p : Addr × Obj, Hot1 X.A p ∧ p ∈ X.pn ++ pins
theorem HotP.at {X : Cx} {pins : List (Addr × Obj)} {σ : L2.St} {H : Hp} {s : Shared} (c : HotP X pins) (I : Inv X pins σ H s) : ∃ p : Addr × Obj, p ∈ X.pn ++ pins ∧ HotAt X.A p.1 s.heap := by
  obtain ⟨p, ⟨hh, v1, e1, c1⟩, hp⟩ := c
  exact ⟨p, hp, hh, p.2, v1, (I.pin p hp).1, e1, c1⟩
theorem HotP.of {X : Cx} (c : HotC X) (pins : List (Addr × Obj)) : HotP X pins := by
  obtain ⟨p, h, hp⟩ := c
  exact ⟨p, h, List.mem_append_left _ hp⟩
structure TurnP (P : Program) (w : World) (K : PySem.W.Frag) (tg : Expr) (J : It) (fp : List Addr) (it : Addr) (tn : Nat → Heap → Prop) : Prop where
  mem : it ∈ fp
  obj : ∀ i h, tn i h → ∀ b ∈ fp, ∃ o, h.get? b = some o ∧ ∀ v, o.data ≠ .cell v
  keep : ∀ i h h', tn i h → (∀ b ∈ fp, ∀ o, h.get? b = some o → h'.get? b = some o) → tn i h'
  item : ∀ (X : Cx), X.prog = P → X.w = w → X.K = K → ∀ (i : Nat) (pins : List (Addr × Obj)) (s : Shared) (σ : L2.St) (H : Hp) (E : Value → Shared → Prop), Inv X pins σ H s → (∀ b ∈ fp, FpOk X pins H b) → tn i s.heap → J.go i H →
    wpAny (model P w) X.A (pyNext (.ref it)) (fun r s1 => ∃ u, r = some u ∧
      wpAny (model P w) X.A (letOwnedTupleGo tg (.ref it) u) (fun _ s2 => ∃ x H', Inv X pins σ H' s2 ∧ RelV x u ∧ J.yld i H x H' ∧ tn (i + 1) s2.heap ∧ ∀ b ∈ fp, H' b = none) E s1) E s
  done : ∀ (X : Cx), X.prog = P → X.w = w → X.K = K → ∀ (i : Nat) (pins : List (Addr × Obj)) (s : Shared) (σ : L2.St) (H : Hp) (E : Value → Shared → Prop), HotP X pins → Inv X pins σ H s → (∀ b ∈ fp, FpOk X pins H b) → tn i s.heap → J.stop i H →
    wpAny (model P w) X.A (pyNext (.ref it)) (fun r s1 => r = none ∧ Inv X pins σ H s1) E s
  self : ∀ (A : Around) (i : Nat) (s : Shared) (Q : Value → Shared → Prop) (E : Value → Shared → Prop), tn i s.heap → Q (.ref it) s → wpAny (model P w) A (pyIter (.ref it)) Q E s
def PIEP (X : Cx) (pins : List (Addr × Obj)) (σ : L2.St) (tg : Expr) (R : It → Hp → Prop) (itv : Value) (s2 : Shared) : Prop :=
  ∃ (it : Addr) (fp : List Addr) (tn : Nat → Heap → Prop) (J : It) (H' : Hp), itv = .ref it ∧ Inv X pins σ H' s2 ∧ TurnP X.prog X.w X.K tg J fp it tn ∧ tn 0 s2.heap ∧ (∀ b ∈ fp, FpOk X pins H' b) ∧ R J H'
structure PIP (X : Cx) (tg iter : Expr) (wi : TI) : Prop where
  run : ∀ (pins : List (Addr × Obj)) (s : Shared) (σ : L2.St) (H : Hp) (R : It → Hp → Prop), Inv X pins σ H s → wi σ H R →
    wpAny (model X.prog X.w) X.A (eval iter X.env) (fun v s1 => wpAny (model X.prog X.w) X.A (pyIter v) (PIEP X pins σ tg R) X.xe s1) X.xe s
section
variable {X : Cx} {tg iter : Expr} {wi : TI}
theorem PIP.imp {t t' : TI} (h : PIP X tg iter t) (k : ∀ σ H R, t' σ H R → t σ H R) : PIP X tg iter t' := ⟨fun pins s σ H R I w => h.run pins s σ H R I (k σ H R w)⟩
end
end HK
/-! a list comprehension while an exception is handled -/
namespace HK
open PySem PySem.Spec PyProof.Rows L2 HotX L2H
end HK
/-! defs called within an except suite, over data -/
namespace DL
open PySem L2 L2H HK
theorem RoomH.units {k : Nat} {A : Around} (r : RoomH k A) : A.units + 64 < cLine := by have := r.un; omega
end DL
/-! exceptions whose context is none, over data; a try whose suite calls -/
namespace DL
open PySem L2 L2H HK
end DL
namespace DL
open PySem L2
open PySem.Spec PyProof.Rows
/-! ### xs.count(x), deep; xs.insert(i, x); xs.pop(); a def by another name -/
section
variable {X : Cx} {W : WX} {a b c o tg : Expr} {ra rb rc : DE} {pos apos p : Pos} {e : Expr} {es : List Expr} {qs : DA}
theorem RpL.dropLast {K : PySem.W.Frag} {H : Hp} {vs : List V} {ds : List D} (h : RpL K H vs ds) : RpL K H vs.dropLast ds.dropLast := by
  rw [List.dropLast_eq_take, List.dropLast_eq_take, h.length]
  exact h.take _
end
/-! ### a def by another name -/
end DL
namespace DL
open PySem L2
/-! ### one def, two promises -/
end DL
/-! # zip of three lists (each of ours or not) -/
namespace DL
open PySem L2 PySem.Spec PyProof.Rows
/-! over data -/
end DL
/-! # x.split(y), x.partition(y), x.find(y), x.find(y, i) -/
namespace DL
open PySem L2
section
variable {X : Cx} {W : WX} {o e e2 : Expr} {ra rb rc : DE} {pos apos : Pos}
def rSplit (ra rb : DE) : DE := fun δ m P PX => ra δ m (fun x m1 => match x with
  | .str a => rb δ m1 (fun y m2 => match y with
    | .str b => ((b.length == 0) = false ∧ a.length + 2 ≤ sizeLine) ∧ P (.lst ((Txt.split a b).map .str)) m2
    | _ => False) PX
  | _ => False) PX
def rParti (ra rb : DE) : DE := fun δ m P PX => ra δ m (fun x m1 => match x with
  | .str a => rb δ m1 (fun y m2 => match y with
    | .str b => ((b.length == 0) = false ∧ a.length ≤ sizeLine) ∧ P (.tup [.str (Txt.partition a b).1, .str (Txt.partition a b).2.1, .str (Txt.partition a b).2.2]) m2
    | _ => False) PX
  | _ => False) PX
theorem pd_split (ho : PE X o (lE (kw X) W ra)) (he : PE X e (lE (kw X) W rb)) (hs : starEach [e] X.env = [(false, eval e X.env)] := by rfl) (hbase : attributeBase o "split" X.env (eval o X.env) = eval o X.env := by rfl) (hline : (apos.endLine == pos.line) = true := by rfl) :
    PE X (.Call (.Attribute o "split" apos) [e] [] pos) (lE (kw X) W (rSplit ra rb)) := by
  refine PE.imp (pe_split ho he hs hbase hline) fun σ H Q h => ?_
  obtain ⟨F, H0, m, δ, P, PX, ok, rs, h, g, gx⟩ := h
  refine ⟨F, H0, m, δ, _, PX, ok, rs, h, fun v H1 H01 m1 d s1 ok1 r1 h1 => ?_, gx⟩
  dsimp only at h1
  split at h1
  · rename_i a
    cases r1
    refine ⟨⟨_, rfl⟩, F, H01, m1, δ, _, PX, ok1, rs.mono s1, h1, fun u H2 H02 m2 d2 s2 ok2 r2 h2 => ?_, gx.mono s1⟩
    dsimp only at h2
    split at h2
    · rename_i b
      cases r2
      obtain ⟨⟨hb, hz⟩, h2⟩ := h2
      exact ⟨a, b, rfl, rfl, hb, hz, fun p hp => (g.mono (s1.trans s2)).lst ok2 hp (rpl_strs _) h2⟩
    · exact h2.elim
  · exact h1.elim
theorem pd_parti (ho : PE X o (lE (kw X) W ra)) (he : PE X e (lE (kw X) W rb)) (hs : starEach [e] X.env = [(false, eval e X.env)] := by rfl) (hbase : attributeBase o "partition" X.env (eval o X.env) = eval o X.env := by rfl) (hline : (apos.endLine == pos.line) = true := by rfl) :
    PE X (.Call (.Attribute o "partition" apos) [e] [] pos) (lE (kw X) W (rParti ra rb)) := by
  refine PE.imp (pe_partition ho he hs hbase hline) fun σ H Q h => ?_
  obtain ⟨F, H0, m, δ, P, PX, ok, rs, h, g, gx⟩ := h
  refine ⟨F, H0, m, δ, _, PX, ok, rs, h, fun v H1 H01 m1 d s1 ok1 r1 h1 => ?_, gx⟩
  dsimp only at h1
  split at h1
  · rename_i a
    cases r1
    refine ⟨⟨_, rfl⟩, F, H01, m1, δ, _, PX, ok1, rs.mono s1, h1, fun u H2 H02 m2 d2 s2 ok2 r2 h2 => ?_, gx.mono s1⟩
    dsimp only at h2
    split at h2
    · rename_i b
      cases r2
      obtain ⟨⟨hb, hz⟩, h2⟩ := h2
      refine ⟨a, b, rfl, rfl, hb, hz, fun p hp => (g.mono (s1.trans s2)).tup ok2 hp (.cons (.str _) (.cons (.str _) (.cons (.str _) .nil))) h2⟩
    · exact h2.elim
  · exact h1.elim
end
end DL
/-! # int(text), int(text, 10); a, b, c = x, y, z; f(..) where a local name holds one of several defs -/
namespace PySem.W.KIN
open PySem PySem.Calls PySem.NumText PyProof.Rows
theorem typeCall_int_2 (a b : Value) : checkTypeCall "int" ⟨[a, b], []⟩ = pure () := by kernel_rfl
theorem newCall_int_2 (a b : Value) : checkBuiltinCall "int.__new__" ⟨[.type "int", a, b], []⟩ = pure () := by kernel_rfl
set_option maxHeartbeats 4000000 in
theorem gives_text10 {x : PySem.Str} {u v : Tok} {n : Int} (hl : x.length ≤ 640) (hn : PySem.intText? x = some n) : Gives (Builtin.«int.__new__» ⟨[.type "int", .str x u, .int 10 v], []⟩) (.int n) :=
  .of_wp fun M A E s Q h => by
    obtain ⟨hp, g, d, tk, os⟩ := s
    have f1 := F.conv_sub_int
    have f2 := F.madeHere_int
    have hs : (numSeenOf x).length ≤ 640 := Nat.le_trans (seen_length x) hl
    have hr : (int_private% "readNumeral") 0 10 (numSeenOf x) = (int_private% "Numeral.value") n ∧ ((numSeenOf x).length == (numTextOf x).length) = true := by
      rcases read0 x hs with ⟨m, h1, h2, h3⟩ | ⟨h1, _⟩
      · rw [hn] at h1
        injection h1 with h1
        subst h1
        exact ⟨h3, h2⟩
      · rw [hn] at h1
        cases h1
    have hk := Hid.mk (And.intro hs hr)
    clear hs hr hl hn
    repeat (any_goals (first
      | assumption
      | ((with_reducible show wpAny _ _ ((int_private% "intFromText") _ _ _) _ _ _); refine wp_text hk.out.1 hk.out.2.1 hk.out.2.2 ?_)
      | wp_step))
    all_goals first | exact ⟨_, rfl, h⟩ | skip
theorem call_text10 {prog : Program} {w : World} {A : Around} {E : Value → Shared → Prop} {s : Shared} {Q : Value → Shared → Prop} {x : PySem.Str} {t v : Tok} {n : Int} (hn : PySem.intText? x = some n) (hl : x.length ≤ 640) (h : Q (.int n s.toks) { s with toks := s.toks + 1 }) : wpAny (model prog w) A (call (.type "int") [.str x t, .int 10 v]) Q E s :=
  callType_new F.called_int F.newNe_int (typeCall_int_2 _ _) (newCall_int_2 _ _) (fun obj => F.args_object_init_3 obj _ _) F.entry_int_new (gives_text10 hl hn).meets (show (Made.int n).post _ s from ⟨rfl, h⟩)
end PySem.W.KIN
namespace L2
open PySem
theorem call_int_str10 {X : Cx} : CallR X (.type "int") (fun xs H Q => ∃ a n, xs = [.str a, .int 10] ∧ PySem.intText? a = some n ∧ a.length ≤ 640 ∧ Q (.int n) H) := by
  intro pins s σ H xs us Q I rs h
  obtain ⟨a, n, rfl, hn, hl, h⟩ := h
  cases rs with
  | cons r1 rs =>
    cases rs with
    | cons r2 rs =>
      cases rs
      obtain ⟨t, rfl⟩ := r1
      obtain ⟨v, rfl⟩ := r2
      exact PySem.W.KIN.call_text10 hn hl ⟨.int n, H, I.tok _, ⟨_, rfl⟩, h⟩
end L2
namespace DL
open PySem L2
open PyProof.Rows
section
variable {X : Cx} {W : WX} {e : Expr} {es : List Expr} {qs : DA} {pos p : Pos}
def cIntT : DC := fun xs m P => match xs with
  | [.int i] => P (.int i) m
  | [.bl k] => P (.int (if k then 1 else 0)) m
  | [.str a] => a.length ≤ 640 ∧ ∃ n, PySem.intText? a = some n ∧ P (.int n) m
  | [.str a, .int b] => b = 10 ∧ a.length ≤ 640 ∧ ∃ n, PySem.intText? a = some n ∧ P (.int n) m
  | _ => False
theorem intT_ok {K : KW} : CalD K (fun xs H Q => ((∃ i, xs = [.int i] ∧ Q (.int i) H) ∨ ∃ k, xs = [.bl k] ∧ Q (.int (if k then 1 else 0)) H) ∨ ((∃ a n, xs = [.str a] ∧ PySem.intText? a = some n ∧ a.length ≤ 640 ∧ Q (.int n) H) ∨ ∃ a n, xs = [.str a, .int 10] ∧ PySem.intText? a = some n ∧ a.length ≤ 640 ∧ Q (.int n) H)) cIntT := by
  intro F H0 m H vs ds P Q ok r h g
  unfold cIntT at h
  split at h
  · obtain ⟨v, rfl, q⟩ := r.one
    cases q
    exact .inl (.inl ⟨_, rfl, g.id ok (.int _) h⟩)
  · obtain ⟨v, rfl, q⟩ := r.one
    cases q
    exact .inl (.inr ⟨_, rfl, g.id ok (.int _) h⟩)
  · obtain ⟨v, rfl, q⟩ := r.one
    cases q
    obtain ⟨h1, n, h2, h⟩ := h
    exact .inr (.inl ⟨_, n, rfl, h2, h1, g.id ok (.int _) h⟩)
  · obtain ⟨v, w, rfl, q, q2⟩ := r.two
    cases q; cases q2
    obtain ⟨rfl, h1, n, h2, h⟩ := h
    exact .inr (.inr ⟨_, n, rfl, h2, h1, g.id ok (.int _) h⟩)
  · exact h.elim
theorem pd_intT {x : Str} (hm : X.mg x = none) (hv : bootBuiltins x = some (.type "int")) (ha : PA X (e :: es) (lA (kw X) W qs)) (hg : Gl X x := by rfl) (hn : x ≠ "__name__" := by decide) (hdb : (x == ("__debug__" : Str)) = false := by decide)
    (he : starEach (e :: es) X.env = (false, eval e X.env) :: starEach es X.env := by rfl) (hpl : (backTo pos (starEach es X.env)).any (·.1) = false := by rfl) : PE X (.Call (.Name x p) (e :: es) [] pos) (lE (kw X) W (rCB cIntT qs)) := pd_callTy (call_int1.or (call_int_str.or call_int_str10)) intT_ok hm hv ha hg hn hdb he hpl
end
/-! ### a, b, c = x, y, z -/
/-! ### one reading or the other; a local name that holds a def -/
end DL
namespace DL
open PySem L2
local macro_rules | `(tactic| walk_at "dl") => `(tactic| ((conv => whnf); try dsimp only))
/-! ### looks -/
inductive Lk where
  | any | is (n : Int) | frm (n : Int) | upto (n : Int) | inn (a b : Int) | one (ns : List Int) | but (l : Lk)
def Lk.d : Lk → D
  | .any => .tup [.str "any"]
  | .is n => .tup [.str "is", .int n]
  | .frm n => .tup [.str "from", .int n]
  | .upto n => .tup [.str "to", .int n]
  | .inn a b => .tup [.str "in", .int a, .int b]
  | .one ns => .tup [.str "one", .tup (ns.map .int)]
  | .but l => .tup [.str "but", l.d]
def Lk.dep : Lk → Nat
  | .but l => l.dep + 1
  | _ => 1
def Lk.nums : Lk → List Int
  | .any => []
  | .is n => [n]
  | .frm n => [n]
  | .upto n => [n]
  | .inn a b => [a, b]
  | .one ns => ns
  | .but l => l.nums
def Lk.few : Lk → Prop
  | .one ns => ns.length ≤ 4
  | .but l => l.few
  | _ => True
/-- numbers of a fit size -/
def Nm (n : Int) : Prop := n.natAbs < 2 ^ 1900
structure Lk.Ok (l : Lk) : Prop where
  nm : ∀ n ∈ l.nums, Nm n
  few : l.few
  dp : l.dep ≤ 2
theorem Lk.Ok.but {l : Lk} (ok : (Lk.but l).Ok) : l.Ok := ⟨ok.nm, ok.few, Nat.le_trans (Nat.le_succ _) ok.dp⟩
def Lk.text : Lk → Str
  | .any => "*"
  | .is n => dig n
  | .frm n => dig n ++ (".." : Str)
  | .upto n => (".." : Str) ++ dig n
  | .inn a b => dig a ++ (".." : Str) ++ dig b
  | .one ns => ("{" : Str) ++ Txt.join "," (ns.map dig) ++ ("}" : Str)
  | .but l => ("!" : Str) ++ l.text
theorem Nm.log {n : Int} (h : Nm n) : n.natAbs.log2 < 1920 := Nat.lt_of_lt_of_le (PySem.Flt.log2_lt_of (by decide : 0 < 1900) h) (by decide)
theorem Nm.len {n : Int} (h : Nm n) : (dig n).length ≤ 1901 := PySem.int_text_length_le (k := 1900) (by decide) (PySem.Flt.log2_lt_of (by decide) h) |> fun h => by
  have e : (dig n).length = (toString n).length := by
    show (Str.ofString (toString n)).cps.size = _
    rw [← Array.length_toList, PyProof.Rows.signs_ofString, List.length_map]
    rfl
  rw [e]; exact h
def sp_look_text : Nat → SpD
  | 0 => spNo
  | k + 1 => fun ds m P _ => ∃ l : Lk, ds = [l.d] ∧ l.dep ≤ k + 1 ∧ l.Ok ∧ P (.str l.text) m
def rd_look_text (self : SpD) : DS :=
    sSeq (sStar 3 4 (rV 0))
    (sSeq (sIf (rTst (rOp oEq (rV 3) (rC (.str "but")))) (sRet (rOp oAdd (rC (.str "!")) (rCall self [] (rCons (rOp oIx (rV 4) (rC (.int 0))) (rNil))))) (sNext))
    (sSeq (sIf (rTst (rOp oEq (rV 3) (rC (.str "any")))) (sRet (rC (.str "*"))) (sNext))
    (sSeq (sIf (rTst (rOp oEq (rV 3) (rC (.str "one")))) (sRet (rOp oAdd (rOp oAdd (rC (.str "{")) (rJoin (rC (.str ",")) (rLc (iAny (rOp oIx (rV 4) (rC (.int 0)))) [5] (gN 5) (qYes) (rCB cStr (rCons (rV 5) (rNil)))))) (rC (.str "}")))) (sNext))
    (sSeq (sSet 1 (rCB cStr (rCons (rOp oIx (rV 4) (rC (.int 0))) (rNil))))
    (sSeq (sSet 2 (rDctN [(rC (.str "is"), rV 1), (rC (.str "from"), rOp oAdd (rV 1) (rC (.str ".."))), (rC (.str "to"), rOp oAdd (rC (.str "..")) (rV 1)), (rC (.str "in"), rOp oAdd (rOp oAdd (rV 1) (rC (.str ".."))) (rCB cStr (rCons (rOp oIx (rV 4) (rNeg (rC (.int 1)))) (rNil))))]))
    (sRet (rOp oDGet (rV 2) (rV 3))))))))
theorem ln_look_text : ∀ kk ds m Q PX, sp_look_text kk ds m Q PX → ds.length = 1
  | 0, _, _, _, _, h => h.elim
  | _ + 1, _, _, _, _, ⟨_, e, _⟩ => by rw [e]; rfl
theorem val4a (a b c d : D) : valD (mergeD [] [((.inr "is" : Key), a), (.inr "from", b), (.inr "to", c), (.inr "in", d)]) (.inr "is") = some a := by
  simp only [mergeD, List.foldl]
  rw [valD_put, if_neg (by decide), valD_put, if_neg (by decide), valD_put, if_neg (by decide), valD_put, if_pos rfl]
theorem val4b (a b c d : D) : valD (mergeD [] [((.inr "is" : Key), a), (.inr "from", b), (.inr "to", c), (.inr "in", d)]) (.inr "from") = some b := by
  simp only [mergeD, List.foldl]
  rw [valD_put, if_neg (by decide), valD_put, if_neg (by decide), valD_put, if_pos rfl]
theorem val4c (a b c d : D) : valD (mergeD [] [((.inr "is" : Key), a), (.inr "from", b), (.inr "to", c), (.inr "in", d)]) (.inr "to") = some c := by
  simp only [mergeD, List.foldl]
  rw [valD_put, if_neg (by decide), valD_put, if_pos rfl]
theorem val4d (a b c d : D) : valD (mergeD [] [((.inr "is" : Key), a), (.inr "from", b), (.inr "to", c), (.inr "in", d)]) (.inr "in") = some d := by
  simp only [mergeD, List.foldl]
  rw [valD_put, if_pos rfl]
theorem l_dots : Str.length ".." = 2 := by decide
theorem textsD_strs {α : Type} (f : α → Str) (l : List α) : textsD (l.map fun x => D.str (f x)) = some (l.map f) := by
  rw [← textsD_map, List.map_map]; rfl
theorem sum_len {l : List Str} {k : Nat} (h : ∀ x ∈ l, x.length ≤ k) : (l.map (·.length)).sum ≤ l.length * k := by
  induction l with
  | nil => simp
  | cons x l ih =>
    have h1 := h x List.mem_cons_self
    have h2 := ih fun y hy => h y (List.mem_cons_of_mem _ hy)
    simp only [List.map_cons, List.sum_cons, List.length_cons, Nat.add_mul]
    omega
theorem join_len (s : Str) : ∀ l : List Str, (Txt.join s l).length ≤ (l.map (·.length)).sum + l.length * s.length := by
  intro l
  rw [TL.join_eq]
  induction l with
  | nil => exact Nat.zero_le _
  | cons x l ih =>
    cases l with
    | nil => rw [PyProof.Rows.join_one]; simp
    | cons y r =>
      rw [PyProof.Rows.join_cons_cons, PySem.Str.length_append, PySem.Str.length_append]
      simp only [List.map_cons, List.sum_cons, List.length_cons, Nat.add_mul] at ih ⊢
      omega
theorem Lk.dig_sum {ns : List Int} (hn : ∀ n ∈ ns, Nm n) (hl : ns.length ≤ 4) : ((ns.map dig).map (·.length)).sum + (ns.map dig).length * Str.length "," ≤ 8000 := by
  have h1 : ((ns.map dig).map (·.length)).sum ≤ (ns.map dig).length * 1901 := sum_len fun x hx => by
    obtain ⟨n, hn', rfl⟩ := List.mem_map.mp hx
    exact (hn n hn').len
  rw [List.length_map] at h1 ⊢
  have e : Str.length "," = 1 := by decide
  rw [e]
  omega
theorem Lk.text_len : ∀ (l : Lk), l.Ok → l.text.length ≤ 10000 + l.dep
  | .any, _ => by show Str.length "*" ≤ _; have : Str.length "*" = 1 := by decide
                  omega
  | .is n, ok => by have := (ok.nm n (by simp [Lk.nums])).len; show (dig n).length ≤ _; omega
  | .frm n, ok => by have := (ok.nm n (by simp [Lk.nums])).len; show (dig n ++ (".." : Str)).length ≤ _; rw [PySem.Str.length_append, l_dots]; omega
  | .upto n, ok => by have := (ok.nm n (by simp [Lk.nums])).len; show ((".." : Str) ++ dig n).length ≤ _; rw [PySem.Str.length_append, l_dots]; omega
  | .inn a b, ok => by
    have h1 := (ok.nm a (by simp [Lk.nums])).len
    have h2 := (ok.nm b (by simp [Lk.nums])).len
    show (dig a ++ (".." : Str) ++ dig b).length ≤ _; rw [PySem.Str.length_append, PySem.Str.length_append, l_dots]; omega
  | .one ns, ok => by
    have h1 := Lk.dig_sum (ns := ns) (fun n hn => ok.nm n hn) ok.few
    have h2 := join_len "," (ns.map dig)
    have e1 : Str.length "{" = 1 := by decide
    have e2 : Str.length "}" = 1 := by decide
    show (("{" : Str) ++ Txt.join "," (ns.map dig) ++ ("}" : Str)).length ≤ _
    rw [PySem.Str.length_append, PySem.Str.length_append, e1, e2]
    omega
  | .but l, ok => by
    have ih := Lk.text_len l ok.but
    have e1 : Str.length "!" = 1 := by decide
    show (("!" : Str) ++ l.text).length ≤ _
    rw [PySem.Str.length_append, e1]
    show _ ≤ 10000 + (l.dep + 1)
    omega
theorem pu_look_text : ∀ kk ds m Q PX, sp_look_text (kk + 1) ds m Q PX → rd_look_text (sp_look_text kk) (dEnds Q PX) (dstart ["look", "first", "some", "word", "rest", "number"] ds) m := by
  rintro kk ds m Q PX ⟨l, rfl, hd, ok, h⟩
  have l2 := l_dots
  cases l with
  | any =>
    walk_at "dl"
    refine ⟨by decide, ?_⟩
    walk_at "dl"
    exact h
  | is n =>
    have hn : Nm n := ok.nm n (by simp [Lk.nums])
    have hl : (Str.ofString (toString n)).length ≤ 1901 := hn.len
    have hb : Nm n := ok.nm n (by simp [Lk.nums])
    have hlb : (Str.ofString (toString n)).length ≤ 1901 := hb.len
    walk_at "dl"
    refine ⟨by show 1 < _; decide, ?_⟩
    walk_at "dl"
    refine ⟨hn.log, ?_⟩
    walk_at "dl"
    refine ⟨len_line (by omega), ?_⟩
    walk_at "dl"
    refine ⟨len_line (by omega), ?_⟩
    walk_at "dl"
    refine ⟨len_line (by omega), ?_⟩
    walk_at "dl"
    refine ⟨hb.log, ?_⟩
    walk_at "dl"
    refine ⟨len_line (by rw [PySem.Str.length_append]; omega), ?_⟩
    walk_at "dl"
    refine ⟨by show 4 ≤ _; decide, ?_⟩
    walk_at "dl"
    rw [val4a]
    exact h
  | frm n =>
    have hn : Nm n := ok.nm n (by simp [Lk.nums])
    have hl : (Str.ofString (toString n)).length ≤ 1901 := hn.len
    have hb : Nm n := ok.nm n (by simp [Lk.nums])
    have hlb : (Str.ofString (toString n)).length ≤ 1901 := hb.len
    walk_at "dl"
    refine ⟨by show 1 < _; decide, ?_⟩
    walk_at "dl"
    refine ⟨hn.log, ?_⟩
    walk_at "dl"
    refine ⟨len_line (by omega), ?_⟩
    walk_at "dl"
    refine ⟨len_line (by omega), ?_⟩
    walk_at "dl"
    refine ⟨len_line (by omega), ?_⟩
    walk_at "dl"
    refine ⟨hb.log, ?_⟩
    walk_at "dl"
    refine ⟨len_line (by rw [PySem.Str.length_append]; omega), ?_⟩
    walk_at "dl"
    refine ⟨by show 4 ≤ _; decide, ?_⟩
    walk_at "dl"
    rw [val4b]
    exact h
  | upto n =>
    have hn : Nm n := ok.nm n (by simp [Lk.nums])
    have hl : (Str.ofString (toString n)).length ≤ 1901 := hn.len
    have hb : Nm n := ok.nm n (by simp [Lk.nums])
    have hlb : (Str.ofString (toString n)).length ≤ 1901 := hb.len
    walk_at "dl"
    refine ⟨by show 1 < _; decide, ?_⟩
    walk_at "dl"
    refine ⟨hn.log, ?_⟩
    walk_at "dl"
    refine ⟨len_line (by omega), ?_⟩
    walk_at "dl"
    refine ⟨len_line (by omega), ?_⟩
    walk_at "dl"
    refine ⟨len_line (by omega), ?_⟩
    walk_at "dl"
    refine ⟨hb.log, ?_⟩
    walk_at "dl"
    refine ⟨len_line (by rw [PySem.Str.length_append]; omega), ?_⟩
    walk_at "dl"
    refine ⟨by show 4 ≤ _; decide, ?_⟩
    walk_at "dl"
    rw [val4c]
    exact h
  | inn a b =>
    have hn : Nm a := ok.nm a (by simp [Lk.nums])
    have hl : (Str.ofString (toString a)).length ≤ 1901 := hn.len
    have hb : Nm b := ok.nm b (by simp [Lk.nums])
    have hlb : (Str.ofString (toString b)).length ≤ 1901 := hb.len
    walk_at "dl"
    refine ⟨by show 2 < _; decide, ?_⟩
    walk_at "dl"
    refine ⟨hn.log, ?_⟩
    walk_at "dl"
    refine ⟨len_line (by omega), ?_⟩
    walk_at "dl"
    refine ⟨len_line (by omega), ?_⟩
    walk_at "dl"
    refine ⟨len_line (by omega), ?_⟩
    walk_at "dl"
    refine ⟨hb.log, ?_⟩
    walk_at "dl"
    refine ⟨len_line (by rw [PySem.Str.length_append]; omega), ?_⟩
    walk_at "dl"
    refine ⟨by show 4 ≤ _; decide, ?_⟩
    walk_at "dl"
    rw [val4d]
    exact h
  | one ns =>
    walk_at "dl"
    refine ⟨by show 1 < _; decide, ?_⟩
    walk_at "dl"
    refine comp_map (fun d => match d with | .int n => .str (dig n) | d => d) (by rw [List.length_map]; exact Nat.le_trans ok.few (by decide)) trivial (fun d hd Q q => ?_) ?_
    · obtain ⟨n, hn, rfl⟩ := List.mem_map.mp hd
      walk_at "dl"
      exact ⟨(ok.nm n hn).log, q⟩
    · rw [List.map_map]
      walk_at "dl"
      show (match textsD (ns.map fun n => D.str (dig n)) with | some ys => _ | none => False)
      rw [textsD_strs]
      walk_at "dl"
      have hs := Lk.dig_sum (ns := ns) (fun n hn => ok.nm n hn) ok.few
      have hj := join_len "," (ns.map dig)
      have e1 : Str.length "{" = 1 := by decide
      have e2 : Str.length "}" = 1 := by decide
      refine ⟨Nat.le_trans hs (by decide), ?_⟩
      walk_at "dl"
      refine ⟨len_line (by omega), ?_⟩
      walk_at "dl"
      refine ⟨len_line (by rw [PySem.Str.length_append]; omega), ?_⟩
      exact h
  | but l =>
    walk_at "dl"
    refine ⟨by show 1 < _; decide, ?_⟩
    walk_at "dl"
    have hdp : l.dep ≤ kk := by have : l.dep + 1 ≤ kk + 1 := hd; omega
    cases kk with
    | zero => cases l <;> simp [Lk.dep] at hdp
    | succ k =>
      have okl : l.Ok := ok.but
      have hdp2 := okl.dp
      refine ⟨l, rfl, hdp, okl, ?_⟩
      walk_at "dl"
      have hl := l.text_len okl
      have e1 : Str.length "!" = 1 := by decide
      exact ⟨len_line (by omega), h⟩
/-! ### two looks written alike are alike -/
/-! ### looks as data -/
theorem fit_txt (s : String) (n : Nat) : fitD n (.str (Str.ofString s)) := by
  have h : ∀ c ∈ (Str.ofString s).cps.toList, c < 1114112 := fun c hc => by
    rw [PyProof.Rows.signs_ofString] at hc
    obtain ⟨ch, _, rfl⟩ := List.mem_map.mp hc
    have := ch.valid
    simp only [UInt32.isValidChar, Nat.isValidChar] at this
    show ch.val.toNat < 1114112
    omega
  cases n <;> exact h
end DL
namespace DL
open PySem L2
local macro_rules | `(tactic| walk_at "dl") => `(tactic| ((conv => whnf); try dsimp only))
abbrev sp__law_cell_at : SpD := spCellAt
abbrev rd__law_cell_at : DS := rdCellAt
theorem ln__law_cell_at : ∀ ds m Q PX, sp__law_cell_at ds m Q PX → ds.length = 2 := by rintro ds m Q PX ⟨d, k, rfl, _⟩; rfl
theorem pu__law_cell_at : ∀ ds m Q PX, sp__law_cell_at ds m Q PX → rd__law_cell_at (dEnds Q PX) (dstart ["_law_script", "_law_k"] ds) m := cellAt_pure _ _
abbrev sp__law_draw : SpD := spDrawK
/-- one draw of a number below many, at its place in a reading -/
theorem Dr.num {w : Addr} {n : Nat} {m : Mu} {P P2 : DK} {many : Int} {R : D → Prop} (h : Dr w n R m P) (hn : 1 ≤ n) (h0 : 0 < many) (h1 : many.natAbs < 2 ^ 200)
    (h2 : ∀ (r : Int) m', 0 ≤ r → r < many → Kp [w] m m' → Dr w (n - 1) R m' P → P2 (.int r) m') : spDrawK [.adr w, .int many] m P2 fun _ _ _ => False := by
  obtain ⟨k, wl, hk, h⟩ := h
  refine ⟨w, many, rfl, h0, h1, k, wl, by omega, fun d m' hr kp wl' => ?_⟩
  obtain ⟨r, r0, r1, rfl⟩ := hr
  exact h2 r m' r0 r1 kp ⟨k + 1, wl', by omega, fun d2 m2 hd kp2 w2 => h d2 m2 hd (kp.trans kp2) (by rw [show k + 1 + (n - 1) = k + n by omega] at w2; exact w2)⟩
theorem Dr.sub {w : Addr} {n j : Nat} {m : Mu} {P P2 : DK} {R R2 : D → Prop} (h : Dr w n R m P) (hn : j ≤ n) (h2 : ∀ d m', R2 d → Kp [w] m m' → Dr w (n - j) R m' P → P2 d m') : Dr w j R2 m P2 := by
  obtain ⟨k, wl, hk, h⟩ := h
  refine ⟨k, wl, by omega, fun d m' hr kp wl' => h2 d m' hr kp ⟨k + j, wl', by omega, fun d2 m2 hd kp2 w2 => h d2 m2 hd (kp.trans kp2) (by rw [show k + j + (n - j) = k + n by omega] at w2; exact w2)⟩⟩
theorem Dr.done {w : Addr} {n : Nat} {m : Mu} {P : DK} {R : D → Prop} {d : D} (h : Dr w n R m P) (hd : R d) : P d m := by
  obtain ⟨k, wl, hk, h⟩ := h
  exact h d m hd (Kp.refl _ _) (wl.mono (by omega))
theorem Dr.imp {w : Addr} {n : Nat} {m : Mu} {P P2 : DK} {R R2 : D → Prop} (h : Dr w n R m P) (h1 : ∀ d, R2 d → R d) (h2 : ∀ d m', Kp [w] m m' → R2 d → P d m' → P2 d m') : Dr w n R2 m P2 := by
  obtain ⟨k, wl, hk, h⟩ := h
  exact ⟨k, wl, hk, fun d m' hd kp w' => h2 d m' kp hd (h d m' (h1 d hd) kp w')⟩
/-- something else of ours is new -/
theorem Dr.new {w : Addr} {n : Nat} {m m1 : Mu} {P : DK} {R : D → Prop} (h : Dr w n R m P) (kp : Kp [] m m1) : Dr w n R m1 P := by
  obtain ⟨k, wl, hk, h⟩ := h
  exact ⟨k, wl.keep kp (by simp), hk, fun d m' hd kp2 w' => h d m' hd ((kp.more (by simp)).trans kp2) w'⟩
/-- items that can be told by their place -/
def sqD : D → Option (List D)
  | .lst xs => some xs
  | .tup xs => some xs
  | _ => none
/-- .. of ours, too -/
def Sq (m : Mu) (w : Addr) (X : D) (xs : List D) : Prop := sqD X = some xs ∨ ∃ q, X = .adr q ∧ q ≠ w ∧ m q = some (.lst xs)
def sp__law_one : SpD := fun ds m P _ => ∃ (w : Addr) (X : D) (xs : List D), ds = [.adr w, X] ∧ Sq m w X xs ∧ 0 < xs.length ∧ xs.length ≤ 1000000 ∧ Dr w 1 (fun d => d ∈ xs) m P
def rd__law_one : DS :=
    sRet (rOp oIx (rV 1) (rCall sp__law_draw [] (rCons (rV 0) (rCons (rCB cLen (rCons (rV 1) (rNil))) (rNil)))))
theorem ln__law_one : ∀ ds m Q PX, sp__law_one ds m Q PX → ds.length = 2 := by rintro ds m Q PX ⟨d, k, _, rfl, _⟩; rfl
theorem pu__law_one : ∀ ds m Q PX, sp__law_one ds m Q PX → rd__law_one (dEnds Q PX) (dstart ["_law_well_here", "_law_some"] ds) m := by
  rintro ds m Q PX ⟨w, X, xs, rfl, hX, h0, h1, h⟩
  have pw : (2 : Nat) ^ 200 > 1000000 := by decide
  have fin : spDrawK [.adr w, .int (xs.length : Nat)] m (fun y m2 => oIx X y m2 Q) PX := by
    obtain ⟨k, wl, hk, h⟩ := h
    refine ⟨w, _, rfl, by omega, by omega, k, wl, hk, fun d m' hd kp w' => ?_⟩
    obtain ⟨r, r0, r1, rfl⟩ := hd
    obtain ⟨x, e1, e2⟩ := atI_some r0 r1
    have hq := h x m' (List.mem_of_getElem? e2) kp w'
    rcases hX with hX | ⟨q, rfl, hw, hX⟩
    · cases X with
      | lst ys => cases hX; show (match atI xs r with | some d => Q d m' | none => False); rw [e1]; exact hq
      | tup ys => cases hX; show (match atI xs r with | some d => Q d m' | none => False); rw [e1]; exact hq
      | _ => cases hX
    · show (match asL m' (.adr q) with | some ds => _ | none => False)
      rw [asL_adr (kp q _ (by simpa using hw) hX)]
      show (match atI xs r with | some d => Q d m' | none => False)
      rw [e1]; exact hq
  rcases hX with hX | ⟨q, rfl, hw, hX⟩
  · cases X with
    | lst ys => cases hX; exact fin
    | tup ys => cases hX; exact fin
    | _ => cases hX
  · walk_at "dl"
    rw [asL_adr hX]
    exact fin
/-- whole numbers below 2 ^ b -/
def Bd (b : Nat) (n : Int) : Prop := n.natAbs < 2 ^ b
theorem Bd.nm {b : Nat} {n : Int} (h : Bd b n) (hb : b ≤ 1900 := by decide) : Nm n := Nat.lt_of_lt_of_le h (Nat.pow_le_pow_right (by decide) hb)
theorem Bd.mono {b c : Nat} {n : Int} (h : Bd b n) (hb : b ≤ c := by omega) : Bd c n := Nat.lt_of_lt_of_le h (Nat.pow_le_pow_right (by decide) hb)
/-! ### each once -/
theorem any_deq {xs : List D} {x : D} (hx : pur x = true) (h : ∀ d ∈ xs, pur d = true) : (xs.any fun z => deq z x) = true ↔ x ∈ xs := by
  rw [List.any_eq_true]
  constructor
  · rintro ⟨z, hz, e⟩
    rw [← (deq_iff (h z hz) hx).mp e]; exact hz
  · intro hm
    exact ⟨x, hm, (deq_iff hx hx).mpr rfl⟩
theorem dat_pur {m : Mu} {d : D} (h : pur d = true) : dat m d = d := by
  cases d <;> first | rfl | (simp [pur] at h)
theorem cut_take (xs : List D) (i : Nat) : cutD xs none (some (i : Int)) = xs.take i := by
  unfold cutD
  rw [HT.sIx_nat, HT.sIx_none]
  simp only [List.drop_zero, Nat.sub_zero]
  by_cases h : i ≤ xs.length
  · rw [Nat.min_eq_left h]
  · rw [Nat.min_eq_right (by omega), List.take_of_length_le (Nat.le_refl _), List.take_of_length_le (by omega)]
end DL
namespace DL
open PySem L2
local macro_rules | `(tactic| walk_at "dl") => `(tactic| ((conv => whnf); try dsimp only))
def Lk.uniq : Lk → Prop
  | .one ns => ns.Nodup
  | .but l => l.uniq
  | _ => True
structure Lk.Good (b : Nat) (l : Lk) : Prop where
  nm : ∀ n ∈ l.nums, Bd b n
  few : l.few
  dp : l.dep ≤ 2
  un : l.uniq
theorem Lk.Good.ok {b : Nat} {l : Lk} (h : l.Good b) (hb : b ≤ 1900 := by decide) : l.Ok := ⟨fun n hn => (h.nm n hn).nm hb, h.few, h.dp⟩
theorem Wl.some {m : Mu} {w : Addr} {k : Nat} (h : Wl m w k) : m w ≠ none := by
  obtain ⟨a, b, c, e, _⟩ := h.ex
  rw [e]; exact fun z => by cases z
/-! ### a number by its figures -/
/-! ### a look as it is written, word by word -/
end DL
namespace DL
open PySem L2
local macro_rules | `(tactic| walk_at "dl") => `(tactic| ((conv => whnf); try dsimp only))
local macro_rules | `(tactic| walk_at "sd") => `(tactic| first | trivial | exact Nat.zero_le _ | assumption | decide | omega | exact len_line (by first | decide | omega | (simp; done) | (simp; omega)) | (simp; done) | (simp; omega) | exact ⟨by decide, by decide, by decide⟩ | exact .inl ⟨by decide, by decide⟩ | exact .inl ⟨by omega, by omega⟩ | exact wide_div (b := 64) (by decide) (by decide) (by decide) (by decide))
local macro_rules | `(tactic| walk_at "go") => `(tactic| ((conv => whnf); (try dsimp only); repeat ((with_reducible refine And.intro ?_ ?_); (focus (walk_at "sd")); (conv => whnf); (try dsimp only))))
local macro_rules | `(tactic| walk_at "th") => `(tactic| repeat' (first | assumption | exact thD_txt _ _ | exact thD_int | exact thD_non | exact thD_bl | (refine thD_mono _ _ _ ?_ (by assumption); decide) | refine List.forall_mem_cons.mpr (And.intro ?_ ?_) | exact List.forall_mem_nil _ | refine thD_tup (by simp) ?_ | refine thD_lst (by simp) ?_))
local macro_rules | `(tactic| walk_at "ln") => `(tactic| (intro ds m Q PX h; repeat (obtain ⟨_, h⟩ := h); subst_vars; rfl))
section
/-! ### comprehensions that begin with something; two fors -/
/-! ### looks: which numbers fit, where they turn -/
def Lk.fits : Lk → Int → Bool
  | .any, _ => true
  | .is k, n => decide (n = k)
  | .frm k, n => decide (k ≤ n)
  | .upto k, n => decide (n ≤ k)
  | .inn a b, n => decide (a ≤ n) && decide (n ≤ b)
  | .one ns, n => ns.any fun k => decide (k = n)
  | .but l, n => !l.fits n
theorem flat_ints (ns : List Int) : (ns.map D.int).all flatD = true := by simp [flatD]
/-! ### turns, samples -/
/-! ### == of lists of whole numbers, of pure data -/
theorem atI0 {α : Type} (x : α) (xs : List α) : atI (x :: xs) 0 = some x := by
  unfold atI ixN
  rw [if_pos (by decide), if_pos (by simp)]
  rfl
/-! ### the sample that a number is like -/
/-! ### the mathematics of turning -/
end
section
/-! ### things of any kind -/
def thD : Nat → D → Prop
  | _, .non => True
  | _, .bl _ => True
  | _, .int _ => True
  | _, .str x => x.length ≤ 100000 ∧ ∀ c ∈ x.cps.toList, c < 1114112
  | n + 1, .lst ds => ds.length ≤ 10000 ∧ ∀ d ∈ ds, thD n d
  | n + 1, .tup ds => ds.length ≤ 10000 ∧ ∀ d ∈ ds, thD n d
  | _, _ => False
theorem thD_fit : ∀ (n : Nat) (d : D), thD n d → fitD n d := by
  intro n
  induction n with
  | zero => intro d h; cases d <;> first | trivial | exact h.2 | exact h
  | succ n ih =>
    intro d h
    cases d with
    | lst ds => exact fun d hd => ih d (h.2 d hd)
    | tup ds => exact fun d hd => ih d (h.2 d hd)
    | str x => exact h.2
    | _ => first | trivial | exact h
theorem thD_mono : ∀ (n k : Nat) (d : D), n ≤ k → thD n d → thD k d := by
  intro n
  induction n with
  | zero => intro k d _ h; cases d <;> first | (cases k <;> exact h) | cases h
  | succ n ih =>
    intro k d hk h
    cases k with
    | zero => omega
    | succ k =>
      cases d with
      | lst ds => exact ⟨h.1, fun d hd => ih k d (by omega) (h.2 d hd)⟩
      | tup ds => exact ⟨h.1, fun d hd => ih k d (by omega) (h.2 d hd)⟩
      | _ => first | trivial | exact h
def Thg (d : D) : Prop := thD 20 d ∨ ∃ kvs, d = .dct kvs
def isWhole : D → Bool
  | .int _ => true
  | _ => false
theorem Thg.cases_ {d : D} (h : Thg d) {p : D → Prop} (h1 : p .non) (h2 : ∀ b, p (.bl b)) (h3 : ∀ i, p (.int i)) (h4 : ∀ x, x.length ≤ 100000 → (∀ c ∈ x.cps.toList, c < 1114112) → p (.str x)) (h5 : ∀ ds, ds.length ≤ 10000 → (∀ d ∈ ds, thD 19 d) → p (.lst ds)) (h6 : ∀ ds, ds.length ≤ 10000 → (∀ d ∈ ds, thD 19 d) → p (.tup ds)) (h7 : ∀ kvs, p (.dct kvs)) : p d := by
  rcases h with h | ⟨kvs, rfl⟩
  · cases d with
    | non => exact h1
    | bl b => exact h2 b
    | int i => exact h3 i
    | str x => exact h4 x h.1 h.2
    | lst ds => exact h5 ds h.1 h.2
    | tup ds => exact h6 ds h.1 h.2
    | _ => cases h
  · exact h7 kvs
theorem thg_of {n : Nat} {d : D} (h : thD n d) (hn : n ≤ 20 := by decide) : Thg d := .inl (thD_mono n 20 d hn h)
def sp_is_whole : SpD := fun ds m P _ => ∃ d, ds = [d] ∧ Thg d ∧ P (.bl (isWhole d)) m
def rd_is_whole : DS :=
    sRet (rAndV (rCB cIsi (rCons (rV 0) (rCons (rC (.ty "int")) (rNil)))) (rNotV (rCB cIsi (rCons (rV 0) (rCons (rC (.ty "bool")) (rNil))))))
theorem ln_is_whole : ∀ ds m Q PX, sp_is_whole ds m Q PX → ds.length = 1 := fun ds m Q PX h => by repeat' (first | (subst_vars; rfl; done) | (refine Or.elim h (fun h => ?_) (fun h => ?_)) | (obtain ⟨_, h⟩ := h))
theorem pu_is_whole : ∀ ds m Q PX, sp_is_whole ds m Q PX → rd_is_whole (dEnds Q PX) (dstart ["thing"] ds) m := by
  rintro ds m Q PX ⟨d, rfl, hd, h⟩
  revert h
  refine hd.cases_ (p := fun d => Q (.bl (isWhole d)) m → rd_is_whole (dEnds Q PX) (dstart ["thing"] [d]) m) ?_ ?_ ?_ ?_ ?_ ?_ ?_ <;> (intros; walk_at "go"; assumption)
/-! ### no two alike -/
noncomputable def ndB (xs : List D) : Bool := @decide xs.Nodup (Classical.propDecidable _)
theorem ndB_iff {xs : List D} : ndB xs = true ↔ xs.Nodup := @decide_eq_true_iff _ (Classical.propDecidable _)
def sp_are_unlike : SpD := fun ds m P _ => ∃ xs : List D, ds = [.lst xs] ∧ xs.length ≤ 100000 ∧ (∀ d ∈ xs, pur d = true ∧ fitD 20 d) ∧ P (.bl (ndB xs)) m
def rd_are_unlike : DS :=
    sRet (rCB cAll (rCons (rLc (iEnumD (rCons (rV 0) (rNil))) [1, 2] (gT [1, 2]) (qYes) (rOp (oInN true) (rV 2) (rSl (rV 0) rNoP (rPart (rV 1))))) (rNil)))
theorem ln_are_unlike : ∀ ds m Q PX, sp_are_unlike ds m Q PX → ds.length = 1 := fun ds m Q PX h => by repeat' (first | (subst_vars; rfl; done) | (refine Or.elim h (fun h => ?_) (fun h => ?_)) | (obtain ⟨_, h⟩ := h))
theorem nodup_get {α : Type} : ∀ xs : List α, xs.Nodup ↔ ∀ (i : Nat) (x : α), xs[i]? = some x → x ∉ xs.take i := by
  intro xs
  unfold List.Nodup
  rw [List.pairwise_iff_getElem]
  constructor
  · intro h i x e hm
    obtain ⟨j, hj⟩ := List.mem_iff_getElem?.mp hm
    rw [List.getElem?_take] at hj
    split at hj
    · rename_i hlt
      obtain ⟨hi, e1⟩ := List.getElem?_eq_some_iff.mp e
      obtain ⟨hj', e2⟩ := List.getElem?_eq_some_iff.mp hj
      exact h j i hj' hi hlt (by rw [e1, e2])
    · cases hj
  · intro h j i hj hi hji e
    have e1 : xs[i]? = some xs[i] := List.getElem?_eq_getElem hi
    refine h i _ e1 (List.mem_iff_getElem?.mpr ⟨j, ?_⟩)
    rw [List.getElem?_take, if_pos hji, List.getElem?_eq_getElem hj, e]
theorem pu_are_unlike : ∀ ds m Q PX, sp_are_unlike ds m Q PX → rd_are_unlike (dEnds Q PX) (dstart ["some", "at", "one"] ds) m := by
  rintro ds m Q PX ⟨xs, rfl, hl, hp, h⟩
  walk_at "go"
  have sub : ∀ i, ∀ d ∈ xs.take i, pur d = true := fun i d hd => (hp d (List.mem_of_mem_take hd)).1
  refine comp_inv (fun i acc m' => m' = m ∧ acc = ((List.range i).map fun j => D.bl (match xs[j]? with | some x => !((xs.take j).any fun z => deq z x) | none => true))) (fun i acc m' hh => ?_) (by rw [enumD_length]; omega) (fun i d acc m' e hh => ?_) (fun acc m' hh => ?_) ⟨rfl, rfl⟩
  · rw [hh.2]; simp
  · obtain ⟨rfl, rfl⟩ := hh
    refine ⟨trivial, fun Kt Kf k1 k2 => ?_⟩
    rw [enumD_get] at e
    cases hx : xs[i]? with
    | none => rw [hx] at e; cases e
    | some x =>
      rw [hx] at e
      cases e
      have hm := List.mem_of_getElem? hx
      refine ⟨rfl, ?_⟩
      have e0 : ((0 + i : Nat) : Int) = (i : Int) := by simp
      walk_at "dl"
      rw [e0, cut_take]
      refine ⟨.inr ⟨?_, ?_⟩, ?_⟩
      · rw [dat_pur (hp x hm).1]; exact shp_of (hp x hm).2
      · exact shp_of (n := 21) fun d hd => (hp d (List.mem_of_mem_take hd)).2
      · rw [dat_pur (hp x hm).1]
        exact k1 _ _ ⟨rfl, by rw [List.range_succ, List.map_append, List.map_singleton, hx]; rfl⟩
  · obtain ⟨rfl, rfl⟩ := hh
    refine ⟨trivial, ?_⟩
    rw [enumD_length]
    walk_at "dl"
    have e3 : ((List.range xs.length).map fun j => D.bl (match xs[j]? with | some x => !((xs.take j).any fun z => deq z x) | none => true)) = ((List.range xs.length).map fun j => (match xs[j]? with | some x => !((xs.take j).any fun z => deq z x) | none => true)).map .bl := by rw [List.map_map]; rfl
    rw [e3, boolsD_map]
    have e4 : (((List.range xs.length).map fun j => (match xs[j]? with | some x => !((xs.take j).any fun z => deq z x) | none => true)).all id) = ndB xs := by
      rw [Bool.eq_iff_iff, List.all_eq_true, ndB_iff, nodup_get]
      constructor
      · intro z i x e hm
        have hl : i < xs.length := (List.getElem?_eq_some_iff.mp e).1
        have := z _ (List.mem_map.mpr ⟨i, List.mem_range.mpr hl, rfl⟩)
        rw [e] at this
        simp only [id, Bool.not_eq_true'] at this
        rw [← Bool.not_eq_true, any_deq (hp x (List.mem_of_getElem? e)).1 (sub i)] at this
        exact this hm
      · intro z b hb
        obtain ⟨j, hj, rfl⟩ := List.mem_map.mp hb
        have hl := List.mem_range.mp hj
        have e : xs[j]? = some xs[j] := List.getElem?_eq_getElem hl
        rw [e]
        simp only [id, Bool.not_eq_true']
        rw [← Bool.not_eq_true, any_deq (hp _ (List.getElem_mem hl)).1 (sub j)]
        exact z j _ e
    show Q (.bl _) m'
    rw [e4]
    exact h
/-! ### looks, read by their form -/
noncomputable def oneB (xs : List D) : Bool := decide (xs.length ≤ 4) && (xs.all isWhole && ndB xs)
noncomputable def oneD : D → Bool
  | .tup xs => oneB xs
  | _ => false
noncomputable def lkB (w : Str) (rest : List D) : Bool :=
  if w = "any" then rest.isEmpty else if w = "one" then (match rest with | [x] => oneD x | _ => false)
  else if w = "is" ∨ w = "from" ∨ w = "to" then decide (rest.length = 1) && rest.all isWhole else if w = "in" then decide (rest.length = 2) && rest.all isWhole else false
noncomputable def plB : D → Bool
  | .tup (.str w :: rest) => lkB w rest
  | _ => false
noncomputable def lookB : D → Bool
  | .tup [.str w, x] => if w = "but" then plB x else lkB w [x]
  | d => plB d
theorem wholes {xs : List D} (h : xs.all isWhole = true) : ∃ ns : List Int, xs = ns.map .int := by
  induction xs with
  | nil => exact ⟨[], rfl⟩
  | cons d xs ih =>
    rw [List.all_cons, Bool.and_eq_true] at h
    obtain ⟨ns, rfl⟩ := ih h.2
    cases d with
    | int i => exact ⟨i :: ns, rfl⟩
    | _ => cases h.1
theorem all_whole (ns : List Int) : (ns.map D.int).all isWhole = true := by simp [isWhole]
/-- [is_whole(x) for x in xs] -/
theorem comp_whole {Ph : Mu → Prop} {δ : DSt} {j : Nat} {m : Mu} {P : List D → Mu → Prop} {xs : List D} (ph : Ph m) (hl : xs.length ≤ 100000) (hx : ∀ d ∈ xs, Thg d) (hj : j < δ.length) (h : P ((xs.map isWhole).map .bl) m) : rComp Ph (gN j) qYes (rCall sp_is_whole [] (rCons (rV j) (rNil))) δ P xs [] m := by
  refine comp_map (fun d => .bl (isWhole d)) (by omega) ph (fun d hd Q q => ?_) ?_
  · show (match (δ.set j (some d))[j]? with | some (some d) => _ | _ => False)
    rw [List.getElem?_set_self hj]
    exact ⟨d, rfl, hx d hd, q⟩
  · rw [List.map_map] at h; exact h
theorem all_id {α : Type} (f : α → Bool) (xs : List α) : (xs.map f).all id = xs.all f := by rw [List.all_map]; rfl
def sp_is_one : SpD := fun ds m P _ => ∃ d, ds = [d] ∧ Thg d ∧ P (.bl (oneD d)) m
def rd_is_one : DS :=
    sSeq (sIf (rOr (rNot (rTru (rCB cIsi (rCons (rV 0) (rCons (rC (.ty "tuple")) (rNil)))))) (rTst (rOp oGt (rCB cLen (rCons (rV 0) (rNil))) (rC (.int 4))))) (sRet (rC (.bl false))) (sNext))
    (sRet (rAndV (rCB cAll (rCons (rLc (iAny (rV 0)) [1] (gN 1) (qYes) (rCall sp_is_whole [] (rCons (rV 1) (rNil)))) (rNil))) (rCall sp_are_unlike [] (rCons (rCB cLst (rCons (rV 0) (rNil))) (rNil)))))
theorem ln_is_one : ∀ ds m Q PX, sp_is_one ds m Q PX → ds.length = 1 := fun ds m Q PX h => by repeat' (first | (subst_vars; rfl; done) | (refine Or.elim h (fun h => ?_) (fun h => ?_)) | (obtain ⟨_, h⟩ := h))
theorem pu_is_one : ∀ ds m Q PX, sp_is_one ds m Q PX → rd_is_one (dEnds Q PX) (dstart ["numbers", "number"] ds) m := by
  rintro ds m Q PX ⟨d, rfl, hd, h⟩
  revert h
  refine hd.cases_ (p := fun d => Q (.bl (oneD d)) m → rd_is_one (dEnds Q PX) (dstart ["numbers", "number"] [d]) m) ?_ ?_ ?_ ?_ ?_ ?_ ?_
  all_goals (try (intros; walk_at "go"; assumption))
  intro xs hl hx h
  walk_at "go"
  change Q (.bl (oneB xs)) m at h
  unfold oneB at h
  cases h4 : decide ((4 : Int) < (xs.length : Nat)) with
  | true =>
    have := of_decide_eq_true h4
    rw [decide_eq_false (by omega : ¬ xs.length ≤ 4)] at h
    exact h
  | false =>
    have := of_decide_eq_false h4
    rw [decide_eq_true (by omega : xs.length ≤ 4), Bool.true_and] at h
    walk_at "go"
    refine comp_whole trivial (by omega) (fun d hd => thg_of (hx d hd)) (by exact (by decide : 1 < 2)) ?_
    walk_at "dl"
    rw [boolsD_map]
    dsimp only
    rw [all_id]
    cases hw : xs.all isWhole with
    | false => rw [hw] at h; exact h
    | true =>
      rw [hw, Bool.true_and] at h
      obtain ⟨ns, rfl⟩ := wholes hw
      walk_at "go"
      refine ⟨_, rfl, by omega, fun d hd => ?_, h⟩
      obtain ⟨n, _, rfl⟩ := List.mem_map.mp hd
      exact ⟨rfl, trivial⟩
/-! ### is_plain, is_look -/
theorem shpT {n : Nat} {d : D} {m : Mu} (h : thD n d) (hn : n ≤ 60 := by decide) : shp (dat m d) := by
  cases d <;> first | exact shp_of (thD_fit _ _ h) hn | (cases n <;> cases h)
theorem deq_tup_nil {xs : List D} : deq (.tup xs) (.tup []) = xs.isEmpty := by
  unfold deq
  rw [py, py, PyData.eqv]
  cases xs with
  | nil => rw [pyL, PyData.eqvAll]; rfl
  | cons d l => rw [pyL, pyL, PyData.eqvAll]; rfl
theorem deq_lst_nil {xs : List D} : deq (.lst xs) (.lst []) = xs.isEmpty := by
  unfold deq
  rw [py, py, PyData.eqv]
  cases xs with
  | nil => rw [pyL, PyData.eqvAll]; rfl
  | cons d l => rw [pyL, pyL, PyData.eqvAll]; rfl
def sp_is_plain : SpD := fun ds m P _ => ∃ d, ds = [d] ∧ Thg d ∧ P (.bl (plB d)) m
def rd_is_plain : DS :=
    sSeq (sIf (rOr (rNot (rTru (rCB cIsi (rCons (rV 0) (rCons (rC (.ty "tuple")) (rNil)))))) (rOr (rTst (rOp oEq (rV 0) (rTup (rNil)))) (rNot (rTru (rCB cIsi (rCons (rOp oIx (rV 0) (rC (.int 0))) (rCons (rC (.ty "str")) (rNil)))))))) (sRet (rC (.bl false))) (sNext))
    (sSeq (sStar 1 2 (rV 0))
    (sSeq (sIf (rOr (rTst (rOp (oInK true [("any", .int 1), ("is", .int 2), ("from", .int 2), ("to", .int 2), ("in", .int 3), ("one", .int 2)]) (rV 1) (rC .non))) (rTst (rOp oNe (rCB cLen (rCons (rV 0) (rNil))) (rIxK [("any", .int 1), ("is", .int 2), ("from", .int 2), ("to", .int 2), ("in", .int 3), ("one", .int 2)] (rV 1))))) (sRet (rC (.bl false))) (sNext))
    (sSeq (sIf (rTst (rOp oEq (rV 1) (rC (.str "one")))) (sRet (rCall sp_is_one [] (rCons (rOp oIx (rV 0) (rC (.int 1))) (rNil)))) (sNext))
    (sRet (rCB cAll (rCons (rLc (iAny (rV 2)) [3] (gN 3) (qYes) (rCall sp_is_whole [] (rCons (rV 3) (rNil)))) (rNil)))))))
theorem ln_is_plain : ∀ ds m Q PX, sp_is_plain ds m Q PX → ds.length = 1 := fun ds m Q PX h => by repeat' (first | (subst_vars; rfl; done) | (refine Or.elim h (fun h => ?_) (fun h => ?_)) | (obtain ⟨_, h⟩ := h))
theorem lkB_num (rest : List D) : ∀ q ∈ ([("any", 0), ("is", 1), ("from", 1), ("to", 1), ("in", 2)] : List (Str × Nat)), lkB q.1 rest = (decide (rest.length = q.2) && rest.all isWhole) := by
  intro q hq
  simp only [List.mem_cons, List.not_mem_nil, or_false] at hq
  rcases hq with rfl | rfl | rfl | rfl | rfl
  · show lkB "any" rest = _
    unfold lkB
    rw [if_pos rfl]
    cases rest <;> simp
  · show lkB "is" rest = _
    unfold lkB
    rw [if_neg (by decide), if_neg (by decide), if_pos (by decide)]
  · show lkB "from" rest = _
    unfold lkB
    rw [if_neg (by decide), if_neg (by decide), if_pos (by decide)]
  · show lkB "to" rest = _
    unfold lkB
    rw [if_neg (by decide), if_neg (by decide), if_pos (by decide)]
  · show lkB "in" rest = _
    unfold lkB
    rw [if_neg (by decide), if_neg (by decide), if_neg (by decide), if_pos (by decide)]
theorem lkB_one (rest : List D) : lkB "one" rest = (match rest with | [x] => oneD x | _ => false) := by
  unfold lkB
  rw [if_neg (by decide), if_pos rfl]
theorem lkB_no {w : Str} {rest : List D} (h1 : w ≠ "one") (h2 : ∀ q ∈ ([("any", 0), ("is", 1), ("from", 1), ("to", 1), ("in", 2)] : List (Str × Nat)), w ≠ q.1) : lkB w rest = false := by
  have a1 := h2 ("any", 0) (by decide)
  have a2 := h2 ("is", 1) (by decide)
  have a3 := h2 ("from", 1) (by decide)
  have a4 := h2 ("to", 1) (by decide)
  have a5 := h2 ("in", 2) (by decide)
  unfold lkB
  rw [if_neg a1, if_neg h1, if_neg (fun z => z.elim a2 fun z => z.elim a3 a4), if_neg a5]
theorem pu_is_plain : ∀ ds m Q PX, sp_is_plain ds m Q PX → rd_is_plain (dEnds Q PX) (dstart ["look", "word", "rest", "number"] ds) m := by
  rintro ds m Q PX ⟨d, rfl, hd, h⟩
  revert h
  refine hd.cases_ (p := fun d => Q (.bl (plB d)) m → rd_is_plain (dEnds Q PX) (dstart ["look", "word", "rest", "number"] [d]) m) ?_ ?_ ?_ ?_ ?_ ?_ ?_
  all_goals (try (intros; walk_at "go"; assumption))
  intro xs hl hx h
  walk_at "go"
  refine ⟨shpT (n := 20) ⟨hl, hx⟩, shpT (n := 20) ⟨by simp, fun _ z => by cases z⟩, ?_⟩
  show (match (if false = true then _ else deq (.tup xs) (.tup [])) with | true => _ | false => _)
  rw [deq_tup_nil]
  cases xs with
  | nil => walk_at "go"; exact h
  | cons x rest =>
    have hx0 := hx x List.mem_cons_self
    have hxr : ∀ d ∈ rest, thD 19 d := fun d z => hx d (List.mem_cons_of_mem _ z)
    walk_at "go"
    rw [atI0]
    walk_at "go"
    cases x with
    | str w =>
      have hl' : rest.length < 10000 := by simp at hl; omega
      change Q (.bl (lkB w rest)) m at h
      by_cases w1 : w = "one"
      · subst w1
        rw [lkB_one] at h
        walk_at "go"
        rw [if_pos rfl]
        match rest, h with
        | [], h => exact h
        | [x], h =>
          walk_at "go"
          exact ⟨x, rfl, thg_of (hxr x List.mem_cons_self), h⟩
        | x :: y :: r, h =>
          have e : (!decide ((((D.str "one") :: x :: y :: r).length : Int) = 2)) = true := by simp; omega
          rw [e]
          exact h
      · by_cases hw : ∃ q ∈ ([("any", 0), ("is", 1), ("from", 1), ("to", 1), ("in", 2)] : List (Str × Nat)), w = q.1
        · obtain ⟨q, hq, rfl⟩ := hw
          rw [lkB_num rest q hq] at h
          simp only [List.mem_cons, List.not_mem_nil, or_false] at hq
          rcases hq with rfl | rfl | rfl | rfl | rfl <;> (
            walk_at "go"
            rw [if_pos rfl]
            split
            · rename_i e
              simp only [Bool.not_eq_true', decide_eq_false_iff_not, List.length_cons] at e
              rw [decide_eq_false (by omega), Bool.false_and] at h
              exact h
            · rename_i e
              simp only [Bool.not_eq_false', decide_eq_true_eq, List.length_cons] at e
              rw [decide_eq_true (by omega), Bool.true_and] at h
              walk_at "go"
              refine comp_whole trivial (by omega) (fun d hd => thg_of (hxr d hd)) (by exact (by decide : 3 < 4)) ?_
              walk_at "dl"
              rw [boolsD_map]
              dsimp only
              rw [all_id]
              exact h)
        · have hw2 : ∀ q ∈ ([("any", 0), ("is", 1), ("from", 1), ("to", 1), ("in", 2)] : List (Str × Nat)), w ≠ q.1 := fun q hq z => hw ⟨q, hq, z⟩
          rw [lkB_no w1 hw2] at h
          have a1 : (w == ("any" : Str)) = false := by have := hw2 ("any", 0) (by decide); simpa using this
          have a2 : (w == ("is" : Str)) = false := by have := hw2 ("is", 1) (by decide); simpa using this
          have a3 : (w == ("from" : Str)) = false := by have := hw2 ("from", 1) (by decide); simpa using this
          have a4 : (w == ("to" : Str)) = false := by have := hw2 ("to", 1) (by decide); simpa using this
          have a5 : (w == ("in" : Str)) = false := by have := hw2 ("in", 2) (by decide); simpa using this
          have a6 : (w == ("one" : Str)) = false := by simpa using w1
          walk_at "go"
          simp only [List.lookup, a1, a2, a3, a4, a5, a6]
          exact h
    | non => walk_at "go"; exact h
    | bl b => walk_at "go"; exact h
    | int i => walk_at "go"; exact h
    | lst ds => walk_at "go"; exact h
    | tup ds => walk_at "go"; exact h
    | _ => cases hx0
def sp_is_look : SpD := fun ds m P _ => ∃ d, ds = [d] ∧ Thg d ∧ P (.bl (lookB d)) m
def rd_is_look : DS :=
    sSeq (sIf (rAnd (rTru (rCB cIsi (rCons (rV 0) (rCons (rC (.ty "tuple")) (rNil))))) (rAnd (rTst (rOp oEq (rCB cLen (rCons (rV 0) (rNil))) (rC (.int 2)))) (rAnd (rTru (rCB cIsi (rCons (rOp oIx (rV 0) (rC (.int 0))) (rCons (rC (.ty "str")) (rNil))))) (rTst (rOp oEq (rOp oIx (rV 0) (rC (.int 0))) (rC (.str "but"))))))) (sRet (rCall sp_is_plain [] (rCons (rOp oIx (rV 0) (rC (.int 1))) (rNil)))) (sNext))
    (sRet (rCall sp_is_plain [] (rCons (rV 0) (rNil))))
theorem ln_is_look : ∀ ds m Q PX, sp_is_look ds m Q PX → ds.length = 1 := fun ds m Q PX h => by repeat' (first | (subst_vars; rfl; done) | (refine Or.elim h (fun h => ?_) (fun h => ?_)) | (obtain ⟨_, h⟩ := h))
theorem look_two (x y : D) : lookB (.tup [x, y]) = (match x with | .str w => if w = "but" then plB y else lkB w [y] | _ => false) := by
  cases x <;> rfl
theorem look_not : ∀ {xs : List D}, xs.length ≠ 2 → lookB (.tup xs) = plB (.tup xs)
  | [], _ => rfl
  | [x], _ => by cases x <;> rfl
  | [x, y], h => absurd rfl h
  | x :: y :: z :: r, _ => by cases x <;> rfl
theorem pu_is_look : ∀ ds m Q PX, sp_is_look ds m Q PX → rd_is_look (dEnds Q PX) (dstart ["look"] ds) m := by
  rintro ds m Q PX ⟨d, rfl, hd, h⟩
  have hd0 := hd
  revert h
  refine hd.cases_ (p := fun d => Thg d → Q (.bl (lookB d)) m → rd_is_look (dEnds Q PX) (dstart ["look"] [d]) m) ?_ ?_ ?_ ?_ ?_ ?_ ?_ hd0
  all_goals (try (intros; walk_at "go"; exact ⟨_, rfl, by assumption, by assumption⟩))
  intro xs hl hx hd0 h
  walk_at "go"
  cases h2 : decide (((xs.length : Nat) : Int) = 2) with
  | false =>
    have h2' := of_decide_eq_false h2
    rw [look_not (by omega)] at h
    exact ⟨_, rfl, hd0, h⟩
  | true =>
    have h2' := of_decide_eq_true h2
    match xs, h2', hx, hd0, h with
    | [x, y], _, hx, hd0, h =>
      have hx0 := hx x List.mem_cons_self
      have hy0 := hx y (by simp)
      rw [look_two] at h
      walk_at "go"
      cases x with
      | str w =>
        walk_at "go"
        by_cases hb : w = "but"
        · subst hb
          walk_at "go"
          exact ⟨y, rfl, thg_of hy0, h⟩
        · dsimp only at h
          rw [if_neg hb] at h
          rw [decide_eq_false hb]
          exact ⟨_, rfl, hd0, h⟩
      | non => exact ⟨_, rfl, hd0, h⟩
      | bl b => exact ⟨_, rfl, hd0, h⟩
      | int i => exact ⟨_, rfl, hd0, h⟩
      | lst ds => exact ⟨_, rfl, hd0, h⟩
      | tup ds => exact ⟨_, rfl, hd0, h⟩
      | _ => cases hx0
/-! ### the same read by the law -/
theorem any_strs (ts : List Str) (w : Str) : ((ts.map D.str).any fun z => deq z (.str w)) = decide (w ∈ ts) := by
  rw [Bool.eq_iff_iff, decide_eq_true_eq, any_deq (by rw [pur]) (fun d hd => by obtain ⟨t, _, rfl⟩ := List.mem_map.mp hd; rw [pur])]
  constructor
  · intro h; obtain ⟨t, ht, e⟩ := List.mem_map.mp h; cases e; exact ht
  · intro h; exact List.mem_map.mpr ⟨w, h, rfl⟩
theorem thD_txt (s : String) (n : Nat) (h : (Str.ofString s).length ≤ 100000 := by decide) : thD n (.str (Str.ofString s)) := by
  have := fit_txt s 0
  cases n <;> exact ⟨h, this⟩
theorem thD_int {n : Nat} {i : Int} : thD n (.int i) := by cases n <;> trivial
theorem thD_tup {n : Nat} {ds : List D} (hl : ds.length ≤ 10000) (h : ∀ d ∈ ds, thD n d) : thD (n + 1) (.tup ds) := ⟨hl, h⟩
theorem thD_lst {n : Nat} {ds : List D} (hl : ds.length ≤ 10000) (h : ∀ d ∈ ds, thD n d) : thD (n + 1) (.lst ds) := ⟨hl, h⟩
theorem thD_non {n : Nat} : thD n .non := by cases n <;> trivial
theorem thD_bl {n : Nat} {b : Bool} : thD n (.bl b) := by cases n <;> trivial
theorem Lk.th : ∀ (l : Lk), l.few → thD (l.dep + 1) l.d
  | .any, _ => ⟨by simp, fun d hd => by rw [List.mem_singleton.mp hd]; exact thD_txt _ _⟩
  | .is k, _ => ⟨by simp, fun d hd => by simp only [List.mem_cons, List.not_mem_nil, or_false] at hd; rcases hd with rfl | rfl <;> first | exact thD_txt _ _ | exact thD_int⟩
  | .frm k, _ => ⟨by simp, fun d hd => by simp only [List.mem_cons, List.not_mem_nil, or_false] at hd; rcases hd with rfl | rfl <;> first | exact thD_txt _ _ | exact thD_int⟩
  | .upto k, _ => ⟨by simp, fun d hd => by simp only [List.mem_cons, List.not_mem_nil, or_false] at hd; rcases hd with rfl | rfl <;> first | exact thD_txt _ _ | exact thD_int⟩
  | .inn a b, _ => ⟨by simp, fun d hd => by simp only [List.mem_cons, List.not_mem_nil, or_false] at hd; rcases hd with rfl | rfl | rfl <;> first | exact thD_txt _ _ | exact thD_int⟩
  | .one ns, hf => ⟨by simp, fun d hd => by
    simp only [List.mem_cons, List.not_mem_nil, or_false] at hd
    rcases hd with rfl | rfl
    · exact thD_txt _ _
    · exact ⟨by rw [List.length_map]; exact Nat.le_trans hf (by decide), fun d hd => by obtain ⟨k, _, rfl⟩ := List.mem_map.mp hd; exact thD_int⟩⟩
  | .but l, hf => ⟨by simp, fun d hd => by
    simp only [List.mem_cons, List.not_mem_nil, or_false] at hd
    rcases hd with rfl | rfl
    · exact thD_txt _ _
    · exact Lk.th l hf⟩
end
end DL
namespace DL
open PySem L2
local macro_rules | `(tactic| walk_at "dl") => `(tactic| ((conv => whnf); try dsimp only))
local macro_rules | `(tactic| walk_at "sd") => `(tactic| first | trivial | exact Nat.zero_le _ | assumption | decide | omega | exact len_line (by first | decide | omega | (simp; done) | (simp; omega)) | (simp; done) | (simp; omega) | exact ⟨by decide, by decide, by decide⟩ | exact .inl ⟨by decide, by decide⟩ | exact .inl ⟨by omega, by omega⟩ | exact wide_div (b := 64) (by decide) (by decide) (by decide) (by decide))
local macro_rules | `(tactic| walk_at "go") => `(tactic| ((conv => whnf); (try dsimp only); repeat ((with_reducible refine And.intro ?_ ?_); (focus (walk_at "sd")); (conv => whnf); (try dsimp only))))
local macro_rules | `(tactic| walk_at "th") => `(tactic| repeat' (first | assumption | exact thD_txt _ _ | exact thD_int | exact thD_non | exact thD_bl | (refine thD_mono _ _ _ ?_ (by assumption); decide) | refine List.forall_mem_cons.mpr (And.intro ?_ ?_) | exact List.forall_mem_nil _ | refine thD_tup (by simp) ?_ | refine thD_lst (by simp) ?_))
local macro_rules | `(tactic| walk_at "ln") => `(tactic| (intro ds m Q PX h; repeat (obtain ⟨_, h⟩ := h); subst_vars; rfl))
section
/-! ### what is told of a look that is checked -/
theorem thD_nil {n : Nat} : thD (n + 1) (.tup []) := ⟨by simp, fun _ z => by cases z⟩
end
end DL
namespace DL
open PySem L2
local macro_rules | `(tactic| walk_at "dl") => `(tactic| ((conv => whnf); try dsimp only))
local macro_rules | `(tactic| walk_at "sd") => `(tactic| first | trivial | exact Nat.zero_le _ | assumption | decide | omega | exact len_line (by first | decide | omega | (simp; done) | (simp; omega)) | (simp; done) | (simp; omega) | exact ⟨by decide, by decide, by decide⟩ | exact .inl ⟨by decide, by decide⟩ | exact .inl ⟨by omega, by omega⟩ | exact wide_div (b := 64) (by decide) (by decide) (by decide) (by decide))
local macro_rules | `(tactic| walk_at "go") => `(tactic| ((conv => whnf); (try dsimp only); repeat ((with_reducible refine And.intro ?_ ?_); (focus (walk_at "sd")); (conv => whnf); (try dsimp only))))
local macro_rules | `(tactic| walk_at "th") => `(tactic| repeat' (first | assumption | exact thD_txt _ _ | exact thD_int | exact thD_non | exact thD_bl | (refine thD_mono _ _ _ ?_ (by assumption); decide) | refine List.forall_mem_cons.mpr (And.intro ?_ ?_) | exact List.forall_mem_nil _ | refine thD_tup (by simp) ?_ | refine thD_lst (by simp) ?_))
local macro_rules | `(tactic| walk_at "ln") => `(tactic| (intro ds m Q PX h; repeat (obtain ⟨_, h⟩ := h); subst_vars; rfl))
section
theorem cells {c0 : Int} {ns : List Int} {lo hi : Option Int} : ∀ d ∈ [D.int c0] ++ cutD (ns.map .int) lo hi, ∃ c, d = .int c := by
  intro d hd
  rcases List.mem_append.mp hd with hd | hd
  · exact ⟨c0, List.mem_singleton.mp hd⟩
  · unfold cutD at hd
    obtain ⟨c, _, rfl⟩ := List.mem_map.mp (List.mem_of_mem_drop (List.mem_of_mem_take hd))
    exact ⟨c, rfl⟩
theorem cut_le (ns : List Int) (lo hi : Option Int) : (cutD (ns.map .int) lo hi).length ≤ ns.length := by
  unfold cutD
  rw [List.length_take, List.length_drop, List.length_map]
  omega
end
section
/-! ### names -/
def low (c : Nat) : Bool := decide (97 ≤ c) && decide (c ≤ 122)
def nmB (x : Str) : Bool := decide (1 ≤ x.length) && (decide (x.length ≤ 8) && x.cps.toList.all low)
def nmD : D → Bool
  | .str x => nmB x
  | _ => false
theorem in_low (c : Nat) : inStr ⟨#[c]⟩ "abcdefghijklmnopqrstuvwxyz" = low c := by
  show decide (c ∈ (Str.ofString "abcdefghijklmnopqrstuvwxyz").cps.toList) = _
  have e : (Str.ofString "abcdefghijklmnopqrstuvwxyz").cps.toList = (List.range 26).map (· + 97) := by decide +kernel
  rw [e, Bool.eq_iff_iff, decide_eq_true_eq]
  unfold low
  rw [Bool.and_eq_true, decide_eq_true_eq, decide_eq_true_eq, List.mem_map]
  constructor
  · rintro ⟨k, hk, rfl⟩
    have := List.mem_range.mp hk
    omega
  · rintro ⟨h1, h2⟩
    exact ⟨c - 97, List.mem_range.mpr (by omega), by omega⟩
theorem signs_len (x : Str) : (signs x).length = x.length := by unfold signs; rw [List.length_map, Array.length_toList]; rfl
def lowD : D → Bool
  | .str x => inStr x "abcdefghijklmnopqrstuvwxyz"
  | _ => false
theorem signs_low (x : Str) : (signs x).all lowD = x.cps.toList.all low := by
  unfold signs
  rw [List.all_map]
  congr 1
  funext c
  exact in_low c
def sp_is_name : SpD := fun ds m P _ => ∃ d, ds = [d] ∧ Thg d ∧ P (.bl (nmD d)) m
def rd_is_name : DS :=
    sSeq (sIf (rOr (rNot (rTru (rCB cIsi (rCons (rV 0) (rCons (rC (.ty "str")) (rNil)))))) (rNot (rTst (rChain oLe oLe (rC (.int 1)) (rCB cLen (rCons (rV 0) (rNil))) (rC (.int 8)))))) (sRet (rC (.bl false))) (sNext))
    (sRet (rCB cAll (rCons (rLc (iAny (rV 0)) [1] (gN 1) (qYes) (rOp (oInN false) (rV 1) (rC (.str "abcdefghijklmnopqrstuvwxyz")))) (rNil))))
theorem ln_is_name : ∀ ds m Q PX, sp_is_name ds m Q PX → ds.length = 1 := fun ds m Q PX h => by repeat' (first | (subst_vars; rfl; done) | (refine Or.elim h (fun h => ?_) (fun h => ?_)) | (obtain ⟨_, h⟩ := h))
theorem pu_is_name : ∀ ds m Q PX, sp_is_name ds m Q PX → rd_is_name (dEnds Q PX) (dstart ["thing", "sign"] ds) m := by
  rintro ds m Q PX ⟨d, rfl, hd, h⟩
  revert h
  refine hd.cases_ (p := fun d => Q (.bl (nmD d)) m → rd_is_name (dEnds Q PX) (dstart ["thing", "sign"] [d]) m) ?_ ?_ ?_ ?_ ?_ ?_ ?_
  all_goals (try (intros; walk_at "go"; assumption))
  intro x hl hx h
  change Q (.bl (nmB x)) m at h
  unfold nmB at h
  walk_at "go"
  cases h1 : decide ((1 : Int) ≤ (x.length : Nat)) with
  | false =>
    have := of_decide_eq_false h1
    rw [decide_eq_false (by omega : ¬ 1 ≤ x.length)] at h
    exact h
  | true =>
    have := of_decide_eq_true h1
    rw [decide_eq_true (by omega : 1 ≤ x.length), Bool.true_and] at h
    walk_at "go"
    cases h2 : decide (((x.length : Nat) : Int) ≤ 8) with
    | false =>
      have := of_decide_eq_false h2
      rw [decide_eq_false (by omega : ¬ x.length ≤ 8)] at h
      exact h
    | true =>
      have := of_decide_eq_true h2
      rw [decide_eq_true (by omega : x.length ≤ 8), Bool.true_and] at h
      walk_at "go"
      refine comp_map (fun d => .bl (lowD d)) (by rw [signs_len]; omega) trivial (fun d hd Q q => ?_) ?_
      · obtain ⟨c, _, rfl⟩ := List.mem_map.mp hd
        walk_at "go"
        exact q
      · walk_at "dl"
        rw [show (signs x).map (fun d => D.bl (lowD d)) = ((signs x).map lowD).map D.bl from by rw [List.map_map]; rfl, boolsD_map]
        dsimp only
        rw [all_id, signs_low]
        exact h
/-! ### asks -/
end
section
theorem mset_mset {m : Mu} {a : Addr} {o p : MO} : mset (mset m a o) a p = mset m a p := by
  funext b; unfold mset; split <;> rfl
theorem mdel_mset {m : Mu} {a : Addr} {o : MO} (h : m a = none) : mdel (mset m a o) a = m := by
  funext b; unfold mdel mset
  by_cases z : b = a
  · rw [if_pos z, z, h]
  · rw [if_neg z, if_neg z]
section
variable {Ph : Mu → Prop} {rg : DG} {re : DE} {δ : DSt} {P : List D → Mu → Prop}
theorem comp_on {α : Type} {m : Mu} (ps : List α) (g f : α → D) (hn : ps.length ≤ 16777216) (ph : Ph m) (he : ∀ x ∈ ps, ∀ Q : DK, Q (f x) m → rg (g x) δ m fun δ' m' => re δ' m' Q noX) (h : P (ps.map f) m) : rComp Ph rg qYes re δ P (ps.map g) [] m := by
  refine comp_inv (fun i acc m' => m' = m ∧ acc = (ps.take i).map f) (fun i acc m' h => ?_) (by rw [List.length_map]; exact hn) (fun i d acc m' e h => ?_) (fun acc m' h => ?_) ⟨rfl, by simp⟩
  · rw [h.2, List.length_map, List.length_take]; omega
  · obtain ⟨rfl, rfl⟩ := h
    rw [List.getElem?_map] at e
    cases ei : ps[i]? with
    | none => rw [ei] at e; cases e
    | some x =>
      rw [ei] at e
      cases e
      refine ⟨ph, fun Kt Kf h1 h2 => ?_⟩
      refine he x (List.mem_of_getElem? ei) _ (h1 _ _ ⟨rfl, ?_⟩)
      rw [List.take_add_one, ei, List.map_append]
      rfl
  · obtain ⟨rfl, rfl⟩ := h
    refine ⟨ph, ?_⟩
    rw [List.length_map, List.take_length]
    exact h
end
/-! ### what is asked, what is wished -/
noncomputable def looksB : D → Bool
  | .non => true
  | .tup xs => decide (xs.length ≤ 2) && xs.all lookB
  | _ => false
def sp_are_looks : SpD := fun ds m P _ => ∃ d, ds = [d] ∧ Thg d ∧ P (.bl (looksB d)) m
def rd_are_looks : DS :=
    sSeq (sIf (rTst (rOp (oIsN false) (rV 0) (rC .non))) (sRet (rC (.bl true))) (sNext))
    (sRet (rAndV (rCB cIsi (rCons (rV 0) (rCons (rC (.ty "tuple")) (rNil)))) (rAndV (rOp oLe (rCB cLen (rCons (rV 0) (rNil))) (rC (.int 2))) (rCB cAll (rCons (rLc (iAny (rV 0)) [1] (gN 1) (qYes) (rCall sp_is_look [] (rCons (rV 1) (rNil)))) (rNil))))))
theorem ln_are_looks : ∀ ds m Q PX, sp_are_looks ds m Q PX → ds.length = 1 := fun ds m Q PX h => by repeat' (first | (subst_vars; rfl; done) | (refine Or.elim h (fun h => ?_) (fun h => ?_)) | (obtain ⟨_, h⟩ := h))
theorem pu_are_looks : ∀ ds m Q PX, sp_are_looks ds m Q PX → rd_are_looks (dEnds Q PX) (dstart ["looks", "look"] ds) m := by
  rintro ds m Q PX ⟨d, rfl, hd, h⟩
  revert h
  refine hd.cases_ (p := fun d => Q (.bl (looksB d)) m → rd_are_looks (dEnds Q PX) (dstart ["looks", "look"] [d]) m) ?_ ?_ ?_ ?_ ?_ ?_ ?_
  all_goals (try (intros; walk_at "go"; assumption))
  intro xs hl hx h
  change Q (.bl (decide (xs.length ≤ 2) && xs.all lookB)) m at h
  walk_at "go"
  cases h4 : decide (((xs.length : Nat) : Int) ≤ 2) with
  | false =>
    have := of_decide_eq_false h4
    rw [decide_eq_false (by omega : ¬ xs.length ≤ 2)] at h
    exact h
  | true =>
    have := of_decide_eq_true h4
    rw [decide_eq_true (by omega : xs.length ≤ 2), Bool.true_and] at h
    walk_at "go"
    refine comp_map (fun d => .bl (lookB d)) (by omega) trivial (fun d hd Q q => ?_) ?_
    · exact ⟨d, rfl, thg_of (hx d hd), q⟩
    · walk_at "dl"
      rw [show xs.map (fun d => D.bl (lookB d)) = (xs.map lookB).map D.bl from by rw [List.map_map]; rfl, boolsD_map]
      dsimp only
      rw [all_id]
      exact h
def oS : Option Str → D
  | none => .non
  | some x => .str x
def oN : Option Int → D
  | none => .non
  | some x => .int x
def oL : Option (List Lk) → D
  | none => .non
  | some ls => .tup (ls.map Lk.d)
/-! ### a wish -/
def wFs (p d l n le mo : D) : List (Str × D) := [("part", p), ("deed", d), ("looks", l), ("name", n), ("least", le), ("most", mo)]
end
section
/-! # texts sign by sign: cuts, numbers as they are written -/
open PySem.NumText
/-! ### cuts -/
theorem str_dec (a b : Str) : decide (a = b) = decide (TL.tl a = TL.tl b) := by
  rw [Bool.eq_iff_iff, decide_eq_true_eq, decide_eq_true_eq]
  exact ⟨fun h => by rw [h], fun h => TL.ext_tl h⟩
theorem tl_cutS (z : Str) (lo hi : Option Int) : TL.tl (L2.cutS z lo hi) = ((TL.tl z).drop (HT.sIx z.length 0 lo)).take (HT.sIx z.length z.length hi - HT.sIx z.length 0 lo) := rfl
theorem tl_take (z : Str) (k : Nat) : TL.tl (L2.cutS z none (some (k : Int))) = (TL.tl z).take k := by
  rw [tl_cutS, HT.sIx_none, HT.sIx_nat, List.drop_zero, Nat.sub_zero, TL.len_tl, Nat.min_comm]
  by_cases h : k ≤ (TL.tl z).length
  · rw [Nat.min_eq_right h]
  · rw [Nat.min_eq_left (by omega), List.take_of_length_le (Nat.le_refl _), List.take_of_length_le (by omega)]
theorem tl_drop (z : Str) (k : Nat) : TL.tl (L2.cutS z (some (k : Int)) none) = (TL.tl z).drop k := by
  rw [tl_cutS, HT.sIx_none, HT.sIx_nat, TL.len_tl]
  by_cases h : k ≤ (TL.tl z).length
  · rw [Nat.min_eq_left h, List.take_of_length_le (by rw [List.length_drop]; omega)]
  · rw [Nat.min_eq_right (by omega), Nat.sub_self, List.take_zero, List.drop_of_length_le (by omega)]
theorem tl_sub (z : Str) (a b : Nat) : TL.tl (L2.cutS z (some (a : Int)) (some (b : Int))) = ((TL.tl z).take b).drop a := by
  rw [tl_cutS, HT.sIx_nat, HT.sIx_nat, TL.len_tl]
  apply List.ext_getElem?
  intro i
  rw [List.getElem?_take, List.getElem?_drop, List.getElem?_drop, List.getElem?_take]
  by_cases h1 : a + i < (TL.tl z).length
  · rw [Nat.min_eq_left (show a ≤ (TL.tl z).length by omega)]
    by_cases h2 : a + i < b
    · rw [if_pos (by omega), if_pos h2]
    · rw [if_neg (by omega), if_neg h2]
  · have e : (TL.tl z)[a + i]? = none := List.getElem?_eq_none (by omega)
    rw [e]
    split <;> split <;> first | rfl | (rw [List.getElem?_eq_none (by omega)])
theorem sIx_last (n d : Nat) : HT.sIx n d (some (-1)) = n - 1 := by
  show (if (-1 : Int) < 0 then ((-1 : Int) + (n : Int)).toNat else min (-1 : Int).toNat n) = _
  rw [if_pos (by decide)]
  omega
theorem tl_last (z : Str) : TL.tl (L2.cutS z (some (-1)) none) = (TL.tl z).drop ((TL.tl z).length - 1) := by
  rw [tl_cutS, sIx_last, HT.sIx_none, TL.len_tl, List.take_of_length_le (by rw [List.length_drop]; omega)]
theorem tl_init (z : Str) : TL.tl (L2.cutS z none (some (-1))) = (TL.tl z).dropLast := by
  rw [tl_cutS, sIx_last, HT.sIx_none, TL.len_tl, List.drop_zero, Nat.sub_zero, List.dropLast_eq_take]
theorem tl_mid (z : Str) (k : Nat) : TL.tl (L2.cutS z (some (k : Int)) (some (-1))) = (TL.tl z).dropLast.drop k := by
  rw [tl_cutS, HT.sIx_nat, sIx_last, TL.len_tl, List.dropLast_eq_take]
  apply List.ext_getElem?
  intro i
  rw [List.getElem?_take, List.getElem?_drop, List.getElem?_drop, List.getElem?_take]
  by_cases h1 : k + i < (TL.tl z).length
  · rw [Nat.min_eq_left (show k ≤ (TL.tl z).length by omega)]
    by_cases h2 : k + i < (TL.tl z).length - 1
    · rw [if_pos (by omega), if_pos h2]
    · rw [if_neg (by omega), if_neg h2]
  · have e : (TL.tl z)[k + i]? = none := List.getElem?_eq_none (by omega)
    rw [e]
    split <;> split <;> first | rfl | (rw [List.getElem?_eq_none (by omega)])
/-! ### texts of a fit size -/
structure LxOk (l : List Nat) : Prop where
  len : l.length ≤ 9990
  cod : ∀ c ∈ l, c < 1114112
theorem LxOk.sub {l k : List Nat} (h : LxOk l) (s : k.Sublist l) : LxOk k := ⟨Nat.le_trans s.length_le h.len, fun c hc => h.cod c (s.subset hc)⟩
theorem LxOk.take {l : List Nat} (h : LxOk l) (k : Nat) : LxOk (l.take k) := h.sub (List.take_sublist _ _)
theorem LxOk.drop {l : List Nat} (h : LxOk l) (k : Nat) : LxOk (l.drop k) := h.sub (List.drop_sublist _ _)
theorem LxOk.init {l : List Nat} (h : LxOk l) : LxOk l.dropLast := h.sub (List.dropLast_sublist _)
/-! ### numbers -/
def isDig (c : Nat) : Bool := decide (48 ≤ c) && decide (c ≤ 57)
def sgnL (w : List Nat) : Bool := decide (w.take 1 = [45])
def figs (w : List Nat) : List Nat := if sgnL w = true then w.drop 1 else w
def figB (f : List Nat) : Bool := decide (1 ≤ f.length) && (decide (f.length ≤ 60) && f.all isDig)
def numR (w : List Nat) : Option Int :=
  if figB (figs w) = true then
    if (figs w).take 1 = [48] ∧ w ≠ [48] then none else some (if sgnL w = true then -((digitsVal (figs w) : Nat) : Int) else ((digitsVal (figs w) : Nat) : Int))
  else none
def oI? : Option Int → D
  | none => .non
  | some n => .int n
theorem in_dig (c : Nat) : inStr ⟨#[c]⟩ "0123456789" = isDig c := by
  show decide (c ∈ (Str.ofString "0123456789").cps.toList) = _
  have e : (Str.ofString "0123456789").cps.toList = (List.range 10).map (· + 48) := by decide +kernel
  rw [e, Bool.eq_iff_iff, decide_eq_true_eq]
  unfold isDig
  rw [Bool.and_eq_true, decide_eq_true_eq, decide_eq_true_eq, List.mem_map]
  constructor
  · rintro ⟨k, hk, rfl⟩
    have := List.mem_range.mp hk
    omega
  · rintro ⟨h1, h2⟩
    exact ⟨c - 48, List.mem_range.mpr (by omega), by omega⟩
theorem allDig {f : List Nat} (h : f.all isDig = true) : AllDigits f := fun c hc => by
  have := List.all_eq_true.mp h c hc
  unfold isDig at this
  rw [Bool.and_eq_true, decide_eq_true_eq, decide_eq_true_eq] at this
  exact this
theorem figs_le (w : List Nat) : (figs w).length ≤ w.length := by
  unfold figs
  split
  · rw [List.length_drop]; omega
  · exact Nat.le_refl _
theorem figs_ok {w : List Nat} (h : LxOk w) : LxOk (figs w) := by
  unfold figs
  split
  · exact h.drop 1
  · exact h
theorem sgn_cons {w : List Nat} (h : sgnL w = true) : w = 45 :: figs w := by
  unfold figs
  rw [if_pos h]
  unfold sgnL at h
  cases w with
  | nil => simp at h
  | cons c r =>
    have : c = 45 := by simpa using h
    rw [this]; rfl
theorem figs_pos {w : List Nat} (h : sgnL w = false) : figs w = w := by
  unfold figs
  rw [if_neg (by rw [h]; decide)]
/-- int(text) of what is written so -/
theorem int_read {w : Str} (h : figB (figs (TL.tl w)) = true) : PySem.intText? w = some (if sgnL (TL.tl w) = true then -((digitsVal (figs (TL.tl w)) : Nat) : Int) else ((digitsVal (figs (TL.tl w)) : Nat) : Int)) ∧ w.length ≤ 640 := by
  unfold figB at h
  simp only [Bool.and_eq_true, decide_eq_true_eq] at h
  obtain ⟨h1, h2, h3⟩ := h
  have hne : figs (TL.tl w) ≠ [] := fun z => by rw [z] at h1; cases h1
  cases hs : sgnL (TL.tl w) with
  | true =>
    have e := sgn_cons hs
    have hl : w.length ≤ 61 := by
      rw [TL.len_tl, e, List.length_cons]; omega
    exact ⟨by rw [if_pos rfl]; exact PySem.intText_neg e (allDig h3) hne (by omega), by omega⟩
  | false =>
    have e := figs_pos hs
    rw [e] at h2 h3 hne ⊢
    have hl : w.length ≤ 60 := by rw [TL.len_tl]; exact h2
    exact ⟨by rw [if_neg (by decide)]; exact PySem.intText_digits (allDig h3) hne (by omega), by omega⟩
/-! ### what is written is read -/
theorem numL_fig {n : Nat} (h : n < 10 ^ 60) : figB (TL.numL n) = true := by
  unfold figB
  have h1 : 1 ≤ (TL.numL n).length := List.length_pos_iff.mpr (TL.numL_ne n)
  have h2 := TL.numL_len (n := n) (k := 60) (by decide) h
  rw [decide_eq_true h1, decide_eq_true h2, Bool.true_and, Bool.true_and, List.all_eq_true]
  intro c hc
  have := TL.numL_digits n c hc
  unfold isDig
  rw [decide_eq_true this.1, decide_eq_true this.2]; rfl
theorem numL_head (n : Nat) : (TL.numL n).take 1 = [48] → n = 0 := by
  induction n using Nat.strongRecOn with
  | _ n ih =>
    intro h
    by_cases hn : n < 10
    · rw [TL.numL_lt hn] at h
      have : 48 + n = 48 := by simpa using h
      omega
    · rw [TL.numL_step (by omega)] at h
      have hne := TL.numL_ne (n / 10)
      have : n / 10 = 0 := ih (n / 10) (by omega) (by
        cases hc : TL.numL (n / 10) with
        | nil => exact absurd hc hne
        | cons c r => rw [hc] at h; simpa using h)
      omega
theorem numL_sgn (n : Nat) : sgnL (TL.numL n) = false := by
  unfold sgnL
  rw [decide_eq_false_iff_not]
  intro h
  have : (45 : Nat) ∈ TL.numL n := by
    cases hc : TL.numL n with
    | nil => rw [hc] at h; simp at h
    | cons c r => rw [hc] at h; simp at h; rw [h]; simp
  exact TL.numL_free (n := n) (s := 45) (by omega) this
theorem tl_dig (n : Int) : TL.tl (dig n) = if n < 0 then 45 :: TL.numL n.natAbs else TL.numL n.natAbs := by
  by_cases h : n < 0
  · rw [if_pos h]
    obtain ⟨m, hm⟩ : ∃ m : Nat, n = -((m + 1 : Nat) : Int) := ⟨n.natAbs - 1, by omega⟩
    rw [show n.natAbs = m + 1 by omega, hm]
    exact (dig_neg m).trans (by rw [dig_nat]; rfl)
  · rw [if_neg h]
    obtain ⟨m, rfl⟩ : ∃ m : Nat, n = (m : Int) := ⟨n.natAbs, by omega⟩
    exact dig_nat m
/-- numbers of sixty figures at most -/
def N60 (n : Int) : Prop := n.natAbs < 10 ^ 60
theorem num_dig {n : Int} (h : N60 n) : numR (TL.tl (dig n)) = some n := by
  rw [tl_dig]
  unfold N60 at h
  have hf := numL_fig h
  have hv := TL.numL_val n.natAbs
  by_cases hn : n < 0
  · rw [if_pos hn]
    have hs : sgnL (45 :: TL.numL n.natAbs) = true := by unfold sgnL; simp
    have e : figs (45 :: TL.numL n.natAbs) = TL.numL n.natAbs := by unfold figs; rw [if_pos hs]; rfl
    unfold numR
    rw [e, if_pos hf, if_neg, if_pos hs]
    · show some (-((digitsVal (TL.numL n.natAbs) : Nat) : Int)) = _
      rw [hv]; congr 1; omega
    · rintro ⟨z, _⟩
      have := numL_head _ z
      omega
  · rw [if_neg hn]
    have hs := numL_sgn n.natAbs
    have e := figs_pos hs
    unfold numR
    rw [e, if_pos hf, if_neg, if_neg (by rw [hs]; decide)]
    · show some (((digitsVal (TL.numL n.natAbs) : Nat) : Int)) = _
      rw [hv]; congr 1; omega
    · rintro ⟨z, z2⟩
      have := numL_head _ z
      rw [this] at z2
      exact z2 (TL.numL_lt (by decide))
/-! ### what is read is written so -/
theorem val_snoc (f : List Nat) (c : Nat) : digitsVal (f ++ [c]) = digitsVal f * 10 + (c - 48) := by
  unfold digitsVal
  rw [List.foldl_append]; rfl
theorem val_lt : ∀ (k : Nat) (f : List Nat), f.length = k → AllDigits f → digitsVal f < 10 ^ k
  | 0, f, hl, _ => by rw [List.eq_nil_of_length_eq_zero hl]; decide
  | k + 1, f, hl, h => by
    have hne : f ≠ [] := fun z => by rw [z] at hl; cases hl
    have e := (List.dropLast_concat_getLast hne).symm
    have h1 : AllDigits f.dropLast := fun c hc => h c (List.dropLast_subset _ hc)
    have ih := val_lt k f.dropLast (by rw [List.length_dropLast, hl]; rfl) h1
    have h2 := h _ (List.getLast_mem hne)
    rw [e, val_snoc, Nat.pow_succ]
    omega
theorem numL_back : ∀ (k : Nat) (f : List Nat), f.length = k → f ≠ [] → AllDigits f → (f.take 1 = [48] → f = [48]) → TL.numL (digitsVal f) = f
  | 0, f, hl, hne, _, _ => (hne (List.eq_nil_of_length_eq_zero hl)).elim
  | k + 1, f, hl, hne, h, h0 => by
    have e := (List.dropLast_concat_getLast hne).symm
    have h2 := h _ (List.getLast_mem hne)
    have h1 : AllDigits f.dropLast := fun c hc => h c (List.dropLast_subset _ hc)
    by_cases hk : f.dropLast = []
    · rw [hk, List.nil_append] at e
      obtain ⟨c, hc⟩ : ∃ c, f = [c] := ⟨_, e⟩
      have hc2 : 48 ≤ c ∧ c ≤ 57 := h c (by rw [hc]; simp)
      rw [hc]
      show TL.numL (0 * 10 + (c - 48)) = [c]
      rw [show 0 * 10 + (c - 48) = c - 48 by omega, TL.numL_lt (by omega)]
      congr 1; omega
    · have ih := numL_back k f.dropLast (by rw [List.length_dropLast, hl]; rfl) hk h1 fun z => by
        have : f.take 1 = [48] := by
          cases hd : f.dropLast with
          | nil => exact absurd hd hk
          | cons c r => rw [e, hd] ; rw [hd] at z; simpa using z
        have z2 := h0 this
        rw [z2] at hk
        exact (hk rfl).elim
      have hpos : 1 ≤ digitsVal f.dropLast := by
        rcases Nat.eq_zero_or_pos (digitsVal f.dropLast) with z | z
        · rw [z, TL.numL_lt (by decide)] at ih
          have : f.take 1 = [48] := by rw [e, ← ih]; rfl
          have z2 := h0 this
          rw [z2] at hk
          exact (hk rfl).elim
        · exact z
      have hd : digitsVal f = digitsVal f.dropLast * 10 + (f.getLast hne - 48) := by
        conv => lhs; rw [e, val_snoc]
      rw [hd, TL.numL_step (by omega)]
      rw [show (digitsVal f.dropLast * 10 + (f.getLast hne - 48)) / 10 = digitsVal f.dropLast by omega, show 48 + (digitsVal f.dropLast * 10 + (f.getLast hne - 48)) % 10 = f.getLast hne by omega, ih]
      exact e.symm
theorem dig_num {w : List Nat} {n : Int} (h : numR w = some n) : TL.tl (dig n) = w ∧ N60 n := by
  unfold numR at h
  split at h
  · rename_i hf
    split at h
    · cases h
    · rename_i h0
      unfold figB at hf
      simp only [Bool.and_eq_true, decide_eq_true_eq] at hf
      obtain ⟨h1, h2, h3⟩ := hf
      have hne : figs w ≠ [] := fun z => by rw [z] at h1; cases h1
      have hd := allDig h3
      have hlt : digitsVal (figs w) < 10 ^ 60 := Nat.lt_of_lt_of_le (val_lt _ _ rfl hd) (Nat.pow_le_pow_right (by decide) h2)
      cases hs : sgnL w with
      | true =>
        rw [hs, if_pos rfl] at h
        cases h
        have e := sgn_cons hs
        have hz : ¬ (figs w).take 1 = [48] := fun z => h0 ⟨z, fun q => by rw [q] at hs; revert hs; decide⟩
        have hb := numL_back _ _ rfl hne hd fun z => (hz z).elim
        have hp : 0 < digitsVal (figs w) := by
          rcases Nat.eq_zero_or_pos (digitsVal (figs w)) with z | z
          · rw [z, TL.numL_lt (by decide)] at hb
            exact (hz (by rw [← hb]; rfl)).elim
          · exact z
        refine ⟨?_, by unfold N60; omega⟩
        rw [tl_dig, if_pos (by omega), show (-((digitsVal (figs w) : Nat) : Int)).natAbs = digitsVal (figs w) by omega, hb]
        exact e.symm
      | false =>
        rw [hs, if_neg (by decide)] at h
        cases h
        have e := figs_pos hs
        rw [e] at h0 hne hd hlt ⊢
        have hb := numL_back _ _ rfl hne hd fun z => by
          by_cases q : w = [48]
          · exact q
          · exact (h0 ⟨z, q⟩).elim
        refine ⟨?_, by unfold N60; omega⟩
        rw [tl_dig, if_neg (by omega), Int.natAbs_natCast, hb]
  · cases h
end
section
/-! # numbers read -/
def sgnT (l : List Nat) : Str := ⟨l.toArray⟩
theorem tl_sgnT (l : List Nat) : TL.tl (sgnT l) = l := rfl
theorem sgnT_tl (w : Str) : sgnT (TL.tl w) = w := TL.ext_tl rfl
theorem sgnT_len (l : List Nat) : (sgnT l).length = l.length := by
  show l.toArray.size = _
  rw [List.size_toArray]
theorem sgnT_signs (l : List Nat) : signs (sgnT l) = l.map fun c => .str ⟨#[c]⟩ := rfl
theorem one_cut {z s : Str} {c : Nat} (h : TL.tl s = [c]) : decide (L2.cutS z none (some 1) = s) = decide ((TL.tl z).take 1 = [c]) := by
  rw [str_dec, show (some (1 : Int)) = some ((1 : Nat) : Int) from rfl, tl_take, h]
theorem last_cut {z s : Str} {c : Nat} (h : TL.tl s = [c]) : decide (L2.cutS z (some (-1)) none = s) = decide ((TL.tl z).drop ((TL.tl z).length - 1) = [c]) := by
  rw [str_dec, tl_last, h]
theorem cut1 (z : Str) : L2.cutS z (some 1) none = sgnT ((TL.tl z).drop 1) := TL.ext_tl (tl_drop z 1)
theorem cutI (z : Str) : L2.cutS z none (some (-1)) = sgnT (TL.tl z).dropLast := TL.ext_tl (tl_init z)
theorem cutM (z : Str) : L2.cutS z (some 1) (some (-1)) = sgnT ((TL.tl z).dropLast.drop 1) := TL.ext_tl (tl_mid z 1)
theorem cutK {z : Str} {k : Nat} {i : Int} (h : i = (k : Int)) : L2.cutS z (some i) none = sgnT ((TL.tl z).drop k) := by rw [h]; exact TL.ext_tl (tl_drop z k)
theorem cutT {z : Str} {k : Nat} {i : Int} (h : i = (k : Int)) : L2.cutS z none (some i) = sgnT ((TL.tl z).take k) := by rw [h]; exact TL.ext_tl (tl_take z k)
theorem cutKT {z : Str} {k b : Nat} {i j : Int} (h : i = (k : Int)) (h2 : j = (b : Int)) : L2.cutS z (some i) (some j) = sgnT (((TL.tl z).take b).drop k) := by rw [h, h2]; exact TL.ext_tl (tl_sub z k b)
theorem eq_str {a b : Str} {l : List Nat} (h : TL.tl b = l) : decide (a = b) = decide (TL.tl a = l) := by rw [str_dec, h]
def sp_number_in : SpD := fun ds m P _ => ∃ w : Str, ds = [.str w] ∧ LxOk (TL.tl w) ∧ P (oI? (numR (TL.tl w))) m
def rd_number_in : DS :=
    sSeq (sSet 1 (rIfE (rTst (rOp oEq (rSl (rV 0) rNoP (rPart (rC (.int 1)))) (rC (.str "-")))) (rSl (rV 0) (rPart (rC (.int 1))) rNoP) (rV 0)))
    (sSeq (sIf (rOr (rNot (rTst (rChain oLe oLe (rC (.int 1)) (rCB cLen (rCons (rV 1) (rNil))) (rC (.int 60))))) (rNot (rTru (rCB cAll (rCons (rLc (iAny (rV 1)) [2] (gN 2) (qYes) (rOp (oInN false) (rV 2) (rC (.str "0123456789")))) (rNil)))))) (sRet (rC .non)) (sNext))
    (sSeq (sIf (rAnd (rTst (rOp oEq (rOp oIx (rV 1) (rC (.int 0))) (rC (.str "0")))) (rTst (rOp oNe (rV 0) (rC (.str "0"))))) (sRet (rC .non)) (sNext))
    (sRet (rCB cIntT (rCons (rV 0) (rCons (rC (.int 10)) (rNil)))))))
def T_number_in_2 : DS := sSeq (sIf (rOr (rNot (rTst (rChain oLe oLe (rC (.int 1)) (rCB cLen (rCons (rV 1) (rNil))) (rC (.int 60))))) (rNot (rTru (rCB cAll (rCons (rLc (iAny (rV 1)) [2] (gN 2) (qYes) (rOp (oInN false) (rV 2) (rC (.str "0123456789")))) (rNil)))))) (sRet (rC .non)) (sNext))
    (sSeq (sIf (rAnd (rTst (rOp oEq (rOp oIx (rV 1) (rC (.int 0))) (rC (.str "0")))) (rTst (rOp oNe (rV 0) (rC (.str "0"))))) (sRet (rC .non)) (sNext))
    (sRet (rCB cIntT (rCons (rV 0) (rCons (rC (.int 10)) (rNil))))))
theorem ln_number_in : ∀ ds m Q PX, sp_number_in ds m Q PX → ds.length = 1 := fun ds m Q PX h => by repeat' (first | (subst_vars; rfl; done) | (refine Or.elim h (fun h => ?_) (fun h => ?_)) | (obtain ⟨_, h⟩ := h))
def digD : D → Bool
  | .str x => inStr x "0123456789"
  | _ => false
theorem signs_dig (l : List Nat) : (signs (sgnT l)).all digD = l.all isDig := by
  rw [sgnT_signs, List.all_map]
  congr 1
  funext c
  exact in_dig c
theorem zero_ix {f : List Nat} {c : Nat} {r : List Nat} (h : f = c :: r) : decide ((⟨#[c]⟩ : Str) = "0") = decide (f.take 1 = [48]) := by
  rw [eq_str (l := [48]) (by decide), h]; rfl
theorem pu_number_in : ∀ ds m Q PX, sp_number_in ds m Q PX → rd_number_in (dEnds Q PX) (dstart ["word", "figures", "sign"] ds) m := by
  rintro ds m Q PX ⟨w, rfl, hx, h⟩
  have hfl := figs_le (TL.tl w)
  have hwl := TL.len_tl w
  have hw := hx.len
  have fin : T_number_in_2 (dEnds Q PX) [some (.str w), some (.str (sgnT (figs (TL.tl w)))), none] m := by
    have hr := int_read (w := w)
    obtain ⟨R, hR⟩ : ∃ R, R = numR (TL.tl w) := ⟨_, rfl⟩
    have h := h
    rw [← hR] at h
    unfold numR at hR
    generalize hf : figs (TL.tl w) = f at hfl hr hR ⊢
    have hl := sgnT_len f
    obtain ⟨n, hn⟩ : ∃ n : Int, n = ((sgnT f).length : Int) := ⟨_, rfl⟩
    have hB : figB f = (decide (1 ≤ n) && (decide (n ≤ 60) && f.all isDig)) := by
      unfold figB
      rw [show decide (1 ≤ f.length) = decide (1 ≤ n) from by rw [Bool.eq_iff_iff, decide_eq_true_eq, decide_eq_true_eq]; omega, show decide (f.length ≤ 60) = decide (n ≤ 60) from by rw [Bool.eq_iff_iff, decide_eq_true_eq, decide_eq_true_eq]; omega]
    have no : figB f = false → Q D.non m := fun z => by
      rw [if_neg (by rw [z]; decide)] at hR
      rw [hR] at h
      exact h
    walk_at "go"
    rw [← hn]
    by_cases h1 : 1 ≤ n
    · rw [decide_eq_true h1]
      walk_at "dl"
      by_cases h2 : n ≤ 60
      · rw [decide_eq_true h2]
        walk_at "go"
        refine comp_map (fun d => .bl (digD d)) (by rw [signs_len]; omega) trivial (fun d hd Q' h' => ?_) ?_
        · obtain ⟨c, _, rfl⟩ := List.mem_map.mp hd
          walk_at "go"
          exact h'
        walk_at "go"
        rw [show (signs (sgnT f)).map (fun d => D.bl (digD d)) = ((signs (sgnT f)).map digD).map D.bl from by rw [List.map_map]; rfl, boolsD_map]
        dsimp only
        rw [all_id, signs_dig]
        rw [decide_eq_true h1, decide_eq_true h2, Bool.true_and, Bool.true_and] at hB
        rw [← hB]
        cases hb : figB f with
        | false => exact no hb
        | true =>
          obtain ⟨hv, hz⟩ := hr hb
          obtain ⟨c, r, hc⟩ : ∃ c r, f = c :: r := by
            cases f with
            | nil => simp at hl; omega
            | cons c r => exact ⟨c, r, rfl⟩
          have ec : atI (sgnT f).cps.toList 0 = some c := by rw [hc]; exact atI0 _ _
          · rw [if_pos hb] at hR
            walk_at "go"
            rw [ec]
            walk_at "dl"
            rw [if_neg Bool.false_ne_true, zero_ix (f := f) hc]
            by_cases h3 : f.take 1 = [48]
            · rw [decide_eq_true h3]
              walk_at "dl"
              rw [if_pos rfl, eq_str (l := [48]) (by decide)]
              by_cases h4 : TL.tl w = [48]
              · rw [decide_eq_true h4]
                rw [if_neg (by rintro ⟨_, z⟩; exact z h4)] at hR
                rw [hR] at h
                walk_at "go"
                exact ⟨_, hv, h⟩
              · rw [decide_eq_false h4]
                rw [if_pos ⟨h3, h4⟩] at hR
                rw [hR] at h
                exact h
            · rw [decide_eq_false h3]
              rw [if_neg (by rintro ⟨z, _⟩; exact h3 z)] at hR
              rw [hR] at h
              walk_at "go"
              exact ⟨_, hv, h⟩
      · rw [decide_eq_false h2]
        exact no (by rw [hB, decide_eq_false h2, Bool.false_and, Bool.and_false])
    · rw [decide_eq_false h1]
      exact no (by rw [hB, decide_eq_false h1, Bool.false_and])
  walk_at "go"
  rw [if_neg Bool.false_ne_true, one_cut (c := 45) (by decide)]
  show (match sgnL (TL.tl w) with | true => _ | false => _)
  cases hs : sgnL (TL.tl w) with
  | true =>
    walk_at "go"
    have e : figs (TL.tl w) = (TL.tl w).drop 1 := by unfold figs; rw [if_pos hs]
    rw [e, ← cut1] at fin
    exact fin
  | false =>
    have e : figs (TL.tl w) = TL.tl w := figs_pos hs
    rw [e, sgnT_tl] at fin
    exact fin
end
section
/-! # rows of numbers; the law's own reading of numbers -/
abbrev sp__law_number_v2 : SpD := sp_number_in
def rd__law_number_v2 : DS :=
    sSeq (sSet 1 (rOp oEq (rSl (rV 0) rNoP (rPart (rC (.int 1)))) (rC (.str "-"))))
    (sSeq (sSet 2 (rSl (rV 0) (rPart (rCB cIntT (rCons (rV 1) (rNil)))) rNoP))
    (sSeq (sIf (rOr (rTst (rOp oLt (rCB cLen (rCons (rV 2) (rNil))) (rC (.int 1)))) (rTst (rOp oGt (rCB cLen (rCons (rV 2) (rNil))) (rC (.int 60))))) (sRet (rC .non)) (sNext))
    (sSeq (sIf (rTst (rOp oNe (rLc (iAny (rV 2)) [3] (gN 3) (rTst (rOp (oInN true) (rV 3) (rC (.str "0123456789")))) (rV 3)) (rLst (rNil)))) (sRet (rC .non)) (sNext))
    (sSeq (sIf (rAnd (rTst (rOp oEq (rOp oIx (rV 2) (rC (.int 0))) (rC (.str "0")))) (rTst (rOp oNe (rV 0) (rC (.str "0"))))) (sRet (rC .non)) (sNext))
    (sRet (rOp oMul (rCB cIntT (rCons (rV 2) (rNil))) (rOp oSub (rC (.int 1)) (rOp oMul (rC (.int 2)) (rCB cIntT (rCons (rV 1) (rNil)))))))))))
def T__law_number_v2_3 : DS := sSeq (sIf (rOr (rTst (rOp oLt (rCB cLen (rCons (rV 2) (rNil))) (rC (.int 1)))) (rTst (rOp oGt (rCB cLen (rCons (rV 2) (rNil))) (rC (.int 60))))) (sRet (rC .non)) (sNext))
    (sSeq (sIf (rTst (rOp oNe (rLc (iAny (rV 2)) [3] (gN 3) (rTst (rOp (oInN true) (rV 3) (rC (.str "0123456789")))) (rV 3)) (rLst (rNil)))) (sRet (rC .non)) (sNext))
    (sSeq (sIf (rAnd (rTst (rOp oEq (rOp oIx (rV 2) (rC (.int 0))) (rC (.str "0")))) (rTst (rOp oNe (rV 0) (rC (.str "0"))))) (sRet (rC .non)) (sNext))
    (sRet (rOp oMul (rCB cIntT (rCons (rV 2) (rNil))) (rOp oSub (rC (.int 1)) (rOp oMul (rC (.int 2)) (rCB cIntT (rCons (rV 1) (rNil)))))))))
def T__law_number_v2_6 : DS := sRet (rOp oMul (rCB cIntT (rCons (rV 2) (rNil))) (rOp oSub (rC (.int 1)) (rOp oMul (rC (.int 2)) (rCB cIntT (rCons (rV 1) (rNil))))))
theorem ln__law_number_v2 : ∀ ds m Q PX, sp__law_number_v2 ds m Q PX → ds.length = 1 := ln_number_in
theorem nil_filt (l : List Nat) : (signs (sgnT l)).filter (fun d => !digD d) = [] ↔ l.all isDig = true := by
  rw [List.filter_eq_nil_iff, ← signs_dig, List.all_eq_true]
  constructor
  · intro h d hd
    have := h d hd
    simpa using this
  · intro h d hd
    rw [h d hd]; decide
theorem pu__law_number_v2 : ∀ ds m Q PX, sp__law_number_v2 ds m Q PX → rd__law_number_v2 (dEnds Q PX) (dstart ["_law_word_here", "_law_below", "_law_figures", "_law_sign"] ds) m := by
  rintro ds m Q PX ⟨w, rfl, hx, h⟩
  have hfl := figs_le (TL.tl w)
  have hwl := TL.len_tl w
  have hw := hx.len
  have fin : ∀ b : Bool, b = sgnL (TL.tl w) → T__law_number_v2_3 (dEnds Q PX) [some (.str w), some (.bl b), some (.str (sgnT (figs (TL.tl w)))), none] m := by
    intro b hb0
    have hr := int_read (w := w)
    have hr2 := int_read (w := sgnT (figs (TL.tl w)))
    obtain ⟨R, hR⟩ : ∃ R, R = numR (TL.tl w) := ⟨_, rfl⟩
    have h := h
    rw [hR.symm] at h
    unfold numR at hR
    rw [← hb0] at hR hr
    have hfx : LxOk (figs (TL.tl w)) := figs_ok hx
    generalize hf : figs (TL.tl w) = f at hfl hr hR hr2 hfx ⊢
    have hl := sgnT_len f
    obtain ⟨n, hn⟩ : ∃ n : Int, n = ((sgnT f).length : Int) := ⟨_, rfl⟩
    have hB : figB f = (decide (1 ≤ n) && (decide (n ≤ 60) && f.all isDig)) := by
      unfold figB
      rw [show decide (1 ≤ f.length) = decide (1 ≤ n) from by rw [Bool.eq_iff_iff, decide_eq_true_eq, decide_eq_true_eq]; omega, show decide (f.length ≤ 60) = decide (n ≤ 60) from by rw [Bool.eq_iff_iff, decide_eq_true_eq, decide_eq_true_eq]; omega]
    have no : figB f = false → Q D.non m := fun z => by
      rw [if_neg (by rw [z]; decide)] at hR
      rw [hR] at h
      exact h
    -- a number without a sign
    have h2r : figB f = true → PySem.intText? (sgnT f) = some ((PySem.NumText.digitsVal f : Nat) : Int) ∧ f.length ≤ 60 := fun hb => by
      unfold figB at hb
      simp only [Bool.and_eq_true, decide_eq_true_eq] at hb
      obtain ⟨b1, b2, b3⟩ := hb
      exact ⟨PySem.intText_digits (allDig b3) (fun z => by rw [show f = [] from z] at b1; cases b1) (by rw [hl]; omega), b2⟩
    walk_at "go"
    rw [← hn]
    by_cases h1 : n < 1
    · rw [decide_eq_true h1]
      exact no (by rw [hB, decide_eq_false (by omega), Bool.false_and])
    · rw [decide_eq_false h1]
      walk_at "go"
      rw [← hn]
      by_cases h2 : 60 < n
      · rw [decide_eq_true h2]
        exact no (by rw [hB, decide_eq_false (show ¬ n ≤ 60 by omega), Bool.false_and, Bool.and_false])
      · rw [decide_eq_false h2]
        walk_at "go"
        refine comp_fm (fun d => !digD d) id (by rw [signs_len]; omega) trivial (fun d hd Q' h' => ?_) (fun d hd _ Q' h' => ?_) ?_
        · obtain ⟨c, _, rfl⟩ := List.mem_map.mp hd
          walk_at "go"
          exact h'
        · exact h'
        rw [List.map_id]
        have hlk : (signs (sgnT f)).length = f.length := by rw [signs_len, hl]
        have hth : thD 1 (.lst ((signs (sgnT f)).filter fun d => !digD d)) := ⟨Nat.le_trans (List.length_filter_le _ _) (by omega), fun d hd => by
          obtain ⟨c, hc, rfl⟩ := List.mem_map.mp (List.mem_filter.mp hd).1
          exact ⟨by show 1 ≤ 100000; decide, fun z hz => by
            have : z = c := by simpa using hz
            rw [this]; exact hfx.cod c hc⟩⟩
        walk_at "go"
        refine ⟨shpT hth, shpT (n := 1) thD_nil, ?_⟩
        rw [if_pos rfl]
        show (match !deq (.lst ((signs (sgnT f)).filter fun d => !digD d)) (.lst []) with | true => _ | false => _)
        rw [deq_lst_nil]
        rw [decide_eq_true (show 1 ≤ n by omega), decide_eq_true (show n ≤ 60 by omega), Bool.true_and, Bool.true_and] at hB
        rw [show ((signs (sgnT f)).filter fun d => !digD d).isEmpty = figB f from by rw [Bool.eq_iff_iff, List.isEmpty_iff, nil_filt, hB]]
        cases hb : figB f with
        | false => exact no hb
        | true =>
          obtain ⟨hv, hz⟩ := h2r hb
          obtain ⟨c, r, hc⟩ : ∃ c r, f = c :: r := by
            cases f with
            | nil => simp at hl; omega
            | cons c r => exact ⟨c, r, rfl⟩
          have ec : atI (sgnT f).cps.toList 0 = some c := by rw [hc]; exact atI0 _ _
          have last : R = some (if b = true then -((PySem.NumText.digitsVal f : Nat) : Int) else ((PySem.NumText.digitsVal f : Nat) : Int)) → T__law_number_v2_6 (dEnds Q PX) [some (.str w), some (.bl b), some (.str (sgnT f)), none] m := fun e => by
            rw [e] at h
            walk_at "go"
            refine ⟨_, hv, ?_⟩
            have hlt : PySem.NumText.digitsVal f < 10 ^ 60 := by
              unfold figB at hb
              simp only [Bool.and_eq_true, decide_eq_true_eq] at hb
              exact Nat.lt_of_lt_of_le (val_lt _ _ rfl (allDig hb.2.2)) (Nat.pow_le_pow_right (by decide) hb.2.1)
            clear hr hR hr2 hv h2r
            generalize PySem.NumText.digitsVal f = v at h hlt ⊢
            cases b with
            | true =>
              walk_at "dl"
              refine ⟨.inl ⟨by decide, by decide⟩, ?_⟩
              walk_at "dl"
              refine ⟨.inr ⟨by decide, by decide⟩, ?_⟩
              rw [if_pos rfl] at h
              show Q (.int ((v : Int) * (1 - 2 * 1))) m
              rw [show (v : Int) * (1 - 2 * 1) = -(v : Int) by omega]
              exact h
            | false =>
              walk_at "dl"
              refine ⟨.inl ⟨by decide, by decide⟩, ?_⟩
              walk_at "dl"
              refine ⟨.inr ⟨by decide, by decide⟩, ?_⟩
              rw [if_neg Bool.false_ne_true] at h
              show Q (.int ((v : Int) * (1 - 2 * 0))) m
              rw [show (v : Int) * (1 - 2 * 0) = (v : Int) by omega]
              exact h
          rw [if_pos hb] at hR
          walk_at "go"
          rw [ec]
          walk_at "dl"
          rw [if_neg Bool.false_ne_true, zero_ix (f := f) hc]
          by_cases h3 : f.take 1 = [48]
          · rw [decide_eq_true h3]
            walk_at "dl"
            rw [if_pos rfl, eq_str (l := [48]) (by decide)]
            by_cases h4 : TL.tl w = [48]
            · rw [decide_eq_true h4]
              rw [if_neg (by rintro ⟨_, z⟩; exact z h4)] at hR
              exact last hR
            · rw [decide_eq_false h4]
              rw [if_pos ⟨h3, h4⟩] at hR
              rw [hR] at h
              exact h
          · rw [decide_eq_false h3]
            rw [if_neg (by rintro ⟨z, _⟩; exact h3 z)] at hR
            exact last hR
  walk_at "go"
  rw [if_neg Bool.false_ne_true, one_cut (c := 45) (by decide)]
  rw [show (some (if decide ((TL.tl w).take 1 = [45]) = true then (1 : Int) else 0)) = some (if sgnL (TL.tl w) = true then (1 : Int) else 0) from rfl]
  have ec : L2.cutS w (some (if sgnL (TL.tl w) = true then (1 : Int) else 0)) none = sgnT (figs (TL.tl w)) := by
    unfold figs
    cases sgnL (TL.tl w) with
    | true => exact cut1 w
    | false => exact (cutK (k := 0) rfl).trans (by rw [List.drop_zero]; rfl)
  rw [ec]
  exact fin _ rfl
end
section
/-! # rows of numbers, what stands in brackets -/
theorem spl_sub (S : List Nat) : ∀ (l : List Nat) (k : Nat) (acc p : List Nat), p ∈ TL.spl S k acc l → p.Sublist (acc ++ l)
  | [], k, acc, p, h => by
    rw [TL.spl_nil, List.mem_singleton] at h
    rw [h, List.append_nil]; exact List.Sublist.refl _
  | c :: r, 0, acc, p, h => by
    cases hp : TL.pre S (c :: r) with
    | true =>
      rw [TL.spl_hit hp] at h
      rcases List.mem_cons.mp h with rfl | h
      · exact List.sublist_append_left _ _
      · exact ((spl_sub S r _ _ _ h).trans (List.sublist_cons_self c r)).trans (List.sublist_append_right _ _)
    | false =>
      rw [TL.spl_miss hp] at h
      have := spl_sub S r _ _ _ h
      rw [List.append_assoc] at this
      exact this
  | c :: r, k + 1, acc, p, h => (spl_sub S r k acc p h).trans ((List.Sublist.refl acc).append (List.sublist_cons_self c r))
theorem spl_le (S : List Nat) : ∀ (l : List Nat) (k : Nat) (acc : List Nat), (TL.spl S k acc l).length ≤ l.length + 1
  | [], k, acc => by rw [TL.spl_nil]; exact Nat.le_refl _
  | c :: r, 0, acc => by
    cases hp : TL.pre S (c :: r) with
    | true =>
      rw [TL.spl_hit hp, List.length_cons, List.length_cons]
      have := spl_le S r (S.length - 1) []
      omega
    | false =>
      rw [TL.spl_miss hp, List.length_cons]
      have := spl_le S r 0 (acc ++ [c])
      omega
  | c :: r, k + 1, acc => by
    have := spl_le S r k acc
    rw [List.length_cons]
    exact Nat.le_trans this (by omega)
theorem split_sgn (w y : Str) (hy : TL.tl y ≠ []) (hk : y.cps.all (· < 256) = true) : Txt.split w y = (TL.spl (TL.tl y) 0 [] (TL.tl w)).map sgnT := by
  refine TL.map_tl_inj ?_
  rw [TL.split_spl w y hy (TL.kind_ok hk), List.map_map]
  exact (List.map_id _).symm
theorem LxOk.spl {l S p : List Nat} (h : LxOk l) (hp : p ∈ TL.spl S 0 [] l) : LxOk p := h.sub (spl_sub S l 0 [] p hp)
theorem par_eq (S : List Nat) (hS : S ≠ []) : ∀ (l acc a b : List Nat), TL.par S acc l = some (a, b) → acc ++ l = a ++ S ++ b
  | [], _, _, _, h => by cases h
  | c :: r, acc, a, b, h => by
    cases hp : TL.pre S (c :: r) with
    | true =>
      rw [TL.par_hit hp] at h
      cases h
      have e : (c :: r).take S.length = S := eq_of_beq hp
      conv => lhs; rw [← List.take_append_drop S.length (c :: r), e]
      rw [List.append_assoc]
    | false =>
      rw [TL.par_miss hp] at h
      have := par_eq S hS r _ _ _ h
      rw [List.append_assoc] at this
      exact this
theorem LxOk.par {l S a b : List Nat} (hS : S ≠ []) (h : LxOk l) (hp : TL.par S [] l = some (a, b)) : LxOk a ∧ LxOk b := by
  have e := par_eq S hS _ _ _ _ hp
  rw [List.nil_append] at e
  rw [e] at h
  exact ⟨h.sub ((List.sublist_append_left a S).trans (List.sublist_append_left _ _)), h.sub (List.sublist_append_right _ _)⟩
/-- the numbers, where all are there -/
def allO : List (Option Int) → Option (List Int)
  | [] => some []
  | none :: _ => none
  | some n :: r => (allO r).map (n :: ·)
theorem allO_some : ∀ {os : List (Option Int)} {ns : List Int}, allO os = some ns → os = ns.map some
  | [], ns, h => by cases h; rfl
  | none :: _, ns, h => by cases h
  | some n :: r, ns, h => by
    unfold allO at h
    cases hr : allO r with
    | none => rw [hr] at h; cases h
    | some ms =>
      rw [hr] at h
      cases h
      rw [List.map_cons, allO_some hr]
theorem allO_map : ∀ ns : List Int, allO (ns.map some) = some ns
  | [] => rfl
  | n :: r => by rw [List.map_cons, allO, allO_map r]; rfl
theorem allO_none : ∀ {os : List (Option Int)}, allO os = none → none ∈ os
  | [], h => by cases h
  | none :: _, _ => by simp
  | some n :: r, h => by
    unfold allO at h
    cases hr : allO r with
    | none => exact List.mem_cons_of_mem _ (allO_none hr)
    | some ms => rw [hr] at h; cases h
def nosL (w : List Nat) : List (Option Int) := if w = [] then [] else (TL.spl [44] 0 [] w).map numR
def nosR (w : List Nat) : Option (List Int) := allO (nosL w)
def nosD (w : List Nat) : D := .tup ((nosL w).map oI?)
theorem nosL_le (w : List Nat) : (nosL w).length ≤ w.length + 1 := by
  unfold nosL
  split
  · exact Nat.zero_le _
  · rw [List.length_map]; exact spl_le _ _ _ _
theorem nosD_some {w : List Nat} {ns : List Int} (h : nosR w = some ns) : nosD w = .tup (ns.map .int) := by
  unfold nosD
  rw [allO_some h, List.map_map]; rfl
theorem nosD_none {w : List Nat} (h : nosR w = none) : ∃ ds, nosD w = .tup ds ∧ ds.all isWhole = false := by
  refine ⟨_, rfl, ?_⟩
  rw [← Bool.not_eq_true, List.all_eq_true]
  intro z
  exact Bool.noConfusion (z _ (List.mem_map.mpr ⟨none, allO_none h, rfl⟩))
theorem oI_th {n : Nat} (o : Option Int) : thD n (oI? o) := by
  cases o
  · exact thD_non
  · exact thD_int
theorem nosD_th {w : List Nat} (h : LxOk w) : thD 1 (nosD w) := ⟨by rw [List.length_map]; have := nosL_le w; have := h.len; omega, fun d hd => by
  obtain ⟨o, _, rfl⟩ := List.mem_map.mp hd
  exact oI_th o⟩
def sp_numbers_in : SpD := fun ds m P _ => ∃ w : Str, ds = [.str w] ∧ LxOk (TL.tl w) ∧ P (nosD (TL.tl w)) m
def rd_numbers_in : DS :=
    sSeq (sIf (rTst (rOp oEq (rV 0) (rC (.str "")))) (sRet (rTup (rNil))) (sNext))
    (sRet (rCB cTup (rCons (rLc (iAny (rSplit (rV 0) (rC (.str ",")))) [1] (gN 1) (qYes) (rCall sp_number_in [] (rCons (rV 1) (rNil)))) (rNil))))
theorem ln_numbers_in : ∀ ds m Q PX, sp_numbers_in ds m Q PX → ds.length = 1 := fun ds m Q PX h => by repeat' (first | (subst_vars; rfl; done) | (refine Or.elim h (fun h => ?_) (fun h => ?_)) | (obtain ⟨_, h⟩ := h))
theorem pu_numbers_in : ∀ ds m Q PX, sp_numbers_in ds m Q PX → rd_numbers_in (dEnds Q PX) (dstart ["word", "part"] ds) m := by
  rintro ds m Q PX ⟨w, rfl, hx, h⟩
  have hw := hx.len
  have hwl := TL.len_tl w
  unfold nosD nosL at h
  walk_at "go"
  rw [if_neg Bool.false_ne_true, eq_str (l := []) (by decide)]
  by_cases h1 : TL.tl w = []
  · rw [decide_eq_true h1]
    rw [if_pos h1] at h
    exact ⟨Nat.zero_le _, h⟩
  · rw [decide_eq_false h1]
    rw [if_neg h1] at h
    walk_at "go"
    refine ⟨⟨by decide, len_line (by omega)⟩, ?_⟩
    rw [split_sgn w "," (by decide) (by decide +kernel), List.map_map]
    have hs := spl_le [44] (TL.tl w) 0 []
    refine comp_on (TL.spl [44] 0 [] (TL.tl w)) (fun p => .str (sgnT p)) (fun p => oI? (numR p)) (by omega) trivial (fun p hp Q' h' => ?_) ?_
    · walk_at "go"
      exact ⟨_, rfl, hx.spl hp, h'⟩
    walk_at "go"
    rw [List.map_map] at h
    exact h
theorem deq_non (o : Option Int) : deq (oI? o) .non = o.isNone := by
  cases o <;> (unfold deq; simp only [oI?, py, PyData.eqv]; rfl)
theorem any_non (os : List (Option Int)) : (os.map oI?).any (fun z => deq z .non) = (allO os).isNone := by
  rw [List.any_map]
  induction os with
  | nil => rfl
  | cons o os ih =>
    rw [List.any_cons, ih]
    show (deq (oI? o) .non || _) = _
    rw [deq_non]
    cases o with
    | none => rfl
    | some n =>
      show (false || (allO os).isNone) = ((allO os).map (n :: ·)).isNone
      cases allO os <;> rfl
def braR (w : List Nat) : Option (List Nat) := if 2 ≤ w.length ∧ w.take 1 = [123] ∧ w.drop (w.length - 1) = [125] then some (w.dropLast.drop 1) else none
def oS? : Option (List Nat) → D
  | none => .non
  | some l => .str (sgnT l)
def sp_within : SpD := fun ds m P _ => ∃ w : Str, ds = [.str w, .str "{", .str "}"] ∧ LxOk (TL.tl w) ∧ P (oS? (braR (TL.tl w))) m
def rd_within : DS :=
    sSeq (sIf (rOr (rTst (rOp oLt (rCB cLen (rCons (rV 0) (rNil))) (rC (.int 2)))) (rOr (rTst (rOp oNe (rOp oIx (rV 0) (rC (.int 0))) (rV 1))) (rTst (rOp oNe (rOp oIx (rV 0) (rNeg (rC (.int 1)))) (rV 2))))) (sRet (rC .non)) (sNext))
    (sRet (rSl (rV 0) (rPart (rC (.int 1))) (rPart (rNeg (rC (.int 1))))))
theorem ln_within : ∀ ds m Q PX, sp_within ds m Q PX → ds.length = 3 := fun ds m Q PX h => by repeat' (first | (subst_vars; rfl; done) | (refine Or.elim h (fun h => ?_) (fun h => ?_)) | (obtain ⟨_, h⟩ := h))
theorem drop_last1 {l : List Nat} (h : l ≠ []) : l.drop (l.length - 1) = [l.getLast h] := by
  have e := List.dropLast_concat_getLast h
  have hl : l.dropLast.length = l.length - 1 := List.length_dropLast
  conv => lhs; rw [← e]
  rw [List.length_append, hl, show l.length - 1 + [l.getLast h].length - 1 = l.dropLast.length by rw [hl]; simp, List.drop_left]
theorem ix_last {l : List Nat} (h : l ≠ []) : ∃ c, atI l (-1) = some c ∧ l.drop (l.length - 1) = [c] := by
  refine ⟨l.getLast h, ?_, drop_last1 h⟩
  have hl : 0 < l.length := List.length_pos_iff.mpr h
  unfold atI ixN
  rw [if_neg (by decide), if_pos (by omega)]
  show l[_]? = _
  rw [show ((-1 : Int) + (l.length : Int)).toNat = l.length - 1 by omega, ← List.getLast?_eq_getElem?, List.getLast?_eq_some_getLast h]
theorem ix_first {l : List Nat} (h : l ≠ []) : ∃ c, atI l 0 = some c ∧ l.take 1 = [c] := by
  cases l with
  | nil => exact (h rfl).elim
  | cons c r => exact ⟨c, atI0 _ _, rfl⟩
theorem sgn_eq {c k : Nat} {s : Str} (h : TL.tl s = [k]) : decide ((⟨#[c]⟩ : Str) = s) = decide (c = k) := by
  rw [eq_str h, Bool.eq_iff_iff, decide_eq_true_eq, decide_eq_true_eq]
  show [c] = [k] ↔ _
  simp
theorem pu_within : ∀ ds m Q PX, sp_within ds m Q PX → rd_within (dEnds Q PX) (dstart ["word", "first", "last"] ds) m := by
  rintro ds m Q PX ⟨w, rfl, hx, h⟩
  have hw := hx.len
  have hwl := TL.len_tl w
  unfold braR at h
  walk_at "go"
  obtain ⟨n, hn⟩ : ∃ n : Int, n = (w.length : Int) := ⟨_, rfl⟩
  rw [← hn]
  by_cases h1 : n < 2
  · rw [decide_eq_true h1]
    rw [if_neg (by omega)] at h
    exact h
  · rw [decide_eq_false h1]
    have hne : TL.tl w ≠ [] := fun z => by rw [z] at hwl; simp at hwl; omega
    obtain ⟨a, ea, ta⟩ := ix_first hne
    obtain ⟨b, eb, tb⟩ := ix_last hne
    have ea' : atI w.cps.toList 0 = some a := ea
    have eb' : atI w.cps.toList (-1) = some b := eb
    rw [ta, tb] at h
    walk_at "go"
    rw [ea']
    walk_at "dl"
    rw [if_pos rfl, sgn_eq (k := 123) (by decide)]
    by_cases h2 : a = 123
    · rw [decide_eq_true h2]
      walk_at "go"
      rw [eb']
      walk_at "dl"
      rw [if_pos rfl, sgn_eq (k := 125) (by decide)]
      by_cases h3 : b = 125
      · rw [decide_eq_true h3]
        rw [if_pos ⟨by omega, by rw [h2], by rw [h3]⟩] at h
        walk_at "go"
        rw [cutM]
        exact h
      · rw [decide_eq_false h3]
        rw [if_neg (by rintro ⟨_, _, z⟩; exact h3 (by simpa using z))] at h
        exact h
    · rw [decide_eq_false h2]
      rw [if_neg (by rintro ⟨_, z, _⟩; exact h2 (by simpa using z))] at h
      exact h
end
section
/-! # looks read -/
open PySem.NumText
theorem parti_sgn (w y : Str) (hy : TL.tl y ≠ []) : Txt.partition w y = (match TL.par (TL.tl y) [] (TL.tl w) with | some (a, b) => (sgnT a, y, sgnT b) | none => (w, "", "")) := TL.partition_par w y hy
def plkR (w : List Nat) : Option Lk :=
  if w = [42] then some .any else
  match braR w with
  | some s => match nosR s with
    | some ns => if ns.length ≤ 4 ∧ ns.Nodup then some (.one ns) else none
    | none => none
  | none => match TL.par [46, 46] [] w with
    | none => (numR w).map .is
    | some (lo, hi) => if hi = [] then (numR lo).map .frm else if lo = [] then (numR hi).map .upto else match numR lo, numR hi with
      | some a, some b => some (.inn a b)
      | _, _ => none
def plnD (w : List Nat) : D :=
  if w = [42] then .tup [.str "any"] else
  match braR w with
  | some s => .tup [.str "one", nosD s]
  | none => match TL.par [46, 46] [] w with
    | none => .tup [.str "is", oI? (numR w)]
    | some (lo, hi) => if hi = [] then .tup [.str "from", oI? (numR lo)] else if lo = [] then .tup [.str "to", oI? (numR hi)] else .tup [.str "in", oI? (numR lo), oI? (numR hi)]
def lookR (w : List Nat) : Option Lk := if w.take 1 = [33] then (plkR (w.drop 1)).map .but else plkR w
def lookD (w : List Nat) : D := if w.take 1 = [33] then .tup [.str "but", plnD (w.drop 1)] else plnD w
/-- what a look that was read is -/
structure Lk.Rd (l : Lk) : Prop where
  nm : ∀ n ∈ l.nums, N60 n
  few : l.few
  un : l.uniq
theorem lkB_is {w : Str} (h : w = "is" ∨ w = "from" ∨ w = "to") (d : D) : lkB w [d] = isWhole d := by
  unfold lkB
  rw [if_neg (by rcases h with rfl | rfl | rfl <;> decide), if_neg (by rcases h with rfl | rfl | rfl <;> decide), if_pos h]
  simp
theorem lkB_in (a b : D) : lkB "in" [a, b] = (isWhole a && isWhole b) := by
  unfold lkB
  rw [if_neg (by decide), if_neg (by decide), if_neg (by decide), if_pos rfl]
  simp
theorem wh_oI (o : Option Int) : isWhole (oI? o) = o.isSome := by cases o <;> rfl
theorem int_nd {ns : List Int} : ndB (ns.map D.int) = true ↔ ns.Nodup := by
  rw [ndB_iff]
  unfold List.Nodup
  rw [List.pairwise_map]
  exact ⟨fun h => h.imp fun z e => z (by rw [e]), fun h => h.imp fun z e => z (D.int.inj e)⟩
theorem pl_read (w : List Nat) : (∃ l, plkR w = some l ∧ plnD w = l.d ∧ plB (plnD w) = true ∧ l.dep = 1 ∧ l.Rd) ∨ (plkR w = none ∧ plB (plnD w) = false ∧ ∃ a b, plnD w = .tup (.str a :: b) ∧ a ≠ "but" ∧ a ≠ "any") := by
  unfold plkR plnD
  by_cases h1 : w = [42]
  · rw [if_pos h1, if_pos h1]
    refine .inl ⟨.any, rfl, rfl, ?_, rfl, (fun n hn => by cases hn), trivial, trivial⟩
    show lkB "any" [] = true
    unfold lkB
    rw [if_pos rfl]; rfl
  rw [if_neg h1, if_neg h1]
  cases hb : braR w with
  | some s =>
    dsimp only
    have e0 : plB (.tup [.str "one", nosD s]) = oneD (nosD s) := lkB_one _
    cases hs : nosR s with
    | none =>
      obtain ⟨ds, e, ha⟩ := nosD_none hs
      refine .inr ⟨rfl, ?_, _, _, rfl, by decide, by decide⟩
      rw [e0, e]
      show oneB ds = false
      unfold oneB
      rw [ha, Bool.false_and, Bool.and_false]
    | some ns =>
      have e := nosD_some hs
      have e2 : oneD (nosD s) = decide (ns.length ≤ 4 ∧ ns.Nodup) := by
        rw [e]
        show oneB (ns.map .int) = _
        unfold oneB
        rw [Bool.eq_iff_iff, Bool.and_eq_true, Bool.and_eq_true, int_nd, decide_eq_true_eq, decide_eq_true_eq, List.length_map]
        exact ⟨fun h => ⟨h.1, h.2.2⟩, fun h => ⟨h.1, all_whole ns, h.2⟩⟩
      dsimp only
      by_cases hc : ns.length ≤ 4 ∧ ns.Nodup
      · rw [if_pos hc]
        refine .inl ⟨.one ns, rfl, by rw [e]; rfl, by rw [e0, e2, decide_eq_true hc], rfl, fun n hn => ?_, hc.1, hc.2⟩
        have ee := allO_some hs
        have hm : some n ∈ nosL s := by rw [ee]; exact List.mem_map.mpr ⟨n, hn, rfl⟩
        unfold nosL at hm
        split at hm
        · cases hm
        · obtain ⟨p, _, hp⟩ := List.mem_map.mp hm
          exact (dig_num hp).2
      · rw [if_neg hc]
        exact .inr ⟨rfl, by rw [e0, e2, decide_eq_false hc], _, _, rfl, by decide, by decide⟩
  | none =>
    dsimp only
    have one1 : ∀ (a : Str) (h : a = "is" ∨ a = "from" ∨ a = "to") (o : Option Int) (f : Int → Lk), (∀ n, (f n).d = .tup [.str a, .int n] ∧ (f n).dep = 1 ∧ (f n).nums = [n] ∧ (f n).few ∧ (f n).uniq) → (∀ n, o = some n → N60 n) →
        (∃ l, o.map f = some l ∧ D.tup [.str a, oI? o] = l.d ∧ plB (D.tup [.str a, oI? o]) = true ∧ l.dep = 1 ∧ l.Rd) ∨ (o.map f = none ∧ plB (D.tup [.str a, oI? o]) = false ∧ ∃ a' b, D.tup [.str a, oI? o] = .tup (.str a' :: b) ∧ a' ≠ "but" ∧ a' ≠ "any") := by
      intro a h o f hf hN
      have e0 : plB (.tup [.str a, oI? o]) = isWhole (oI? o) := lkB_is h _
      cases o with
      | none => exact .inr ⟨rfl, by rw [e0]; rfl, _, _, rfl, by rcases h with rfl | rfl | rfl <;> decide, by rcases h with rfl | rfl | rfl <;> decide⟩
      | some n =>
        obtain ⟨f1, f2, f3, f4, f5⟩ := hf n
        exact .inl ⟨f n, rfl, f1.symm, by rw [e0]; rfl, f2, (fun k hk => by rw [f3] at hk; rw [List.mem_singleton.mp hk]; exact hN n rfl), f4, f5⟩
    cases hp : TL.par [46, 46] [] w with
    | none => exact one1 "is" (.inl rfl) _ _ (fun n => ⟨rfl, rfl, rfl, trivial, trivial⟩) fun n hn => (dig_num hn).2
    | some lh =>
      obtain ⟨lo, hi⟩ := lh
      dsimp only
      by_cases h2 : hi = []
      · rw [if_pos h2, if_pos h2]
        exact one1 "from" (.inr (.inl rfl)) _ _ (fun n => ⟨rfl, rfl, rfl, trivial, trivial⟩) fun n hn => (dig_num hn).2
      rw [if_neg h2, if_neg h2]
      by_cases h3 : lo = []
      · rw [if_pos h3, if_pos h3]
        exact one1 "to" (.inr (.inr rfl)) _ _ (fun n => ⟨rfl, rfl, rfl, trivial, trivial⟩) fun n hn => (dig_num hn).2
      rw [if_neg h3, if_neg h3]
      have e0 : plB (.tup [.str "in", oI? (numR lo), oI? (numR hi)]) = ((numR lo).isSome && (numR hi).isSome) := by
        rw [← wh_oI, ← wh_oI]; exact lkB_in _ _
      rw [e0]
      cases ha : numR lo with
      | none => exact .inr ⟨rfl, rfl, _, _, rfl, by decide, by decide⟩
      | some a =>
        cases hb2 : numR hi with
        | none => exact .inr ⟨rfl, rfl, _, _, rfl, by decide, by decide⟩
        | some b => exact .inl ⟨.inn a b, rfl, rfl, rfl, rfl, (fun n hn => by
            have : n = a ∨ n = b := by simpa [Lk.nums] using hn
            rcases this with rfl | rfl
            · exact (dig_num ha).2
            · exact (dig_num hb2).2), trivial, trivial⟩
theorem plnD_th {w : List Nat} (h : LxOk w) : thD 3 (plnD w) := by
  have t1 : ∀ s : String, (Str.ofString s).length ≤ 100000 → thD 2 (.str (Str.ofString s)) := fun s hs => thD_txt s 2 hs
  unfold plnD
  split
  · exact thD_tup (by decide) (fun d hd => by rw [List.mem_singleton.mp hd]; exact t1 _ (by decide))
  · split
    · rename_i s hs
      have hb : LxOk s := by
        unfold braR at hs
        split at hs
        · cases hs; exact h.init.drop 1
        · cases hs
      refine thD_tup (by simp) (List.forall_mem_cons.mpr ⟨t1 _ (by decide), List.forall_mem_cons.mpr ⟨thD_mono 1 2 _ (by decide) (nosD_th hb), List.forall_mem_nil _⟩⟩)
    · split
      · exact thD_tup (by simp) (List.forall_mem_cons.mpr ⟨t1 _ (by decide), List.forall_mem_cons.mpr ⟨oI_th _, List.forall_mem_nil _⟩⟩)
      · split
        · exact thD_tup (by simp) (List.forall_mem_cons.mpr ⟨t1 _ (by decide), List.forall_mem_cons.mpr ⟨oI_th _, List.forall_mem_nil _⟩⟩)
        · split
          · exact thD_tup (by simp) (List.forall_mem_cons.mpr ⟨t1 _ (by decide), List.forall_mem_cons.mpr ⟨oI_th _, List.forall_mem_nil _⟩⟩)
          · exact thD_tup (by simp) (List.forall_mem_cons.mpr ⟨t1 _ (by decide), List.forall_mem_cons.mpr ⟨oI_th _, List.forall_mem_cons.mpr ⟨oI_th _, List.forall_mem_nil _⟩⟩⟩)
theorem lookD_th {w : List Nat} (h : LxOk w) : thD 4 (lookD w) := by
  unfold lookD
  split
  · exact thD_tup (by simp) (List.forall_mem_cons.mpr ⟨thD_txt _ 3 (by decide), List.forall_mem_cons.mpr ⟨plnD_th (h.drop 1), List.forall_mem_nil _⟩⟩)
  · exact thD_mono 3 4 _ (by decide) (plnD_th h)
theorem look_read (w : List Nat) : (∃ l, lookR w = some l ∧ lookD w = l.d ∧ lookB (lookD w) = true ∧ l.dep ≤ 2 ∧ l.Rd) ∨ (lookR w = none ∧ lookB (lookD w) = false) := by
  unfold lookR lookD
  by_cases h1 : w.take 1 = [33]
  · rw [if_pos h1, if_pos h1]
    have e0 : lookB (.tup [.str "but", plnD (w.drop 1)]) = plB (plnD (w.drop 1)) := by rw [look_two]; exact if_pos rfl
    rw [e0]
    rcases pl_read (w.drop 1) with ⟨l, e1, e2, e3, e4, e5⟩ | ⟨e1, e2, _⟩
    · exact .inl ⟨.but l, by rw [e1]; rfl, by rw [e2]; rfl, e3, by show l.dep + 1 ≤ 2; omega, e5.nm, e5.few, e5.un⟩
    · exact .inr ⟨by rw [e1]; rfl, e2⟩
  · rw [if_neg h1, if_neg h1]
    have nb : ∀ d, plB d = true → lookB d = true := by
      intro d hd
      cases d with
      | tup xs =>
        by_cases hl : xs.length = 2
        · obtain ⟨x, y, rfl⟩ : ∃ x y, xs = [x, y] := by
            cases xs with
            | nil => cases hl
            | cons x xs => cases xs with
              | nil => cases hl
              | cons y xs => cases xs with
                | nil => exact ⟨x, y, rfl⟩
                | cons z zs => simp at hl
          rw [look_two]
          cases x with
          | str a =>
            have hd' : lkB a [y] = true := hd
            dsimp only
            by_cases ha : a = "but"
            · rw [ha] at hd'
              have : lkB "but" [y] = false := by
                unfold lkB
                rw [if_neg (by decide), if_neg (by decide), if_neg (by decide), if_neg (by decide)]
              rw [this] at hd'; cases hd'
            · rw [if_neg ha]; exact hd'
          | _ => cases hd
        · rw [look_not hl]; exact hd
      | _ => exact hd
    rcases pl_read w with ⟨l, e1, e2, e3, e4, e5⟩ | ⟨e1, e2, a, b, e3, hne, _⟩
    · exact .inl ⟨l, e1, e2, nb _ e3, by omega, e5⟩
    · refine .inr ⟨e1, ?_⟩
      rw [e3] at e2 ⊢
      by_cases hl : (D.str a :: b).length = 2
      · obtain ⟨y, rfl⟩ : ∃ y, b = [y] := by
          cases b with
          | nil => cases hl
          | cons y b => cases b with
            | nil => exact ⟨y, rfl⟩
            | cons z zs => simp at hl
        rw [look_two]
        dsimp only
        rw [if_neg hne]; exact e2
      · rw [look_not hl]; exact e2
end
section
/-! # looks: what is written is read, what is read is written so -/
theorem spl_ne (S : List Nat) : ∀ (l : List Nat) (k : Nat) (acc : List Nat), TL.spl S k acc l ≠ []
  | [], k, acc => by rw [TL.spl_nil]; simp
  | c :: r, 0, acc => by
    cases hp : TL.pre S (c :: r) with
    | true => rw [TL.spl_hit hp]; simp
    | false => rw [TL.spl_miss hp]; exact spl_ne S r 0 _
  | c :: r, k + 1, acc => spl_ne S r k acc
theorem joinL_cons (S p : List Nat) {ps : List (List Nat)} (h : ps ≠ []) : TL.joinL S (p :: ps) = p ++ (S ++ TL.joinL S ps) := by
  cases ps with
  | nil => exact (h rfl).elim
  | cons q r => rfl
theorem join_spl (c : Nat) : ∀ (l acc : List Nat), TL.joinL [c] (TL.spl [c] 0 acc l) = acc ++ l
  | [], acc => by rw [TL.spl_nil, List.append_nil]; rfl
  | d :: r, acc => by
    cases hp : TL.pre [c] (d :: r) with
    | true =>
      have e : (d :: r).take 1 = [c] := eq_of_beq hp
      have e2 : d = c := by simpa using e
      rw [TL.spl_hit hp]
      show TL.joinL [c] (acc :: TL.spl [c] 0 [] r) = _
      rw [joinL_cons _ _ (spl_ne _ _ _ _), join_spl c r [], e2]; rfl
    | false =>
      rw [TL.spl_miss hp, join_spl c r, List.append_assoc]; rfl
theorem dig_not {k : Nat} {n : Int} (hk : k ≠ 45 ∧ (k < 48 ∨ 57 < k) := by decide) : k ∉ TL.tl (dig n) := dig_free n hk
theorem dig_first {n : Int} {r : List Nat} (k : Nat) (hk : k ≠ 45 ∧ (k < 48 ∨ 57 < k) := by decide) : (TL.tl (dig n) ++ r).take 1 ≠ [k] := by
  intro h
  have hne : TL.tl (dig n) ≠ [] := dig_ne n
  cases hd : TL.tl (dig n) with
  | nil => exact hne hd
  | cons c q =>
    rw [hd] at h
    have : c = k := by simpa using h
    exact dig_not (n := n) hk (by rw [hd, this]; simp)
theorem bra_first {w : List Nat} (h : w.take 1 ≠ [123]) : braR w = none := by
  unfold braR
  rw [if_neg (fun z => h z.2.1)]
theorem bra_of (s : List Nat) : braR (123 :: (s ++ [125])) = some s := by
  unfold braR
  rw [if_pos ⟨by simp, rfl, by
    have : (123 :: (s ++ [125])).length - 1 = (123 :: s).length := by simp
    rw [this, show 123 :: (s ++ [125]) = (123 :: s) ++ [125] from rfl, List.drop_left]⟩]
  congr 1
  rw [show 123 :: (s ++ [125]) = (123 :: s) ++ [125] from rfl, List.dropLast_concat]; rfl
theorem bra_eq {w s : List Nat} (h : braR w = some s) : w = 123 :: (s ++ [125]) := by
  unfold braR at h
  split at h
  · rename_i hc
    obtain ⟨h1, h2, h3⟩ := hc
    cases h
    have hne : w ≠ [] := fun z => by rw [z] at h1; simp at h1
    have e := List.dropLast_concat_getLast hne
    rw [drop_last1 hne] at h3
    have h4 : w.getLast hne = 125 := by simpa using h3
    rw [h4] at e
    cases hd : w.dropLast with
    | nil => rw [hd] at e; rw [← e] at h1; simp at h1
    | cons c r =>
      rw [hd] at e
      rw [← e] at h2
      have : c = 123 := by simpa using h2
      rw [← e, this]; rfl
  · cases h
/-- the text of numbers, commas between -/
def numsT (ns : List Int) : Str := Txt.join "," (ns.map dig)
theorem tl_numsT (ns : List Int) : TL.tl (numsT ns) = TL.joinL [44] (ns.map fun n => TL.tl (dig n)) := by
  unfold numsT
  rw [TL.join_eq, TL.tl_join, List.map_map]; rfl
theorem joinL_nil {S : List Nat} (hS : S ≠ []) : ∀ {ps : List (List Nat)}, (∀ p ∈ ps, p ≠ []) → TL.joinL S ps = [] → ps = []
  | [], _, _ => rfl
  | [p], h, e => (h p (by simp) e).elim
  | p :: q :: r, h, e => by
    have : p ++ (S ++ TL.joinL S (q :: r)) = [] := e
    exact (h p (by simp) (List.append_eq_nil_iff.mp this).1).elim
theorem nums_read {ns : List Int} (h : ∀ n ∈ ns, N60 n) : nosR (TL.tl (numsT ns)) = some ns := by
  unfold nosR nosL
  rw [tl_numsT]
  by_cases hn : ns = []
  · rw [hn]; rfl
  · have h0 : ¬ TL.joinL [44] (ns.map fun n => TL.tl (dig n)) = [] := fun z => by
      have := joinL_nil (by decide) (fun p hp => by
        obtain ⟨n, _, rfl⟩ := List.mem_map.mp hp
        exact dig_ne n) z
      exact hn (List.map_eq_nil_iff.mp this)
    rw [if_neg h0, TL.spl_join (fun z => hn (List.map_eq_nil_iff.mp z)) (fun p hp => by
      obtain ⟨n, _, rfl⟩ := List.mem_map.mp hp
      exact dig_not), List.map_map]
    rw [show ns.map (numR ∘ fun n => TL.tl (dig n)) = ns.map some from List.map_congr_left fun n hn => num_dig (h n hn)]
    exact allO_map ns
theorem nums_back {w : List Nat} {ns : List Int} (h : nosR w = some ns) : TL.tl (numsT ns) = w := by
  have e := allO_some h
  rw [tl_numsT]
  unfold nosL at e
  split at e
  · rename_i hw
    have : ns = [] := List.map_eq_nil_iff.mp e.symm
    rw [this, hw]; rfl
  · have e2 : TL.spl [44] 0 [] w = ns.map fun n => TL.tl (dig n) := by
      apply List.ext_getElem?
      intro i
      have ei := congrArg (fun l => l[i]?) e
      rw [List.getElem?_map, List.getElem?_map] at ei
      rw [List.getElem?_map]
      cases h1 : (TL.spl [44] 0 [] w)[i]? with
      | none =>
        rw [h1] at ei
        cases h2 : ns[i]? with
        | none => rfl
        | some n => rw [h2] at ei; cases ei
      | some p =>
        rw [h1] at ei
        cases h2 : ns[i]? with
        | none => rw [h2] at ei; cases ei
        | some n =>
          rw [h2] at ei
          have : numR p = some n := Option.some.inj ei
          show some p = some (TL.tl (dig n))
          rw [(dig_num this).1]
    rw [← e2]
    exact join_spl 44 w []
theorem pl_text {l : Lk} (hd : l.dep = 1) (h : l.Rd) : plkR (TL.tl l.text) = some l := by
  have N : ∀ n ∈ l.nums, N60 n := h.nm
  cases l with
  | any => rfl
  | is n =>
    have hn := num_dig (N n (by simp [Lk.nums]))
    show plkR (TL.tl (dig n)) = _
    have f := fun k hk => dig_first (n := n) (r := []) k hk
    rw [List.append_nil] at f
    unfold plkR
    rw [if_neg (fun z => f 42 (by decide) (by rw [z]; rfl)), bra_first (f 123 (by decide)), TL.par_none1 dig_not]
    dsimp only
    rw [hn]; rfl
  | frm n =>
    have hn := num_dig (N n (by simp [Lk.nums]))
    show plkR (TL.tl (dig n ++ (".." : Str))) = _
    rw [TL.tl_append]
    have f := fun k hk => dig_first (n := n) (r := TL.tl (".." : Str)) k hk
    unfold plkR
    rw [if_neg (fun z => f 42 (by decide) (by rw [z]; rfl)), bra_first (f 123 (by decide))]
    dsimp only
    have := TL.par_part1 (s := 46) (S := [46]) (p := TL.tl (dig n)) (rest := []) (acc := []) dig_not
    rw [show TL.tl (dig n) ++ TL.tl (".." : Str) = TL.tl (dig n) ++ (46 :: [46] ++ []) from rfl, this]
    dsimp only
    rw [if_pos rfl, List.nil_append, hn]; rfl
  | upto n =>
    have hn := num_dig (N n (by simp [Lk.nums]))
    show plkR (TL.tl ((".." : Str) ++ dig n)) = _
    rw [TL.tl_append]
    unfold plkR
    have := TL.par_part1 (s := 46) (S := [46]) (p := []) (rest := TL.tl (dig n)) (acc := []) (by simp)
    rw [if_neg (fun z => by cases z), bra_first (by intro z; cases z), show TL.tl (".." : Str) ++ TL.tl (dig n) = [] ++ (46 :: [46] ++ TL.tl (dig n)) from rfl, this]
    dsimp only
    rw [if_neg (dig_ne n), if_pos (List.nil_append _), hn]; rfl
  | inn a b =>
    have ha := num_dig (N a (by simp [Lk.nums]))
    have hb := num_dig (N b (by simp [Lk.nums]))
    show plkR (TL.tl (dig a ++ (".." : Str) ++ dig b)) = _
    rw [TL.tl_append, TL.tl_append, List.append_assoc]
    have f := fun k hk => dig_first (n := a) (r := TL.tl (".." : Str) ++ TL.tl (dig b)) k hk
    unfold plkR
    rw [if_neg (fun z => f 42 (by decide) (by rw [z]; rfl)), bra_first (f 123 (by decide))]
    have := TL.par_part1 (s := 46) (S := [46]) (p := TL.tl (dig a)) (rest := TL.tl (dig b)) (acc := []) dig_not
    rw [show TL.tl (dig a) ++ (TL.tl (".." : Str) ++ TL.tl (dig b)) = TL.tl (dig a) ++ (46 :: [46] ++ TL.tl (dig b)) from rfl, this]
    dsimp only
    rw [if_neg (dig_ne b), List.nil_append, if_neg (dig_ne a), ha, hb]
  | one ns =>
    show plkR (TL.tl (("{" : Str) ++ numsT ns ++ ("}" : Str))) = _
    rw [TL.tl_append, TL.tl_append, show TL.tl ("{" : Str) ++ TL.tl (numsT ns) ++ TL.tl ("}" : Str) = 123 :: (TL.tl (numsT ns) ++ [125]) from rfl]
    unfold plkR
    rw [if_neg (fun z => by cases z), bra_of]
    dsimp only
    rw [nums_read (ns := ns) (fun n hn => N n hn)]
    dsimp only
    rw [if_pos ⟨h.few, h.un⟩]
  | but l => 
    have h0 : l.dep + 1 = 1 := hd
    cases l <;> simp [Lk.dep] at h0
theorem look_text_back {l : Lk} (hd : l.dep ≤ 2) (h : l.Rd) : lookR (TL.tl l.text) = some l := by
  cases hl : l with
  | but k =>
    rw [hl] at hd h
    have hk : k.dep = 1 := by
      have : k.dep + 1 ≤ 2 := hd
      have h1 : 1 ≤ k.dep := by cases k <;> simp [Lk.dep]
      omega
    show lookR (TL.tl (("!" : Str) ++ k.text)) = _
    rw [TL.tl_append, show TL.tl ("!" : Str) ++ TL.tl k.text = 33 :: TL.tl k.text from rfl]
    unfold lookR
    rw [if_pos (show (33 :: TL.tl k.text).take 1 = [33] from rfl)]
    show (plkR (TL.tl k.text)).map Lk.but = _
    rw [pl_text hk ⟨h.nm, h.few, h.un⟩]; rfl
  | _ =>
    rw [← hl]
    have h1 : l.dep = 1 := by rw [hl]; rfl
    have e := pl_text h1 h
    unfold lookR
    rw [if_neg, e]
    intro z
    have hne : TL.tl l.text ≠ [] := fun y => by rw [y] at z; simp at z
    rw [hl] at z
    first
      | exact absurd z (by show (TL.tl ("*" : Str)).take 1 ≠ [33]; decide)
      | (rename_i n; exact dig_first (n := n) (r := []) 33 (by decide) (by rw [List.append_nil]; exact z))
      | (rename_i n; exact dig_first (n := n) (r := TL.tl (".." : Str)) 33 (by decide) (by rw [← TL.tl_append]; exact z))
      | (have z2 := z; rw [show ∀ n, (Lk.upto n).text = (".." : Str) ++ dig n from fun _ => rfl, TL.tl_append] at z2; cases z2)
      | (have z2 := z; rw [show ∀ a b, (Lk.inn a b).text = dig a ++ (".." : Str) ++ dig b from fun _ _ => rfl, TL.tl_append, TL.tl_append, List.append_assoc] at z2; exact dig_first 33 (by decide) z2)
      | (have z2 := z; rw [show ∀ ns, (Lk.one ns).text = ("{" : Str) ++ numsT ns ++ ("}" : Str) from fun _ => rfl, TL.tl_append, TL.tl_append] at z2; cases z2)
theorem pl_back {w : List Nat} {l : Lk} (h : plkR w = some l) : TL.tl l.text = w := by
  unfold plkR at h
  split at h
  · rename_i hw
    cases h
    rw [hw]; rfl
  · split at h
    · rename_i s hs
      split at h
      · rename_i ns hn
        split at h
        · cases h
          rw [bra_eq hs]
          show TL.tl (("{" : Str) ++ numsT ns ++ ("}" : Str)) = _
          rw [TL.tl_append, TL.tl_append, nums_back hn]; rfl
        · cases h
      · cases h
    · split at h
      · cases hn : numR w with
        | none => rw [hn] at h; cases h
        | some n => rw [hn] at h; cases h; exact (dig_num hn).1
      · rename_i lo hi hp
        have e := par_eq [46, 46] (by decide) _ _ _ _ hp
        rw [List.nil_append] at e
        split at h
        · rename_i h0
          cases hn : numR lo with
          | none => rw [hn] at h; cases h
          | some n =>
            rw [hn] at h; cases h
            show TL.tl (dig n ++ (".." : Str)) = w
            rw [TL.tl_append, (dig_num hn).1, e, h0, List.append_nil]; rfl
        · split at h
          · rename_i h1
            cases hn : numR hi with
            | none => rw [hn] at h; cases h
            | some n =>
              rw [hn] at h; cases h
              show TL.tl ((".." : Str) ++ dig n) = w
              rw [TL.tl_append, (dig_num hn).1, e, h1, List.nil_append]; rfl
          · split at h
            · rename_i a b ha hb
              cases h
              show TL.tl (dig a ++ (".." : Str) ++ dig b) = w
              rw [TL.tl_append, TL.tl_append, (dig_num ha).1, (dig_num hb).1, e]; rfl
            · cases h
theorem look_back {w : List Nat} {l : Lk} (h : lookR w = some l) : TL.tl l.text = w := by
  unfold lookR at h
  split at h
  · rename_i hw
    cases hp : plkR (w.drop 1) with
    | none => rw [hp] at h; cases h
    | some k =>
      rw [hp] at h
      cases h
      show TL.tl (("!" : Str) ++ k.text) = w
      rw [TL.tl_append, pl_back hp]
      show [33] ++ w.drop 1 = w
      rw [← hw, List.take_append_drop]
  · exact pl_back h
end
section
structure Ws where
  part : Str
  deed : Option Str
  looks : Option (List Lk)
  name : Str
  least : Int
  most : Option Int
def Ws.d (w : Ws) : D := .ins "Wish" (wFs (.str w.part) (oS w.deed) (oL w.looks) (.str w.name) (.int w.least) (oN w.most))
end
section
theorem at_abc {c : Int} (h0 : 0 ≤ c) (h1 : c < 26) : atI (Str.ofString "abcdefghijklmnopqrstuvwxyz").cps.toList c = some (97 + c.toNat) := by
  have e : (Str.ofString "abcdefghijklmnopqrstuvwxyz").cps.toList = (List.range 26).map (97 + ·) := by decide +kernel
  obtain ⟨x, e1, e2⟩ := atI_some (xs := (Str.ofString "abcdefghijklmnopqrstuvwxyz").cps.toList) h0 (by rw [e, List.length_map, List.length_range]; exact h1)
  rw [e1, ← e2, e, List.getElem?_map, List.getElem?_range (by omega)]
  rfl
theorem low_at {c : Nat} (h : c < 26) : low (97 + c) = true := by
  unfold low; rw [Bool.and_eq_true, decide_eq_true_eq, decide_eq_true_eq]; omega
theorem rg_get {n : Nat} {lo : Int} {i : Nat} {d : D} (h : (rangeD lo n)[i]? = some d) : i < n ∧ d = .int (lo + i) := by
  unfold rangeD at h
  rw [List.getElem?_map] at h
  by_cases hi : i < n
  · rw [List.getElem?_range hi] at h; cases h; exact ⟨hi, rfl⟩
  · rw [List.getElem?_eq_none (by rw [List.length_range]; omega)] at h; cases h
theorem rg_len (lo : Int) (n : Nat) : (rangeD lo n).length = n := by unfold rangeD; rw [List.length_map, List.length_range]
end
section
theorem nm_len {x : Str} (h : nmB x = true) : 1 ≤ x.length ∧ x.length ≤ 8 ∧ x.cps.toList.all low = true := by
  unfold nmB at h
  rw [Bool.and_eq_true, Bool.and_eq_true, decide_eq_true_eq, decide_eq_true_eq] at h
  exact ⟨h.1, h.2.1, h.2.2⟩
end
end DL
namespace DL
open PySem L2
local macro_rules | `(tactic| walk_at "dl") => `(tactic| ((conv => whnf); try dsimp only))
local macro_rules | `(tactic| walk_at "sd") => `(tactic| first | trivial | exact Nat.zero_le _ | assumption | decide | omega | exact len_line (by first | decide | omega | (simp; done) | (simp; omega)) | (simp; done) | (simp; omega) | exact ⟨by decide, by decide, by decide⟩ | exact .inl ⟨by decide, by decide⟩ | exact .inl ⟨by omega, by omega⟩ | exact wide_div (b := 64) (by decide) (by decide) (by decide) (by decide))
local macro_rules | `(tactic| walk_at "go") => `(tactic| ((conv => whnf); (try dsimp only); repeat ((with_reducible refine And.intro ?_ ?_); (focus (walk_at "sd")); (conv => whnf); (try dsimp only))))
local macro_rules | `(tactic| walk_at "th") => `(tactic| repeat' (first | assumption | exact thD_txt _ _ | exact thD_int | exact thD_non | exact thD_bl | (refine thD_mono _ _ _ ?_ (by assumption); decide) | refine List.forall_mem_cons.mpr (And.intro ?_ ?_) | exact List.forall_mem_nil _ | refine thD_tup (by simp) ?_ | refine thD_lst (by simp) ?_))
local macro_rules | `(tactic| walk_at "ln") => `(tactic| (intro ds m Q PX h; repeat (obtain ⟨_, h⟩ := h); subst_vars; rfl))
section
/-! ### wishes, good ones -/
structure Ws.Pre (W : Ws) : Prop where
  part : nmB W.part = true
  deed : ∀ x, W.deed = some x → nmB x = true
  looks : ∀ ls, W.looks = some ls → ls.length ≤ 2 ∧ ∀ l ∈ ls, l.Good 170
  name : nmB W.name = true
  least : 0 ≤ W.least ∧ W.least ≤ 4
  most : ∀ h, W.most = some h → 0 ≤ h ∧ h ≤ 4
structure Ws.Ok (W : Ws) : Prop extends W.Pre where
  cnt : ∀ h, W.most = some h → W.least ≤ h
def Ws.row (W : Ws) : D := .tup [.str W.part, oS W.deed, oL W.looks, .str W.name, .int W.least, oN W.most]
theorem Lk.Good.th {b : Nat} {l : Lk} (h : l.Good b) : thD 3 l.d := thD_mono _ 3 _ (by have := h.dp; omega) (l.th h.few)
theorem Ws.Pre.nm {W : Ws} (h : W.Pre) : (nmD (.str W.part) && ((isNone (oS W.deed) || nmD (oS W.deed)) && nmD (.str W.name))) = true := by
  show (nmB W.part && ((isNone (oS W.deed) || nmD (oS W.deed)) && nmB W.name)) = true
  rw [h.part, h.name, Bool.true_and, Bool.and_true]
  cases e : W.deed with
  | none => rfl
  | some x => exact h.deed x e
end
end DL
namespace DL
open PySem L2
local macro_rules | `(tactic| walk_at "dl") => `(tactic| ((conv => whnf); try dsimp only))
local macro_rules | `(tactic| walk_at "sd") => `(tactic| first | trivial | exact Nat.zero_le _ | assumption | decide | omega | exact len_line (by first | decide | omega | (simp; done) | (simp; omega)) | (simp; done) | (simp; omega) | exact ⟨by decide, by decide, by decide⟩ | exact .inl ⟨by decide, by decide⟩ | exact .inl ⟨by omega, by omega⟩ | exact wide_div (b := 64) (by decide) (by decide) (by decide) (by decide))
local macro_rules | `(tactic| walk_at "go") => `(tactic| ((conv => whnf); (try dsimp only); repeat ((with_reducible refine And.intro ?_ ?_); (focus (walk_at "sd")); (conv => whnf); (try dsimp only))))
local macro_rules | `(tactic| walk_at "th") => `(tactic| repeat' (first | assumption | exact thD_txt _ _ | exact thD_int | exact thD_non | exact thD_bl | (refine thD_mono _ _ _ ?_ (by assumption); decide) | refine List.forall_mem_cons.mpr (And.intro ?_ ?_) | exact List.forall_mem_nil _ | refine thD_tup (by simp) ?_ | refine thD_lst (by simp) ?_))
local macro_rules | `(tactic| walk_at "ln") => `(tactic| (intro ds m Q PX h; repeat (obtain ⟨_, h⟩ := h); subst_vars; rfl))
section
theorem atI_map {α : Type} {xs : List α} {f : α → D} {i : Nat} {x : α} (h : xs[i]? = some x) : atI (xs.map f) (0 + (i : Int)) = some (f x) := by
  have hi := (List.getElem?_eq_some_iff.mp h).1
  obtain ⟨y, e1, e2⟩ := atI_some (xs := xs.map f) (i := 0 + (i : Int)) (by omega) (by rw [List.length_map]; omega)
  rw [show (0 + (i : Int)).toNat = i by omega, List.getElem?_map, h] at e2
  rw [e1, ← e2]; rfl
/-! ### the asks of k13 -/
end
section
/-! # looks read: the program and the law -/
def noTx (k : Int) : List (Str × D) := [("line", .int k), ("why", .str "no such text")]
theorem LxOk.bra {w s : List Nat} (h : LxOk w) (e : braR w = some s) : LxOk s := by
  unfold braR at e
  split at e
  · cases e; exact h.init.drop 1
  · cases e
def sp_plain_in : SpD := fun ds m P _ => ∃ w : Str, ds = [.str w] ∧ LxOk (TL.tl w) ∧ P (plnD (TL.tl w)) m
def rd_plain_in : DS :=
    sSeq (sIf (rTst (rOp oEq (rV 0) (rC (.str "*")))) (sRet (rTup (rCons (rC (.str "any")) (rNil)))) (sNext))
    (sSeq (sSet 1 (rCall sp_within [] (rCons (rV 0) (rCons (rC (.str "{")) (rCons (rC (.str "}")) (rNil))))))
    (sSeq (sIf (rTst (rOp (oIsN true) (rV 1) (rC .non))) (sRet (rTup (rCons (rC (.str "one")) (rCons (rCall sp_numbers_in [] (rCons (rV 1) (rNil))) (rNil))))) (sNext))
    (sSeq (sTup [2, 3, 4] (rParti (rV 0) (rC (.str ".."))))
    (sSeq (sIf (rTst (rOp oEq (rV 3) (rC (.str "")))) (sRet (rTup (rCons (rC (.str "is")) (rCons (rCall sp_number_in [] (rCons (rV 0) (rNil))) (rNil))))) (sNext))
    (sSeq (sIf (rTst (rOp oEq (rV 4) (rC (.str "")))) (sRet (rTup (rCons (rC (.str "from")) (rCons (rCall sp_number_in [] (rCons (rV 2) (rNil))) (rNil))))) (sNext))
    (sSeq (sIf (rTst (rOp oEq (rV 2) (rC (.str "")))) (sRet (rTup (rCons (rC (.str "to")) (rCons (rCall sp_number_in [] (rCons (rV 4) (rNil))) (rNil))))) (sNext))
    (sRet (rTup (rCons (rC (.str "in")) (rCons (rCall sp_number_in [] (rCons (rV 2) (rNil))) (rCons (rCall sp_number_in [] (rCons (rV 4) (rNil))) (rNil))))))))))))
theorem ln_plain_in : ∀ ds m Q PX, sp_plain_in ds m Q PX → ds.length = 1 := fun ds m Q PX h => by repeat' (first | (subst_vars; rfl; done) | (refine Or.elim h (fun h => ?_) (fun h => ?_)) | (obtain ⟨_, h⟩ := h))
theorem pu_plain_in : ∀ ds m Q PX, sp_plain_in ds m Q PX → rd_plain_in (dEnds Q PX) (dstart ["word", "inside", "low", "points", "high"] ds) m := by
  rintro ds m Q PX ⟨w, rfl, hx, h⟩
  have hw := hx.len
  have hwl := TL.len_tl w
  unfold plnD at h
  walk_at "go"
  rw [if_neg Bool.false_ne_true, eq_str (l := [42]) (by decide)]
  by_cases h1 : TL.tl w = [42]
  · rw [decide_eq_true h1]
    rw [if_pos h1] at h
    walk_at "go"
    exact h
  rw [decide_eq_false h1]
  rw [if_neg h1] at h
  walk_at "go"
  refine ⟨w, rfl, hx, ?_⟩
  cases hb : braR (TL.tl w) with
  | some s =>
    rw [hb] at h
    walk_at "go"
    exact ⟨sgnT s, rfl, hx.bra hb, len_line (by simp), h⟩
  | none =>
    rw [hb] at h
    walk_at "go"
    refine ⟨⟨by decide, len_line (by omega)⟩, ?_⟩
    rw [parti_sgn w ".." (by decide)]
    rw [show TL.tl (".." : Str) = [46, 46] from by decide]
    cases hp : TL.par [46, 46] [] (TL.tl w) with
    | none =>
      rw [hp] at h
      walk_at "go"
      exact ⟨w, rfl, hx, len_line (by simp), h⟩
    | some lh =>
      obtain ⟨lo, hi⟩ := lh
      rw [hp] at h
      obtain ⟨xl, xh⟩ := hx.par (by decide) hp
      walk_at "go"
      rw [if_neg Bool.false_ne_true, eq_str (l := []) (by decide)]
      by_cases h2 : hi = []
      · rw [decide_eq_true (by rw [tl_sgnT]; exact h2)]
        dsimp only at h
        rw [if_pos h2] at h
        walk_at "go"
        exact ⟨_, rfl, xl, len_line (by simp), h⟩
      · rw [decide_eq_false (by rw [tl_sgnT]; exact h2)]
        dsimp only at h
        rw [if_neg h2] at h
        walk_at "go"
        rw [if_neg Bool.false_ne_true, eq_str (l := []) (by decide)]
        by_cases h3 : lo = []
        · rw [decide_eq_true (by rw [tl_sgnT]; exact h3)]
          rw [if_pos h3] at h
          walk_at "go"
          exact ⟨_, rfl, xh, len_line (by simp), h⟩
        · rw [decide_eq_false (by rw [tl_sgnT]; exact h3)]
          rw [if_neg h3] at h
          walk_at "go"
          refine ⟨_, rfl, xl, ?_⟩
          walk_at "go"
          exact ⟨_, rfl, xh, len_line (by simp), h⟩
def sp_look_in : SpD := fun ds m P _ => ∃ w : Str, ds = [.str w] ∧ LxOk (TL.tl w) ∧ P (lookD (TL.tl w)) m
def rd_look_in : DS :=
    sSeq (sIf (rTst (rOp oEq (rSl (rV 0) rNoP (rPart (rC (.int 1)))) (rC (.str "!")))) (sRet (rTup (rCons (rC (.str "but")) (rCons (rCall sp_plain_in [] (rCons (rSl (rV 0) (rPart (rC (.int 1))) rNoP) (rNil))) (rNil))))) (sNext))
    (sRet (rCall sp_plain_in [] (rCons (rV 0) (rNil))))
theorem ln_look_in : ∀ ds m Q PX, sp_look_in ds m Q PX → ds.length = 1 := fun ds m Q PX h => by repeat' (first | (subst_vars; rfl; done) | (refine Or.elim h (fun h => ?_) (fun h => ?_)) | (obtain ⟨_, h⟩ := h))
theorem pu_look_in : ∀ ds m Q PX, sp_look_in ds m Q PX → rd_look_in (dEnds Q PX) (dstart ["word"] ds) m := by
  rintro ds m Q PX ⟨w, rfl, hx, h⟩
  have hw := hx.len
  have hwl := TL.len_tl w
  unfold lookD at h
  walk_at "go"
  rw [if_neg Bool.false_ne_true, one_cut (c := 33) (by decide)]
  by_cases h1 : (TL.tl w).take 1 = [33]
  · rw [decide_eq_true h1]
    rw [if_pos h1] at h
    walk_at "go"
    rw [cut1]
    exact ⟨_, rfl, hx.drop 1, len_line (by simp), h⟩
  · rw [decide_eq_false h1]
    rw [if_neg h1] at h
    walk_at "go"
    exact ⟨_, rfl, hx, h⟩
/-! ### the law's own -/
theorem getD_in {ns : List Int} {k : Nat} (h : k < ns.length) : ns.getD k 0 = ns[k] := by rw [List.getD_eq_getElem?_getD, List.getElem?_eq_getElem h]; rfl
theorem deq_int (a b : Int) : deq (.int a) (.int b) = decide (a = b) := by
  unfold deq; simp only [py, PyData.eqv]
  rw [Bool.eq_iff_iff, beq_iff_eq, decide_eq_true_eq]
theorem any_int (ns : List Int) (n : Int) : (ns.map D.int).any (fun z => deq z (.int n)) = decide (n ∈ ns) := by
  rw [List.any_map, Bool.eq_iff_iff, List.any_eq_true, decide_eq_true_eq]
  constructor
  · rintro ⟨x, hx, e⟩
    have : x = n := by
      have e' : deq (.int x) (.int n) = true := e
      rw [deq_int, decide_eq_true_eq] at e'; exact e'
    rw [← this]; exact hx
  · intro h
    refine ⟨n, h, ?_⟩
    show deq (.int n) (.int n) = true
    rw [deq_int, decide_eq_true rfl]
end
section
/-! # looks read: the law's own reading -/
def oL? : Option Lk → D
  | none => .non
  | some l => l.d
theorem num_bad {w : List Nat} {c : Nat} (h : c ∈ figs w) (hc : isDig c = false) : numR w = none := by
  unfold numR figB
  rw [if_neg]
  intro z
  simp only [Bool.and_eq_true] at z
  have := List.all_eq_true.mp z.2.2 c h
  rw [hc] at this; cases this
theorem num_first {w : List Nat} {c : Nat} (h : w.take 1 = [c]) (hc : isDig c = false) (h45 : c ≠ 45) : numR w = none := by
  have hs : sgnL w = false := by
    unfold sgnL
    rw [h, decide_eq_false_iff_not]
    intro z
    exact h45 (by simpa using z)
  refine num_bad (c := c) ?_ hc
  rw [figs_pos hs]
  cases w with
  | nil => simp at h
  | cons d r =>
    have : d = c := by simpa using h
    rw [this]; simp
theorem pl_open {w : List Nat} (h : w.take 1 = [123]) (hb : braR w = none) : plkR w = none := by
  unfold plkR
  rw [if_neg (fun z => by rw [z] at h; cases h), hb]
  dsimp only
  cases hp : TL.par [46, 46] [] w with
  | none =>
    dsimp only
    rw [num_first h (by decide) (by decide)]; rfl
  | some lh =>
    obtain ⟨lo, hi⟩ := lh
    have e := par_eq [46, 46] (by decide) _ _ _ _ hp
    rw [List.nil_append] at e
    have hl : lo ≠ [] := fun z => by rw [e, z] at h; cases h
    have h2 : lo.take 1 = [123] := by
      cases lo with
      | nil => exact (hl rfl).elim
      | cons c r => rw [e] at h; simpa using h
    dsimp only
    rw [if_neg hl, num_first h2 (by decide) (by decide)]
    by_cases h3 : hi = []
    · rw [if_pos h3]; rfl
    · rw [if_neg h3]
abbrev sp__law_plain_read : SpD := fun ds m P _ => ∃ w : Str, ds = [.str w] ∧ LxOk (TL.tl w) ∧ P (oL? (plkR (TL.tl w))) m
theorem ln__law_plain_read : ∀ ds m Q PX, sp__law_plain_read ds m Q PX → ds.length = 1 := fun ds m Q PX h => by repeat' (first | (subst_vars; rfl; done) | (refine Or.elim h (fun h => ?_) (fun h => ?_)) | (obtain ⟨_, h⟩ := h))
theorem deq_sn (a : Str) : deq (.str a) .non = false := by unfold deq; simp only [py, PyData.eqv]
theorem row_flat (b : Str) (os : List (Option Int)) : (D.str b :: os.map oI?).all flatD = true := by
  rw [List.all_cons, List.all_map]
  show (true && _) = true
  rw [Bool.true_and, List.all_eq_true]
  intro o _
  cases o <;> rfl
theorem row_non (b : Str) (os : List (Option Int)) : (D.str b :: os.map oI?).any (fun z => deq z .non) = !os.all Option.isSome := by
  rw [List.any_cons, deq_sn, Bool.false_or, List.any_map]
  induction os with
  | nil => rfl
  | cons o os ih =>
    rw [List.any_cons, List.all_cons, ih]
    show (deq (oI? o) .non || _) = _
    rw [deq_non]
    cases o <;> rfl
end
end DL
/-! a list comprehension whose element may raise (a call) -/
namespace HK
open PySem PySem.Spec PyProof.Rows L2 HotX L2H
end HK
/-! ### a list comprehension whose element, a call, may raise: over data -/
namespace DL
open PySem L2 L2H HK
end DL
namespace DL
open PySem L2
local macro_rules | `(tactic| walk_at "dl") => `(tactic| ((conv => whnf); try dsimp only))
local macro_rules | `(tactic| walk_at "sd") => `(tactic| first | trivial | exact Nat.zero_le _ | assumption | decide | omega | exact len_line (by first | decide | omega | (simp; done) | (simp; omega)) | (simp; done) | (simp; omega) | exact ⟨by decide, by decide, by decide⟩ | exact .inl ⟨by decide, by decide⟩ | exact .inl ⟨by omega, by omega⟩ | exact wide_div (b := 64) (by decide) (by decide) (by decide) (by decide))
local macro_rules | `(tactic| walk_at "go") => `(tactic| ((conv => whnf); (try dsimp only); repeat ((with_reducible refine And.intro ?_ ?_); (focus (walk_at "sd")); (conv => whnf); (try dsimp only))))
local macro_rules | `(tactic| walk_at "th") => `(tactic| repeat' (first | assumption | exact thD_txt _ _ | exact thD_int | exact thD_non | exact thD_bl | (refine thD_mono _ _ _ ?_ (by assumption); decide) | refine List.forall_mem_cons.mpr (And.intro ?_ ?_) | exact List.forall_mem_nil _ | refine thD_tup (by simp) ?_ | refine thD_lst (by simp) ?_))
local macro_rules | `(tactic| walk_at "ln") => `(tactic| (intro ds m Q PX h; repeat (obtain ⟨_, h⟩ := h); subst_vars; rfl))
section
/-! # asks read -/
abbrev AkX := Str × Str × List Int
/-- a right ask, its numbers of sixty figures at most -/
structure AkX.Ok (k : AkX) : Prop where
  a : nmB k.1 = true
  b : nmB k.2.1 = true
  few : k.2.2.length ≤ 2
  nm : ∀ t ∈ k.2.2, N60 t
def callR (w : List Nat) : Option (List Nat × List Nat × List Nat) := match TL.par [40] [] w with
  | none => none
  | some (head, rest) => match TL.par [46] [] head with
    | none => none
    | some (a, b) => if rest.drop (rest.length - 1) = [41] then some (a, b, rest.dropLast) else none
def oC? : Option (List Nat × List Nat × List Nat) → D
  | none => .non
  | some (a, b, c) => .tup [.str (sgnT a), .str (sgnT b), .str (sgnT c)]
theorem call_sub {w a b c : List Nat} (h : LxOk w) (e : callR w = some (a, b, c)) : LxOk a ∧ LxOk b ∧ LxOk c ∧ w = a ++ 46 :: b ++ 40 :: c ++ [41] := by
  unfold callR at e
  cases h1 : TL.par [40] [] w with
  | none => rw [h1] at e; cases e
  | some p =>
    obtain ⟨head, rest⟩ := p
    rw [h1] at e
    dsimp only at e
    cases h2 : TL.par [46] [] head with
    | none => rw [h2] at e; cases e
    | some q =>
      obtain ⟨a', b'⟩ := q
      rw [h2] at e
      dsimp only at e
      split at e
      · rename_i h3
        cases e
        obtain ⟨x1, x2⟩ := h.par (by decide) h1
        obtain ⟨x3, x4⟩ := x1.par (by decide) h2
        refine ⟨x3, x4, x2.init, ?_⟩
        have e1 := par_eq [40] (by decide) _ _ _ _ h1
        have e2 := par_eq [46] (by decide) _ _ _ _ h2
        rw [List.nil_append] at e1 e2
        have hne : rest ≠ [] := fun z => by rw [z] at h3; cases h3
        have e3 := List.dropLast_concat_getLast hne
        rw [drop_last1 hne] at h3
        have e4 : rest.getLast hne = 41 := by simpa using h3
        rw [e4] at e3
        rw [e1, e2]
        conv => lhs; rw [← e3]
        simp
      · cases e
theorem nm_lows {x : Str} (h : nmB x = true) : ∀ c ∈ TL.tl x, 97 ≤ c ∧ c ≤ 122 := by
  unfold nmB at h
  simp only [Bool.and_eq_true] at h
  intro c hc
  have := List.all_eq_true.mp h.2.2 c hc
  unfold low at this
  simpa using this
theorem nm_free {x : Str} (h : nmB x = true) {k : Nat} (hk : k < 97 ∨ 122 < k) : k ∉ TL.tl x := fun z => by
  have := nm_lows h k z
  omega
abbrev sp__law_is_name_v2 : SpD := fun ds m P _ => ∃ w : Str, ds = [.str w] ∧ LxOk (TL.tl w) ∧ P (.bl (nmB w)) m
def rd__law_is_name_v2 : DS :=
    sSeq (sSet 1 (rLc (iAny (rV 0)) [2] (gN 2) (rTst (rOp (oInN true) (rV 2) (rC (.str "abcdefghijklmnopqrstuvwxyz")))) (rV 2)))
    (sRet (rAndV (rOp oEq (rV 1) (rLst (rNil))) (rAndV (rOp oGt (rCB cLen (rCons (rV 0) (rNil))) (rC (.int 0))) (rOp oLt (rCB cLen (rCons (rV 0) (rNil))) (rC (.int 9))))))
theorem ln__law_is_name_v2 : ∀ ds m Q PX, sp__law_is_name_v2 ds m Q PX → ds.length = 1 := fun ds m Q PX h => by repeat' (first | (subst_vars; rfl; done) | (refine Or.elim h (fun h => ?_) (fun h => ?_)) | (obtain ⟨_, h⟩ := h))
theorem nil_low (w : Str) : ((signs w).filter (fun d => !lowD d)).isEmpty = w.cps.toList.all low := by
  rw [Bool.eq_iff_iff, List.isEmpty_iff, List.filter_eq_nil_iff, ← signs_low, List.all_eq_true]
  constructor
  · intro h d hd
    have := h d hd
    simpa using this
  · intro h d hd
    rw [h d hd]; decide
theorem pu__law_is_name_v2 : ∀ ds m Q PX, sp__law_is_name_v2 ds m Q PX → rd__law_is_name_v2 (dEnds Q PX) (dstart ["_law_word_here", "_law_strange", "_law_sign"] ds) m := by
  rintro ds m Q PX ⟨w, rfl, hx, h⟩
  have hw := hx.len
  have hwl := TL.len_tl w
  unfold nmB at h
  walk_at "go"
  refine comp_fm (fun d => !lowD d) id (by rw [signs_len]; omega) trivial (fun d hd Q' h' => ?_) (fun d hd _ Q' h' => ?_) ?_
  · obtain ⟨c, _, rfl⟩ := List.mem_map.mp hd
    walk_at "go"
    exact h'
  · exact h'
  rw [List.map_id]
  have hth : thD 1 (.lst ((signs w).filter fun d => !lowD d)) := ⟨Nat.le_trans (List.length_filter_le _ _) (by rw [signs_len]; omega), fun d hd => by
    obtain ⟨c, hc, rfl⟩ := List.mem_map.mp (List.mem_filter.mp hd).1
    exact ⟨by show 1 ≤ 100000; decide, fun z hz => by
      have : z = c := by simpa using hz
      rw [this]; exact hx.cod c hc⟩⟩
  obtain ⟨n, hn⟩ : ∃ n : Int, n = (w.length : Int) := ⟨_, rfl⟩
  walk_at "go"
  refine ⟨shpT hth, shpT (n := 1) thD_nil, ?_⟩
  rw [if_neg Bool.false_ne_true]
  have ed : deq (dat m (.lst ((signs w).filter fun d => !lowD d))) (dat m (.lst [])) = w.cps.toList.all low := by
    show deq (.lst ((signs w).filter fun d => !lowD d)) (.lst []) = _
    rw [deq_lst_nil, nil_low]
  rw [ed]
  have e1 : decide (1 ≤ w.length) = decide (0 < n) := by rw [Bool.eq_iff_iff, decide_eq_true_eq, decide_eq_true_eq]; omega
  have e2 : decide (w.length ≤ 8) = decide (n < 9) := by rw [Bool.eq_iff_iff, decide_eq_true_eq, decide_eq_true_eq]; omega
  rw [e1, e2] at h
  cases hb : w.cps.toList.all low with
  | false =>
    rw [hb, Bool.and_false, Bool.and_false] at h
    exact h
  | true =>
    rw [hb, Bool.and_true] at h
    walk_at "go"
    rw [← hn]
    cases h1 : decide (0 < n) with
    | false => rw [h1] at h; exact h
    | true =>
      rw [h1] at h
      walk_at "go"
      rw [← hn]
      exact h
def sp_call_in : SpD := fun ds m P _ => ∃ w : Str, ds = [.str w] ∧ LxOk (TL.tl w) ∧ P (oC? (callR (TL.tl w))) m
def rd_call_in : DS :=
    sSeq (sTup [1, 2, 3] (rParti (rV 0) (rC (.str "("))))
    (sSeq (sTup [4, 5, 6] (rParti (rV 1) (rC (.str "."))))
    (sSeq (sIf (rOr (rTst (rOp oEq (rV 2) (rC (.str "")))) (rOr (rTst (rOp oEq (rV 5) (rC (.str "")))) (rTst (rOp oNe (rSl (rV 3) (rPart (rNeg (rC (.int 1)))) rNoP) (rC (.str ")")))))) (sRet (rC .non)) (sNext))
    (sRet (rTup (rCons (rV 4) (rCons (rV 6) (rCons (rSl (rV 3) rNoP (rPart (rNeg (rC (.int 1))))) (rNil))))))))
theorem ln_call_in : ∀ ds m Q PX, sp_call_in ds m Q PX → ds.length = 1 := fun ds m Q PX h => by repeat' (first | (subst_vars; rfl; done) | (refine Or.elim h (fun h => ?_) (fun h => ?_)) | (obtain ⟨_, h⟩ := h))
theorem pu_call_in : ∀ ds m Q PX, sp_call_in ds m Q PX → rd_call_in (dEnds Q PX) (dstart ["word", "head", "bracket", "rest", "part", "point", "deed"] ds) m := by
  rintro ds m Q PX ⟨w, rfl, hx, h⟩
  have hw := hx.len
  have hwl := TL.len_tl w
  unfold callR at h
  have t1 : TL.tl ("(" : Str) = [40] := by decide
  have t2 : TL.tl ("." : Str) = [46] := by decide
  walk_at "dl"
  refine ⟨⟨by decide, len_line (by omega)⟩, ?_⟩
  rw [parti_sgn w "(" (by decide), t1]
  cases h1 : TL.par [40] [] (TL.tl w) with
  | none =>
    rw [h1] at h
    walk_at "go"
    refine ⟨⟨by decide, len_line (by omega)⟩, ?_⟩
    generalize Txt.partition w (Str.ofString ".") = p
    walk_at "go"
    exact h
  | some hr =>
    obtain ⟨head, rest⟩ := hr
    rw [h1] at h
    obtain ⟨xh, xr⟩ := hx.par (by decide) h1
    dsimp only at h
    have hhl := sgnT_len head
    have hrl := sgnT_len rest
    have hh := xh.len
    have hrr := xr.len
    walk_at "go"
    refine ⟨⟨by decide, len_line (by omega)⟩, ?_⟩
    rw [parti_sgn (sgnT head) "." (by decide), t2, tl_sgnT]
    cases h2 : TL.par [46] [] head with
    | none =>
      rw [h2] at h
      walk_at "go"
      exact h
    | some ab =>
      obtain ⟨a, b⟩ := ab
      rw [h2] at h
      dsimp only at h
      walk_at "go"
      rw [if_pos rfl, last_cut (c := 41) (by decide), tl_sgnT]
      by_cases h3 : rest.drop (rest.length - 1) = [41]
      · rw [decide_eq_true h3]
        rw [if_pos h3] at h
        walk_at "go"
        rw [cutI, tl_sgnT]
        exact h
      · rw [decide_eq_false h3]
        rw [if_neg h3] at h
        exact h
end
section
/-! # asks read: the walks -/
theorem par1_none {s : Nat} : ∀ {l acc : List Nat}, TL.par [s] acc l = none → s ∉ l
  | [], _, _ => by simp
  | c :: r, acc, h => by
    cases hp : TL.pre [s] (c :: r) with
    | true => rw [TL.par_hit hp] at h; cases h
    | false =>
      rw [TL.par_miss hp] at h
      have := par1_none h
      intro z
      rcases List.mem_cons.mp z with rfl | z
      · have e : TL.pre [s] (s :: r) = true := TL.pre_self [s] r
        rw [e] at hp; cases hp
      · exact this z
theorem par1_some {s : Nat} : ∀ {l acc a b : List Nat}, TL.par [s] acc l = some (a, b) → ∃ p, a = acc ++ p ∧ l = p ++ s :: b ∧ s ∉ p
  | [], _, _, _, h => by cases h
  | c :: r, acc, a, b, h => by
    cases hp : TL.pre [s] (c :: r) with
    | true =>
      rw [TL.par_hit hp] at h
      cases h
      have e : (c :: r).take 1 = [s] := eq_of_beq hp
      have e2 : c = s := by simpa using e
      exact ⟨[], (List.append_nil _).symm, by rw [e2]; rfl, by simp⟩
    | false =>
      rw [TL.par_miss hp] at h
      obtain ⟨p, e1, e2, e3⟩ := par1_some h
      refine ⟨c :: p, by rw [e1, List.append_assoc]; rfl, by rw [e2]; rfl, fun z => ?_⟩
      rcases List.mem_cons.mp z with rfl | z
      · have e : TL.pre [s] (s :: r) = true := TL.pre_self [s] r
        rw [e] at hp; cases hp
      · exact e3 z
theorem par1_of {s : Nat} {p b : List Nat} (h : s ∉ p) : TL.par [s] [] (p ++ s :: b) = some (p, b) := TL.par_part1 (S := []) h
theorem par1_no {s : Nat} {p : List Nat} (h : s ∉ p) : TL.par [s] [] p = none := TL.par_none1 h
end
section
/-! # asks written, lines read -/
theorem N60.nm {n : Int} (h : N60 n) : Nm n := Nat.lt_of_lt_of_le h (by decide)
/-! ### asks, a line each -/
end
section
/-! # what is told and what is due (k81) -/
theorem kp_gone {m m' : Mu} {q : Addr} (hq : m q = none) (kp : Kp [] m m') (o : MO) : Kp [] m (mset m' q o) := fun a u hn z => by
  rw [mset_ne (fun y => by rw [y, hq] at z; cases z)]
  exact kp a u hn z
theorem kp_del81 {m m' : Mu} {q : Addr} (hq : m q = none) (kp : Kp [] m m') : Kp [] m (mdel m' q) := fun a u hn z => by
  unfold mdel
  rw [if_neg (fun y => by rw [y, hq] at z; cases z)]
  exact kp a u hn z
end
end DL
/-! # a short text, many times -/
namespace DL
open PySem L2
end DL
namespace DL
open PySem L2
local macro_rules | `(tactic| walk_at "dl") => `(tactic| ((conv => whnf); try dsimp only))
local macro_rules | `(tactic| walk_at "sd") => `(tactic| first | trivial | exact Nat.zero_le _ | assumption | decide | omega | exact len_line (by first | decide | omega | (simp; done) | (simp; omega)) | (simp; done) | (simp; omega) | exact ⟨by decide, by decide, by decide⟩ | exact .inl ⟨by decide, by decide⟩ | exact .inl ⟨by omega, by omega⟩ | exact wide_div (b := 64) (by decide) (by decide) (by decide) (by decide))
local macro_rules | `(tactic| walk_at "go") => `(tactic| ((conv => whnf); (try dsimp only); repeat ((with_reducible refine And.intro ?_ ?_); (focus (walk_at "sd")); (conv => whnf); (try dsimp only))))
local macro_rules | `(tactic| walk_at "th") => `(tactic| repeat' (first | assumption | exact thD_txt _ _ | exact thD_int | exact thD_non | exact thD_bl | (refine thD_mono _ _ _ ?_ (by assumption); decide) | refine List.forall_mem_cons.mpr (And.intro ?_ ?_) | exact List.forall_mem_nil _ | refine thD_tup (by simp) ?_ | refine thD_lst (by simp) ?_))
local macro_rules | `(tactic| walk_at "ln") => `(tactic| (intro ds m Q PX h; repeat (obtain ⟨_, h⟩ := h); subst_vars; rfl))
section
abbrev sp__law_draw_v2 : SpD := spDrawK
def rd__law_draw_v2 : DS :=
    sSeq (sIf (rTst (rOp oGt (rOp oIx (rV 0) (rC (.int 0))) (rC (.int 0)))) (sSeq (sSet 3 (rOp oMod (rCB cInt (rCons (rOp oIx (rV 0) (rC (.int 0))) (rNil))) (rV 1)))
    (sSeq (sSetIx (rOp oDiv (rOp oIx (rV 0) (rC (.int 0))) (rV 1)) (rV 0) (rC (.int 0)))
    (sRet (rV 3)))) (sNext))
    (sSeq (sSetIx (rOp oAdd (rOp oIx (rV 0) (rC (.int 2))) (rC (.int 1))) (rV 0) (rC (.int 2)))
    (sSeq (sSet 2 (rOp oMod (rCB cInt (rCons (rOp oPow (rOp oAdd (rOp oAdd (rOp oIx (rV 0) (rC (.int 1))) (rOp oMul (rC (.int 6007)) (rOp oIx (rV 0) (rC (.int 2))))) (rC (.int 3))) (rC (.int 5))) (rNil))) (rC (.int 2147483647))))
    (sSeq (sSet 2 (rOp oMod (rCB cInt (rCons (rOp oMul (rV 2) (rOp oAdd (rOp oAdd (rOp oDiv (rV 2) (rC (.int 1013))) (rC (.int 69767))) (rOp oIx (rV 0) (rC (.int 2))))) (rNil))) (rC (.int 2147483629))))
    (sRet (rOp oMod (rCB cInt (rCons (rOp oMod (rCB cInt (rCons (rOp oMul (rV 2) (rOp oAdd (rOp oDiv (rV 2) (rC (.int 2011))) (rC (.int 40993)))) (rNil))) (rC (.int 2147483399))) (rNil))) (rV 1))))))
theorem ln__law_draw_v2 : ∀ ds m Q PX, sp__law_draw_v2 ds m Q PX → ds.length = 2 := by rintro ds m Q PX ⟨d, k, rfl, _⟩; rfl
theorem draw2_pure (x1 x2 x3 x4 : Str) : ∀ ds m Q PX, spDraw ds m Q PX → rd__law_draw_v2 (dEnds Q PX) (dstart [x1, x2, x3, x4] ds) m := by
  rintro ds m Q PX ⟨w, many, k, rfl, wl, hk, h0, hb, h⟩
  obtain ⟨a, b, c, e, hb1, hb2, hc1, hc2⟩ := wl.ex
  have dv : ∀ i : Int, CDivW i many := fun i => wide_div h0 hb (by decide) (by decide)
  walk_at "dl"
  rw [asL_adr e]
  walk_at "dl"
  cases ha : decide (0 < a) with
  | true =>
    walk_at "dl"
    rw [asL_adr e]
    walk_at "dl"
    refine ⟨h0, ?_⟩
    walk_at "dl"
    rw [asL_adr e]
    walk_at "dl"
    refine ⟨dv a, ?_⟩
    walk_at "dl"
    rw [e]
    walk_at "dl"
    exact h _ _ (Int.emod_nonneg _ (by omega)) (Int.emod_lt_of_pos _ h0) (only_mset _ _ _) ⟨_, b, c, mset_same, hb1, hb2, hc1, by omega⟩
  | false =>
    walk_at "dl"
    rw [asL_adr e]
    walk_at "dl"
    rw [e]
    walk_at "dl"
    rw [asL_adr mset_same]
    walk_at "dl"
    rw [asL_adr mset_same]
    walk_at "dl"
    refine ⟨.inl ⟨by decide, by decide⟩, ?_⟩
    walk_at "dl"
    have bound : ∀ z : Int, 0 ≤ z → z ≤ 10000000000000 → CPow (b + z + 3) 5 := fun z h1 h2 => ⟨by decide, by decide, by
      have : (2 : Nat) ^ 64 = 18446744073709551616 := by decide
      omega⟩
    refine ⟨bound _ (by omega) (by omega), ?_⟩
    walk_at "dl"
    refine ⟨(by show (0 : Int) < _; decide), ?_⟩
    walk_at "dl"
    generalize hF : (b + 6007 * (c + 1) + 3) ^ Int.toNat 5 % 2147483647 = f1
    have f1a : 0 ≤ f1 := by rw [← hF]; exact Int.emod_nonneg _ (by decide)
    have f1b : f1 < 2147483647 := by rw [← hF]; exact Int.emod_lt_of_pos _ (by decide)
    refine ⟨wide_div (b := 11) (by decide) (by decide) (by decide) (by decide), ?_⟩
    walk_at "dl"
    rw [asL_adr mset_same]
    walk_at "dl"
    refine ⟨.inl ⟨by omega, by omega⟩, ?_⟩
    walk_at "dl"
    refine ⟨(by show (0 : Int) < _; decide), ?_⟩
    walk_at "dl"
    generalize hF2 : f1 * (f1 / 1013 + 69767 + (c + 1)) % 2147483629 = f2
    have f2a : 0 ≤ f2 := by rw [← hF2]; exact Int.emod_nonneg _ (by decide)
    have f2b : f2 < 2147483629 := by rw [← hF2]; exact Int.emod_lt_of_pos _ (by decide)
    refine ⟨wide_div (b := 11) (by decide) (by decide) (by decide) (by decide), ?_⟩
    walk_at "dl"
    refine ⟨.inl ⟨by omega, by omega⟩, ?_⟩
    walk_at "dl"
    refine ⟨(by show (0 : Int) < _; decide), ?_⟩
    walk_at "dl"
    refine ⟨h0, ?_⟩
    exact h _ _ (Int.emod_nonneg _ (by omega)) (Int.emod_lt_of_pos _ h0) (only_mset _ _ _) ⟨a, b, c + 1, mset_same, hb1, hb2, by omega, by omega⟩
theorem pu__law_draw_v2 : ∀ ds m Q PX, sp__law_draw_v2 ds m Q PX → rd__law_draw_v2 (dEnds Q PX) (dstart ["_law_spring_here", "_law_many", "_law_number", "_law_digit"] ds) m := fun ds m Q PX h => draw2_pure _ _ _ _ ds m Q PX (drawK_draw h)
end
section
def sp__law_spring : SpD := fun ds m P _ => ∃ c : Int, ds = [.int c] ∧ ∀ w m', m w = none → Kp [] m m' → Wl m' w 0 → P (.adr w) m'
def rd__law_spring : DS :=
    sSeq (sIf (rTst (rOp oGe (rV 0) (rOp oPow (rC (.int 10)) (rC (.int 18))))) (sRet (rLstM (rCons (rV 0) (rCons (rOp oMod (rCB cInt (rCons (rV 0) (rNil))) (rC (.int 1000003))) (rCons (rC (.int 0)) (rNil)))))) (sNext))
    (sRet (rLstM (rCons (rC (.int 0)) (rCons (rOp oMod (rCB cInt (rCons (rV 0) (rNil))) (rC (.int 2147483629))) (rCons (rC (.int 0)) (rNil))))))
theorem ln__law_spring : ∀ ds m Q PX, sp__law_spring ds m Q PX → ds.length = 1 := fun ds m Q PX h => by repeat' (first | (subst_vars; rfl; done) | (refine Or.elim h (fun h => ?_) (fun h => ?_)) | (obtain ⟨_, h⟩ := h))
theorem pu__law_spring : ∀ ds m Q PX, sp__law_spring ds m Q PX → rd__law_spring (dEnds Q PX) (dstart ["_law_cell"] ds) m := by
  rintro ds m Q PX ⟨c, rfl, h⟩
  walk_at "go"
  cases hc : decide (10 ^ Int.toNat 18 ≤ c) with
  | true =>
    walk_at "go"
    intro q hq
    exact h q _ hq (kp_new hq) ⟨c, c % 1000003, 0, mset_same, Int.emod_nonneg _ (by decide), Int.lt_trans (Int.emod_lt_of_pos _ (by decide)) (by decide), by decide, by decide⟩
  | false =>
    walk_at "go"
    intro q hq
    exact h q _ hq (kp_new hq) ⟨0, c % 2147483629, 0, mset_same, Int.emod_nonneg _ (by decide), Int.emod_lt_of_pos _ (by decide), by decide, by decide⟩
end
section
theorem join_low (l : List Str) (h : ∀ x ∈ l, x.cps.toList.all low = true) : (Txt.join "" l).cps.toList.all low = true := by
  rw [TL.join_eq]
  induction l with
  | nil => decide
  | cons x l ih =>
    cases l with
    | nil => rw [PyProof.Rows.join_one]; exact h x List.mem_cons_self
    | cons y r =>
      rw [PyProof.Rows.join_cons_cons, cps_app, cps_app, List.all_append, List.all_append, h x List.mem_cons_self, ih fun z hz => h z (List.mem_cons_of_mem _ hz)]
      decide
theorem texts_map (xs : List Str) : textsD (xs.map .str) = some xs := by
  induction xs with
  | nil => rfl
  | cons x xs ih => rw [List.map_cons, textsD, ih]; rfl
end
section
/-! # texts drawn -/
def sp__law_pick_v2 : SpD := fun ds m P PX => sp__law_one ds m P PX ∨ ∃ (w : Addr) (z : Str), ds = [.adr w, .str z] ∧ 0 < z.length ∧ z.length ≤ 1000000 ∧ Dr w 1 (fun d => ∃ c ∈ TL.tl z, d = .str ⟨#[c]⟩) m P
def rd__law_pick_v2 : DS :=
    sRet (rOp oIx (rV 1) (rCall sp__law_draw_v2 [] (rCons (rV 0) (rCons (rCB cLen (rCons (rV 1) (rNil))) (rNil)))))
theorem ln__law_pick_v2 : ∀ ds m Q PX, sp__law_pick_v2 ds m Q PX → ds.length = 2 := by
  rintro ds m Q PX (h | ⟨_, _, rfl, _⟩)
  · exact ln__law_one _ _ _ _ h
  · rfl
theorem pu__law_pick_v2 : ∀ ds m Q PX, sp__law_pick_v2 ds m Q PX → rd__law_pick_v2 (dEnds Q PX) (dstart ["_law_well", "_law_some"] ds) m := by
  rintro ds m Q PX (h | ⟨w, z, rfl, h0, h1, h⟩)
  · exact pu__law_one ds m Q PX h
  · have pw : (2 : Nat) ^ 200 > 1000000 := by decide
    have hz := TL.len_tl z
    obtain ⟨N, hN⟩ : ∃ N : Int, N = (z.length : Int) := ⟨_, rfl⟩
    walk_at "go"
    rw [← hN]
    refine h.num (by decide) (by omega) (by omega) fun r m1 r0 r1 kp1 h => ?_
    obtain ⟨c, e1, e2⟩ := atI_some (xs := z.cps.toList) (i := r) r0 (by have : z.cps.toList.length = z.length := hz.symm; omega)
    walk_at "go"
    rw [e1]
    exact h.done ⟨c, List.mem_of_getElem? e2, rfl⟩
abbrev sp__law_word_v6 : SpD := fun ds m P _ => ∃ w : Addr, ds = [.adr w] ∧ Dr w 9 (fun d => ∃ x : Str, d = .str x ∧ nmB x = true) m P
def rd__law_word_v6 : DS :=
    sSeq (sSet 1 (rC (.str "abcdefghijklmnopqrstuvwxyz")))
    (sRet (rJoin (rC (.str "")) (rLc (iRange (rCons (rOp oAdd (rC (.int 1)) (rCall sp__law_draw_v2 [] (rCons (rV 0) (rCons (rC (.int 8)) (rNil))))) (rNil))) [2] (gN 2) (qYes) (rOp oIx (rV 1) (rCall sp__law_draw_v2 [] (rCons (rV 0) (rCons (rC (.int 26)) (rNil))))))))
theorem ln__law_word_v6 : ∀ ds m Q PX, sp__law_word_v6 ds m Q PX → ds.length = 1 := fun ds m Q PX h => by repeat' (first | (subst_vars; rfl; done) | (refine Or.elim h (fun h => ?_) (fun h => ?_)) | (obtain ⟨_, h⟩ := h))
theorem pu__law_word_v6 : ∀ ds m Q PX, sp__law_word_v6 ds m Q PX → rd__law_word_v6 (dEnds Q PX) (dstart ["_law_well", "_law_letters", "_law_k"] ds) m := by
  rintro ds m Q PX ⟨w, rfl, h⟩
  have big : (2 : Nat) ^ 200 > 1000 := by decide
  walk_at "go"
  refine h.num (by decide) (by omega) (by omega) fun r m1 r0 r1 kp1 h => ?_
  obtain ⟨n, hn⟩ : ∃ n : Int, n = 1 + r := ⟨_, rfl⟩
  walk_at "dl"
  rw [← hn]
  refine ⟨⟨by omega, by omega⟩, ?_⟩
  obtain ⟨k, wl, hk, h⟩ := h
  refine comp_inv (fun i acc m' => Wl m' w (k + i) ∧ Kp [w] m1 m' ∧ ∃ xs : List Str, acc = xs.map .str ∧ xs.length = i ∧ ∀ x ∈ xs, x.length = 1 ∧ x.cps.toList.all low = true) (fun i acc m' hh => ?_) (by rw [rg_len]; omega) (fun i d acc m' e hh => ?_) (fun acc m4 hh => ?_) ⟨wl, Kp.refl _ _, [], rfl, rfl, fun _ z => by cases z⟩
  · obtain ⟨_, _, xs, rfl, hl, _⟩ := hh
    rw [List.length_map, hl]; exact Nat.le_refl _
  · obtain ⟨wi, kpi, xs, rfl, hl, hx⟩ := hh
    obtain ⟨hi, rfl⟩ := rg_get e
    refine ⟨trivial, fun Kt Kf k1 _ => ?_⟩
    walk_at "go"
    refine ⟨w, 26, rfl, by decide, by decide, _, wi, by omega, fun d m5 hd kp5 w5 => ?_⟩
    obtain ⟨c, c0, c1, rfl⟩ := hd
    walk_at "go"
    rw [at_abc c0 c1]
    refine k1 _ _ ⟨w5, kpi.trans kp5, xs ++ [⟨#[97 + c.toNat]⟩], by simp, by simp [hl], fun x hx' => ?_⟩
    rcases List.mem_append.mp hx' with hx' | hx'
    · exact hx x hx'
    · rw [List.mem_singleton.mp hx']
      refine ⟨rfl, ?_⟩
      show [97 + c.toNat].all low = true
      simp [low_at (show c.toNat < 26 by omega)]
  · obtain ⟨w4, kp4, xs, rfl, hl, hx⟩ := hh
    rw [rg_len] at hl w4
    refine ⟨trivial, ?_⟩
    have hs : (xs.map (·.length)).sum ≤ xs.length * 1 := sum_len fun x hx' => by rw [(hx x hx').1]; exact Nat.le_refl _
    have e0 : Str.length "" = 0 := rfl
    walk_at "dl"
    rw [texts_map]
    refine ⟨by rw [e0]; omega, ?_⟩
    have j1 : (Txt.join "" xs).length = xs.length := by
      rw [TL.join_eq]
      clear hs hl w4 h
      induction xs with
      | nil => rfl
      | cons x xs ih =>
        have hx1 := (hx x (by simp)).1
        cases xs with
        | nil => rw [PyProof.Rows.join_one, hx1]; rfl
        | cons y r =>
          rw [PyProof.Rows.join_cons_cons, PySem.Str.length_append, PySem.Str.length_append, ih fun z hz => hx z (List.mem_cons_of_mem _ hz), hx1]
          show 1 + 0 + _ = _
          simp; omega
    refine h _ _ ⟨_, rfl, ?_⟩ kp4 (w4.mono (by omega))
    unfold nmB
    rw [join_low xs fun x hx' => (hx x hx').2, decide_eq_true (show 1 ≤ (Txt.join "" xs).length by omega), decide_eq_true (show (Txt.join "" xs).length ≤ 8 by omega)]; rfl
def Lk.W2 (l : Lk) : Prop := l.Rd ∧ l.dep ≤ 2
end
end DL
namespace DL
open PySem L2
local macro_rules | `(tactic| walk_at "dl") => `(tactic| ((conv => whnf); try dsimp only))
local macro_rules | `(tactic| walk_at "sd") => `(tactic| first | trivial | exact Nat.zero_le _ | assumption | decide | omega | exact len_line (by first | decide | omega | (simp; done) | (simp; omega)) | (simp; done) | (simp; omega) | exact ⟨by decide, by decide, by decide⟩ | exact .inl ⟨by decide, by decide⟩ | exact .inl ⟨by omega, by omega⟩ | exact wide_div (b := 64) (by decide) (by decide) (by decide) (by decide))
local macro_rules | `(tactic| walk_at "go") => `(tactic| ((conv => whnf); (try dsimp only); repeat ((with_reducible refine And.intro ?_ ?_); (focus (walk_at "sd")); (conv => whnf); (try dsimp only))))
local macro_rules | `(tactic| walk_at "th") => `(tactic| repeat' (first | assumption | exact thD_txt _ _ | exact thD_int | exact thD_non | exact thD_bl | (refine thD_mono _ _ _ ?_ (by assumption); decide) | refine List.forall_mem_cons.mpr (And.intro ?_ ?_) | exact List.forall_mem_nil _ | refine thD_tup (by simp) ?_ | refine thD_lst (by simp) ?_))
local macro_rules | `(tactic| walk_at "ln") => `(tactic| (intro ds m Q PX h; repeat (obtain ⟨_, h⟩ := h); subst_vars; rfl))
/-! # looks written by the law; texts bent -/
theorem Lk.Rd.ok {l : Lk} (h : l.Rd) (hd : l.dep ≤ 2) : l.Ok := ⟨fun n hn => (h.nm n hn).nm, h.few, hd⟩
abbrev sp__law_written : Nat → SpD := sp_look_text
def rd__law_written (self : SpD) : DS :=
    sSeq (sIf (rTst (rOp oEq (rOp oIx (rV 0) (rC (.int 0))) (rC (.str "but")))) (sRet (rOp oAdd (rC (.str "!")) (rCall self [] (rCons (rOp oIx (rV 0) (rC (.int 1))) (rNil))))) (sNext))
    (sSeq (sIf (rTst (rOp oEq (rOp oIx (rV 0) (rC (.int 0))) (rC (.str "any")))) (sRet (rC (.str "*"))) (sNext))
    (sSeq (sIf (rTst (rOp oEq (rOp oIx (rV 0) (rC (.int 0))) (rC (.str "one")))) (sRet (rOp oAdd (rOp oAdd (rC (.str "{")) (rJoin (rC (.str ",")) (rLc (iAny (rOp oIx (rV 0) (rC (.int 1)))) [1] (gN 1) (qYes) (rCB cStr (rCons (rV 1) (rNil)))))) (rC (.str "}")))) (sNext))
    (sSeq (sIf (rTst (rOp oEq (rOp oIx (rV 0) (rC (.int 0))) (rC (.str "to")))) (sRet (rOp oAdd (rC (.str "..")) (rCB cStr (rCons (rOp oIx (rV 0) (rC (.int 1))) (rNil))))) (sNext))
    (sSeq (sIf (rTst (rOp oEq (rOp oIx (rV 0) (rC (.int 0))) (rC (.str "is")))) (sRet (rCB cStr (rCons (rOp oIx (rV 0) (rC (.int 1))) (rNil)))) (sNext))
    (sSeq (sIf (rTst (rOp oEq (rOp oIx (rV 0) (rC (.int 0))) (rC (.str "from")))) (sRet (rOp oAdd (rCB cStr (rCons (rOp oIx (rV 0) (rC (.int 1))) (rNil))) (rC (.str "..")))) (sNext))
    (sRet (rOp oAdd (rOp oAdd (rCB cStr (rCons (rOp oIx (rV 0) (rC (.int 1))) (rNil))) (rC (.str ".."))) (rCB cStr (rCons (rOp oIx (rV 0) (rC (.int 2))) (rNil))))))))))
theorem ln__law_written : ∀ kk ds m Q PX, sp__law_written kk ds m Q PX → ds.length = 1 := ln_look_text
theorem pu__law_written : ∀ kk ds m Q PX, sp__law_written (kk + 1) ds m Q PX → rd__law_written (sp__law_written kk) (dEnds Q PX) (dstart ["_law_look_here", "_law_number_here"] ds) m := by
  rintro kk ds m Q PX ⟨l, rfl, hd, ok, h⟩
  have l2 := l_dots
  cases l with
  | any =>
    walk_at "go"
    exact h
  | is n =>
    have hn : Nm n := ok.nm n (by simp [Lk.nums])
    walk_at "go"
    exact ⟨hn.log, h⟩
  | frm n =>
    have hn : Nm n := ok.nm n (by simp [Lk.nums])
    have hl : (Str.ofString (toString n)).length ≤ 1901 := hn.len
    walk_at "go"
    refine ⟨hn.log, ?_⟩
    walk_at "go"
    exact h
  | upto n =>
    have hn : Nm n := ok.nm n (by simp [Lk.nums])
    have hl : (Str.ofString (toString n)).length ≤ 1901 := hn.len
    walk_at "go"
    refine ⟨hn.log, ?_⟩
    walk_at "go"
    exact h
  | inn a b =>
    have ha : Nm a := ok.nm a (by simp [Lk.nums])
    have hb : Nm b := ok.nm b (by simp [Lk.nums])
    have hl : (Str.ofString (toString a)).length ≤ 1901 := ha.len
    have hl2 : (Str.ofString (toString b)).length ≤ 1901 := hb.len
    walk_at "go"
    refine ⟨ha.log, ?_⟩
    walk_at "go"
    refine ⟨hb.log, ?_⟩
    walk_at "go"
    exact ⟨len_line (by rw [PySem.Str.length_append]; omega), h⟩
  | one ns =>
    walk_at "go"
    refine comp_map (fun d => match d with | .int n => .str (dig n) | d => d) (by rw [List.length_map]; exact Nat.le_trans ok.few (by decide)) trivial (fun d hd Q q => ?_) ?_
    · obtain ⟨n, hn, rfl⟩ := List.mem_map.mp hd
      walk_at "dl"
      exact ⟨(ok.nm n hn).log, q⟩
    · rw [List.map_map]
      walk_at "dl"
      show (match textsD (ns.map fun n => D.str (dig n)) with | some ys => _ | none => False)
      rw [textsD_strs]
      walk_at "dl"
      have hs := Lk.dig_sum (ns := ns) (fun n hn => ok.nm n hn) ok.few
      have hj := join_len "," (ns.map dig)
      have e1 : Str.length "{" = 1 := by decide
      have e2 : Str.length "}" = 1 := by decide
      refine ⟨Nat.le_trans hs (by decide), ?_⟩
      walk_at "dl"
      refine ⟨len_line (by omega), ?_⟩
      walk_at "dl"
      refine ⟨len_line (by rw [PySem.Str.length_append]; omega), ?_⟩
      exact h
  | but l =>
    walk_at "go"
    have hdp : l.dep ≤ kk := by have : l.dep + 1 ≤ kk + 1 := hd; omega
    cases kk with
    | zero => cases l <;> simp [Lk.dep] at hdp
    | succ k =>
      have okl : l.Ok := ok.but
      have hdp2 := okl.dp
      refine ⟨l, rfl, hdp, okl, ?_⟩
      walk_at "dl"
      have hl := l.text_len okl
      have e1 : Str.length "!" = 1 := by decide
      exact ⟨len_line (by omega), h⟩
/-! ### texts bent -/
local macro_rules | `(tactic| walk_at "gx") => `(tactic| ((conv => whnf); (try dsimp only); repeat ((with_reducible refine And.intro ?_ ?_); (focus (exact len_line (by omega))); (conv => whnf); (try dsimp only))))
def TxB (n : Nat) (s : Str) : Prop := s.length ≤ n ∧ ∀ c ∈ TL.tl s, c < 1114112
theorem TxB.lx {n : Nat} {s : Str} (h : TxB n s) (hn : n ≤ 9990 := by decide) : LxOk (TL.tl s) := ⟨by rw [← TL.len_tl]; exact Nat.le_trans h.1 hn, h.2⟩
theorem TxB.mono {n k : Nat} {s : Str} (h : TxB n s) (hk : n ≤ k := by decide) : TxB k s := ⟨Nat.le_trans h.1 hk, h.2⟩
theorem TxB.cut {n : Nat} {s : Str} (h : TxB n s) (lo hi : Option Int) : TxB n (L2.cutS s lo hi) := ⟨Nat.le_trans (L2.cutS_length s lo hi) h.1, fun c hc => h.2 c (List.mem_of_mem_drop (List.mem_of_mem_take hc))⟩
theorem TxB.app {n k : Nat} {s t : Str} (h : TxB n s) (h2 : TxB k t) : TxB (n + k) (s ++ t) := ⟨by rw [PySem.Str.length_append]; exact Nat.add_le_add h.1 h2.1, fun c hc => by
  rw [TL.tl_append] at hc
  exact (List.mem_append.mp hc).elim (h.2 c) (h2.2 c)⟩
theorem TxB.sgn {c : Nat} (h : c < 1114112) : TxB 1 ⟨#[c]⟩ := ⟨Nat.le_refl _, fun z hz => by
  have : z = c := by simpa using hz
  rw [this]; exact h⟩
theorem TxB.lit (s : String) {n : Nat} (h : (Str.ofString s).length ≤ n := by decide) : TxB n (Str.ofString s) := ⟨h, fit_txt s 0⟩
theorem TxB.rep (s : Str) {k n : Nat} (h : TxB n s) : TxB (k * n) (repS k s) := ⟨by rw [repS_len]; exact Nat.mul_le_mul_left _ h.1, fun c hc => by
  have hc' : c ∈ (List.replicate k s.cps.toList).flatten := by rw [← repS_cps]; exact hc
  obtain ⟨l, hl, hc2⟩ := List.mem_flatten.mp hc'
  rw [(List.mem_replicate.mp hl).2] at hc2
  exact h.2 c hc2⟩
end DL
namespace DL
open PySem L2
local macro_rules | `(tactic| walk_at "dl") => `(tactic| ((conv => whnf); try dsimp only))
local macro_rules | `(tactic| walk_at "sd") => `(tactic| first | trivial | exact Nat.zero_le _ | assumption | decide | omega | exact len_line (by first | decide | omega | (simp; done) | (simp; omega)) | (simp; done) | (simp; omega) | exact ⟨by decide, by decide, by decide⟩ | exact .inl ⟨by decide, by decide⟩ | exact .inl ⟨by omega, by omega⟩ | exact wide_div (b := 64) (by decide) (by decide) (by decide) (by decide))
local macro_rules | `(tactic| walk_at "go") => `(tactic| ((conv => whnf); (try dsimp only); repeat ((with_reducible refine And.intro ?_ ?_); (focus (walk_at "sd")); (conv => whnf); (try dsimp only))))
local macro_rules | `(tactic| walk_at "th") => `(tactic| repeat' (first | assumption | exact thD_txt _ _ | exact thD_int | exact thD_non | exact thD_bl | (refine thD_mono _ _ _ ?_ (by assumption); decide) | refine List.forall_mem_cons.mpr (And.intro ?_ ?_) | exact List.forall_mem_nil _ | refine thD_tup (by simp) ?_ | refine thD_lst (by simp) ?_))
local macro_rules | `(tactic| walk_at "ln") => `(tactic| (intro ds m Q PX h; repeat (obtain ⟨_, h⟩ := h); subst_vars; rfl))
section
/-! # rows of asks as lines (k81) -/
theorem joinL_mem {S : List Nat} {c : Nat} : ∀ {ps : List (List Nat)}, c ∈ TL.joinL S ps → c ∈ S ∨ ∃ p ∈ ps, c ∈ p
  | [], h => by cases h
  | [p], h => .inr ⟨p, by simp, h⟩
  | p :: q :: r, h => by
    have h' : c ∈ p ++ (S ++ TL.joinL S (q :: r)) := h
    rcases List.mem_append.mp h' with h' | h'
    · exact .inr ⟨p, by simp, h'⟩
    · rcases List.mem_append.mp h' with h' | h'
      · exact .inl h'
      · rcases joinL_mem h' with z | ⟨x, hx, z⟩
        · exact .inl z
        · exact .inr ⟨x, List.mem_cons_of_mem _ hx, z⟩
theorem tl_joinT (y : Str) (l : List Str) : TL.tl (Txt.join y l) = TL.joinL (TL.tl y) (l.map TL.tl) := by rw [TL.join_eq, TL.tl_join]
theorem TxB.join {y : Str} {l : List Str} {n k q : Nat} (h : ∀ s ∈ l, TxB n s) (hy : TxB k y) (hl : l.length ≤ q) : TxB (q * (n + k)) (Txt.join y l) := by
  constructor
  · have s1 : (l.map (·.length)).sum ≤ l.length * n := sum_len fun x hx => (h x hx).1
    have s2 := join_len y l
    have hy1 := hy.1
    have a1 : l.length * n ≤ q * n := Nat.mul_le_mul_right _ hl
    have a2 : l.length * y.length ≤ q * k := Nat.mul_le_mul hl hy1
    rw [Nat.mul_add]
    omega
  · intro c hc
    rw [tl_joinT] at hc
    rcases joinL_mem hc with z | ⟨p, hp, z⟩
    · exact hy.2 c z
    · obtain ⟨s, hs, rfl⟩ := List.mem_map.mp hp
      exact (h s hs).2 c z
theorem deq_shp81 {x : D} (h : shp x) : deq x x = true := PySem.SeqAt.eqv_refl _ (SeqAt.canLay_of_shaped h)
theorem shpT81 {n : Nat} {d : D} (h : thD n d) (hn : n ≤ 60 := by decide) : shp d := by
  have := shpT (m := fun _ => none) h hn
  unfold dat asL at this
  cases d <;> exact this
end
end DL
/-! # a text, once or not at all -/
namespace DL
open PySem L2
section
variable {X : Cx} {W : WX} {a b : Expr} {ra rb : DE} {pos : Pos}
def rRepSB : R2 := fun x y H Q => ∃ z k, x = .str z ∧ y = .int k ∧ (k = 0 ∧ Q (.str "") H ∨ k = 1 ∧ Q (.str z) H)
theorem op_repSB : OpR X (binaryOp .Mult) rRepSB := by
  intro pins s σ H x y v u Q I rx ry h
  obtain ⟨z, k, rfl, rfl, h⟩ := h
  obtain ⟨t, rfl⟩ := rx
  obtain ⟨t', rfl⟩ := ry
  rcases h with ⟨rfl, q⟩ | ⟨rfl, q⟩
  · exact PySem.P.mul_str_none (by decide) (by decide) ⟨.str "", H, I.tok _, ⟨_, rfl⟩, q⟩
  · refine PySem.P.mul_str (by decide) (fun _ z => by simp at z) (fun _ z => by simp at z) ?_
    rw [if_neg (by decide), if_pos (by simp)]
    exact ⟨.str z, H, I, ⟨_, rfl⟩, q⟩
def oMulSB : DO := fun x y m P => match x, y with
  | .str z, .int k => k = 0 ∧ P (.str "") m ∨ k = 1 ∧ P (.str z) m
  | _, _ => False
theorem mulSB_ok {K : KW} : OpD K rRepSB oMulSB := by
  intro F H0 m H x y dx dy P Q ok rx ry h g
  unfold oMulSB at h
  split at h
  · cases rx; cases ry
    rcases h with ⟨e, h⟩ | ⟨e, h⟩
    · exact ⟨_, _, rfl, rfl, .inl ⟨e, g.id ok (.str _) h⟩⟩
    · exact ⟨_, _, rfl, rfl, .inr ⟨e, g.id ok (.str _) h⟩⟩
  · exact h.elim
theorem pd_mulSB (ha : PE X a (lE (kw X) W ra)) (hb : PE X b (lE (kw X) W rb)) : PE X (.BinOp a .Mult b pos) (lE (kw X) W (rOp oMulSB ra rb)) := pd_op op_repSB mulSB_ok ha hb
end
end DL
namespace DL
open PySem L2
local macro_rules | `(tactic| walk_at "dl") => `(tactic| ((conv => whnf); try dsimp only))
local macro_rules | `(tactic| walk_at "sd") => `(tactic| first | trivial | exact Nat.zero_le _ | assumption | decide | omega | exact len_line (by first | decide | omega | (simp; done) | (simp; omega)) | (simp; done) | (simp; omega) | exact ⟨by decide, by decide, by decide⟩ | exact .inl ⟨by decide, by decide⟩ | exact .inl ⟨by omega, by omega⟩ | exact wide_div (b := 64) (by decide) (by decide) (by decide) (by decide))
local macro_rules | `(tactic| walk_at "go") => `(tactic| ((conv => whnf); (try dsimp only); repeat ((with_reducible refine And.intro ?_ ?_); (focus (walk_at "sd")); (conv => whnf); (try dsimp only))))
local macro_rules | `(tactic| walk_at "th") => `(tactic| repeat' (first | assumption | exact thD_txt _ _ | exact thD_int | exact thD_non | exact thD_bl | (refine thD_mono _ _ _ ?_ (by assumption); decide) | refine List.forall_mem_cons.mpr (And.intro ?_ ?_) | exact List.forall_mem_nil _ | refine thD_tup (by simp) ?_ | refine thD_lst (by simp) ?_))
local macro_rules | `(tactic| walk_at "ln") => `(tactic| (intro ds m Q PX h; repeat (obtain ⟨_, h⟩ := h); subst_vars; rfl))
section
/-! ### rooms: what is one -/
def strIs (s : Str) : D → Bool
  | .str x => decide (x = s)
  | _ => false
def thingB : D → Bool
  | .int _ => true
  | .tup [a, b] => strIs "last" a && isWhole b
  | _ => false
end
section
/-! ### programs of rooms and their runs -/
inductive Th where
  | num (n : Int)
  | last (n : Int)
def Th.d : Th → D
  | .num n => .int n
  | .last n => .tup [.str "last", .int n]
def Th.at : Th → Int → Int
  | .num n, _ => n
  | .last n, l => l + n
inductive Rm where
  | tell (t : Th)
  | ask (p e : Str) (ts : List Th) (ws : List (Lk × Int)) (o : Int)
def wyD (w : Lk × Int) : D := .tup [w.1.d, .int w.2]
def Rm.d : Rm → D
  | .tell t => .tup [.str "tell", t.d]
  | .ask p e ts ws o => .tup [.str "ask", .str p, .str e, .tup (ts.map Th.d), .tup (ws.map wyD), .int o]
def Th.B : Th → Prop
  | .num n => Bd 152 n
  | .last n => Bd 152 n
def Rm.ths : Rm → List Th
  | .tell t => [t]
  | .ask _ _ ts _ _ => ts
structure Rm.Ok (n : Nat) (r : Rm) : Prop where
  tb : ∀ t ∈ r.ths, t.B
  nm : ∀ p e ts ws o, r = .ask p e ts ws o → (nmB p = true ∧ nmB e = true) ∧ ts.length ≤ 2 ∧ (ws.length ≤ 3 ∧ ∀ w ∈ ws, w.1.Good 142 ∧ 0 ≤ w.2 ∧ w.2 < n) ∧ 0 ≤ o ∧ o < n
def wTo (n : Int) (o : Int) : List (Lk × Int) → Int
  | [] => o
  | w :: ws => if w.1.fits n then w.2 else wTo n o ws
def Rm.to : Rm → Int → Int
  | .ask _ _ _ ws o, n => wTo n o ws
  | .tell _, _ => 0
theorem wTo_ok {n o : Int} {k : Nat} : ∀ {ws : List (Lk × Int)}, (∀ w ∈ ws, w.1.Good 142 ∧ 0 ≤ w.2 ∧ w.2 < k) → 0 ≤ o → o < k → 0 ≤ wTo n o ws ∧ wTo n o ws < k
  | [], _, h0, h1 => ⟨h0, h1⟩
  | w :: ws, h, h0, h1 => by
    unfold wTo
    split
    · exact (h w List.mem_cons_self).2
    · exact wTo_ok (fun w hw => h w (List.mem_cons_of_mem _ hw)) h0 h1
theorem Rm.Ok.to {n : Nat} {r : Rm} (h : r.Ok n) (hn : 0 < n) (a : Int) : 0 ≤ r.to a ∧ r.to a < n := by
  cases r with
  | tell t => exact ⟨Int.le_refl 0, by show (0 : Int) < n; omega⟩
  | ask p e ts ws o =>
    obtain ⟨_, _, h2, h3⟩ := h.nm p e ts ws o rfl
    exact wTo_ok h2.2 h3.1 h3.2
theorem Th.th {n : Nat} (t : Th) : thD (n + 1) t.d := by
  cases t with
  | num k => exact thD_int
  | last k => exact thD_tup (by simp) (by walk_at "th")
theorem Th.is (t : Th) : thingB t.d = true := by
  cases t with
  | num k => rfl
  | last k => show (decide (Str.ofString "last" = Str.ofString "last") && true) = true; simp
end
section
/-! # rooms as texts: things -/
def allG {α : Type} : List (Option α) → Option (List α)
  | [] => some []
  | none :: _ => none
  | some n :: r => (allG r).map (n :: ·)
theorem allG_some {α : Type} : ∀ {os : List (Option α)} {ns : List α}, allG os = some ns → os = ns.map some
  | [], ns, h => by cases h; rfl
  | none :: _, ns, h => by cases h
  | some n :: r, ns, h => by
    unfold allG at h
    cases hr : allG r with
    | none => rw [hr] at h; cases h
    | some ms =>
      rw [hr] at h
      cases h
      rw [List.map_cons, allG_some hr]
theorem allG_map {α : Type} : ∀ ns : List α, allG (ns.map some) = some ns
  | [] => rfl
  | n :: r => by rw [List.map_cons, allG, allG_map r]; rfl
/-- what the parts of a text are read as -/
theorem allG_parts {α β : Type} {f : β → Option α} {ps : List β} {as : List α} (h : allG (ps.map f) = some as) : ps.length = as.length ∧ ∀ (i : Nat) (p : β), ps[i]? = some p → ∃ a, as[i]? = some a ∧ f p = some a := by
  have e := allG_some h
  refine ⟨by have := congrArg List.length e; simpa using this, fun i p hp => ?_⟩
  have ei := congrArg (fun l => l[i]?) e
  rw [List.getElem?_map, List.getElem?_map, hp] at ei
  cases ha : as[i]? with
  | none => rw [ha] at ei; cases ei
  | some a => rw [ha] at ei; exact ⟨a, rfl, Option.some.inj ei⟩
/-- parts that are written as they were read -/
theorem allG_back {α : Type} {f : List Nat → Option α} {g : α → Str} (hg : ∀ p a, f p = some a → TL.tl (g a) = p) {ps : List (List Nat)} {as : List α} (h : allG (ps.map f) = some as) : ps = as.map fun a => TL.tl (g a) := by
  obtain ⟨hl, hp⟩ := allG_parts h
  apply List.ext_getElem?
  intro i
  rw [List.getElem?_map]
  cases e : ps[i]? with
  | none => rw [List.getElem?_eq_none (by have := List.getElem?_eq_none_iff.mp e; omega)]; rfl
  | some p =>
    obtain ⟨a, e1, e2⟩ := hp i p e
    rw [e1]
    show some p = some (TL.tl (g a))
    rw [hg p a e2]
def moreR (w : List Nat) : Option Int := if w.take 1 = [43] ∧ (w.drop 1).take 1 ≠ [45] then numR (w.drop 1) else if w.take 1 = [45] then numR w else none
def moreT (n : Int) : Str := (if 0 ≤ n then ("+" : Str) else ("" : Str)) ++ dig n
theorem dig_45 {n : Int} : (TL.tl (dig n)).take 1 = [45] ↔ n < 0 := by
  rw [tl_dig]
  by_cases h : n < 0
  · rw [if_pos h]; exact ⟨fun _ => h, fun _ => rfl⟩
  · rw [if_neg h]
    constructor
    · intro z
      have := numL_sgn n.natAbs
      unfold sgnL at this
      exact (of_decide_eq_false this z).elim
    · intro z; exact (h z).elim
theorem more_back {w : List Nat} {n : Int} (h : moreR w = some n) : TL.tl (moreT n) = w ∧ N60 n := by
  unfold moreR at h
  unfold moreT
  rw [TL.tl_append]
  split at h
  · rename_i hc
    obtain ⟨e, hN⟩ := dig_num h
    have h0 : ¬ n < 0 := fun z => hc.2 (by rw [← e]; exact dig_45.mpr z)
    rw [if_pos (by omega), e]
    refine ⟨?_, hN⟩
    show [43] ++ w.drop 1 = w
    rw [← hc.1, List.take_append_drop]
  · split at h
    · rename_i hc
      obtain ⟨e, hN⟩ := dig_num h
      have h0 : n < 0 := dig_45.mp (by rw [e]; exact hc)
      rw [if_neg (by omega), e]
      exact ⟨rfl, hN⟩
    · cases h
theorem more_text_back {n : Int} (h : N60 n) : moreR (TL.tl (moreT n)) = some n := by
  unfold moreR moreT
  rw [TL.tl_append]
  by_cases h0 : 0 ≤ n
  · rw [if_pos h0, show TL.tl ("+" : Str) ++ TL.tl (dig n) = 43 :: TL.tl (dig n) from rfl, if_pos ⟨rfl, fun z => by have := dig_45.mp z; omega⟩]
    exact num_dig h
  · rw [if_neg h0, show TL.tl ("" : Str) ++ TL.tl (dig n) = TL.tl (dig n) from rfl]
    have e := dig_45.mpr (show n < 0 by omega)
    rw [if_neg (by rw [e]; rintro ⟨z, _⟩; cases z), if_pos e]
    exact num_dig h
def Th.N : Th → Prop
  | .num n => N60 n
  | .last n => N60 n
/-! ### the walks -/
theorem cut12 (z : Str) : L2.cutS z (some 1) (some 2) = sgnT (((TL.tl z).drop 1).take 1) := by
  refine (cutKT (z := z) (i := 1) (j := 2) (k := 1) (b := 2) rfl rfl).trans ?_
  congr 1
  cases TL.tl z with
  | nil => rfl
  | cons a r => rfl
def sp_more_text : SpD := fun ds m P _ => ∃ n : Int, ds = [.int n] ∧ N60 n ∧ P (.str (moreT n)) m
def rd_more_text : DS :=
    sRet (rOp oAdd (rOp oMulSB (rC (.str "+")) (rCB cInt (rCons (rOp oGe (rV 0) (rC (.int 0))) (rNil)))) (rCB cStr (rCons (rV 0) (rNil))))
theorem ln_more_text : ∀ ds m Q PX, sp_more_text ds m Q PX → ds.length = 1 := fun ds m Q PX h => by repeat' (first | (subst_vars; rfl; done) | (refine Or.elim h (fun h => ?_) (fun h => ?_)) | (obtain ⟨_, h⟩ := h))
theorem digS_len {n : Int} (h : N60 n) : (Str.ofString (toString n)).length ≤ 61 := by
  show (dig n).length ≤ 61
  have := TL.numL_len (n := n.natAbs) (k := 60) (by decide) h
  rw [TL.len_tl, tl_dig]
  split
  · rw [List.length_cons]; omega
  · omega
theorem pu_more_text : ∀ ds m Q PX, sp_more_text ds m Q PX → rd_more_text (dEnds Q PX) (dstart ["more"] ds) m := by
  rintro ds m Q PX ⟨n, rfl, hn, h⟩
  have hl := digS_len hn
  have e1 : Str.length "+" = 1 := by decide
  have e0 : Str.length "" = 0 := by decide
  unfold moreT at h
  walk_at "dl"
  by_cases h0 : 0 ≤ n
  · rw [if_pos h0] at h
    rw [if_pos (decide_eq_true h0)]
    refine .inr ⟨rfl, ?_⟩
    walk_at "dl"
    refine ⟨hn.nm.log, ?_⟩
    walk_at "dl"
    exact ⟨len_line (by omega), h⟩
  · rw [if_neg h0] at h
    rw [if_neg (by rw [decide_eq_false h0]; decide)]
    refine .inl ⟨rfl, ?_⟩
    walk_at "dl"
    refine ⟨hn.nm.log, ?_⟩
    walk_at "dl"
    exact ⟨len_line (by omega), h⟩
def sp_more_in : SpD := fun ds m P _ => ∃ w : Str, ds = [.str w] ∧ LxOk (TL.tl w) ∧ P (oI? (moreR (TL.tl w))) m
def rd_more_in : DS :=
    sSeq (sIf (rAnd (rTst (rOp oEq (rSl (rV 0) rNoP (rPart (rC (.int 1)))) (rC (.str "+")))) (rTst (rOp oNe (rSl (rV 0) (rPart (rC (.int 1))) (rPart (rC (.int 2)))) (rC (.str "-"))))) (sRet (rCall sp_number_in [] (rCons (rSl (rV 0) (rPart (rC (.int 1))) rNoP) (rNil)))) (sNext))
    (sSeq (sIf (rTst (rOp oEq (rSl (rV 0) rNoP (rPart (rC (.int 1)))) (rC (.str "-")))) (sRet (rCall sp_number_in [] (rCons (rV 0) (rNil)))) (sNext))
    (sRet (rC .non)))
theorem ln_more_in : ∀ ds m Q PX, sp_more_in ds m Q PX → ds.length = 1 := fun ds m Q PX h => by repeat' (first | (subst_vars; rfl; done) | (refine Or.elim h (fun h => ?_) (fun h => ?_)) | (obtain ⟨_, h⟩ := h))
theorem pu_more_in : ∀ ds m Q PX, sp_more_in ds m Q PX → rd_more_in (dEnds Q PX) (dstart ["word"] ds) m := by
  rintro ds m Q PX ⟨w, rfl, hx, h⟩
  have hw := hx.len
  have hwl := TL.len_tl w
  have last : ¬ ((TL.tl w).take 1 = [43] ∧ ((TL.tl w).drop 1).take 1 ≠ [45]) → (match decide (L2.cutS w none (some 1) = Str.ofString "-") with | true => sRet (rCall sp_number_in [] (rCons (rV 0) (rNil))) (dEnds Q PX) [some (.str w)] m | false => Q .non m) := by
    intro hc
    unfold moreR at h
    rw [if_neg hc] at h
    rw [one_cut (c := 45) (by decide)]
    by_cases h1 : (TL.tl w).take 1 = [45]
    · rw [decide_eq_true h1]
      rw [if_pos h1] at h
      walk_at "go"
      exact ⟨_, rfl, hx, h⟩
    · rw [decide_eq_false h1]
      rw [if_neg h1] at h
      exact h
  walk_at "go"
  rw [if_neg Bool.false_ne_true, one_cut (c := 43) (by decide)]
  by_cases h1 : (TL.tl w).take 1 = [43]
  · rw [decide_eq_true h1]
    walk_at "go"
    rw [if_pos rfl, cut12, eq_str (l := [45]) (by decide), tl_sgnT]
    by_cases h2 : ((TL.tl w).drop 1).take 1 = [45]
    · rw [decide_eq_true h2]
      walk_at "go"
      rw [if_neg Bool.false_ne_true]
      exact last (fun z => z.2 h2)
    · rw [decide_eq_false h2]
      unfold moreR at h
      rw [if_pos ⟨h1, h2⟩] at h
      walk_at "go"
      rw [cut1]
      exact ⟨_, rfl, hx.drop 1, h⟩
  · rw [decide_eq_false h1]
    walk_at "go"
    rw [if_neg Bool.false_ne_true]
    exact last (fun z => h1 z.1)
end
section
/-! # rooms as texts: ways, rooms -/
structure WyN (n : Int) (w : Lk × Int) : Prop where
  rd : w.1.Rd
  dp : w.1.dep ≤ 2
  lo : 0 ≤ w.2
  hi : w.2 < n
/-- the signs of a look's text -/
theorem look_chars1 : ∀ {l : Lk}, l.Rd → l.dep = 1 → ∀ c ∈ TL.tl l.text, (42 ≤ c ∧ c ≤ 57) ∨ c = 123 ∨ c = 125 := by
  intro l hr hd c hc
  have dg : ∀ n : Int, ∀ c ∈ TL.tl (dig n), 45 ≤ c ∧ c ≤ 57 := fun n c hc => by
    rw [tl_dig] at hc
    have nd := TL.numL_digits n.natAbs
    split at hc
    · rcases List.mem_cons.mp hc with rfl | hc
      · omega
      · have := nd c hc; omega
    · have := nd c hc; omega
  have dots : ∀ c ∈ TL.tl (".." : Str), c = 46 := by decide
  cases l with
  | any =>
    have : c ∈ [42] := hc
    have := List.mem_singleton.mp this; omega
  | is n => have := dg n c hc; omega
  | frm n =>
    have hc' : c ∈ TL.tl (dig n ++ (".." : Str)) := hc
    rw [TL.tl_append] at hc'
    rcases List.mem_append.mp hc' with z | z
    · have := dg n c z; omega
    · have := dots c z; omega
  | upto n =>
    have hc' : c ∈ TL.tl ((".." : Str) ++ dig n) := hc
    rw [TL.tl_append] at hc'
    rcases List.mem_append.mp hc' with z | z
    · have := dots c z; omega
    · have := dg n c z; omega
  | inn a b =>
    have hc' : c ∈ TL.tl (dig a ++ (".." : Str) ++ dig b) := hc
    rw [TL.tl_append, TL.tl_append] at hc'
    rcases List.mem_append.mp hc' with z | z
    · rcases List.mem_append.mp z with z | z
      · have := dg a c z; omega
      · have := dots c z; omega
    · have := dg b c z; omega
  | one ns =>
    have hc' : c ∈ TL.tl (("{" : Str) ++ numsT ns ++ ("}" : Str)) := hc
    rw [TL.tl_append, TL.tl_append] at hc'
    rcases List.mem_append.mp hc' with z | z
    · rcases List.mem_append.mp z with z | z
      · have : c ∈ [123] := z
        have := List.mem_singleton.mp this; omega
      · rw [tl_numsT] at z
        rcases joinL_mem z with z | ⟨p, hp, z⟩
        · have := List.mem_singleton.mp z; omega
        · obtain ⟨n, _, rfl⟩ := List.mem_map.mp hp
          have := dg n c z; omega
    · have : c ∈ [125] := z
      have := List.mem_singleton.mp this; omega
  | but l =>
    have h1 : l.dep + 1 = 1 := hd
    cases l <;> simp [Lk.dep] at h1
theorem look_chars {l : Lk} (hr : l.Rd) (hd : l.dep ≤ 2) : ∀ c ∈ TL.tl l.text, c = 33 ∨ (42 ≤ c ∧ c ≤ 57) ∨ c = 123 ∨ c = 125 := by
  intro c hc
  cases hl : l with
  | but k =>
    rw [hl] at hd hr hc
    have hk : k.dep = 1 := by
      have : k.dep + 1 ≤ 2 := hd
      have h1 : 1 ≤ k.dep := by cases k <;> simp [Lk.dep]
      omega
    have hc' : c ∈ TL.tl (("!" : Str) ++ k.text) := hc
    rw [TL.tl_append] at hc'
    rcases List.mem_append.mp hc' with z | z
    · have : c ∈ [33] := z
      have := List.mem_singleton.mp this; omega
    · exact .inr (look_chars1 (l := k) ⟨hr.nm, hr.few, hr.un⟩ hk c z)
  | _ => exact .inr (look_chars1 hr (by rw [hl]; rfl) c hc)
end
section
/-! # rooms as texts: rooms -/
structure Rm.N (n : Int) (r : Rm) : Prop where
  th : ∀ t ∈ r.ths, t.N
  nm : ∀ p e ts ws o, r = .ask p e ts ws o → (nmB p = true ∧ nmB e = true) ∧ ts.length ≤ 2 ∧ (ws.length ≤ 3 ∧ ∀ w ∈ ws, WyN n w) ∧ 0 ≤ o ∧ o < n
theorem allG_read {α : Type} {f : List Nat → Option α} {g : List Nat → D} {d : α → D} {B : D → Bool} {N : α → Prop} (h : ∀ w, (∃ x, f w = some x ∧ g w = d x ∧ B (g w) = true ∧ N x) ∨ (f w = none ∧ B (g w) = false)) (ps : List (List Nat)) :
    (∃ xs, allG (ps.map f) = some xs ∧ ps.map g = xs.map d ∧ (ps.map g).all B = true ∧ ∀ x ∈ xs, N x) ∨ (allG (ps.map f) = none ∧ (ps.map g).all B = false) := by
  induction ps with
  | nil => exact .inl ⟨[], rfl, rfl, rfl, fun _ z => by cases z⟩
  | cons p ps ih =>
    rw [List.map_cons, List.map_cons, List.all_cons]
    rcases h p with ⟨x, e1, e2, e3, e4⟩ | ⟨e1, e2⟩
    · rw [e1, e3, Bool.true_and]
      rcases ih with ⟨xs, i1, i2, i3, i4⟩ | ⟨i1, i2⟩
      · refine .inl ⟨x :: xs, ?_, by rw [List.map_cons, i2, e2], i3, fun y hy => ?_⟩
        · unfold allG; rw [i1]; rfl
        · rcases List.mem_cons.mp hy with rfl | hy
          · exact e4
          · exact i4 y hy
      · refine .inr ⟨?_, i2⟩
        unfold allG; rw [i1]; rfl
    · rw [e1, e2, Bool.false_and]
      exact .inr ⟨rfl, rfl⟩
end
section
/-! # rooms written, and read back -/
theorem dig_chars {n : Int} : ∀ c ∈ TL.tl (dig n), c = 45 ∨ (48 ≤ c ∧ c ≤ 57) := by
  intro c hc
  rw [tl_dig] at hc
  have nd := TL.numL_digits n.natAbs
  split at hc
  · rcases List.mem_cons.mp hc with rfl | hc
    · exact .inl rfl
    · exact .inr (nd c hc)
  · exact .inr (nd c hc)
end
section
/-! # rooms: the program's reading and writing -/
def wdsD (ws : List (List Nat)) : List D := ws.map fun l => .str (sgnT l)
end
section
/-! # rooms: written by the program -/
theorem dig_B {n : Int} (h : N60 n) : TxB 61 (dig n) := ⟨digS_len h, fun c hc => by have := dig_chars c hc; omega⟩
theorem dig_B1 {n : Int} (h0 : 0 ≤ n) (h : n < 10) : TxB 1 (dig n) := ⟨by
  rw [TL.len_tl, tl_dig, if_neg (by omega), TL.numL_lt (by omega)]; exact Nat.le_refl _, fun c hc => by have := dig_chars c hc; omega⟩
theorem look_B1 : ∀ {l : Lk}, l.Rd → l.dep = 1 → TxB 1000 l.text
  | .any, _, _ => TxB.lit "*"
  | .is n, h, _ => (dig_B (h.nm n (by simp [Lk.nums]))).mono
  | .frm n, h, _ => ((dig_B (h.nm n (by simp [Lk.nums]))).app (TxB.lit ".." (n := 2))).mono
  | .upto n, h, _ => ((TxB.lit ".." (n := 2)).app (dig_B (h.nm n (by simp [Lk.nums])))).mono
  | .inn a b, h, _ => (((dig_B (h.nm a (by simp [Lk.nums]))).app (TxB.lit ".." (n := 2))).app (dig_B (h.nm b (by simp [Lk.nums])))).mono
  | .one ns, h, _ => (((TxB.lit "{" (n := 1)).app (TxB.join (q := 4) (n := 61) (k := 1) (y := ",") (l := ns.map dig) (fun s hs => by
      obtain ⟨n, hn, rfl⟩ := List.mem_map.mp hs
      exact dig_B (h.nm n hn)) (TxB.lit ",") (by rw [List.length_map]; exact h.few))).app (TxB.lit "}" (n := 1))).mono
  | .but l, _, hd => by
    have h1 : l.dep + 1 = 1 := hd
    cases l <;> simp [Lk.dep] at h1
theorem look_B {l : Lk} (h : l.Rd) (hd : l.dep ≤ 2) : TxB 1001 l.text := by
  cases hl : l with
  | but k =>
    rw [hl] at hd h
    have hk : k.dep = 1 := by
      have : k.dep + 1 ≤ 2 := hd
      have h1 : 1 ≤ k.dep := by cases k <;> simp [Lk.dep]
      omega
    exact (TxB.lit "!" (n := 1)).app (look_B1 (l := k) ⟨h.nm, h.few, h.un⟩ hk)
  | _ => rw [← hl]; exact (look_B1 h (by rw [hl]; rfl)).mono
theorem more_B {n : Int} (h : N60 n) : TxB 62 (moreT n) := by
  unfold moreT
  split
  · exact (TxB.lit "+" (n := 1)).app (dig_B h)
  · exact ((TxB.lit "" (n := 0)).app (dig_B h)).mono
theorem nm_B {x : Str} (h : nmB x = true) : TxB 8 x := ⟨(nm_len h).2.1, fun c hc => by have := nm_lows h c hc; omega⟩
end
section
/-! # rooms: written by the law -/
theorem app_assoc (a b c : Str) : (a ++ b) ++ c = a ++ (b ++ c) := TL.ext_tl (by rw [TL.tl_append, TL.tl_append, TL.tl_append, TL.tl_append, List.append_assoc])
end
section
/-! # rooms: the law's own reading -/
abbrev sp__law_plain_read_v2 : SpD := sp__law_plain_read
def rd__law_plain_read_v2 : DS :=
    sSeq (sIf (rTst (rOp oEq (rV 0) (rC (.str "*")))) (sRet (rTup (rCons (rC (.str "any")) (rNil)))) (sNext))
    (sSeq (sIf (rTst (rOp oEq (rSl (rV 0) rNoP (rPart (rC (.int 1)))) (rC (.str "{")))) (sSeq (sSet 1 (rLc (iAny (rSplit (rSl (rV 0) (rPart (rC (.int 1))) (rPart (rNeg (rC (.int 1))))) (rC (.str ",")))) [6] (gN 6) (qYes) (rCall sp__law_number_v2 [] (rCons (rV 6) (rNil)))))
    (sSeq (sIf (rTst (rOp oEq (rV 0) (rC (.str "{}")))) (sSet 1 (rLst (rNil))) (sNext))
    (sSeq (sIf (rOr (rTst (rOp oNe (rOp oIx (rV 0) (rNeg (rC (.int 1)))) (rC (.str "}")))) (rOr (rTst (rOp (oInN false) (rC .non) (rV 1))) (rOr (rTst (rOp oGt (rCB cLen (rCons (rV 1) (rNil))) (rC (.int 4)))) (rTst (rOp oLt (rCB cLen (rCons (rV 0) (rNil))) (rC (.int 2))))))) (sRet (rC .non)) (sNext))
    (sSeq (sIf (rTst (rOp oNe (rLc (iRange (rCons (rCB cLen (rCons (rV 1) (rNil))) (rNil))) [7] (gN 7) (rTst (rOp (oInN false) (rOp oIx (rV 1) (rV 7)) (rSl (rV 1) rNoP (rPart (rV 7))))) (rV 7)) (rLst (rNil)))) (sRet (rC .non)) (sNext))
    (sRet (rTup (rCons (rC (.str "one")) (rCons (rCB cTup (rCons (rV 1) (rNil))) (rNil))))))))) (sNext))
    (sSeq (sTup [2, 3, 4] (rParti (rV 0) (rC (.str ".."))))
    (sSeq (sIf (rTst (rOp oEq (rV 3) (rC (.str "")))) (sSet 5 (rTup (rCons (rC (.str "is")) (rCons (rCall sp__law_number_v2 [] (rCons (rV 2) (rNil))) (rNil))))) (sIf (rTst (rOp oEq (rV 2) (rC (.str "")))) (sSet 5 (rTup (rCons (rC (.str "to")) (rCons (rCall sp__law_number_v2 [] (rCons (rV 4) (rNil))) (rNil))))) (sIf (rTst (rOp oEq (rV 4) (rC (.str "")))) (sSet 5 (rTup (rCons (rC (.str "from")) (rCons (rCall sp__law_number_v2 [] (rCons (rV 2) (rNil))) (rNil))))) (sSet 5 (rTup (rCons (rC (.str "in")) (rCons (rCall sp__law_number_v2 [] (rCons (rV 2) (rNil))) (rCons (rCall sp__law_number_v2 [] (rCons (rV 4) (rNil))) (rNil)))))))))
    (sSeq (sIf (rTst (rOp (oInN false) (rC .non) (rV 5))) (sRet (rC .non)) (sNext))
    (sRet (rV 5))))))
def T__law_plain_read_v2_4 : DS := sSeq (sIf (rOr (rTst (rOp oNe (rOp oIx (rV 0) (rNeg (rC (.int 1)))) (rC (.str "}")))) (rOr (rTst (rOp (oInN false) (rC .non) (rV 1))) (rOr (rTst (rOp oGt (rCB cLen (rCons (rV 1) (rNil))) (rC (.int 4)))) (rTst (rOp oLt (rCB cLen (rCons (rV 0) (rNil))) (rC (.int 2))))))) (sRet (rC .non)) (sNext))
    (sSeq (sIf (rTst (rOp oNe (rLc (iRange (rCons (rCB cLen (rCons (rV 1) (rNil))) (rNil))) [7] (gN 7) (rTst (rOp (oInN false) (rOp oIx (rV 1) (rV 7)) (rSl (rV 1) rNoP (rPart (rV 7))))) (rV 7)) (rLst (rNil)))) (sRet (rC .non)) (sNext))
    (sRet (rTup (rCons (rC (.str "one")) (rCons (rCB cTup (rCons (rV 1) (rNil))) (rNil))))))
def T__law_plain_read_v2_9 : DS := sSeq (sIf (rTst (rOp (oInN false) (rC .non) (rV 5))) (sRet (rC .non)) (sNext))
    (sRet (rV 5))
theorem ln__law_plain_read_v2 : ∀ ds m Q PX, sp__law_plain_read_v2 ds m Q PX → ds.length = 1 := ln__law_plain_read
theorem ints_some {os : List (Option Int)} {ns : List Int} (h : allO os = some ns) : os.map oI? = ns.map D.int := by rw [allO_some h, List.map_map]; rfl
theorem dup_nd (ns : List Int) : ((List.range ns.length).filter fun k => decide (ns.getD k 0 ∈ ns.take k)) = [] ↔ ns.Nodup := by
  rw [List.filter_eq_nil_iff, nodup_get]
  constructor
  · intro h k x e
    have hl := (List.getElem?_eq_some_iff.mp e).1
    have := h k (List.mem_range.mpr hl)
    rw [getD_in hl, (List.getElem?_eq_some_iff.mp e).2] at this
    simpa using this
  · intro h k hk
    have hl := List.mem_range.mp hk
    have := h k _ (List.getElem?_eq_getElem hl)
    rw [getD_in hl, decide_eq_false this]; decide
theorem pu__law_plain_read_v2 : ∀ ds m Q PX, sp__law_plain_read_v2 ds m Q PX → rd__law_plain_read_v2 (dEnds Q PX) (dstart ["_law_word_here", "_law_numbers", "_law_low", "_law_points", "_law_high", "_law_found", "_law_part", "_law_k"] ds) m := by
  rintro ds m Q PX ⟨w, rfl, hx, h⟩
  have hw := hx.len
  have hwl := TL.len_tl w
  have fin : ∀ (b : Str) (os : List (Option Int)) (a1 a2 a3 a4 a6 a7 : Option D), (os.all Option.isSome = true → Q (.tup (.str b :: os.map oI?)) m) → (os.all Option.isSome = false → Q .non m) → T__law_plain_read_v2_9 (dEnds Q PX) [some (.str w), a1, a2, a3, a4, some (.tup (.str b :: os.map oI?)), a6, a7] m := by
    intro b os a1 a2 a3 a4 a6 a7 k1 k2
    have ef := row_flat b os
    have ea := row_non b os
    walk_at "dl"
    refine ⟨⟨rfl, ef⟩, ?_⟩
    rw [if_neg Bool.false_ne_true]
    show (match (D.str b :: os.map oI?).any (fun z => deq z .non) with | true => _ | false => _)
    rw [ea]
    cases hb : os.all Option.isSome with
    | true => exact k1 hb
    | false => exact k2 hb
  have one1 : ∀ (b : Str) (o : Option Int) (f : Int → Lk) (a1 a2 a3 a4 a6 a7 : Option D), (∀ n, (f n).d = .tup [.str b, .int n]) → Q (oL? (o.map f)) m → T__law_plain_read_v2_9 (dEnds Q PX) [some (.str w), a1, a2, a3, a4, some (.tup [.str b, oI? o]), a6, a7] m := by
    intro b o f a1 a2 a3 a4 a6 a7 hf hq
    refine fin b [o] a1 a2 a3 a4 a6 a7 (fun z => ?_) (fun z => ?_)
    · cases o with
      | none => cases z
      | some n => show Q (.tup [.str b, .int n]) m; rw [← hf n]; exact hq
    · cases o with
      | none => exact hq
      | some n => cases z
  unfold plkR at h
  walk_at "go"
  rw [if_neg Bool.false_ne_true, eq_str (l := [42]) (by decide)]
  by_cases h1 : TL.tl w = [42]
  · rw [decide_eq_true h1]
    rw [if_pos h1] at h
    exact ⟨len_line (by simp), h⟩
  rw [decide_eq_false h1]
  rw [if_neg h1] at h
  walk_at "go"
  rw [if_neg Bool.false_ne_true, one_cut (c := 123) (by decide)]
  by_cases h2 : (TL.tl w).take 1 = [123]
  · rw [decide_eq_true h2]
    have hne : TL.tl w ≠ [] := fun z => by rw [z] at h2; simp at h2
    obtain ⟨c, eb, tb⟩ := ix_last hne
    have eb' : atI w.cps.toList (-1) = some c := eb
    obtain ⟨n, hn⟩ : ∃ n : Int, n = (w.length : Int) := ⟨_, rfl⟩
    have no : braR (TL.tl w) = none → Q .non m := fun z => by
      have e := pl_open h2 z
      unfold plkR at e
      rw [if_neg h1] at e
      rw [e] at h
      exact h
    have x0 : LxOk ((TL.tl w).dropLast.drop 1) := hx.init.drop 1
    have l0 := x0.len
    -- behind the numbers
    have tail : ∀ (os : List (Option Int)) (a6 : Option D), os.length ≤ 9991 → (braR (TL.tl w) = some ((TL.tl w).dropLast.drop 1) → os = nosL ((TL.tl w).dropLast.drop 1)) → T__law_plain_read_v2_4 (dEnds Q PX) [some (.str w), some (.lst (os.map oI?)), none, none, none, none, a6, none] m := by
      intro os a6 hol hos
      have hml : (os.map oI?).length = os.length := List.length_map _
      obtain ⟨N, hN⟩ : ∃ N : Int, N = ((os.map oI?).length : Int) := ⟨_, rfl⟩
      have ef : (os.map oI?).all flatD = true := by
        rw [List.all_map, List.all_eq_true]
        intro o _
        cases o <;> rfl
      walk_at "go"
      rw [eb']
      walk_at "dl"
      rw [if_pos rfl, sgn_eq (k := 125) (by decide)]
      by_cases h4 : c = 125
      · rw [decide_eq_true h4]
        walk_at "dl"
        refine ⟨.inl ⟨rfl, ef⟩, ?_⟩
        rw [if_neg Bool.false_ne_true]
        show (match (os.map oI?).any (fun z => deq z .non) with | true => _ | false => _)
        rw [any_non]
        have hb : 2 ≤ w.length → braR (TL.tl w) = some ((TL.tl w).dropLast.drop 1) := fun z => by
          unfold braR
          rw [if_pos ⟨by omega, h2, by rw [tb, h4]⟩]
        have h3 : 2 ≤ w.length := by
          rcases Nat.lt_or_ge w.length 2 with z | z
          · exfalso
            have : (TL.tl w).length = 1 := by
              have : 0 < (TL.tl w).length := List.length_pos_iff.mpr hne
              omega
            rw [this] at tb
            rw [h4] at tb
            have e2 : (TL.tl w).take 1 = TL.tl w := List.take_of_length_le (by omega)
            rw [h2] at e2
            rw [← e2] at tb
            cases tb
          · exact z
        have hbb := hb h3
        rw [hbb] at h
        dsimp only at h
        have eo := hos hbb
        cases hs : allO os with
        | none =>
          have : nosR ((TL.tl w).dropLast.drop 1) = none := by unfold nosR; rw [← eo]; exact hs
          rw [this] at h
          exact h
        | some ns =>
          have : nosR ((TL.tl w).dropLast.drop 1) = some ns := by unfold nosR; rw [← eo]; exact hs
          rw [this] at h
          dsimp only at h
          have ei := ints_some hs
          have hnl : ns.length = os.length := by have := congrArg List.length (allO_some hs); simpa using this.symm
          walk_at "dl"
          rw [← hN]
          by_cases h5 : 4 < N
          · rw [decide_eq_true h5]
            rw [if_neg (fun z => by omega)] at h
            exact h
          · rw [decide_eq_false h5]
            walk_at "go"
            rw [← hn, decide_eq_false (show ¬ n < 2 by omega)]
            rw [ei] at hN hml ⊢
            walk_at "dl"
            rw [← hN]
            refine ⟨⟨by omega, by omega⟩, ?_⟩
            rw [show N.toNat = ns.length by omega]
            refine comp_fm (fun d => match d with | .int k => decide (ns.getD k.toNat 0 ∈ ns.take k.toNat) | _ => false) id (by rw [rg_len]; omega) trivial (fun d hd Q' h' => ?_) (fun d hd _ Q' h' => h') ?_
            · obtain ⟨k, hk, rfl⟩ := List.mem_map.mp hd
              have hkl := List.mem_range.mp hk
              obtain ⟨K, hK⟩ : ∃ K : Int, K = 0 + (k : Int) := ⟨_, rfl⟩
              have e1 : atI (ns.map D.int) K = some (.int (ns.getD k 0)) := by
                rw [hK, atI_map (List.getElem?_eq_getElem hkl), getD_in hkl]
              have ec : cutD (ns.map D.int) none (some K) = (ns.take k).map .int := by
                rw [hK, Int.zero_add]
                unfold cutD
                rw [HT.sIx_none, HT.sIx_nat, List.drop_zero, List.length_map, Nat.sub_zero, Nat.min_eq_left (by omega), List.map_take]
              rw [← hK] at h' ⊢
              have hKn : K.toNat = k := by omega
              dsimp only at h'
              rw [hKn] at h'
              walk_at "dl"
              rw [e1]
              walk_at "dl"
              rw [ec]
              refine ⟨.inl ⟨rfl, flat_ints _⟩, ?_⟩
              rw [if_neg Bool.false_ne_true]
              show Q' (((ns.take k).map D.int).any (fun z => deq z (.int (ns.getD k 0)))) m
              rw [any_int]
              exact h'
            · rw [List.map_id]
              have hD : ((rangeD 0 ns.length).filter (fun d => match d with | .int k => decide (ns.getD k.toNat 0 ∈ ns.take k.toNat) | _ => false)).isEmpty = decide ns.Nodup := by
                rw [Bool.eq_iff_iff, List.isEmpty_iff, decide_eq_true_eq, ← dup_nd]
                unfold rangeD
                rw [List.filter_map, List.map_eq_nil_iff]
                have e1 : ((fun d => match d with | .int k => decide (ns.getD k.toNat 0 ∈ ns.take k.toNat) | _ => false) ∘ fun i : Nat => D.int (0 + (i : Int))) = fun k => decide (ns.getD k 0 ∈ ns.take k) := by
                  funext k
                  show decide (ns.getD (0 + (k : Int)).toNat 0 ∈ ns.take (0 + (k : Int)).toNat) = _
                  rw [show (0 + (k : Int)).toNat = k by omega]
                rw [e1]
              have hth : thD 1 (.lst ((rangeD 0 ns.length).filter (fun d => match d with | .int k => decide (ns.getD k.toNat 0 ∈ ns.take k.toNat) | _ => false))) := ⟨Nat.le_trans (List.length_filter_le _ _) (by rw [rg_len]; omega), fun d hd => by
                obtain ⟨k, _, rfl⟩ := List.mem_map.mp (List.mem_filter.mp hd).1
                exact thD_int⟩
              generalize (rangeD 0 ns.length).filter (fun d => match d with | .int k => decide (ns.getD k.toNat 0 ∈ ns.take k.toNat) | _ => false) = Z at hD hth ⊢
              walk_at "go"
              refine ⟨shpT hth, shpT (n := 1) (thD_lst (by simp) (List.forall_mem_nil _)), ?_⟩
              rw [if_pos rfl]
              show (match !deq (.lst Z) (.lst []) with | true => _ | false => _)
              rw [deq_lst_nil, hD]
              by_cases nd : ns.Nodup
              · rw [decide_eq_true nd]
                rw [if_pos ⟨by omega, nd⟩] at h
                exact ⟨len_line (by simp), h⟩
              · rw [decide_eq_false nd]
                rw [if_neg (fun z => nd z.2)] at h
                exact h
      · rw [decide_eq_false h4]
        exact no (by
          unfold braR
          rw [if_neg]
          rintro ⟨_, _, z⟩
          rw [tb] at z
          exact h4 (by simpa using z))
    walk_at "go"
    rw [cutM]
    have sl := sgnT_len ((TL.tl w).dropLast.drop 1)
    refine ⟨⟨by decide, len_line (by omega)⟩, ?_⟩
    rw [split_sgn _ "," (by decide) (by decide +kernel), List.map_map, tl_sgnT]
    have hs := spl_le [44] ((TL.tl w).dropLast.drop 1) 0 []
    refine comp_on (TL.spl [44] 0 [] ((TL.tl w).dropLast.drop 1)) (fun p => .str (sgnT p)) (fun p => oI? (numR p)) (by omega) trivial (fun p hp Q' h' => ?_) ?_
    · walk_at "go"
      exact ⟨_, rfl, x0.spl hp, h'⟩
    walk_at "go"
    rw [if_neg Bool.false_ne_true, eq_str (l := [123, 125]) (by decide)]
    by_cases h5 : TL.tl w = [123, 125]
    · rw [decide_eq_true h5]
      refine ⟨Nat.zero_le _, ?_⟩
      refine tail [] none (by simp) fun _ => ?_
      rw [h5]; rfl
    · rw [decide_eq_false h5]
      have e5 : (TL.spl [44] 0 [] ((TL.tl w).dropLast.drop 1)).map (fun p => oI? (numR p)) = ((TL.spl [44] 0 [] ((TL.tl w).dropLast.drop 1)).map numR).map oI? := by rw [List.map_map]; rfl
      have t5 := tail ((TL.spl [44] 0 [] ((TL.tl w).dropLast.drop 1)).map numR) none (by rw [List.length_map]; omega) fun hb => by
        unfold nosL
        rw [if_neg]
        intro z
        rw [z] at hb
        exact h5 (bra_eq hb)
      rw [← e5] at t5
      exact t5
  · rw [decide_eq_false h2]
    rw [bra_first h2] at h
    dsimp only at h
    walk_at "dl"
    refine ⟨⟨by decide, len_line (by omega)⟩, ?_⟩
    rw [parti_sgn w ".." (by decide)]
    rw [show TL.tl (".." : Str) = [46, 46] from by decide]
    cases hp : TL.par [46, 46] [] (TL.tl w) with
    | none =>
      rw [hp] at h
      walk_at "go"
      exact ⟨w, rfl, hx, len_line (by simp), one1 "is" _ Lk.is _ _ _ _ _ _ (fun _ => rfl) h⟩
    | some lh =>
      obtain ⟨lo, hi⟩ := lh
      rw [hp] at h
      obtain ⟨xl, xh⟩ := hx.par (by decide) hp
      dsimp only at h
      walk_at "go"
      rw [if_neg Bool.false_ne_true, eq_str (l := []) (by decide), tl_sgnT]
      by_cases h3 : lo = []
      · rw [decide_eq_true h3]
        walk_at "go"
        refine ⟨_, rfl, xh, len_line (by simp), one1 "to" _ Lk.upto _ _ _ _ _ _ (fun _ => rfl) ?_⟩
        rw [tl_sgnT]
        by_cases h4 : hi = []
        · rw [if_pos h4, h3] at h
          rw [h4]
          exact h
        · rw [if_neg h4, if_pos h3] at h
          exact h
      · rw [decide_eq_false h3]
        walk_at "go"
        rw [if_neg Bool.false_ne_true, eq_str (l := []) (by decide), tl_sgnT]
        by_cases h4 : hi = []
        · rw [decide_eq_true h4]
          rw [if_pos h4] at h
          walk_at "go"
          exact ⟨_, rfl, xl, len_line (by simp), one1 "from" _ Lk.frm _ _ _ _ _ _ (fun _ => rfl) h⟩
        · rw [decide_eq_false h4]
          rw [if_neg h4, if_neg h3] at h
          walk_at "go"
          refine ⟨_, rfl, xl, ?_⟩
          walk_at "go"
          refine ⟨_, rfl, xh, len_line (by simp), fin "in" [numR lo, numR hi] _ _ _ _ _ _ (fun z => ?_) (fun z => ?_)⟩
          · cases ha : numR lo with
            | none => rw [ha] at z; cases z
            | some a =>
              cases hb : numR hi with
              | none => rw [ha, hb] at z; cases z
              | some b => rw [ha, hb] at h; exact h
          · cases ha : numR lo with
            | none => rw [ha] at h; exact h
            | some a =>
              cases hb : numR hi with
              | none => rw [ha, hb] at h; exact h
              | some b => rw [ha, hb] at z; cases z
end
section
/-! # rooms: the law's own reading of things, ways, rooms -/
theorem deq_ss (a b : Str) : deq (.str a) (.str b) = decide (a = b) := by
  unfold deq; simp only [py, PyData.eqv]
  rw [Bool.eq_iff_iff, beq_iff_eq, decide_eq_true_eq]
end
section
/-! # rooms: the law's own reading of a line -/
theorem last_app {u : List Nat} {c : Nat} (h : u.drop (u.length - 1) = [c]) : u = u.dropLast ++ [c] := by
  have hne : u ≠ [] := fun z => by rw [z] at h; cases h
  rw [drop_last1 hne] at h
  have e := List.dropLast_concat_getLast hne
  have : u.getLast hne = c := by simpa using h
  rw [this] at e
  exact e.symm
theorem app_last (u : List Nat) (c : Nat) : (u ++ [c]).drop ((u ++ [c]).length - 1) = [c] := by
  rw [drop_last1 (by simp)]; simp
theorem callR_law (w : List Nat) : callR w = (if w.drop (w.length - 1) = [41] then (match TL.par [40] [] w.dropLast with | none => none | some (head, ins) => match TL.par [46] [] head with | none => none | some (a, b) => some (a, b, ins)) else none) := by
  by_cases h : w.drop (w.length - 1) = [41]
  · rw [if_pos h]
    have e := last_app h
    generalize w.dropLast = u at e ⊢
    rw [e]
    unfold callR
    cases hp : TL.par [40] [] u with
    | none =>
      have := par1_none hp
      rw [par1_no (p := u ++ [41]) (fun z => by
        rcases List.mem_append.mp z with z | z
        · exact this z
        · have := List.mem_singleton.mp z; omega)]
    | some hi =>
      obtain ⟨head, ins⟩ := hi
      obtain ⟨p, e1, e2, f⟩ := par1_some hp
      rw [List.nil_append] at e1
      subst e1
      have e3 : u ++ [41] = head ++ 40 :: (ins ++ [41]) := by rw [e2]; simp
      rw [e3, par1_of f]
      dsimp only
      cases hq : TL.par [46] [] head with
      | none => rfl
      | some ab =>
        obtain ⟨a, b⟩ := ab
        dsimp only
        rw [if_pos (app_last ins 41), List.dropLast_concat]
  · rw [if_neg h]
    unfold callR
    cases hp : TL.par [40] [] w with
    | none => rfl
    | some hi =>
      obtain ⟨head, rest⟩ := hi
      dsimp only
      cases hq : TL.par [46] [] head with
      | none => rfl
      | some ab =>
        obtain ⟨a, b⟩ := ab
        dsimp only
        rw [if_neg]
        intro z
        have e1 := par_eq [40] (by decide) _ _ _ _ hp
        rw [List.nil_append] at e1
        have e2 := last_app z
        apply h
        rw [e1, e2, show head ++ [40] ++ (rest.dropLast ++ [41]) = (head ++ [40] ++ rest.dropLast) ++ [41] by simp]
        exact app_last _ _
theorem any_nonG {α : Type} {f : Option α → D} (h : ∀ o, deq (f o) .non = o.isNone) (os : List (Option α)) : (os.map f).any (fun z => deq z .non) = (allG os).isNone := by
  rw [List.any_map]
  induction os with
  | nil => rfl
  | cons o os ih =>
    rw [List.any_cons, ih]
    show (deq (f o) .non || _) = _
    rw [h]
    cases o with
    | none => rfl
    | some n =>
      show (false || (allG os).isNone) = ((allG os).map (n :: ·)).isNone
      cases allG os <;> rfl
theorem deq_tn (xs : List D) : deq (.tup xs) .non = false := by unfold deq; simp only [py, PyData.eqv]
theorem deq_in (n : Int) : deq (.int n) .non = false := by unfold deq; simp only [py, PyData.eqv]
theorem deq_nn : deq .non .non = true := by unfold deq; simp only [py, PyData.eqv]
end
end DL
/-! ### d.get(k), k a text, a number or None; dict(pairs); xs.pop(i) -/
namespace DL
open PySem L2
open PyProof.Rows
/-! dict(pairs) -/
end DL
/-! ### xs[-1] += text; d.get(k, x) -/
namespace DL
open PySem L2
open PyProof.Rows
section
variable {X : Cx}
/-- xs[i], i below nought, by values -/
theorem get_listN : PGet X (fun o i H Q => ∃ p xs k v, o = .ref p ∧ i = .int k ∧ k < 0 ∧ H p = some (.lst xs) ∧ atI xs k = some v ∧ Q v H) := by
  intro pins s σ H o i ov iv Q I ro ri h
  obtain ⟨p, xs, k, z, rfl, rfl, hk, hp, he, q⟩ := h
  cases ro
  obtain ⟨t, rfl⟩ := ri
  obtain ⟨its, r, pl, hz⟩ := I.list (SqL.of hp)
  obtain ⟨j, h1, h2, h3, h4, h5⟩ := atI_get he
  obtain ⟨w, ew, rw'⟩ := r.get h2
  have hl := r.length
  have hn := line63
  have hj : (k + (its.toArray.size : Int)).toNat = j := by
    rw [seqIndex_neg (by omega) h4] at h1
    rw [List.size_toArray, ← hl]
    exact Option.some.inj h1
  exact wpAny_getItem_list_neg pl.isList (by omega) (by rw [List.size_toArray] <;> omega) (by omega) (by rw [hj]; simpa using ew) ⟨z, H, I, rw', q⟩
end
/-- xs[i] += text, i below nought, xs a list of ours -/
def sAugIx (ro ri rv : DE) : DS := fun DD δ m => ro δ m (fun o m1 => ri δ m1 (fun i m2 => match o, i with
  | .adr p, .int k => match m2 p with
    | some (.lst ds) => match atI ds k with
      | some (.str z) => k < 0 ∧ rv δ m2 (fun y m3 => match y with
        | .str w => match m3 p with
          | some (.lst es) => match ixN es.length k with
            | some j => z.length + w.length ≤ sizeLine ∧ DD.nx δ (mset m3 p (.lst (es.set j (.str (z ++ w)))))
            | none => False
          | _ => False
        | _ => False) fun c fs m1 => DD.xx c fs δ m1
      | _ => False
    | _ => False
  | _, _ => False) fun c fs m1 => DD.xx c fs δ m1) fun c fs m1 => DD.xx c fs δ m1
/-- d.get(k, x) over data -/
def rDGet2 (ra rb rc : DE) : DE := fun δ m P PX => ra δ m (fun x m1 => match asDc m1 x with
  | some _ => rb δ m1 (fun y m2 => rc δ m2 (fun z m3 => match asDc m3 x with
    | some kvs => match keyD y with
        | some k => P ((valD kvs k).getD z) m3
        | none => False
    | none => False) PX) PX
  | none => False) PX
section
variable {X : Cx} {W : WX} {pos p : Pos} {a b e : Expr} {es : List Expr} {ra rb : DE} {qs : DA}
theorem ds_augIx {o i : Expr} {ro ri rv : DE} {p2 : Pos} (ho : PE X o (lE (kw X) W ro)) (hi : PE X i (lE (kw X) W ri)) (hv : PE X a (lE (kw X) W rv))
    (hA : ∀ ov iv new, augStore i ov iv new = (do holding [new, ov, iv] (setItem ov iv new); release [new, ov, iv] []; pure .next) := by intros; rfl) :
    PS X (.AugAssign (.Subscript o i p2) .Add a pos) (lS (kw X) W (sAugIx ro ri rv)) := by
  refine PS.imp (ps_augS ho hi get_listN hv (fun pins s σ H x y u v Q I rx ry h => iop_add_str pins s σ H x y u v Q I rx ry h) L2.set_list hA) fun Dn σ H h => ?_
  obtain ⟨F, H0, m, δ, DD, ok, rs, h, g⟩ := h
  refine ⟨F, H0, m, δ, _, _, ok, rs, h, fun o H1 H01 m1 d1 s1 ok1 r1 h1 => ⟨F, H01, m1, δ, _, _, ok1, rs.mono s1, h1, fun iv H2 H02 m2 d2 s2 ok2 r2 h2 => ?_, (g.mono s1).xx.at_ (rs.mono s1)⟩, g.xx.at_ rs⟩
  dsimp only at h2
  split at h2
  · rename_i q k
    cases r2
    cases r1
    split at h2
    · rename_i ds e1
      obtain ⟨_, vs, hv3, rv3⟩ := ok2.cell q _ e1
      split at h2
      · rename_i z e2
        obtain ⟨hk, h2⟩ := h2
        obtain ⟨x, ex, rx⟩ := rv3.at_ e2
        refine ⟨q, vs, k, x, rfl, rfl, hk, hv3, ex, F, H02, m2, δ, _, _, ok2, (rs.mono s1).mono s2, h2, fun y H3 H03 m3 d3 s3 ok3 r3 h3 => ?_, ((g.mono s1).mono s2).xx.at_ ((rs.mono s1).mono s2)⟩
        dsimp only at h3
        split at h3
        · rename_i w
          split at h3
          · rename_i es e3
            obtain ⟨_, ws, hw3, rw3⟩ := ok3.cell q _ e3
            split at h3
            · rename_i j e4
              obtain ⟨hz, h3⟩ := h3
              cases r3
              cases rx
              refine ⟨z, w, rfl, rfl, hz, q, ws, k, j, rfl, rfl, hw3, by rw [rw3.length]; exact e4, ?_⟩
              have s123 := (s1.trans s2).trans s3
              exact g.nx _ _ _ _ _ s123 (ok3.write (o := .lst (es.set j (.str (z ++ w)))) e3 ⟨_, upd_same, rw3.set (.str _) j⟩) (rs.mono s123) h3
            · exact h3.elim
          · exact h3.elim
        · exact h3.elim
      · exact h2.elim
    · exact h2.elim
  · exact h2.elim
theorem pd_dget2 {apos : Pos} {c : Expr} {rc : DE} (hu : X.A.units + 1 < cLine) (ha : PE X a (lE (kw X) W ra)) (hb : PE X b (lE (kw X) W rb)) (hc : PE X c (lE (kw X) W rc)) (m : M2 X a "get" apos b c pos := by exact ⟨rfl, rfl, rfl, rfl⟩) : PE X (.Call (.Attribute a "get" apos) [b, c] [] pos) (lE (kw X) W (rDGet2 ra rb rc)) := by
  refine PE.imp (pe_dget2 hu ha hb hc m) fun σ H Q h => ?_
  obtain ⟨F, H0, m, δ, P, PX, ok, rs, h, g, gx⟩ := h
  refine ⟨F, H0, m, δ, _, PX, ok, rs, h, fun x H1 H01 m1 d1 s1 ok1 r1 h1 => ?_, gx⟩
  dsimp only at h1
  split at h1
  · rename_i ks e1
    obtain ⟨q, kv, rfl, e3, rk⟩ := asDc_rp ok1 r1 e1
    refine ⟨q, rfl, .inl ⟨kv, .inl e3⟩, F, H01, m1, δ, _, PX, ok1, rs.mono s1, h1, fun y H2 H02 m2 d2 s2 ok2 r2 h2 => ⟨F, H02, m2, δ, _, PX, ok2, (rs.mono s1).mono s2, h2, fun z H3 H03 m3 d3 s3 ok3 r3 h3 => ?_, (gx.mono s1).mono s2⟩, gx.mono s1⟩
    dsimp only at h3
    split at h3
    · rename_i kvs e2
      obtain ⟨q', kv2, eq, e4, rk2⟩ := asDc_rp ok3 ((r1.mono s2).mono s3) e2
      cases eq
      split at h3
      · rename_i k e5
        have ek := keyD_rp (r2.mono s3) e5
        subst ek
        have s123 := (s1.trans s2).trans s3
        rcases rk2.val k with ⟨z1, z2⟩ | ⟨v, d, z1, z2, z3⟩
        · rw [z2] at h3
          exact ⟨none, (z1 ▸ DGet.k e4), g _ _ _ _ _ s123 ok3 r3 h3⟩
        · rw [z2] at h3
          exact ⟨some v, (z1 ▸ DGet.k e4), g _ _ _ _ _ s123 ok3 z3 h3⟩
      · exact h3.elim
    · exact h3.elim
  · exact h1.elim
end
end DL
namespace DL
open PySem L2
local macro_rules | `(tactic| walk_at "dl") => `(tactic| ((conv => whnf); try dsimp only))
local macro_rules | `(tactic| walk_at "sd") => `(tactic| first | trivial | exact Nat.zero_le _ | assumption | decide | omega | exact len_line (by first | decide | omega | (simp; done) | (simp; omega)) | (simp; done) | (simp; omega) | exact ⟨by decide, by decide, by decide⟩ | exact .inl ⟨by decide, by decide⟩ | exact .inl ⟨by omega, by omega⟩ | exact wide_div (b := 64) (by decide) (by decide) (by decide) (by decide))
local macro_rules | `(tactic| walk_at "go") => `(tactic| ((conv => whnf); (try dsimp only); repeat ((with_reducible refine And.intro ?_ ?_); (focus (walk_at "sd")); (conv => whnf); (try dsimp only))))
local macro_rules | `(tactic| walk_at "th") => `(tactic| repeat' (first | assumption | exact thD_txt _ _ | exact thD_int | exact thD_non | exact thD_bl | (refine thD_mono _ _ _ ?_ (by assumption); decide) | refine List.forall_mem_cons.mpr (And.intro ?_ ?_) | exact List.forall_mem_nil _ | refine thD_tup (by simp) ?_ | refine thD_lst (by simp) ?_))
local macro_rules | `(tactic| walk_at "ln") => `(tactic| (intro ds m Q PX h; repeat (obtain ⟨_, h⟩ := h); subst_vars; rfl))
section
/-! # pieces between commas -/
def brN (c : Nat) : Int := if c = 123 then 1 else if c = 125 then -1 else 0
def pcS (st : List (List Nat) × List Nat × Int) (c : Nat) : List (List Nat) × List Nat × Int :=
  if c = 44 ∧ st.2.2 + brN c = 0 then (st.1 ++ [st.2.1], [], st.2.2 + brN c) else (st.1, st.2.1 ++ [c], st.2.2 + brN c)
def pcT (w : List Nat) : List (List Nat) × List Nat × Int := w.foldl pcS ([], [], 0)
def pcL (w : List Nat) : List (List Nat) := (pcT w).1 ++ [(pcT w).2.1]
def piecesR (w : List Nat) : List (List Nat) := if w = [] then [] else pcL w
theorem pcT_one (w : List Nat) (c : Nat) : pcT (w ++ [c]) = pcS (pcT w) c := by
  unfold pcT; rw [List.foldl_append]; rfl
theorem pcF_len : ∀ (w : List Nat) (st : List (List Nat) × List Nat × Int), (w.foldl pcS st).1.length ≤ st.1.length + w.length ∧ (w.foldl pcS st).2.1.length ≤ st.2.1.length + w.length
  | [], st => ⟨Nat.le_refl _, Nat.le_refl _⟩
  | c :: r, st => by
    obtain ⟨h1, h2⟩ := pcF_len r (pcS st c)
    rw [List.foldl_cons, List.length_cons]
    have : (pcS st c).1.length ≤ st.1.length + 1 ∧ (pcS st c).2.1.length ≤ st.2.1.length + 1 := by
      unfold pcS
      split
      · exact ⟨by simp, by simp⟩
      · exact ⟨by simp, by simp⟩
    omega
theorem pcT_len (w : List Nat) : (pcT w).1.length ≤ w.length ∧ (pcT w).2.1.length ≤ w.length := by
  have := pcF_len w ([], [], 0)
  simp only [List.length_nil, Nat.zero_add] at this
  exact this
theorem set_end {α : Type} (xs : List α) (a b : α) : (xs ++ [a]).set xs.length b = xs ++ [b] := by
  rw [List.set_append_right _ _ (Nat.le_refl _), Nat.sub_self]; rfl
theorem one_eq {s : Str} {k c : Nat} (hs : TL.tl s = [k]) : (⟨#[c]⟩ : Str) = s ↔ c = k := by
  constructor
  · intro z
    have : TL.tl (⟨#[c]⟩ : Str) = [k] := by rw [z, hs]
    have h2 : [c] = [k] := this
    simpa using h2
  · intro z
    exact TL.ext_tl (by rw [hs, ← z])
theorem br_tab (c : Nat) : (valD (mergeD [] [(Sum.inr (Str.ofString "{"), D.int 1), (Sum.inr (Str.ofString "}"), D.int (-1))]) (Sum.inr ⟨#[c]⟩)).getD (D.int 0) = .int (brN c) := by
  have h1 := one_eq (c := c) (k := 123) (s := Str.ofString "{") (by decide)
  have h2 := one_eq (c := c) (k := 125) (s := Str.ofString "}") (by decide)
  have ne : ¬ (Sum.inr (Str.ofString "{") : Key) = Sum.inr (Str.ofString "}") := fun z => by
    have := Sum.inr.inj z
    exact absurd this (by decide)
  have em : mergeD [] [((Sum.inr (Str.ofString "{") : Key), D.int 1), (Sum.inr (Str.ofString "}"), D.int (-1))] = [(Sum.inr (Str.ofString "{"), D.int 1), (Sum.inr (Str.ofString "}"), D.int (-1))] := by
    show putD (putD [] _ _) _ _ = _
    rw [putD_new valD_nil, putD_new (by rw [List.nil_append, valD_neg ne, valD_nil])]; rfl
  rw [em]
  unfold brN
  by_cases e1 : c = 123
  · rw [if_pos e1, valD_pos (by rw [h1.mpr e1])]; rfl
  · rw [if_neg e1, valD_neg (fun z => e1 (h1.mp (Sum.inr.inj z).symm))]
    by_cases e2 : c = 125
    · rw [if_pos e2, valD_pos (by rw [h2.mpr e2])]; rfl
    · rw [if_neg e2, valD_neg (fun z => e2 (h2.mp (Sum.inr.inj z).symm)), valD_nil]; rfl
theorem signs_at {w : Str} {i : Nat} {d : D} (h : (signs w)[i]? = some d) : ∃ c, (TL.tl w)[i]? = some c ∧ d = .str ⟨#[c]⟩ := by
  unfold signs at h
  rw [List.getElem?_map] at h
  cases e : w.cps.toList[i]? with
  | none => rw [e] at h; cases h
  | some c => rw [e] at h; cases h; exact ⟨c, rfl, rfl⟩
def sp_pieces : SpD := fun ds m P _ => ∃ w : Str, ds = [.str w] ∧ LxOk (TL.tl w) ∧ ∀ m', Kp [] m m' → P (.lst (wdsD (piecesR (TL.tl w)))) m'
def rd_pieces : DS :=
    sSeq (sSet 1 (rLstM (rCons (rC (.str "")) (rNil))))
    (sSeq (sSet 2 (rC (.int 0)))
    (sSeq (sFor (iAny (rV 0)) (gN 3) (sSeq (sAug 2 (rDGet2 (rDctN [(rC (.str "{"), rC (.int 1)), (rC (.str "}"), rNeg (rC (.int 1)))]) (rV 3) (rC (.int 0))))
    (sIf (rAnd (rTst (rOp oEq (rV 3) (rC (.str ",")))) (rTst (rOp oEq (rV 2) (rC (.int 0))))) (sExpr (rApp (rV 1) (rC (.str "")))) (sAugIx (rV 1) (rNeg (rC (.int 1))) (rV 3)))))
    (sRet (rIfE (rTst (rOp oNe (rV 0) (rC (.str "")))) (rSeal (rV 1)) (rLst (rNil))))))
theorem ln_pieces : ∀ ds m Q PX, sp_pieces ds m Q PX → ds.length = 1 := fun ds m Q PX h => by repeat' (first | (subst_vars; rfl; done) | (refine Or.elim h (fun h => ?_) (fun h => ?_)) | (obtain ⟨_, h⟩ := h))
theorem pu_pieces : ∀ ds m Q PX, sp_pieces ds m Q PX → rd_pieces (dEnds Q PX) (dstart ["word", "found", "depth", "sign"] ds) m := by
  rintro ds m Q PX ⟨w, rfl, hx, h⟩
  have hw := hx.len
  have hwl := TL.len_tl w
  walk_at "go"
  intro q hq
  walk_at "dl"
  refine loop_inv (fun i δ m' => (∃ a3, δ = [some (.str w), some (.adr q), some (.int (pcT ((TL.tl w).take i)).2.2), a3]) ∧ Kp [] m m' ∧ m' q = some (.lst (wdsD (pcL ((TL.tl w).take i))))) (fun i d δ m' ei hh => ?_) (fun δ m' hh => ?_) ⟨⟨_, rfl⟩, kp_gone hq (Kp.refl [] m) _, mset_same⟩
  · obtain ⟨⟨a3, rfl⟩, kp, eq⟩ := hh
    refine ⟨trivial, fun Nx k1 => ?_⟩
    obtain ⟨c, e, rfl⟩ := signs_at ei
    have hi : i < (TL.tl w).length := (List.getElem?_eq_some_iff.mp e).1
    have et : (TL.tl w).take (i + 1) = (TL.tl w).take i ++ [c] := by rw [List.take_add_one, e]; rfl
    obtain ⟨l1, l2⟩ := pcT_len ((TL.tl w).take i)
    rw [List.length_take] at l1 l2
    obtain ⟨DN, CU, DP, hT⟩ : ∃ DN CU DP, pcT ((TL.tl w).take i) = (DN, CU, DP) := ⟨_, _, _, rfl⟩
    have hT1 : pcT ((TL.tl w).take (i + 1)) = pcS (DN, CU, DP) c := by rw [et, pcT_one, hT]
    have eL : pcL ((TL.tl w).take i) = DN ++ [CU] := by unfold pcL; rw [hT]
    rw [hT] at l1 l2
    dsimp only at l1 l2
    have i9 : i ≤ 9990 := by omega
    have l3 : DN.length ≤ 9990 := by omega
    have l4 : CU.length ≤ 9990 := by omega
    rw [eL] at eq
    rw [hT]
    have fin : ∀ m2, Kp [] m m2 → m2 q = some (.lst (wdsD (pcL ((TL.tl w).take (i + 1))))) → Nx [some (.str w), some (.adr q), some (.int (DP + brN c)), some (.str ⟨#[c]⟩)] m2 := fun m2 kp2 e2 => k1 _ _ ⟨⟨_, by
      rw [hT1]
      unfold pcS
      split <;> rfl⟩, kp2, e2⟩
    walk_at "dl"
    refine ⟨by show 2 ≤ 15; decide, ?_⟩
    walk_at "dl"
    rw [br_tab]
    walk_at "dl"
    rw [if_neg Bool.false_ne_true, show decide ((⟨#[c]⟩ : Str) = Str.ofString ",") = decide (c = 44) from by rw [Bool.eq_iff_iff, decide_eq_true_eq, decide_eq_true_eq]; exact one_eq (by decide)]
    have lD : (wdsD (DN ++ [CU])).length = DN.length + 1 := by unfold wdsD; rw [List.length_map, List.length_append]; rfl
    have eD : wdsD (DN ++ [CU]) = wdsD DN ++ [.str (sgnT CU)] := by unfold wdsD; rw [List.map_append]; rfl
    have lC := sgnT_len CU
    -- the sign is kept
    have keep : ¬ (c = 44 ∧ DP + brN c = 0) → sAugIx (rV 1) (rNeg (rC (.int 1))) (rV 3)
      { nx := Nx, rt := (dEnds Q PX).rt, bk := sRet (rIfE (rTst (rOp oNe (rV 0) (rC (D.str (Str.ofString ""))))) (rSeal (rV 1)) (rLst rNil)) (dEnds Q PX), ct := Nx, xx := (dEnds Q PX).xx }
      [some (.str w), some (.adr q), some (.int (DP + brN c)), some (.str ⟨#[c]⟩)] m' := by
      intro hc
      have aE : atI (wdsD (DN ++ [CU])) (-1) = some (.str (sgnT CU)) := by
        rw [eD]
        unfold atI ixN
        rw [if_neg (by decide), if_pos (by rw [List.length_append]; show -((_ + 1 : Nat) : Int) ≤ -1; omega)]
        show (wdsD DN ++ [D.str (sgnT CU)])[_]? = _
        rw [List.length_append, show ((-1 : Int) + (((wdsD DN).length + [D.str (sgnT CU)].length : Nat) : Int)).toNat = (wdsD DN).length by simp only [List.length_cons, List.length_nil]; omega, List.getElem?_append_right (Nat.le_refl _), Nat.sub_self]; rfl
      have iE : ixN (wdsD (DN ++ [CU])).length (-1) = some DN.length := by
        rw [lD]
        unfold ixN
        rw [if_neg (by decide), if_pos (by omega)]
        congr 1
        omega
      walk_at "dl"
      rw [eq]
      dsimp only
      rw [aE]
      dsimp only
      refine ⟨by decide, ?_⟩
      walk_at "dl"
      rw [eq]
      dsimp only
      rw [iE]
      dsimp only
      refine ⟨by show (sgnT CU).length + 1 ≤ sizeLine; exact len_line (by omega), fin _ (kp_gone hq kp _) ?_⟩
      rw [mset_same, eD]
      unfold pcL
      rw [hT1]
      unfold pcS
      rw [if_neg hc]
      have e5 : sgnT CU ++ ⟨#[c]⟩ = sgnT (CU ++ [c]) := TL.ext_tl (by rw [TL.tl_append, tl_sgnT, tl_sgnT])
      have e6 : (wdsD DN).length = DN.length := List.length_map _
      rw [← e6, set_end, e5]
      unfold wdsD
      rw [List.map_append]; rfl
    by_cases hc : c = 44
    · rw [decide_eq_true hc]
      walk_at "dl"
      rw [if_neg Bool.false_ne_true]
      by_cases h0 : DP + brN c = 0
      · rw [decide_eq_true h0]
        walk_at "dl"
        refine ⟨⟨_, eq⟩, ?_⟩
        walk_at "dl"
        rw [eq]
        refine ⟨len_line (by omega), ?_⟩
        refine fin _ (kp_gone hq kp _) ?_
        rw [mset_same]
        unfold pcL
        rw [hT1]
        unfold pcS
        rw [if_pos ⟨hc, h0⟩]
        unfold wdsD
        rw [List.map_append, List.map_append, List.map_append]; rfl
      · rw [decide_eq_false h0]
        exact keep (fun z => h0 z.2)
    · rw [decide_eq_false hc]
      exact keep (fun z => hc z.1)
  · obtain ⟨⟨a3, rfl⟩, kp, eq⟩ := hh
    refine ⟨trivial, ?_⟩
    have ls : (signs w).length = (TL.tl w).length := List.length_map _
    rw [ls, List.take_length] at eq
    have e0 : (Str.ofString "" : Str) = "" := rfl
    walk_at "dl"
    rw [if_pos rfl, eq_str (l := []) (by decide)]
    by_cases h1 : TL.tl w = []
    · rw [decide_eq_true h1]
      have h2 := h _ kp
      unfold piecesR at h2
      rw [if_pos h1] at h2
      exact ⟨Nat.zero_le _, h2⟩
    · rw [decide_eq_false h1]
      have h2 := h
      unfold piecesR at h2
      rw [if_neg h1] at h2
      walk_at "dl"
      rw [eq]
      exact h2 _ (kp_del81 hq kp)
end
section
/-! ### answers, rules -/
def thgB : D → D → Bool
  | .int i, .int _ => decide (0 ≤ i) && decide (i ≤ 1)
  | _, _ => false
def ansR (w : Str) (rest : List D) : Bool :=
  if w = "run" then (match rest with | [x] => nmD x | _ => false)
  else if w = "thing" then (match rest with | [x, y] => thgB x y | _ => false) else false
def ansB : D → Bool
  | .int _ => true
  | .tup (.str w :: rest) => ansR w rest
  | _ => false
def sp_is_answer : SpD := fun ds m P _ => ∃ d, ds = [d] ∧ Thg d ∧ P (.bl (ansB d)) m
def rd_is_answer : DS :=
    sSeq (sIf (rTru (rCall sp_is_whole [] (rCons (rV 0) (rNil)))) (sRet (rC (.bl true))) (sNext))
    (sSeq (sIf (rOr (rNot (rTru (rCB cIsi (rCons (rV 0) (rCons (rC (.ty "tuple")) (rNil)))))) (rOr (rTst (rOp oEq (rV 0) (rTup (rNil)))) (rNot (rTru (rCB cIsi (rCons (rOp oIx (rV 0) (rC (.int 0))) (rCons (rC (.ty "str")) (rNil)))))))) (sRet (rC (.bl false))) (sNext))
    (sSeq (sStar 1 2 (rV 0))
    (sSeq (sIf (rTst (rOp oEq (rV 1) (rC (.str "run")))) (sRet (rAndV (rOp oEq (rCB cLen (rCons (rV 2) (rNil))) (rC (.int 1))) (rCall sp_is_name [] (rCons (rOp oIx (rV 2) (rC (.int 0))) (rNil))))) (sNext))
    (sSeq (sIf (rOr (rTst (rOp oNe (rV 1) (rC (.str "thing")))) (rOr (rTst (rOp oNe (rCB cLen (rCons (rV 2) (rNil))) (rC (.int 2)))) (rOr (rNot (rTru (rCall sp_is_whole [] (rCons (rOp oIx (rV 2) (rC (.int 0))) (rNil))))) (rNot (rTru (rCall sp_is_whole [] (rCons (rOp oIx (rV 2) (rC (.int 1))) (rNil)))))))) (sRet (rC (.bl false))) (sNext))
    (sRet (rChain oLe oLe (rC (.int 0)) (rOp oIx (rV 2) (rC (.int 0))) (rC (.int 1))))))))
theorem ln_is_answer : ∀ ds m Q PX, sp_is_answer ds m Q PX → ds.length = 1 := fun ds m Q PX h => by repeat' (first | (subst_vars; rfl; done) | (refine Or.elim h (fun h => ?_) (fun h => ?_)) | (obtain ⟨_, h⟩ := h))
theorem pu_is_answer : ∀ ds m Q PX, sp_is_answer ds m Q PX → rd_is_answer (dEnds Q PX) (dstart ["answer", "word", "rest"] ds) m := by
  rintro ds m Q PX ⟨d, rfl, hd, h⟩
  have hd0 := hd
  revert h
  refine hd.cases_ (p := fun d => Thg d → Q (.bl (ansB d)) m → rd_is_answer (dEnds Q PX) (dstart ["answer", "word", "rest"] [d]) m) ?_ ?_ ?_ ?_ ?_ ?_ ?_ hd0
  case refine_6 =>
    intro xs hl hx hd0 h
    walk_at "go"
    refine ⟨_, rfl, hd0, ?_⟩
    walk_at "go"
    refine ⟨shpT (n := 20) ⟨hl, hx⟩, shpT (n := 1) thD_nil, ?_⟩
    rw [if_neg (by decide)]
    show (match deq (.tup xs) (.tup []) with | true => _ | false => _)
    rw [deq_tup_nil]
    cases xs with
    | nil => exact h
    | cons x rest =>
      have hx0 := hx x List.mem_cons_self
      have hxr : ∀ d ∈ rest, thD 19 d := fun d hd => hx d (List.mem_cons_of_mem _ hd)
      simp only [List.length_cons] at hl
      walk_at "go"
      rw [atI0]
      cases x with
      | str w =>
        change Q (.bl (ansR w rest)) m at h
        unfold ansR at h
        walk_at "go"
        by_cases h1 : w = "run"
        · rw [if_pos h1] at h
          rw [decide_eq_true h1]
          walk_at "go"
          cases h2 : decide (((rest.length : Nat) : Int) = 1) with
          | false =>
            have h2' := of_decide_eq_false h2
            match rest, h2', h with
            | [], _, h => exact h
            | [_], z, _ => exact absurd rfl z
            | _ :: _ :: _, _, h => exact h
          | true =>
            have h2' := of_decide_eq_true h2
            match rest, h2', h, hxr with
            | [y], _, h, hxr =>
              walk_at "go"
              exact ⟨y, rfl, thg_of (hxr y List.mem_cons_self), h⟩
        · rw [if_neg h1] at h
          rw [decide_eq_false h1]
          walk_at "go"
          by_cases h3 : w = "thing"
          · rw [if_pos h3] at h
            rw [decide_eq_true h3]
            walk_at "go"
            cases h2 : decide (((rest.length : Nat) : Int) = 2) with
            | false =>
              have h2' := of_decide_eq_false h2
              match rest, h2', h with
              | [], _, h => exact h
              | [_], _, h => exact h
              | [_, _], z, _ => exact absurd rfl z
              | _ :: _ :: _ :: _, _, h => exact h
            | true =>
              have h2' := of_decide_eq_true h2
              match rest, h2', h, hxr with
              | [y, z], _, h, hxr =>
                have ty := thg_of (hxr y List.mem_cons_self)
                have tz := thg_of (hxr z (by simp))
                walk_at "go"
                refine ⟨y, rfl, ty, ?_⟩
                cases ey : isWhole y with
                | false =>
                  cases y with
                  | int i => cases ey
                  | _ => exact h
                | true =>
                  cases y with
                  | int i =>
                    walk_at "go"
                    refine ⟨z, rfl, tz, ?_⟩
                    cases ez : isWhole z with
                    | false =>
                      cases z with
                      | int i => cases ez
                      | _ => exact h
                    | true =>
                      cases z with
                      | int j =>
                        walk_at "go"
                        cases e0 : decide (0 ≤ i) <;> (change Q (.bl (decide (0 ≤ i) && decide (i ≤ 1))) m at h; rw [e0] at h; exact h)
                      | _ => cases ez
                  | _ => cases ey
          · rw [if_neg h3] at h
            rw [decide_eq_false h3]
            exact h
      | non => exact h
      | bl b => exact h
      | int i => exact h
      | lst ds => exact h
      | tup ds => exact h
      | _ => cases hx0
  all_goals (intros; walk_at "go"; refine ⟨_, rfl, by assumption, ?_⟩; walk_at "go"; assumption)
def answB : D → Bool
  | .tup xs => decide (1 ≤ xs.length) && (decide (xs.length ≤ 4) && xs.all ansB)
  | _ => false
def sp_are_answers : SpD := fun ds m P _ => ∃ d, ds = [d] ∧ Thg d ∧ P (.bl (answB d)) m
def rd_are_answers : DS :=
    sSeq (sIf (rOr (rNot (rTru (rCB cIsi (rCons (rV 0) (rCons (rC (.ty "tuple")) (rNil)))))) (rNot (rTst (rChain oLe oLe (rC (.int 1)) (rCB cLen (rCons (rV 0) (rNil))) (rC (.int 4)))))) (sRet (rC (.bl false))) (sNext))
    (sRet (rCB cAll (rCons (rLc (iAny (rV 0)) [1] (gN 1) (qYes) (rCall sp_is_answer [] (rCons (rV 1) (rNil)))) (rNil))))
theorem ln_are_answers : ∀ ds m Q PX, sp_are_answers ds m Q PX → ds.length = 1 := fun ds m Q PX h => by repeat' (first | (subst_vars; rfl; done) | (refine Or.elim h (fun h => ?_) (fun h => ?_)) | (obtain ⟨_, h⟩ := h))
theorem pu_are_answers : ∀ ds m Q PX, sp_are_answers ds m Q PX → rd_are_answers (dEnds Q PX) (dstart ["answers", "answer"] ds) m := by
  rintro ds m Q PX ⟨d, rfl, hd, h⟩
  revert h
  refine hd.cases_ (p := fun d => Q (.bl (answB d)) m → rd_are_answers (dEnds Q PX) (dstart ["answers", "answer"] [d]) m) ?_ ?_ ?_ ?_ ?_ ?_ ?_
  all_goals (try (intros; walk_at "go"; assumption))
  intro xs hl hx h
  change Q (.bl (decide (1 ≤ xs.length) && (decide (xs.length ≤ 4) && xs.all ansB))) m at h
  walk_at "go"
  cases h1 : decide ((1 : Int) ≤ (xs.length : Nat)) with
  | false =>
    have := of_decide_eq_false h1
    rw [decide_eq_false (by omega : ¬ 1 ≤ xs.length)] at h
    exact h
  | true =>
    have := of_decide_eq_true h1
    rw [decide_eq_true (by omega : 1 ≤ xs.length), Bool.true_and] at h
    walk_at "go"
    cases h2 : decide (((xs.length : Nat) : Int) ≤ 4) with
    | false =>
      have := of_decide_eq_false h2
      rw [decide_eq_false (by omega : ¬ xs.length ≤ 4)] at h
      exact h
    | true =>
      have := of_decide_eq_true h2
      rw [decide_eq_true (by omega : xs.length ≤ 4), Bool.true_and] at h
      walk_at "go"
      refine comp_map (fun d => .bl (ansB d)) (by omega) trivial (fun d hd Q q => ?_) ?_
      · exact ⟨d, rfl, thg_of (hx d hd), q⟩
      · walk_at "dl"
        rw [show xs.map (fun d => D.bl (ansB d)) = (xs.map ansB).map D.bl from by rw [List.map_map]; rfl, boolsD_map]
        dsimp only
        rw [all_id]
        exact h
def thenB : D → Bool
  | .str w => decide (w ∈ ([Str.ofString "stay", Str.ofString "again", Str.ofString "stop"] : List Str))
  | _ => false
def sp_is_then : SpD := fun ds m P _ => ∃ d, ds = [d] ∧ Thg d ∧ P (.bl (thenB d)) m
def rd_is_then : DS :=
    sRet (rAndV (rCB cIsi (rCons (rV 0) (rCons (rC (.ty "str")) (rNil)))) (rOp (oInN false) (rV 0) (rC (.tup [.str "stay", .str "again", .str "stop"]))))
theorem ln_is_then : ∀ ds m Q PX, sp_is_then ds m Q PX → ds.length = 1 := fun ds m Q PX h => by repeat' (first | (subst_vars; rfl; done) | (refine Or.elim h (fun h => ?_) (fun h => ?_)) | (obtain ⟨_, h⟩ := h))
theorem pu_is_then : ∀ ds m Q PX, sp_is_then ds m Q PX → rd_is_then (dEnds Q PX) (dstart ["word"] ds) m := by
  rintro ds m Q PX ⟨d, rfl, hd, h⟩
  revert h
  refine hd.cases_ (p := fun d => Q (.bl (thenB d)) m → rd_is_then (dEnds Q PX) (dstart ["word"] [d]) m) ?_ ?_ ?_ ?_ ?_ ?_ ?_
  all_goals (try (intros; walk_at "go"; assumption))
  intro w hl hx h
  walk_at "go"
  rw [if_neg (by decide)]
  show Q (.bl (([Str.ofString "stay", Str.ofString "again", Str.ofString "stop"].map D.str).any fun z => deq z (.str w))) m
  rw [any_strs]
  exact h
end
section
def rFs (p d l a t : D) : List (Str × D) := [("part", p), ("deed", d), ("looks", l), ("answers", a), ("then", t)]
def rOut (b1 b2 b3 : Bool) (A : Prop) (B : Str → Prop) : Prop := match b1, b2, b3 with
  | true, true, true => A
  | false, _, _ => B "no name"
  | true, false, _ => B "no looks"
  | true, true, false => B "no answers"
def sp_Rule___init__ : SpD := fun ds m P PX => ∃ (q : Addr) (p d l a t : D), ds = [.adr q, p, d, l, a, t] ∧ m q = some (.ins "Rule" []) ∧ Thg p ∧ Thg d ∧ Thg l ∧ Thg a ∧ Thg t ∧
  rOut (nmD p && (isNone d || nmD d)) (looksB l) (answB a && thenB t) (P .non (mset m q (.ins "Rule" (rFs p d l a t)))) (fun y => PX "BadRule" [("why", .str y)] m)
def rd_Rule___init__ : DS :=
    sSeq (sIf (rOr (rNot (rTru (rCall sp_is_name [] (rCons (rV 1) (rNil))))) (rAnd (rTst (rOp (oIsN true) (rV 2) (rC .non))) (rNot (rTru (rCall sp_is_name [] (rCons (rV 2) (rNil))))))) (sRaise "BadRule" (rCons (rC (.str "no name")) (rNil))) (sNext))
    (sSeq (sIf (rNot (rTru (rCall sp_are_looks [] (rCons (rV 3) (rNil))))) (sRaise "BadRule" (rCons (rC (.str "no looks")) (rNil))) (sNext))
    (sSeq (sIf (rOr (rNot (rTru (rCall sp_are_answers [] (rCons (rV 4) (rNil))))) (rNot (rTru (rCall sp_is_then [] (rCons (rV 5) (rNil)))))) (sRaise "BadRule" (rCons (rC (.str "no answers")) (rNil))) (sNext))
    (sSeq (sAsgM (gTupD 3 (gConsD (gFld "Rule" "part" (rV 0)) (gConsD (gFld "Rule" "deed" (rV 0)) (gConsD (gFld "Rule" "looks" (rV 0)) (gNilD))))) (rTup (rCons (rV 1) (rCons (rV 2) (rCons (rV 3) (rNil))))))
    (sAsgM (gTupD 2 (gConsD (gFld "Rule" "answers" (rV 0)) (gConsD (gFld "Rule" "then" (rV 0)) (gNilD)))) (rTup (rCons (rV 4) (rCons (rV 5) (rNil))))))))
theorem ln_Rule___init__ : ∀ ds m Q PX, sp_Rule___init__ ds m Q PX → ds.length = 6 := fun ds m Q PX h => by repeat' (first | (subst_vars; rfl; done) | (refine Or.elim h (fun h => ?_) (fun h => ?_)) | (obtain ⟨_, h⟩ := h))
def ruMid : DS := sSeq (sIf (rNot (rTru (rCall sp_are_looks [] (rCons (rV 3) (rNil))))) (sRaise "BadRule" (rCons (rC (.str "no looks")) (rNil))) (sNext))
    (sSeq (sIf (rOr (rNot (rTru (rCall sp_are_answers [] (rCons (rV 4) (rNil))))) (rNot (rTru (rCall sp_is_then [] (rCons (rV 5) (rNil)))))) (sRaise "BadRule" (rCons (rC (.str "no answers")) (rNil))) (sNext))
    (sSeq (sAsgM (gTupD 3 (gConsD (gFld "Rule" "part" (rV 0)) (gConsD (gFld "Rule" "deed" (rV 0)) (gConsD (gFld "Rule" "looks" (rV 0)) (gNilD))))) (rTup (rCons (rV 1) (rCons (rV 2) (rCons (rV 3) (rNil))))))
    (sAsgM (gTupD 2 (gConsD (gFld "Rule" "answers" (rV 0)) (gConsD (gFld "Rule" "then" (rV 0)) (gNilD)))) (rTup (rCons (rV 4) (rCons (rV 5) (rNil)))))))
def ruTail : DS := sSeq (sAsgM (gTupD 3 (gConsD (gFld "Rule" "part" (rV 0)) (gConsD (gFld "Rule" "deed" (rV 0)) (gConsD (gFld "Rule" "looks" (rV 0)) (gNilD))))) (rTup (rCons (rV 1) (rCons (rV 2) (rCons (rV 3) (rNil))))))
    (sAsgM (gTupD 2 (gConsD (gFld "Rule" "answers" (rV 0)) (gConsD (gFld "Rule" "then" (rV 0)) (gNilD)))) (rTup (rCons (rV 4) (rCons (rV 5) (rNil)))))
theorem pu_Rule___init__ : ∀ ds m Q PX, sp_Rule___init__ ds m Q PX → rd_Rule___init__ (dEnds Q PX) (dstart ["self", "part", "deed", "looks", "answers", "then"] ds) m := by
  rintro ds m Q PX ⟨q, p, d, l, a, t, rfl, hq, hp, hd, hl, ha, ht, h⟩
  have t3 : ∀ h : Q .non (mset m q (.ins "Rule" (rFs p d l a t))), ruTail (dEnds Q PX) [some (.adr q), some p, some d, some l, some a, some t] m := by
    intro h
    walk_at "go"
    rw [hq]
    dsimp only
    have pl : ∀ {f : Str} {v : D} {fs : List (Str × D)} {k : Nat}, fs.length ≤ k → (putFd f v fs).length ≤ k + 1 := fun hk => Nat.le_trans (putFd_len _ _ _) (by omega)
    have p1 : ∀ {fs : List (Str × D)}, fs.length ≤ 5 → fs.length < 900 := fun hk => by omega
    refine ⟨rfl, by decide, ?_⟩
    walk_at "go"
    rw [mset_same]; dsimp only; refine ⟨rfl, p1 (Nat.le_trans (pl (Nat.le_refl _)) (by decide)), ?_⟩; rw [mset_mset]; walk_at "go"
    rw [mset_same]; dsimp only; refine ⟨rfl, p1 (Nat.le_trans (pl (pl (Nat.le_refl _))) (by decide)), ?_⟩; rw [mset_mset]; walk_at "go"
    rw [mset_same]; dsimp only; refine ⟨rfl, p1 (Nat.le_trans (pl (pl (pl (Nat.le_refl _)))) (by decide)), ?_⟩; rw [mset_mset]; walk_at "go"
    rw [mset_same]; dsimp only; refine ⟨rfl, p1 (Nat.le_trans (pl (pl (pl (pl (Nat.le_refl _))))) (by decide)), ?_⟩; rw [mset_mset]; walk_at "go"
    exact h
  have t2 : ∀ h : rOut true (looksB l) (answB a && thenB t) (Q .non (mset m q (.ins "Rule" (rFs p d l a t)))) (fun y => PX "BadRule" [("why", .str y)] m), ruMid (dEnds Q PX) [some (.adr q), some p, some d, some l, some a, some t] m := by
    intro h
    walk_at "go"
    refine ⟨l, rfl, hl, ?_⟩
    cases e4 : looksB l with
    | false => rw [e4] at h; exact h
    | true =>
      rw [e4] at h
      walk_at "go"
      refine ⟨a, rfl, ha, ?_⟩
      cases e5 : answB a with
      | false => rw [e5] at h; exact h
      | true =>
        rw [e5, Bool.true_and] at h
        walk_at "go"
        refine ⟨t, rfl, ht, ?_⟩
        cases e6 : thenB t with
        | false => rw [e6] at h; exact h
        | true => rw [e6] at h; exact t3 h
  walk_at "go"
  refine ⟨p, rfl, hp, ?_⟩
  cases e1 : nmD p with
  | false => rw [e1] at h; exact h
  | true =>
    rw [e1, Bool.true_and] at h
    walk_at "go"
    cases e2 : isNone d with
    | true => rw [e2] at h; exact t2 h
    | false =>
      rw [e2, Bool.false_or] at h
      walk_at "go"
      refine ⟨d, rfl, hd, ?_⟩
      cases e3 : nmD d with
      | false => rw [e3] at h; exact h
      | true => rw [e3] at h; exact t2 h
end
section
/-! # looks in brackets -/
def looksDD (w : List Nat) : D := if w = [46, 46, 46] then .non else .tup ((piecesR w).map lookD)
def lksR (w : List Nat) : Option (Option (List Lk)) := if w = [46, 46, 46] then some none else match allG ((piecesR w).map lookR) with
  | some ls => if ls.length ≤ 2 then some (some ls) else none
  | none => none
/-- right looks of a call -/
def LksN (L : Option (List Lk)) : Prop := ∀ ls, L = some ls → ls.length ≤ 2 ∧ ∀ l ∈ ls, l.dep ≤ 2 ∧ l.Rd
theorem lks_read (w : List Nat) : (∃ L, lksR w = some L ∧ looksDD w = oL L ∧ looksB (looksDD w) = true ∧ LksN L) ∨ (lksR w = none ∧ looksB (looksDD w) = false) := by
  unfold lksR looksDD
  by_cases h : w = [46, 46, 46]
  · rw [if_pos h, if_pos h]
    exact .inl ⟨none, rfl, rfl, rfl, fun ls e => by cases e⟩
  · rw [if_neg h, if_neg h]
    have e : looksB (.tup ((piecesR w).map lookD)) = (decide (((piecesR w).map lookD).length ≤ 2) && ((piecesR w).map lookD).all lookB) := rfl
    rw [e]
    rcases allG_read (f := lookR) (g := lookD) (d := Lk.d) (B := lookB) (N := fun (l : Lk) => l.dep ≤ 2 ∧ l.Rd) (fun w => by
      rcases look_read w with ⟨l, a, b, c, d, f⟩ | h
      · exact .inl ⟨l, a, b, c, d, f⟩
      · exact .inr h) (piecesR w) with ⟨ls, e1, e2, e3, e4⟩ | ⟨e1, e2⟩
    · rw [e1, e3, Bool.and_true]
      dsimp only
      have el : ((piecesR w).map lookD).length = ls.length := by rw [e2, List.length_map]
      rw [el]
      by_cases h2 : ls.length ≤ 2
      · rw [if_pos h2, decide_eq_true h2]
        exact .inl ⟨some ls, rfl, by rw [e2]; rfl, rfl, fun ls' z => by cases z; exact ⟨h2, e4⟩⟩
      · rw [if_neg h2, decide_eq_false h2]
        exact .inr ⟨rfl, rfl⟩
    · rw [e1, e2, Bool.and_false]
      exact .inr ⟨rfl, rfl⟩
theorem pcL_len (w : List Nat) : (piecesR w).length ≤ w.length + 1 := by
  unfold piecesR
  split
  · exact Nat.zero_le _
  · unfold pcL
    have := (pcT_len w).1
    rw [List.length_append]; simp; omega
/-- all that stands in a text stands in its pieces, and nothing else -/
theorem pcF_mem : ∀ (w : List Nat) (st : List (List Nat) × List Nat × Int) (c : Nat), ((∃ p ∈ (w.foldl pcS st).1, c ∈ p) ∨ c ∈ (w.foldl pcS st).2.1) → ((∃ p ∈ st.1, c ∈ p) ∨ c ∈ st.2.1) ∨ c ∈ w
  | [], st, c, h => .inl h
  | a :: r, st, c, h => by
    rcases pcF_mem r (pcS st a) c h with z | z
    · unfold pcS at z
      split at z
      · rcases z with ⟨p, hp, z⟩ | z
        · rcases List.mem_append.mp hp with hp | hp
          · exact .inl (.inl ⟨p, hp, z⟩)
          · rw [List.mem_singleton.mp hp] at z; exact .inl (.inr z)
        · cases z
      · rcases z with z | z
        · exact .inl (.inl z)
        · rcases List.mem_append.mp z with z | z
          · exact .inl (.inr z)
          · exact .inr (by rw [List.mem_singleton.mp z]; exact List.mem_cons_self)
    · exact .inr (List.mem_cons_of_mem _ z)
theorem pcF_lenp : ∀ (w : List Nat) (st : List (List Nat) × List Nat × Int) (k : Nat), (∀ p ∈ st.1, p.length ≤ k) → st.2.1.length ≤ k → (∀ p ∈ (w.foldl pcS st).1, p.length ≤ k + w.length) ∧ (w.foldl pcS st).2.1.length ≤ k + w.length
  | [], st, k, h1, h2 => ⟨h1, h2⟩
  | a :: r, st, k, h1, h2 => by
    have := pcF_lenp r (pcS st a) (k + 1) (fun p hp => by
      unfold pcS at hp
      split at hp
      · rcases List.mem_append.mp hp with hp | hp
        · have := h1 p hp; omega
        · rw [List.mem_singleton.mp hp]; omega
      · have := h1 p hp; omega) (by
      unfold pcS
      split
      · exact Nat.zero_le _
      · rw [List.length_append]; simp; omega)
    rw [List.foldl_cons, List.length_cons]
    refine ⟨fun p hp => ?_, ?_⟩
    · have := this.1 p hp; omega
    · have := this.2; omega
theorem pieces_ok {w : List Nat} (h : LxOk w) : ∀ p ∈ piecesR w, LxOk p := by
  intro p hp
  unfold piecesR at hp
  split at hp
  · cases hp
  · unfold pcL at hp
    have hl := pcF_lenp w ([], [], 0) 0 (fun _ z => by cases z) (Nat.le_refl _)
    have hm := pcF_mem w ([], [], 0)
    rw [Nat.zero_add] at hl
    have cod : ∀ c, c ∈ p → c < 1114112 := fun c hc => by
      have : ((∃ p ∈ (w.foldl pcS ([], [], 0)).1, c ∈ p) ∨ c ∈ (w.foldl pcS ([], [], 0)).2.1) := by
        rcases List.mem_append.mp hp with hp | hp
        · exact .inl ⟨p, hp, hc⟩
        · rw [List.mem_singleton.mp hp] at hc; exact .inr hc
      rcases hm c this with (⟨q, hq, _⟩ | z) | z
      · cases hq
      · cases z
      · exact h.cod c z
    refine ⟨?_, cod⟩
    rcases List.mem_append.mp hp with hp | hp
    · exact Nat.le_trans (hl.1 p hp) h.len
    · rw [List.mem_singleton.mp hp]; exact Nat.le_trans hl.2 h.len
def sp_looks_in : SpD := fun ds m P _ => ∃ w : Str, ds = [.str w] ∧ LxOk (TL.tl w) ∧ ∀ m', Kp [] m m' → P (looksDD (TL.tl w)) m'
def rd_looks_in : DS :=
    sSeq (sIf (rTst (rOp oEq (rV 0) (rC (.str "...")))) (sRet (rC .non)) (sNext))
    (sRet (rCB cTup (rCons (rLc (iAny (rCall sp_pieces [] (rCons (rV 0) (rNil)))) [1] (gN 1) (qYes) (rCall sp_look_in [] (rCons (rV 1) (rNil)))) (rNil))))
theorem ln_looks_in : ∀ ds m Q PX, sp_looks_in ds m Q PX → ds.length = 1 := fun ds m Q PX h => by repeat' (first | (subst_vars; rfl; done) | (refine Or.elim h (fun h => ?_) (fun h => ?_)) | (obtain ⟨_, h⟩ := h))
theorem pu_looks_in : ∀ ds m Q PX, sp_looks_in ds m Q PX → rd_looks_in (dEnds Q PX) (dstart ["inside", "piece"] ds) m := by
  rintro ds m Q PX ⟨w, rfl, hx, h⟩
  have hw := hx.len
  have hwl := TL.len_tl w
  unfold looksDD at h
  walk_at "go"
  rw [if_neg Bool.false_ne_true, eq_str (l := [46, 46, 46]) (by decide)]
  by_cases h1 : TL.tl w = [46, 46, 46]
  · rw [decide_eq_true h1]
    rw [if_pos h1] at h
    exact h m (Kp.refl _ _)
  · rw [decide_eq_false h1]
    rw [if_neg h1] at h
    walk_at "go"
    refine ⟨w, rfl, hx, fun m' kp => ?_⟩
    have pl := pcL_len (TL.tl w)
    walk_at "dl"
    refine comp_on (piecesR (TL.tl w)) (fun l => .str (sgnT l)) (fun l => lookD l) (by omega) trivial (fun l hl Q' h' => ?_) ?_
    · walk_at "go"
      exact ⟨_, rfl, by rw [tl_sgnT]; exact pieces_ok hx l hl, by rw [tl_sgnT]; exact h'⟩
    exact h m' kp
def lksT : Option (List Lk) → Str
  | none => "..."
  | some ls => Txt.join "," (ls.map Lk.text)
def callT (p : Str) (d : Option Str) (L : Option (List Lk)) : Str := p ++ ("." : Str) ++ d.getD "*" ++ ("(" : Str) ++ lksT L ++ (")" : Str)
theorem lks_B {L : Option (List Lk)} (h : LksN L) : TxB 2004 (lksT L) := by
  cases L with
  | none => exact (TxB.lit "..." (n := 3)).mono
  | some ls =>
    obtain ⟨h1, h2⟩ := h ls rfl
    exact TxB.join (q := 2) (n := 1001) (k := 1) (y := ",") (l := ls.map Lk.text) (fun s hs => by
      obtain ⟨l, hl, rfl⟩ := List.mem_map.mp hs
      exact look_B (h2 l hl).2 (h2 l hl).1) (TxB.lit ",") (by rw [List.length_map]; exact h1)
def sp_call_text : SpD := fun ds m P _ => ∃ (p : Str) (d : Option Str) (L : Option (List Lk)), ds = [.str p, oS d, oL L] ∧ nmB p = true ∧ (∀ x, d = some x → nmB x = true) ∧ LksN L ∧ P (.str (callT p d L)) m
def rd_call_text : DS :=
    sSeq (sSet 3 (rC (.str "...")))
    (sSeq (sIf (rTst (rOp (oIsN true) (rV 2) (rC .non))) (sSet 3 (rJoin (rC (.str ",")) (rLc (iAny (rV 2)) [4] (gN 4) (qYes) (rCall (sp_look_text 2) [] (rCons (rV 4) (rNil)))))) (sNext))
    (sRet (rOp oAdd (rOp oAdd (rOp oAdd (rOp oAdd (rOp oAdd (rV 0) (rC (.str "."))) (rOrT (rV 1) (rC (.str "*")))) (rC (.str "("))) (rV 3)) (rC (.str ")")))))
def T_call_text_3 : DS := sRet (rOp oAdd (rOp oAdd (rOp oAdd (rOp oAdd (rOp oAdd (rV 0) (rC (.str "."))) (rOrT (rV 1) (rC (.str "*")))) (rC (.str "("))) (rV 3)) (rC (.str ")")))
theorem ln_call_text : ∀ ds m Q PX, sp_call_text ds m Q PX → ds.length = 3 := fun ds m Q PX h => by repeat' (first | (subst_vars; rfl; done) | (refine Or.elim h (fun h => ?_) (fun h => ?_)) | (obtain ⟨_, h⟩ := h))
theorem pu_call_text : ∀ ds m Q PX, sp_call_text ds m Q PX → rd_call_text (dEnds Q PX) (dstart ["part", "deed", "looks", "inside", "look"] ds) m := by
  rintro ds m Q PX ⟨p, d, L, rfl, hp, hd, hL, h⟩
  have pB := (nm_B hp).1
  have LB := (lks_B hL).1
  have e1 : Str.length "." = 1 := by decide
  have e2 : Str.length "(" = 1 := by decide
  have e3 : Str.length ")" = 1 := by decide
  have e4 : Str.length "," = 1 := by decide
  have e5 : Str.length "*" = 1 := by decide
  have fin : T_call_text_3 (dEnds Q PX) [some (.str p), some (oS d), some (oL L), some (.str (lksT L)), none] m := by
    unfold callT at h
    cases d with
    | none =>
      walk_at "dl"
      repeat (refine ⟨len_line (by (try simp only [PySem.Str.length_append]); omega), ?_⟩; walk_at "dl")
      exact h
    | some x =>
      have xB := (nm_B (hd x rfl)).1
      have x0 := (nm_len (hd x rfl)).1
      walk_at "dl"
      refine ⟨len_line (by omega), ?_⟩
      walk_at "dl"
      refine ⟨len_line (by omega), ?_⟩
      rw [if_neg (by omega)]
      walk_at "dl"
      repeat (refine ⟨len_line (by (try simp only [PySem.Str.length_append]); omega), ?_⟩; walk_at "dl")
      exact h
  walk_at "dl"
  cases L with
  | none => exact fin
  | some ls =>
    obtain ⟨h1, h2⟩ := hL ls rfl
    walk_at "dl"
    refine comp_on ls Lk.d (fun l => .str l.text) (by omega) trivial (fun l hl Q' h' => ?_) ?_
    · walk_at "go"
      exact ⟨l, rfl, (h2 l hl).1, (h2 l hl).2.ok (h2 l hl).1, h'⟩
    have et : textsD (ls.map fun l => D.str l.text) = some (ls.map Lk.text) := textsD_strs Lk.text ls
    have s1 : ((ls.map Lk.text).map (·.length)).sum ≤ (ls.map Lk.text).length * 1001 := sum_len fun x hx => by
      obtain ⟨l, hl, rfl⟩ := List.mem_map.mp hx
      exact (look_B (h2 l hl).2 (h2 l hl).1).1
    rw [List.length_map] at s1
    walk_at "dl"
    rw [et]
    dsimp only
    exact ⟨by rw [e4, List.length_map]; omega, fin⟩
end
section
/-! # answers as texts -/
inductive AnT where
  | num (n : Int)
  | thing (k n : Int)
  | run (s : Str)
def AnT.d : AnT → D
  | .num n => .int n
  | .thing k n => .tup [.str "thing", .int k, .int n]
  | .run s => .tup [.str "run", .str s]
def AnT.N : AnT → Prop
  | .num n => N60 n
  | .thing k n => (0 ≤ k ∧ k ≤ 1) ∧ N60 n
  | .run s => nmB s = true
def antR (w : List Nat) : Option AnT :=
  if w.take 1 = [64] then (if nmB (sgnT (w.drop 1)) = true then some (.run (sgnT (w.drop 1))) else none)
  else if w.take 1 = [35] then (match numR ((w.drop 1).take 1), moreR (w.drop 2) with
    | some k, some n => if 0 ≤ k ∧ k ≤ 1 then some (.thing k n) else none
    | _, _ => none)
  else (numR w).map .num
def antDD (w : List Nat) : D :=
  if w.take 1 = [64] then .tup [.str "run", .str (sgnT (w.drop 1))]
  else if w.take 1 = [35] then .tup [.str "thing", oI? (numR ((w.drop 1).take 1)), oI? (moreR (w.drop 2))]
  else oI? (numR w)
def antW : AnT → Str
  | .num n => dig n
  | .thing k n => ("#" : Str) ++ dig k ++ moreT n
  | .run s => ("@" : Str) ++ s
theorem head_drop {w : List Nat} {c : Nat} (h : w.take 1 = [c]) : w = c :: w.drop 1 := by
  cases w with
  | nil => cases h
  | cons a r =>
    have : [a] = [c] := h
    cases this; rfl
theorem dig01 {k : Int} (h : 0 ≤ k ∧ k ≤ 1) : TL.tl (dig k) = [48 + k.toNat] := by
  rw [tl_dig, if_neg (by omega), TL.numL_lt (by omega)]
  congr 1
  omega
theorem ant_back {w : List Nat} {t : AnT} (h : antR w = some t) : TL.tl (antW t) = w ∧ t.N := by
  unfold antR at h
  split at h
  · rename_i h1
    split at h
    · rename_i h2
      cases h
      refine ⟨?_, h2⟩
      show TL.tl (("@" : Str) ++ sgnT (w.drop 1)) = w
      rw [TL.tl_append, tl_sgnT]
      exact (head_drop h1).symm
    · cases h
  · split at h
    · rename_i h1
      cases hk : numR ((w.drop 1).take 1) with
      | none => rw [hk] at h; cases h
      | some k =>
        cases hm : moreR (w.drop 2) with
        | none => rw [hk, hm] at h; cases h
        | some n =>
          rw [hk, hm] at h
          dsimp only at h
          split at h
          · rename_i h2
            cases h
            obtain ⟨e1, _⟩ := dig_num hk
            obtain ⟨e2, hN⟩ := more_back hm
            refine ⟨?_, h2, hN⟩
            show TL.tl (("#" : Str) ++ dig k ++ moreT n) = w
            rw [TL.tl_append, TL.tl_append, e1, e2]
            conv => rhs; rw [head_drop h1]
            show [35] ++ (w.drop 1).take 1 ++ w.drop 2 = 35 :: w.drop 1
            rw [show w.drop 2 = (w.drop 1).drop 1 by rw [List.drop_drop], List.append_assoc, List.take_append_drop]; rfl
          · cases h
    · cases hm : numR w with
      | none => rw [hm] at h; cases h
      | some n => rw [hm] at h; cases h; exact dig_num hm
theorem ant_text_back {t : AnT} (h : t.N) : antR (TL.tl (antW t)) = some t := by
  unfold antR
  cases t with
  | num n =>
    have f : ∀ c, (c < 45 ∨ c = 64) → (TL.tl (dig n)).take 1 ≠ [c] := fun c hc z => by
      have := dig_first (n := n) (r := []) c (by omega)
      rw [List.append_nil] at this
      exact this z
    rw [if_neg (show ¬ (TL.tl (antW (.num n))).take 1 = [64] from f 64 (by omega)), if_neg (show ¬ (TL.tl (antW (.num n))).take 1 = [35] from f 35 (by omega))]
    show (numR (TL.tl (dig n))).map AnT.num = _
    rw [num_dig h]; rfl
  | thing k n =>
    obtain ⟨hk, hn⟩ := h
    have e : TL.tl (antW (.thing k n)) = 35 :: (48 + k.toNat) :: TL.tl (moreT n) := by
      show TL.tl (("#" : Str) ++ dig k ++ moreT n) = _
      rw [TL.tl_append, TL.tl_append, dig01 hk]; rfl
    rw [e, if_neg (by simp), if_pos (show List.take 1 (35 :: (48 + k.toNat) :: TL.tl (moreT n)) = [35] from rfl)]
    show (match numR [48 + k.toNat], moreR (TL.tl (moreT n)) with
      | some k, some n => if 0 ≤ k ∧ k ≤ 1 then some (AnT.thing k n) else none
      | _, _ => none) = _
    rw [← dig01 hk, num_dig (show N60 k from Nat.lt_of_lt_of_le (show k.natAbs < 10 by omega) (by decide)), more_text_back hn]
    exact if_pos hk
  | run s =>
    have e : TL.tl (antW (.run s)) = 64 :: TL.tl s := by
      show TL.tl (("@" : Str) ++ s) = _
      rw [TL.tl_append]; rfl
    rw [e, if_pos (show List.take 1 (64 :: TL.tl s) = [64] from rfl)]
    show (if nmB (sgnT (TL.tl s)) = true then some (AnT.run (sgnT (TL.tl s))) else none) = _
    rw [sgnT_tl, if_pos (show nmB s = true from h)]
theorem ant_read (w : List Nat) : (∃ t, antR w = some t ∧ antDD w = t.d ∧ ansB (antDD w) = true ∧ t.N) ∨ (antR w = none ∧ ansB (antDD w) = false) := by
  cases ha : antR w with
  | some t =>
    left
    obtain ⟨_, hN⟩ := ant_back ha
    refine ⟨t, rfl, ?_, ?_, hN⟩
    all_goals
      unfold antR at ha
      unfold antDD
      split at ha
      · rename_i h1
        rw [if_pos h1]
        split at ha
        · rename_i h2
          cases ha
          first | rfl | exact h2
        · cases ha
      · rename_i h1
        rw [if_neg h1]
        split at ha
        · rename_i h3
          rw [if_pos h3]
          cases hk : numR ((w.drop 1).take 1) with
          | none => rw [hk] at ha; cases ha
          | some k =>
            cases hm : moreR (w.drop 2) with
            | none => rw [hk, hm] at ha; cases ha
            | some n =>
              rw [hk, hm] at ha
              dsimp only at ha
              split at ha
              · rename_i h2
                cases ha
                first
                  | rfl
                  | (show (decide (0 ≤ k) && decide (k ≤ 1)) = true
                     rw [decide_eq_true h2.1, decide_eq_true h2.2]; rfl)
              · cases ha
        · rename_i h3
          rw [if_neg h3]
          cases hm : numR w with
          | none => rw [hm] at ha; cases ha
          | some n => rw [hm] at ha; cases ha; rfl
  | none =>
    right
    refine ⟨rfl, ?_⟩
    unfold antR at ha
    unfold antDD
    split at ha
    · rename_i h1
      rw [if_pos h1]
      split at ha
      · cases ha
      · rename_i h2
        show nmB (sgnT (w.drop 1)) = false
        cases hb : nmB (sgnT (w.drop 1)) with
        | true => exact (h2 hb).elim
        | false => rfl
    · rename_i h1
      rw [if_neg h1]
      split at ha
      · rename_i h3
        rw [if_pos h3]
        cases hk : numR ((w.drop 1).take 1) with
        | none =>
          cases hm : moreR (w.drop 2) <;> rfl
        | some k =>
          cases hm : moreR (w.drop 2) with
          | none => rfl
          | some n =>
            rw [hk, hm] at ha
            dsimp only at ha
            split at ha
            · cases ha
            · rename_i h2
              show (decide (0 ≤ k) && decide (k ≤ 1)) = false
              rw [← Bool.not_eq_true]
              intro z
              rw [Bool.and_eq_true, decide_eq_true_eq, decide_eq_true_eq] at z
              exact h2 z
      · rename_i h3
        rw [if_neg h3]
        cases hm : numR w with
        | none => rfl
        | some n => rw [hm] at ha; cases ha
theorem antDD_th {w : List Nat} (h : LxOk w) : thD 2 (antDD w) := by
  have h1 := h.drop 1
  unfold antDD
  split
  · exact thD_tup (by simp) (List.forall_mem_cons.mpr ⟨thD_txt _ _, List.forall_mem_cons.mpr ⟨⟨by rw [sgnT_len]; have := h1.len; omega, h1.cod⟩, List.forall_mem_nil _⟩⟩)
  · split
    · exact thD_tup (by simp) (List.forall_mem_cons.mpr ⟨thD_txt _ _, List.forall_mem_cons.mpr ⟨oI_th _, List.forall_mem_cons.mpr ⟨oI_th _, List.forall_mem_nil _⟩⟩⟩)
    · exact oI_th _
theorem ant_B {t : AnT} (h : t.N) : TxB 64 (antW t) := by
  cases t with
  | num n => exact (dig_B (n := n) h).mono
  | thing k n => exact ((TxB.lit "#" (n := 1)).app (dig_B1 h.1.1 (by have := h.1.2; omega))).app (more_B h.2)
  | run s => exact ((TxB.lit "@" (n := 1)).app (nm_B h)).mono
def sp_answer_in : SpD := fun ds m P _ => ∃ w : Str, ds = [.str w] ∧ LxOk (TL.tl w) ∧ P (antDD (TL.tl w)) m
def rd_answer_in : DS :=
    sSeq (sIf (rTst (rOp oEq (rSl (rV 0) rNoP (rPart (rC (.int 1)))) (rC (.str "@")))) (sRet (rTup (rCons (rC (.str "run")) (rCons (rSl (rV 0) (rPart (rC (.int 1))) rNoP) (rNil))))) (sNext))
    (sSeq (sIf (rTst (rOp oEq (rSl (rV 0) rNoP (rPart (rC (.int 1)))) (rC (.str "#")))) (sRet (rTup (rCons (rC (.str "thing")) (rCons (rCall sp_number_in [] (rCons (rSl (rV 0) (rPart (rC (.int 1))) (rPart (rC (.int 2)))) (rNil))) (rCons (rCall sp_more_in [] (rCons (rSl (rV 0) (rPart (rC (.int 2))) rNoP) (rNil))) (rNil)))))) (sNext))
    (sRet (rCall sp_number_in [] (rCons (rV 0) (rNil)))))
theorem ln_answer_in : ∀ ds m Q PX, sp_answer_in ds m Q PX → ds.length = 1 := fun ds m Q PX h => by repeat' (first | (subst_vars; rfl; done) | (refine Or.elim h (fun h => ?_) (fun h => ?_)) | (obtain ⟨_, h⟩ := h))
theorem pu_answer_in : ∀ ds m Q PX, sp_answer_in ds m Q PX → rd_answer_in (dEnds Q PX) (dstart ["word"] ds) m := by
  rintro ds m Q PX ⟨w, rfl, hx, h⟩
  have hw := hx.len
  have hwl := TL.len_tl w
  unfold antDD at h
  have cut2 : ∀ z : Str, L2.cutS z (some 2) none = sgnT ((TL.tl z).drop 2) := fun z => cutK (k := 2) rfl
  walk_at "go"
  rw [if_neg Bool.false_ne_true, one_cut (c := 64) (by decide)]
  by_cases h1 : (TL.tl w).take 1 = [64]
  · rw [decide_eq_true h1]
    rw [if_pos h1] at h
    walk_at "go"
    rw [cut1]
    exact h
  · rw [decide_eq_false h1]
    rw [if_neg h1] at h
    walk_at "go"
    rw [if_neg Bool.false_ne_true, one_cut (c := 35) (by decide)]
    by_cases h2 : (TL.tl w).take 1 = [35]
    · rw [decide_eq_true h2]
      rw [if_pos h2] at h
      walk_at "go"
      rw [cut12]
      refine ⟨_, rfl, (hx.drop 1).take 1, ?_⟩
      rw [tl_sgnT]
      walk_at "go"
      rw [cut2]
      refine ⟨_, rfl, hx.drop 2, ?_⟩
      rw [tl_sgnT]
      exact ⟨by show 3 ≤ sizeLine; decide, h⟩
    · rw [decide_eq_false h2]
      rw [if_neg h2] at h
      walk_at "go"
      exact ⟨_, rfl, hx, h⟩
def sp_answer_text : SpD := fun ds m P _ => ∃ t : AnT, ds = [t.d] ∧ t.N ∧ P (.str (antW t)) m
def rd_answer_text : DS :=
    sSeq (sIf (rTru (rCall sp_is_whole [] (rCons (rV 0) (rNil)))) (sRet (rCB cStr (rCons (rV 0) (rNil)))) (sNext))
    (sSeq (sStar 1 2 (rV 0))
    (sSeq (sIf (rTst (rOp oEq (rV 1) (rC (.str "run")))) (sRet (rOp oAdd (rC (.str "@")) (rOp oIx (rV 2) (rC (.int 0))))) (sNext))
    (sRet (rOp oAdd (rOp oAdd (rC (.str "#")) (rCB cStr (rCons (rOp oIx (rV 2) (rC (.int 0))) (rNil)))) (rCall sp_more_text [] (rCons (rOp oIx (rV 2) (rC (.int 1))) (rNil)))))))
theorem ln_answer_text : ∀ ds m Q PX, sp_answer_text ds m Q PX → ds.length = 1 := fun ds m Q PX h => by repeat' (first | (subst_vars; rfl; done) | (refine Or.elim h (fun h => ?_) (fun h => ?_)) | (obtain ⟨_, h⟩ := h))
theorem pu_answer_text : ∀ ds m Q PX, sp_answer_text ds m Q PX → rd_answer_text (dEnds Q PX) (dstart ["answer", "word", "rest"] ds) m := by
  rintro ds m Q PX ⟨t, rfl, hN, h⟩
  cases t with
  | num n =>
    have hn : N60 n := hN
    walk_at "go"
    refine ⟨_, rfl, thg_of (n := 0) thD_int, ?_⟩
    walk_at "go"
    exact ⟨hn.nm.log, h⟩
  | thing k n =>
    obtain ⟨hk, hn⟩ := hN
    have hkN : N60 k := Nat.lt_of_lt_of_le (show k.natAbs < 10 by omega) (by decide)
    have kB : (Str.ofString (toString k)).length ≤ 1 := (dig_B1 hk.1 (by omega)).1
    have mB := (more_B hn).1
    have e1 : Str.length "#" = 1 := by decide
    walk_at "go"
    refine ⟨_, rfl, thg_of (n := 1) (thD_tup (by simp) (List.forall_mem_cons.mpr ⟨thD_txt _ _, List.forall_mem_cons.mpr ⟨thD_int, List.forall_mem_cons.mpr ⟨thD_int, List.forall_mem_nil _⟩⟩⟩)), ?_⟩
    walk_at "dl"
    refine ⟨by show 2 < 16000; decide, ?_⟩
    walk_at "dl"
    refine ⟨hkN.nm.log, ?_⟩
    walk_at "dl"
    refine ⟨len_line (by omega), ?_⟩
    walk_at "dl"
    refine ⟨n, rfl, hn, ?_⟩
    walk_at "dl"
    exact ⟨len_line (by rw [PySem.Str.length_append]; omega), h⟩
  | run s =>
    have hs : nmB s = true := hN
    have sB := (nm_B hs).1
    have e1 : Str.length "@" = 1 := by decide
    walk_at "go"
    refine ⟨_, rfl, thg_of (n := 1) (thD_tup (by simp) (List.forall_mem_cons.mpr ⟨thD_txt _ _, List.forall_mem_cons.mpr ⟨⟨by show s.length ≤ 100000; omega, (nm_B hs).2⟩, List.forall_mem_nil _⟩⟩)), ?_⟩
    walk_at "dl"
    refine ⟨by show 1 < 16000; decide, ?_⟩
    walk_at "dl"
    exact ⟨len_line (by omega), h⟩
abbrev sp__law_answer_written : SpD := sp_answer_text
def rd__law_answer_written : DS :=
    sSeq (sIf (rTru (rCB cIsi (rCons (rV 0) (rCons (rC (.ty "int")) (rNil))))) (sRet (rCB cStr (rCons (rV 0) (rNil)))) (sNext))
    (sSeq (sIf (rTst (rOp oEq (rOp oIx (rV 0) (rC (.int 0))) (rC (.str "run")))) (sRet (rOp oAdd (rC (.str "@")) (rOp oIx (rV 0) (rC (.int 1))))) (sNext))
    (sSeq (sIf (rTst (rOp oGe (rOp oIx (rV 0) (rC (.int 2))) (rC (.int 0)))) (sRet (rOp oAdd (rOp oAdd (rOp oAdd (rC (.str "#")) (rCB cStr (rCons (rOp oIx (rV 0) (rC (.int 1))) (rNil)))) (rC (.str "+"))) (rCB cStr (rCons (rOp oIx (rV 0) (rC (.int 2))) (rNil))))) (sNext))
    (sRet (rOp oAdd (rOp oAdd (rC (.str "#")) (rCB cStr (rCons (rOp oIx (rV 0) (rC (.int 1))) (rNil)))) (rCB cStr (rCons (rOp oIx (rV 0) (rC (.int 2))) (rNil)))))))
theorem ln__law_answer_written : ∀ ds m Q PX, sp__law_answer_written ds m Q PX → ds.length = 1 := ln_answer_text
theorem pu__law_answer_written : ∀ ds m Q PX, sp__law_answer_written ds m Q PX → rd__law_answer_written (dEnds Q PX) (dstart ["_law_answer_here"] ds) m := by
  rintro ds m Q PX ⟨t, rfl, hN, h⟩
  cases t with
  | num n =>
    have hn : N60 n := hN
    walk_at "go"
    exact ⟨hn.nm.log, h⟩
  | thing k n =>
    obtain ⟨hk, hn⟩ := hN
    have hkN : N60 k := Nat.lt_of_lt_of_le (show k.natAbs < 10 by omega) (by decide)
    have kB : (Str.ofString (toString k)).length ≤ 1 := (dig_B1 hk.1 (by omega)).1
    have nB : (Str.ofString (toString n)).length ≤ 61 := (dig_B hn).1
    have e1 : Str.length "#" = 1 := by decide
    have e2 : Str.length "+" = 1 := by decide
    have ht : antW (.thing k n) = ("#" : Str) ++ dig k ++ moreT n := rfl
    unfold moreT at ht
    rw [ht] at h
    walk_at "dl"
    by_cases h0 : 0 ≤ n
    · rw [decide_eq_true h0]
      rw [if_pos h0, ← app_assoc] at h
      walk_at "dl"
      refine ⟨hkN.nm.log, ?_⟩
      walk_at "dl"
      refine ⟨len_line (by omega), ?_⟩
      walk_at "dl"
      refine ⟨len_line (by rw [PySem.Str.length_append]; omega), ?_⟩
      walk_at "dl"
      refine ⟨hn.nm.log, ?_⟩
      walk_at "dl"
      exact ⟨len_line (by rw [PySem.Str.length_append, PySem.Str.length_append]; omega), h⟩
    · rw [decide_eq_false h0]
      rw [if_neg h0, show ("" : Str) ++ dig n = dig n from TL.ext_tl (by rw [TL.tl_append]; rfl)] at h
      walk_at "dl"
      refine ⟨hkN.nm.log, ?_⟩
      walk_at "dl"
      refine ⟨len_line (by omega), ?_⟩
      walk_at "dl"
      refine ⟨hn.nm.log, ?_⟩
      walk_at "dl"
      exact ⟨len_line (by rw [PySem.Str.length_append]; omega), h⟩
  | run s =>
    have hs : nmB s = true := hN
    have sB := (nm_B hs).1
    have e1 : Str.length "@" = 1 := by decide
    walk_at "dl"
    exact ⟨len_line (by omega), h⟩
theorem two_in {x : List Nat} {a b : Nat} {sa sb : Str} (ha : TL.tl sa = [a]) (hb : TL.tl sb = [b]) : ([D.str sa, D.str sb].any fun z => deq z (.str (sgnT x))) = decide (x = [a] ∨ x = [b]) := by
  have e : ∀ {s : Str} {c : Nat}, TL.tl s = [c] → (s = sgnT x ↔ x = [c]) := fun {s c} hs => by
    constructor
    · intro z
      rw [← hs, z, tl_sgnT]
    · intro z
      exact TL.ext_tl (by rw [hs, tl_sgnT, z])
  rw [List.any_cons, List.any_cons, List.any_nil, Bool.or_false, deq_ss, deq_ss, Bool.eq_iff_iff, Bool.or_eq_true, decide_eq_true_eq, decide_eq_true_eq, decide_eq_true_eq, e ha, e hb]
theorem int01 {k : Int} (h : 0 ≤ k ∧ k ≤ 1) : PySem.intText? (sgnT [48 + k.toNat]) = some k := by
  rcases (show k = 0 ∨ k = 1 by omega) with z | z
  · rw [z]; decide +kernel
  · rw [z]; decide +kernel
theorem num01 {x : List Nat} : (∃ k : Int, (0 ≤ k ∧ k ≤ 1) ∧ x = [48 + k.toNat] ∧ numR x = some k) ∨ (¬ (x = [48] ∨ x = [49]) ∧ ∀ k, numR x = some k → ¬ (0 ≤ k ∧ k ≤ 1)) := by
  have y : ∀ k : Int, 0 ≤ k ∧ k ≤ 1 → numR [48 + k.toNat] = some k := fun k hk => by
    rw [← dig01 hk]
    exact num_dig (Nat.lt_of_lt_of_le (show k.natAbs < 10 by omega) (by decide))
  by_cases h : x = [48] ∨ x = [49]
  · left
    rcases h with h | h
    · exact ⟨0, by decide, h, by rw [h]; exact y 0 (by decide)⟩
    · exact ⟨1, by decide, h, by rw [h]; exact y 1 (by decide)⟩
  · right
    refine ⟨h, fun k e hk => h ?_⟩
    have := (dig_num e).1
    rw [dig01 hk] at this
    rcases (show k = 0 ∨ k = 1 by omega) with z | z
    · left; rw [← this, z]; rfl
    · right; rw [← this, z]; rfl
def oA4 : Option AnT → D
  | none => .non
  | some t => t.d
abbrev sp__law_answer_read : SpD := fun ds m P _ => ∃ w : Str, ds = [.str w] ∧ LxOk (TL.tl w) ∧ P (oA4 (antR (TL.tl w))) m
def rd__law_answer_read : DS :=
    sSeq (sIf (rTst (rOp oEq (rSl (rV 0) rNoP (rPart (rC (.int 1)))) (rC (.str "@")))) (sSeq (sIf (rNot (rTru (rCall sp__law_is_name_v2 [] (rCons (rSl (rV 0) (rPart (rC (.int 1))) rNoP) (rNil))))) (sRet (rC .non)) (sNext))
    (sRet (rTup (rCons (rC (.str "run")) (rCons (rSl (rV 0) (rPart (rC (.int 1))) rNoP) (rNil)))))) (sNext))
    (sSeq (sIf (rTst (rOp oNe (rSl (rV 0) rNoP (rPart (rC (.int 1)))) (rC (.str "#")))) (sRet (rCall sp__law_number_v2 [] (rCons (rV 0) (rNil)))) (sNext))
    (sSeq (sSet 1 (rSl (rV 0) (rPart (rC (.int 2))) rNoP))
    (sSeq (sIf (rOr (rTst (rOp (oInN true) (rSl (rV 0) (rPart (rC (.int 1))) (rPart (rC (.int 2)))) (rLst (rCons (rC (.str "0")) (rCons (rC (.str "1")) (rNil)))))) (rTst (rOp (oInN true) (rSl (rV 1) rNoP (rPart (rC (.int 1)))) (rLst (rCons (rC (.str "+")) (rCons (rC (.str "-")) (rNil))))))) (sRet (rC .non)) (sNext))
    (sSeq (sIf (rTst (rOp oEq (rSl (rV 1) rNoP (rPart (rC (.int 1)))) (rC (.str "+")))) (sSeq (sSet 1 (rSl (rV 1) (rPart (rC (.int 1))) rNoP))
    (sIf (rTst (rOp oEq (rSl (rV 1) rNoP (rPart (rC (.int 1)))) (rC (.str "-")))) (sRet (rC .non)) (sNext))) (sNext))
    (sSeq (sSet 2 (rCall sp__law_number_v2 [] (rCons (rV 1) (rNil))))
    (sSeq (sIf (rTst (rOp (oIsN false) (rV 2) (rC .non))) (sRet (rC .non)) (sNext))
    (sRet (rTup (rCons (rC (.str "thing")) (rCons (rCB cIntT (rCons (rSl (rV 0) (rPart (rC (.int 1))) (rPart (rC (.int 2)))) (rNil))) (rCons (rV 2) (rNil))))))))))))
def T__law_answer_read_8 : DS := sSeq (sSet 2 (rCall sp__law_number_v2 [] (rCons (rV 1) (rNil))))
    (sSeq (sIf (rTst (rOp (oIsN false) (rV 2) (rC .non))) (sRet (rC .non)) (sNext))
    (sRet (rTup (rCons (rC (.str "thing")) (rCons (rCB cIntT (rCons (rSl (rV 0) (rPart (rC (.int 1))) (rPart (rC (.int 2)))) (rNil))) (rCons (rV 2) (rNil)))))))
theorem ln__law_answer_read : ∀ ds m Q PX, sp__law_answer_read ds m Q PX → ds.length = 1 := fun ds m Q PX h => by repeat' (first | (subst_vars; rfl; done) | (refine Or.elim h (fun h => ?_) (fun h => ?_)) | (obtain ⟨_, h⟩ := h))
theorem pu__law_answer_read : ∀ ds m Q PX, sp__law_answer_read ds m Q PX → rd__law_answer_read (dEnds Q PX) (dstart ["_law_word_here", "_law_more", "_law_number_here"] ds) m := by
  rintro ds m Q PX ⟨w, rfl, hx, h⟩
  have hw := hx.len
  have hwl := TL.len_tl w
  have cut2 : ∀ z : Str, L2.cutS z (some 2) none = sgnT ((TL.tl z).drop 2) := fun z => cutK (k := 2) rfl
  unfold antR at h
  walk_at "go"
  rw [if_neg Bool.false_ne_true, one_cut (c := 64) (by decide)]
  by_cases h1 : (TL.tl w).take 1 = [64]
  · rw [decide_eq_true h1]
    rw [if_pos h1] at h
    walk_at "go"
    rw [cut1]
    refine ⟨_, rfl, hx.drop 1, ?_⟩
    cases hn : nmB (sgnT ((TL.tl w).drop 1)) with
    | true =>
      rw [hn, if_pos rfl] at h
      walk_at "go"
      rw [cut1]
      exact h
    | false =>
      rw [hn, if_neg Bool.false_ne_true] at h
      exact h
  · rw [decide_eq_false h1]
    rw [if_neg h1] at h
    walk_at "go"
    rw [if_pos rfl, one_cut (c := 35) (by decide)]
    by_cases h2 : (TL.tl w).take 1 = [35]
    · rw [decide_eq_true h2]
      rw [if_pos h2] at h
      walk_at "go"
      rw [cut2]
      generalize hM : (TL.tl w).drop 2 = M at h
      have xM : LxOk M := hM ▸ hx.drop 2
      have lM := xM.len
      have sM := sgnT_len M
      walk_at "dl"
      rw [cut12]
      refine ⟨.inl ⟨rfl, rfl⟩, ?_⟩
      rw [if_pos rfl]
      show (match ![D.str "0", D.str "1"].any (fun z => deq z (.str (sgnT (((TL.tl w).drop 1).take 1)))) with | true => _ | false => _)
      rw [two_in (a := 48) (b := 49) (by decide) (by decide)]
      generalize hT : ((TL.tl w).drop 1).take 1 = T at h
      rcases num01 (x := T) with ⟨k, hk, eT, en⟩ | ⟨hn, hb⟩
      · have h01 : T = [48] ∨ T = [49] := by
          rw [eT]
          rcases (show k = 0 ∨ k = 1 by omega) with z | z
          · left; rw [z]; rfl
          · right; rw [z]; rfl
        rw [decide_eq_true h01]
        rw [en] at h
        -- behind the sign
        have fin : ∀ (K : List Nat), LxOk K → (numR K = none → Q .non m) → (∀ n, numR K = some n → Q (.tup [.str "thing", .int k, .int n]) m) → T__law_answer_read_8 (dEnds Q PX) [some (.str w), some (.str (sgnT K)), none] m := by
          intro K xK k1 k2
          walk_at "go"
          refine ⟨_, rfl, xK, ?_⟩
          rw [tl_sgnT]
          cases hn : numR K with
          | none => exact k1 hn
          | some n =>
            walk_at "dl"
            rw [cut12, hT, eT]
            refine ⟨len_line (by omega), by show 1 ≤ 640; decide, k, int01 hk, ?_⟩
            exact ⟨by show 3 ≤ sizeLine; decide, k2 n hn⟩
        have cutA : L2.cutS (sgnT M) none (some 1) = sgnT (M.take 1) := by
          have := cutT (z := sgnT M) (k := 1) rfl
          rw [tl_sgnT] at this
          exact this
        walk_at "dl"
        refine ⟨len_line (by omega), ?_⟩
        rw [cutA]
        walk_at "dl"
        refine ⟨by show 2 ≤ sizeLine; decide, ?_⟩
        walk_at "dl"
        refine ⟨.inl ⟨rfl, rfl⟩, ?_⟩
        rw [if_pos rfl]
        show (match ![D.str "+", D.str "-"].any (fun z => deq z (.str (sgnT (M.take 1)))) with | true => _ | false => _)
        rw [two_in (a := 43) (b := 45) (by decide) (by decide)]
        have res : ∀ K : List Nat, moreR M = numR K → (numR K = none → Q .non m) ∧ (∀ n, numR K = some n → Q (.tup [.str "thing", .int k, .int n]) m) := by
          intro K eK
          rw [eK] at h
          constructor
          · intro z; rw [z] at h; exact h
          · intro n z; rw [z] at h; dsimp only at h; rw [if_pos hk] at h; exact h
        unfold moreR at res
        by_cases m1 : M.take 1 = [43]
        · rw [decide_eq_true (Or.inl m1)]
          have lp := xM.drop 1
          have lpl := lp.len
          have lps := sgnT_len (M.drop 1)
          walk_at "dl"
          refine ⟨len_line (by omega), ?_⟩
          walk_at "dl"
          rw [if_neg Bool.false_ne_true, one_cut (c := 43) (by decide), tl_sgnT, decide_eq_true m1]
          walk_at "dl"
          refine ⟨len_line (by omega), ?_⟩
          rw [cut1, tl_sgnT]
          walk_at "dl"
          refine ⟨len_line (by omega), ?_⟩
          walk_at "dl"
          rw [if_neg Bool.false_ne_true, one_cut (c := 45) (by decide), tl_sgnT]
          by_cases m3 : (M.drop 1).take 1 = [45]
          · rw [decide_eq_true m3]
            have : Q .non m := by
              unfold moreR at h
              rw [if_neg (fun z => z.2 m3), if_neg (by rw [m1]; decide)] at h
              exact h
            exact this
          · rw [decide_eq_false m3]
            obtain ⟨k1, k2⟩ := res (M.drop 1) (by rw [if_pos ⟨m1, m3⟩])
            exact fin (M.drop 1) lp k1 k2
        · by_cases m2 : M.take 1 = [45]
          · rw [decide_eq_true (Or.inr m2)]
            walk_at "dl"
            refine ⟨len_line (by omega), ?_⟩
            walk_at "dl"
            rw [if_neg Bool.false_ne_true, one_cut (c := 43) (by decide), tl_sgnT, decide_eq_false m1]
            obtain ⟨k1, k2⟩ := res M (by rw [if_neg (fun z => m1 z.1), if_pos m2])
            exact fin M xM k1 k2
          · rw [decide_eq_false (fun z => z.elim m1 m2)]
            have : Q .non m := by
              unfold moreR at h
              rw [if_neg (fun z => m1 z.1), if_neg m2] at h
              exact h
            exact this
      · rw [decide_eq_false hn]
        have : Q .non m := by
          cases e1 : numR T with
          | none => rw [e1] at h; exact h
          | some k =>
            rw [e1] at h
            cases e2 : moreR M with
            | none => rw [e2] at h; exact h
            | some n =>
              rw [e2] at h
              dsimp only at h
              rw [if_neg (hb k e1)] at h
              exact h
        exact this
    · rw [decide_eq_false h2]
      rw [if_neg h2] at h
      walk_at "go"
      refine ⟨_, rfl, hx, ?_⟩
      cases hn : numR (TL.tl w) with
      | none => rw [hn] at h; exact h
      | some n => rw [hn] at h; exact h
end
section
/-! # the law's own reading of looks in brackets -/
def lksF (w : List Nat) : D := match allG ((piecesR w).map lookR) with
  | some ls => if ls.length ≤ 2 then .tup (ls.map Lk.d) else .non
  | none => .non
theorem lksF_of {w : List Nat} (h : w ≠ [46, 46, 46]) : (lksR w = none ∧ lksF w = .non) ∨ ∃ ls, lksR w = some (some ls) ∧ lksF w = .tup (ls.map Lk.d) := by
  unfold lksR lksF
  rw [if_neg h]
  cases allG ((piecesR w).map lookR) with
  | none => exact .inl ⟨rfl, rfl⟩
  | some ls =>
    dsimp only
    by_cases h2 : ls.length ≤ 2
    · rw [if_pos h2, if_pos h2]; exact .inr ⟨ls, rfl, rfl⟩
    · rw [if_neg h2, if_neg h2]; exact .inl ⟨rfl, rfl⟩
def lkP (p : List Nat) : D := oL? (lookR p)
theorem lkP_non (o : Option Lk) : deq (oL? o) .non = o.isNone := by
  cases o with
  | none => exact deq_nn
  | some l => cases l <;> exact deq_tn _
theorem lkP_th (p : List Nat) : thD 4 (lkP p) := by
  unfold lkP
  rcases look_read p with ⟨l, e, _, _, hd, hr⟩ | ⟨e, _⟩
  · rw [e]; exact thD_mono _ 4 _ (by omega) (l.th hr.few)
  · rw [e]; exact thD_non
abbrev sp__law_looks_read : SpD := fun ds m P _ => ∃ w : Str, ds = [.str w] ∧ LxOk (TL.tl w) ∧ ∀ m', Kp [] m m' → P (lksF (TL.tl w)) m'
def rd__law_looks_read : DS :=
    sSeq (sIf (rTst (rOp oEq (rV 0) (rC (.str "")))) (sRet (rTup (rNil))) (sNext))
    (sSeq (sSet 1 (rLstM (rNil)))
    (sSeq (sSet 2 (rC (.int 0)))
    (sSeq (sSet 3 (rC (.int 0)))
    (sSeq (sFor (iRange (rCons (rOp oAdd (rCB cLen (rCons (rV 0) (rNil))) (rC (.int 1))) (rNil))) (gN 4) (sIf (rOr (rTst (rOp oEq (rV 4) (rCB cLen (rCons (rV 0) (rNil))))) (rAnd (rTst (rOp oEq (rOp oIx (rV 0) (rV 4)) (rC (.str ",")))) (rTst (rOp oEq (rV 2) (rC (.int 0)))))) (sSeq (sSet 5 (rSl (rV 0) (rPart (rV 3)) (rPart (rV 4))))
    (sSeq (sSet 6 (rCB cInt (rCons (rOp oEq (rSl (rV 5) rNoP (rPart (rC (.int 1)))) (rC (.str "!"))) (rNil))))
    (sSeq (sSet 7 (rCall sp__law_plain_read_v2 [] (rCons (rSl (rV 5) (rPart (rV 6)) rNoP) (rNil))))
    (sSeq (sIf (rAnd (rTst (rOp oEq (rV 6) (rC (.int 1)))) (rTst (rOp (oIsN true) (rV 7) (rC .non)))) (sSet 7 (rTup (rCons (rC (.str "but")) (rCons (rV 7) (rNil))))) (sNext))
    (sSeq (sExpr (rApp (rV 1) (rV 7)))
    (sSet 3 (rOp oAdd (rV 4) (rC (.int 1))))))))) (sIf (rTst (rOp oEq (rOp oIx (rV 0) (rV 4)) (rC (.str "{")))) (sSet 2 (rOp oAdd (rV 2) (rC (.int 1)))) (sIf (rTst (rOp oEq (rOp oIx (rV 0) (rV 4)) (rC (.str "}")))) (sSet 2 (rOp oSub (rV 2) (rC (.int 1)))) (sNext)))))
    (sSeq (sIf (rOr (rTst (rOp (oInN false) (rC .non) (rV 1))) (rTst (rOp oGt (rCB cLen (rCons (rV 1) (rNil))) (rC (.int 2))))) (sRet (rC .non)) (sNext))
    (sRet (rCB cTup (rCons (rV 1) (rNil)))))))))
def T__law_looks_read_6 : DS := sSeq (sSet 6 (rCB cInt (rCons (rOp oEq (rSl (rV 5) rNoP (rPart (rC (.int 1)))) (rC (.str "!"))) (rNil))))
    (sSeq (sSet 7 (rCall sp__law_plain_read_v2 [] (rCons (rSl (rV 5) (rPart (rV 6)) rNoP) (rNil))))
    (sSeq (sIf (rAnd (rTst (rOp oEq (rV 6) (rC (.int 1)))) (rTst (rOp (oIsN true) (rV 7) (rC .non)))) (sSet 7 (rTup (rCons (rC (.str "but")) (rCons (rV 7) (rNil))))) (sNext))
    (sSeq (sExpr (rApp (rV 1) (rV 7)))
    (sSet 3 (rOp oAdd (rV 4) (rC (.int 1)))))))
def T__law_looks_read_7 : DS := sSeq (sSet 7 (rCall sp__law_plain_read_v2 [] (rCons (rSl (rV 5) (rPart (rV 6)) rNoP) (rNil))))
    (sSeq (sIf (rAnd (rTst (rOp oEq (rV 6) (rC (.int 1)))) (rTst (rOp (oIsN true) (rV 7) (rC .non)))) (sSet 7 (rTup (rCons (rC (.str "but")) (rCons (rV 7) (rNil))))) (sNext))
    (sSeq (sExpr (rApp (rV 1) (rV 7)))
    (sSet 3 (rOp oAdd (rV 4) (rC (.int 1))))))
def T__law_looks_read_9 : DS := sSeq (sExpr (rApp (rV 1) (rV 7)))
    (sSet 3 (rOp oAdd (rV 4) (rC (.int 1))))
def T__law_looks_read_11 : DS := sSeq (sIf (rOr (rTst (rOp (oInN false) (rC .non) (rV 1))) (rTst (rOp oGt (rCB cLen (rCons (rV 1) (rNil))) (rC (.int 2))))) (sRet (rC .non)) (sNext))
    (sRet (rCB cTup (rCons (rV 1) (rNil))))
theorem ln__law_looks_read : ∀ ds m Q PX, sp__law_looks_read ds m Q PX → ds.length = 1 := fun ds m Q PX h => by repeat' (first | (subst_vars; rfl; done) | (refine Or.elim h (fun h => ?_) (fun h => ?_)) | (obtain ⟨_, h⟩ := h))
theorem pu__law_looks_read : ∀ ds m Q PX, sp__law_looks_read ds m Q PX → rd__law_looks_read (dEnds Q PX) (dstart ["_law_word_here", "_law_found", "_law_open_at", "_law_start", "_law_k", "_law_piece", "_law_turned", "_law_look_here"] ds) m := by
  rintro ds m Q PX ⟨w, rfl, hx, h⟩
  have hw := hx.len
  have hwl := TL.len_tl w
  walk_at "go"
  rw [if_neg Bool.false_ne_true, eq_str (l := []) (by decide)]
  by_cases h1 : TL.tl w = []
  · rw [decide_eq_true h1]
    have := h m (Kp.refl _ _)
    rw [h1] at this
    exact ⟨Nat.zero_le _, this⟩
  · rw [decide_eq_false h1]
    have hpr : piecesR (TL.tl w) = pcL (TL.tl w) := if_neg h1
    unfold lksF at h
    rw [hpr] at h
    walk_at "go"
    intro q hq
    obtain ⟨N, hN⟩ : ∃ N : Int, N = (w.length : Int) := ⟨_, rfl⟩
    have hN2 : N = ((TL.tl w).length : Int) := by rw [hN, hwl]
    -- a piece
    have piece : ∀ (DD : DEnds) (CU : List Nat) (F : List D) (dp st i : Int) (a6 a7 : Option D) (m' : Mu), LxOk CU → F.length < 16000 → Kp [] m m' → m' q = some (.lst F) → (∀ a5 a6 a7 m2, Kp [] m m2 → m2 q = some (.lst (F ++ [lkP CU])) → DD.nx [some (.str w), some (.adr q), some (.int dp), some (.int (i + 1)), some (.int i), a5, a6, a7] m2) → T__law_looks_read_6 DD [some (.str w), some (.adr q), some (.int dp), some (.int st), some (.int i), some (.str (sgnT CU)), a6, a7] m' := by
      intro DD CU F dp st i a6 a7 m' xC hF kp eq k1
      have lC := xC.len
      have sC := sgnT_len CU
      have app : ∀ (t : Int) (d : D), d = lkP CU → T__law_looks_read_9 DD [some (.str w), some (.adr q), some (.int dp), some (.int st), some (.int i), some (.str (sgnT CU)), some (.int t), some d] m' := by
        intro t d hd
        rw [hd]
        walk_at "dl"
        refine ⟨⟨_, eq⟩, ?_⟩
        walk_at "dl"
        rw [eq]
        refine ⟨len_line (by omega), ?_⟩
        walk_at "dl"
        exact k1 _ _ _ _ (kp_gone hq kp _) mset_same
      walk_at "dl"
      refine ⟨len_line (by omega), ?_⟩
      walk_at "dl"
      rw [if_neg Bool.false_ne_true, one_cut (c := 33) (by decide), tl_sgnT]
      by_cases h33 : CU.take 1 = [33]
      · rw [decide_eq_true h33]
        show T__law_looks_read_7 DD [some (.str w), some (.adr q), some (.int dp), some (.int st), some (.int i), some (.str (sgnT CU)), some (.int 1), a7] m'
        have x1 := xC.drop 1
        walk_at "dl"
        refine ⟨len_line (by omega), ?_⟩
        rw [cut1, tl_sgnT]
        refine ⟨_, rfl, by rw [tl_sgnT]; exact x1, ?_⟩
        rw [tl_sgnT]
        have e : lkP CU = oL? ((plkR (CU.drop 1)).map .but) := by unfold lkP lookR; rw [if_pos h33]
        cases hp : plkR (CU.drop 1) with
        | none =>
          rw [hp] at e
          walk_at "dl"
          exact app 1 _ e.symm
        | some l =>
          rw [hp] at e
          have nl : isNone l.d = false := by cases l <;> rfl
          walk_at "dl"
          rw [if_pos rfl]
          show (match !isNone l.d with | true => _ | false => _)
          rw [nl]
          walk_at "dl"
          exact ⟨by show 2 ≤ sizeLine; decide, app 1 _ e.symm⟩
      · rw [decide_eq_false h33]
        show T__law_looks_read_7 DD [some (.str w), some (.adr q), some (.int dp), some (.int st), some (.int i), some (.str (sgnT CU)), some (.int 0), a7] m'
        walk_at "dl"
        refine ⟨len_line (by omega), ?_⟩
        have c0 : L2.cutS (sgnT CU) (some 0) none = sgnT CU := by
          have := cutK (z := sgnT CU) (k := 0) (i := 0) rfl
          rw [tl_sgnT, List.drop_zero] at this
          exact this
        rw [c0]
        refine ⟨_, rfl, by rw [tl_sgnT]; exact xC, ?_⟩
        rw [tl_sgnT]
        have e : lkP CU = oL? (plkR CU) := by unfold lkP lookR; rw [if_neg h33]
        rw [← e]
        walk_at "dl"
        exact app 0 _ rfl
    walk_at "dl"
    rw [← hN]
    refine ⟨len_line (by omega), ?_⟩
    walk_at "dl"
    refine ⟨⟨by omega, by omega⟩, ?_⟩
    have T0 : pcT ((TL.tl w).take 0) = ([], [], 0) := rfl
    refine loop_inv (fun i δ m' => Kp [] m m' ∧ ((i ≤ (TL.tl w).length ∧ ∃ DN CU DP pre a4 a5 a6 a7, pcT ((TL.tl w).take i) = (DN, CU, DP) ∧ (TL.tl w).take i = pre ++ CU ∧ m' q = some (.lst (DN.map lkP)) ∧ δ = [some (.str w), some (.adr q), some (.int DP), some (.int ((pre.length : Nat) : Int)), a4, a5, a6, a7]) ∨ (i = (TL.tl w).length + 1 ∧ m' q = some (.lst ((pcL (TL.tl w)).map lkP)) ∧ ∃ a2 a3 a4 a5 a6 a7, δ = [some (.str w), some (.adr q), a2, a3, a4, a5, a6, a7]))) (fun i d δ m' ei hh => ?_) (fun δ m' hh => ?_) ⟨kp_gone hq (Kp.refl [] m) _, .inl ⟨Nat.zero_le _, [], [], 0, [], none, none, none, none, T0, rfl, mset_same, rfl⟩⟩
    · obtain ⟨kp, hh⟩ := hh
      obtain ⟨hi, rfl⟩ := rg_get ei
      have hi2 : i < (TL.tl w).length + 1 := by omega
      obtain ⟨_, DN, CU, DP, pre, a4, a5, a6, a7, hT, hpre, eq, rfl⟩ : i ≤ (TL.tl w).length ∧ ∃ DN CU DP pre a4 a5 a6 a7, pcT ((TL.tl w).take i) = (DN, CU, DP) ∧ (TL.tl w).take i = pre ++ CU ∧ m' q = some (.lst (DN.map lkP)) ∧ δ = [some (.str w), some (.adr q), some (.int DP), some (.int ((pre.length : Nat) : Int)), a4, a5, a6, a7] := by
        rcases hh with hh | ⟨z, _⟩
        · exact hh
        · omega
      refine ⟨trivial, fun Nx k1 => ?_⟩
      obtain ⟨l1, l2⟩ := pcT_len ((TL.tl w).take i)
      rw [hT, List.length_take] at l1 l2
      dsimp only at l1 l2
      have lDN : (DN.map lkP).length = DN.length := List.length_map _
      have xC : LxOk CU := by
        have := hx.take i
        rw [hpre] at this
        exact ⟨by have := this.len; rw [List.length_append] at this; omega, fun c hc => this.cod c (List.mem_append_right _ hc)⟩
      have cutP : L2.cutS w (some ((pre.length : Nat) : Int)) (some (0 + (i : Int))) = sgnT CU := by
        rw [cutKT (k := pre.length) (b := i) rfl (by omega), hpre, List.drop_left]
      walk_at "dl"
      rw [← hN]
      refine ⟨len_line (by omega), ?_⟩
      walk_at "dl"
      rw [if_neg Bool.false_ne_true]
      by_cases hend : (0 : Int) + (i : Int) = N
      · rw [decide_eq_true hend]
        have hil : i = (TL.tl w).length := by omega
        walk_at "dl"
        refine ⟨len_line (by omega), ?_⟩
        rw [cutP]
        refine piece { nx := Nx, rt := (dEnds Q PX).rt, bk := T__law_looks_read_11 (dEnds Q PX), ct := Nx, xx := (dEnds Q PX).xx } CU (DN.map lkP) DP _ _ _ _ m' xC (by omega) kp eq fun a5 a6 a7 m2 kp2 e2 => k1 _ _ ⟨kp2, .inr ⟨by omega, ?_, _, _, _, _, _, _, rfl⟩⟩
        rw [e2]
        unfold pcL
        have : pcT (TL.tl w) = (DN, CU, DP) := by
          rw [hil, List.take_length] at hT
          exact hT
        rw [this, List.map_append]; rfl
      · rw [decide_eq_false hend]
        have hil : i < (TL.tl w).length := by omega
        obtain ⟨c, e⟩ : ∃ c, (TL.tl w)[i]? = some c := ⟨_, List.getElem?_eq_getElem hil⟩
        have e1 : atI (TL.tl w) (0 + (i : Int)) = some c := by
          unfold atI ixN
          rw [if_pos (by omega), if_pos (by omega)]
          show (TL.tl w)[_]? = _
          rw [show ((0 : Int) + (i : Int)).toNat = i by omega]; exact e
        have et : (TL.tl w).take (i + 1) = (TL.tl w).take i ++ [c] := by rw [List.take_add_one, e]; rfl
        have hT1 : pcT ((TL.tl w).take (i + 1)) = pcS (DN, CU, DP) c := by rw [et, pcT_one, hT]
        have keep : ¬ (c = 44 ∧ DP + brN c = 0) → ∀ a4 a5 a6 a7, Nx [some (.str w), some (.adr q), some (.int (DP + brN c)), some (.int ((pre.length : Nat) : Int)), a4, a5, a6, a7] m' := fun hc a4 a5 a6 a7 => k1 _ _ ⟨kp, .inl ⟨hil, DN, CU ++ [c], DP + brN c, pre, a4, a5, a6, a7, by rw [hT1]; unfold pcS; rw [if_neg hc], by rw [et, hpre, List.append_assoc], eq, rfl⟩⟩
        have one : ∀ {s : Str} {k : Nat}, TL.tl s = [k] → decide ((⟨#[c]⟩ : Str) = s) = decide (c = k) := fun hs => by rw [Bool.eq_iff_iff, decide_eq_true_eq, decide_eq_true_eq]; exact one_eq hs
        have e2 : atI w.cps.toList (0 + (i : Int)) = some c := e1
        have els : ¬ (c = 44 ∧ DP + brN c = 0) → sIf (rTst (rOp oEq (rOp oIx (rV 0) (rV 4)) (rC (.str "{")))) (sSet 2 (rOp oAdd (rV 2) (rC (.int 1)))) (sIf (rTst (rOp oEq (rOp oIx (rV 0) (rV 4)) (rC (.str "}")))) (sSet 2 (rOp oSub (rV 2) (rC (.int 1)))) (sNext)) { nx := Nx, rt := (dEnds Q PX).rt, bk := T__law_looks_read_11 (dEnds Q PX), ct := Nx, xx := (dEnds Q PX).xx } [some (.str w), some (.adr q), some (.int DP), some (.int ((pre.length : Nat) : Int)), some (.int (0 + (i : Int))), a5, a6, a7] m' := by
          intro hc
          have kk := keep hc
          unfold brN at kk
          walk_at "dl"
          refine ⟨len_line (by omega), ?_⟩
          rw [e2]
          walk_at "dl"
          rw [if_neg Bool.false_ne_true, one (k := 123) (by decide)]
          by_cases h123 : c = 123
          · rw [decide_eq_true h123]
            rw [if_pos h123] at kk
            exact kk _ _ _ _
          · rw [decide_eq_false h123]
            rw [if_neg h123] at kk
            walk_at "dl"
            refine ⟨len_line (by omega), ?_⟩
            rw [e2]
            walk_at "dl"
            rw [if_neg Bool.false_ne_true, one (k := 125) (by decide)]
            by_cases h125 : c = 125
            · rw [decide_eq_true h125]
              rw [if_pos h125] at kk
              walk_at "dl"
              rw [show DP - 1 = DP + -1 by omega]
              exact kk _ _ _ _
            · rw [decide_eq_false h125]
              rw [if_neg h125, Int.add_zero] at kk
              exact kk _ _ _ _
        walk_at "dl"
        refine ⟨len_line (by omega), ?_⟩
        rw [e2]
        walk_at "dl"
        rw [if_neg Bool.false_ne_true, one (k := 44) (by decide)]
        by_cases h44 : c = 44
        · rw [decide_eq_true h44]
          have b0 : brN c = 0 := by rw [h44]; rfl
          walk_at "dl"
          rw [if_neg Bool.false_ne_true]
          by_cases h0 : DP = 0
          · rw [decide_eq_true h0]
            walk_at "dl"
            refine ⟨len_line (by omega), ?_⟩
            rw [cutP]
            refine piece { nx := Nx, rt := (dEnds Q PX).rt, bk := T__law_looks_read_11 (dEnds Q PX), ct := Nx, xx := (dEnds Q PX).xx } CU (DN.map lkP) DP _ _ _ _ m' xC (by omega) kp eq fun a5 a6 a7 m2 kp2 e2 => k1 _ _ ⟨kp2, .inl ⟨hil, DN ++ [CU], [], DP + brN c, (TL.tl w).take (i + 1), some (.int (0 + (i : Int))), a5, a6, a7, by
              rw [hT1]
              unfold pcS
              rw [if_pos ⟨h44, by rw [b0, h0]; rfl⟩], by rw [List.append_nil], by rw [e2, List.map_append]; rfl, ?_⟩⟩
            rw [b0, Int.add_zero, List.length_take, Nat.min_eq_left (by omega), show (0 : Int) + (i : Int) + 1 = ((i + 1 : Nat) : Int) by omega]
          · rw [decide_eq_false h0]
            exact els (fun z => h0 (by have := z.2; rw [b0] at this; omega))
        · rw [decide_eq_false h44]
          exact els (fun z => h44 z.1)
    · obtain ⟨kp, hh⟩ := hh
      rw [rg_len, show (N + 1).toNat = (TL.tl w).length + 1 by omega] at hh
      obtain ⟨eq, a2, a3, a4, a5, a6, a7, rfl⟩ : m' q = some (.lst ((pcL (TL.tl w)).map lkP)) ∧ ∃ a2 a3 a4 a5 a6 a7, δ = [some (.str w), some (.adr q), a2, a3, a4, a5, a6, a7] := by
        rcases hh with ⟨z, _⟩ | ⟨_, hh⟩
        · omega
        · exact hh
      refine ⟨trivial, ?_⟩
      have h2 := h _ kp
      have lP := (pcT_len (TL.tl w)).1
      have lL : (pcL (TL.tl w)).length = (pcT (TL.tl w)).1.length + 1 := by unfold pcL; rw [List.length_append]; rfl
      have lM : ((pcL (TL.tl w)).map lkP).length = (pcL (TL.tl w)).length := List.length_map _
      walk_at "dl"
      rw [asL_adr eq]
      refine ⟨.inr ⟨shpT81 (n := 0) thD_non, shpT81 (n := 5) (thD_lst (by omega) fun d hd => ?_)⟩, ?_⟩
      · obtain ⟨x, _, rfl⟩ := List.mem_map.mp hd
        exact lkP_th _
      rw [if_neg Bool.false_ne_true]
      show (match ((pcL (TL.tl w)).map lkP).any (fun z => deq z .non) with | true => _ | false => _)
      rw [show (pcL (TL.tl w)).map lkP = ((pcL (TL.tl w)).map lookR).map oL? from by rw [List.map_map]; rfl, any_nonG lkP_non]
      cases ha : allG ((pcL (TL.tl w)).map lookR) with
      | none =>
        rw [ha] at h2
        exact h2
      | some ls =>
        rw [ha] at h2
        dsimp only at h2
        dsimp only [Option.isNone]
        have e8 := allG_some ha
        have e9 : (pcL (TL.tl w)).map lkP = ls.map Lk.d := by
          rw [show (pcL (TL.tl w)).map lkP = ((pcL (TL.tl w)).map lookR).map oL? from by rw [List.map_map]; rfl, e8, List.map_map]; rfl
        rw [e9] at eq
        have l9 : (ls.map Lk.d).length = ls.length := List.length_map _
        walk_at "dl"
        rw [asL_adr eq]
        walk_at "dl"
        rw [l9]
        by_cases h3 : ls.length ≤ 2
        · rw [if_pos h3] at h2
          rw [decide_eq_false (show ¬ (2 : Int) < (ls.length : Int) by omega)]
          walk_at "dl"
          rw [asL_adr eq]
          exact h2
        · rw [if_neg h3] at h2
          rw [decide_eq_true (show (2 : Int) < (ls.length : Int) by omega)]
          exact h2
end
section
/-! # rules as texts -/
theorem joinL_more (S : List Nat) (a b : List Nat) : ∀ xs : List (List Nat), TL.joinL S (xs ++ [a ++ b]) = TL.joinL S (xs ++ [a]) ++ b
  | [] => rfl
  | x :: r => by
    rw [List.cons_append, List.cons_append, joinL_cons _ _ (by simp), joinL_cons _ _ (by simp), joinL_more S a b r]
    simp
theorem joinL_new (S : List Nat) (a : List Nat) : ∀ xs : List (List Nat), TL.joinL S (xs ++ [a] ++ [[]]) = TL.joinL S (xs ++ [a]) ++ S
  | [] => by show a ++ (S ++ []) = a ++ S; rw [List.append_nil]
  | x :: r => by
    rw [List.cons_append, List.cons_append, joinL_cons _ _ (by simp), joinL_cons _ _ (by simp), joinL_new S a r]
    simp
theorem pcF_join : ∀ (w : List Nat) (st : List (List Nat) × List Nat × Int), TL.joinL [44] ((w.foldl pcS st).1 ++ [(w.foldl pcS st).2.1]) = TL.joinL [44] (st.1 ++ [st.2.1]) ++ w
  | [], st => by rw [List.append_nil]; rfl
  | c :: r, st => by
    rw [List.foldl_cons, pcF_join r]
    unfold pcS
    split
    · rename_i h
      rw [joinL_new, h.1]; simp
    · rw [joinL_more]; simp
theorem pc_join (w : List Nat) : TL.joinL [44] (piecesR w) = w := by
  unfold piecesR
  split
  · rename_i h; rw [h]; rfl
  · have := pcF_join w ([], [], 0)
    exact this
theorem lks_back {c : List Nat} {L : Option (List Lk)} (h : lksR c = some L) : TL.tl (lksT L) = c := by
  unfold lksR at h
  split at h
  · rename_i hc
    cases h
    rw [hc]; decide
  · cases ha : allG ((piecesR c).map lookR) with
    | none => rw [ha] at h; cases h
    | some ls =>
      rw [ha] at h
      dsimp only at h
      split at h
      · cases h
        have e := allG_back (g := Lk.text) (fun p l hp => look_back hp) ha
        show TL.tl (Txt.join "," (ls.map Lk.text)) = c
        rw [tl_joinT, List.map_map]
        show TL.joinL [44] (ls.map fun l => TL.tl l.text) = c
        rw [← e, pc_join]
      · cases h
def thensS : List Str := [Str.ofString "stay", Str.ofString "again", Str.ofString "stop"]
structure RuX where
  part : Str
  deed : Option Str
  looks : Option (List Lk)
  ans : List AnT
  tn : Str
def RuX.d (r : RuX) : D := .ins "Rule" (rFs (.str r.part) (oS r.deed) (oL r.looks) (.tup (r.ans.map AnT.d)) (.str r.tn))
def RuX.five (r : RuX) : D := .tup [.str r.part, oS r.deed, oL r.looks, .tup (r.ans.map AnT.d), .str r.tn]
structure RuX.N (r : RuX) : Prop where
  part : nmB r.part = true
  deed : ∀ x, r.deed = some x → nmB x = true
  looks : LksN r.looks
  many : 1 ≤ r.ans.length ∧ r.ans.length ≤ 4
  ans : ∀ t ∈ r.ans, t.N
  tn : r.tn ∈ thensS
def ruF (a t b : List Nat) : Option RuX := match callR a with
  | none => none
  | some (p, d, c) => match lksR c, allG ((TL.spl [44] 0 [] b).map antR) with
    | some L, some as => if (nmB (sgnT p) = true ∧ (d = [42] ∨ nmB (sgnT d) = true)) ∧ as.length ≤ 4 ∧ sgnT t ∈ thensS then some ⟨sgnT p, if d = [42] then none else some (sgnT d), L, as, sgnT t⟩ else none
    | _, _ => none
def ru3 {α : Type} (f : List Nat → List Nat → List Nat → α) (no : α) : List (List Nat) → α
  | [a, t, b] => f a t b
  | _ => no
def ruleR (w : List Nat) : Option RuX := ru3 ruF none (TL.spl [32] 0 [] w)
theorem ru3_cases {α : Type} (ws : List α) : ws.length ≠ 3 ∨ ∃ a t b, ws = [a, t, b] := by
  rcases ws with _ | ⟨a, _ | ⟨b, _ | ⟨c, _ | ⟨d, r⟩⟩⟩⟩
  · exact .inl (by simp)
  · exact .inl (by simp)
  · exact .inl (by simp)
  · exact .inr ⟨a, b, c, rfl⟩
  · exact .inl (by simp)
theorem ru3_no {α : Type} {f : List Nat → List Nat → List Nat → α} {no : α} {ws : List (List Nat)} (h : ws.length ≠ 3) : ru3 f no ws = no := by
  rcases ws with _ | ⟨a, _ | ⟨b, _ | ⟨c, _ | ⟨d, r⟩⟩⟩⟩ <;> first | rfl | exact (h rfl).elim
def ruT (r : RuX) : Str := Txt.join " " [callT r.part r.deed r.looks, r.tn, Txt.join "," (r.ans.map antW)]
theorem tl_callT (p : Str) (d : Option Str) (L : Option (List Lk)) : TL.tl (callT p d L) = TL.tl p ++ 46 :: TL.tl (d.getD "*") ++ 40 :: TL.tl (lksT L) ++ [41] := by
  unfold callT
  rw [TL.tl_append, TL.tl_append, TL.tl_append, TL.tl_append, TL.tl_append]
  simp
  rfl
theorem tl_ruT (r : RuX) : TL.tl (ruT r) = TL.joinL [32] [TL.tl (callT r.part r.deed r.looks), TL.tl r.tn, TL.joinL [44] (r.ans.map fun t => TL.tl (antW t))] := by
  unfold ruT
  rw [tl_joinT]
  show TL.joinL [32] [_, _, TL.tl (Txt.join "," (r.ans.map antW))] = _
  rw [tl_joinT, List.map_map]; rfl
theorem rule_back {w : List Nat} {r : RuX} (hx : LxOk w) (h : ruleR w = some r) : TL.tl (ruT r) = w ∧ r.N := by
  unfold ruleR at h
  have hj := join_spl 32 w []
  rw [List.nil_append] at hj
  rcases ru3_cases (TL.spl [32] 0 [] w) with h3 | ⟨a, t, b, e⟩
  · rw [ru3_no h3] at h; cases h
  · have xs : ∀ x ∈ TL.spl [32] 0 [] w, LxOk x := fun x hx2 => hx.spl (S := [32]) hx2
    rw [e] at h hj xs
    change ruF a t b = some r at h
    unfold ruF at h
    cases hc : callR a with
    | none => rw [hc] at h; cases h
    | some p =>
      obtain ⟨p, d, c⟩ := p
      obtain ⟨_, _, _, ea⟩ := call_sub (xs a (by simp)) hc
      rw [hc] at h
      dsimp only at h
      cases hl : lksR c with
      | none => rw [hl] at h; cases h
      | some L =>
        cases ha : allG ((TL.spl [44] 0 [] b).map antR) with
        | none => rw [hl, ha] at h; cases h
        | some as =>
          rw [hl, ha] at h
          dsimp only at h
          split at h
          · rename_i hk
            obtain ⟨⟨k1, k2⟩, k3, k4⟩ := hk
            cases h
            have ll : LksN L := by
              rcases lks_read c with ⟨L', e1, _, _, e4⟩ | ⟨e1, _⟩
              · rw [hl] at e1; cases e1; exact e4
              · rw [hl] at e1; cases e1
            have eA := allG_back (g := antW) (fun q x hq => (ant_back hq).1) ha
            have hsp := (allG_parts ha).1
            have hne : TL.spl [44] 0 [] b ≠ [] := spl_ne _ _ _ _
            refine ⟨?_, ⟨k1, fun x hx2 => ?_, ll, ⟨?_, k3⟩, fun x hx2 => ?_, k4⟩⟩
            · rw [tl_ruT]
              show TL.joinL [32] [TL.tl (callT (sgnT p) (if d = [42] then none else some (sgnT d)) L), TL.tl (sgnT t), TL.joinL [44] (as.map fun t => TL.tl (antW t))] = w
              rw [tl_callT, lks_back hl, ← eA, join_spl, List.nil_append, tl_sgnT, tl_sgnT, ← hj, ea]
              congr 4
              by_cases hd : d = [42]
              · rw [if_pos hd, hd]; rfl
              · rw [if_neg hd]
                show p ++ 46 :: TL.tl (sgnT d) = p ++ 46 :: d
                rw [tl_sgnT]
            · change (if d = [42] then none else some (sgnT d)) = some x at hx2
              split at hx2
              · cases hx2
              · rename_i hd
                cases hx2
                exact k2.resolve_left hd
            · show 1 ≤ as.length
              rw [← hsp]
              exact List.length_pos_iff.mpr hne
            · obtain ⟨i, hi⟩ := List.getElem?_of_mem hx2
              have h9 := allG_some ha
              have : some x ∈ (TL.spl [44] 0 [] b).map antR := by rw [h9]; exact List.mem_map_of_mem hx2
              obtain ⟨q, _, hq⟩ := List.mem_map.mp this
              exact (ant_back hq).2
          · cases h
theorem rOut_of {b1 b2 b3 : Bool} {A : Prop} {B : Str → Prop} (h1 : b1 = true → b2 = true → b3 = true → A) (h2 : ¬ (b1 = true ∧ b2 = true ∧ b3 = true) → ∀ y, B y) : rOut b1 b2 b3 A B := by
  unfold rOut
  cases b1 <;> cases b2 <;> cases b3 <;> first | exact h1 rfl rfl rfl | exact h2 (by simp) _
def oRu : Option RuX → D
  | none => .non
  | some r => r.d
theorem looksDD_th {c : List Nat} (h : LxOk c) : thD 6 (looksDD c) := by
  unfold looksDD
  split
  · exact thD_non
  · refine thD_tup (by rw [List.length_map]; have := pcL_len c; have := h.len; omega) fun d hd => ?_
    obtain ⟨p, hp, rfl⟩ := List.mem_map.mp hd
    exact thD_mono _ 5 _ (by decide) (lookD_th (pieces_ok h p hp))
def sp_rule_in : SpD := fun ds m P _ => ∃ w : Str, ds = [.str w] ∧ LxOk (TL.tl w) ∧ ∀ m', Kp [] m m' → P (oRu (ruleR (TL.tl w))) m'
def rd_rule_in : DS :=
    sSeq (sSet 1 (rSplit (rV 0) (rC (.str " "))))
    (sSeq (sSet 2 (rCall sp_call_in [] (rCons (rOp oIx (rV 1) (rC (.int 0))) (rNil))))
    (sSeq (sIf (rOr (rTst (rOp oNe (rCB cLen (rCons (rV 1) (rNil))) (rC (.int 3)))) (rTst (rOp (oIsN false) (rV 2) (rC .non)))) (sRet (rC .non)) (sNext))
    (sSeq (sSet 3 (rIfE (rTst (rOp oEq (rOp oIx (rV 2) (rC (.int 1))) (rC (.str "*")))) (rC .non) (rOp oIx (rV 2) (rC (.int 1)))))
    (sSeq (sSet 4 (rCB cTup (rCons (rLc (iAny (rSplit (rOp oIx (rV 1) (rC (.int 2))) (rC (.str ",")))) [5] (gN 5) (qYes) (rCall sp_answer_in [] (rCons (rV 5) (rNil)))) (rNil))))
    (sTryO "BadRule" (sRet (rMk "Rule" sp_Rule___init__ 3 2 (fun ds es => gI [0, 1, 2, 3, 4, 5] (ds ++ es) [.non, .non]) (rCons (rOp oIx (rV 2) (rC (.int 0))) (rCons (rV 3) (rCons (rCall sp_looks_in [] (rCons (rOp oIx (rV 2) (rC (.int 2))) (rNil))) (rNil)))) (rCons (rV 4) (rCons (rOp oIx (rV 1) (rC (.int 1))) (rNil))))) (fun xa xc xd => sRet (rC .non)))))))
def T_rule_in_2 : DS := sSeq (sSet 2 (rCall sp_call_in [] (rCons (rOp oIx (rV 1) (rC (.int 0))) (rNil))))
    (sSeq (sIf (rOr (rTst (rOp oNe (rCB cLen (rCons (rV 1) (rNil))) (rC (.int 3)))) (rTst (rOp (oIsN false) (rV 2) (rC .non)))) (sRet (rC .non)) (sNext))
    (sSeq (sSet 3 (rIfE (rTst (rOp oEq (rOp oIx (rV 2) (rC (.int 1))) (rC (.str "*")))) (rC .non) (rOp oIx (rV 2) (rC (.int 1)))))
    (sSeq (sSet 4 (rCB cTup (rCons (rLc (iAny (rSplit (rOp oIx (rV 1) (rC (.int 2))) (rC (.str ",")))) [5] (gN 5) (qYes) (rCall sp_answer_in [] (rCons (rV 5) (rNil)))) (rNil))))
    (sTryO "BadRule" (sRet (rMk "Rule" sp_Rule___init__ 3 2 (fun ds es => gI [0, 1, 2, 3, 4, 5] (ds ++ es) [.non, .non]) (rCons (rOp oIx (rV 2) (rC (.int 0))) (rCons (rV 3) (rCons (rCall sp_looks_in [] (rCons (rOp oIx (rV 2) (rC (.int 2))) (rNil))) (rNil)))) (rCons (rV 4) (rCons (rOp oIx (rV 1) (rC (.int 1))) (rNil))))) (fun xa xc xd => sRet (rC .non))))))
def T_rule_in_5 : DS := sSeq (sSet 4 (rCB cTup (rCons (rLc (iAny (rSplit (rOp oIx (rV 1) (rC (.int 2))) (rC (.str ",")))) [5] (gN 5) (qYes) (rCall sp_answer_in [] (rCons (rV 5) (rNil)))) (rNil))))
    (sTryO "BadRule" (sRet (rMk "Rule" sp_Rule___init__ 3 2 (fun ds es => gI [0, 1, 2, 3, 4, 5] (ds ++ es) [.non, .non]) (rCons (rOp oIx (rV 2) (rC (.int 0))) (rCons (rV 3) (rCons (rCall sp_looks_in [] (rCons (rOp oIx (rV 2) (rC (.int 2))) (rNil))) (rNil)))) (rCons (rV 4) (rCons (rOp oIx (rV 1) (rC (.int 1))) (rNil))))) (fun xa xc xd => sRet (rC .non)))
theorem ln_rule_in : ∀ ds m Q PX, sp_rule_in ds m Q PX → ds.length = 1 := fun ds m Q PX h => by repeat' (first | (subst_vars; rfl; done) | (refine Or.elim h (fun h => ?_) (fun h => ?_)) | (obtain ⟨_, h⟩ := h))
theorem pu_rule_in : ∀ ds m Q PX, sp_rule_in ds m Q PX → rd_rule_in (dEnds Q PX) (dstart ["text", "words", "call", "deed", "answers", "word"] ds) m := by
  rintro ds m Q PX ⟨w, rfl, hx, h⟩
  have hw := hx.len
  have hwl := TL.len_tl w
  unfold ruleR at h
  walk_at "dl"
  refine ⟨⟨by decide, len_line (by omega)⟩, ?_⟩
  rw [split_sgn w " " (by decide) (by decide +kernel), show TL.tl (" " : Str) = [32] from by decide]
  have xs : ∀ x ∈ TL.spl [32] 0 [] (TL.tl w), LxOk x := fun x hx2 => hx.spl (S := [32]) hx2
  have hsl := spl_le [32] (TL.tl w) 0 []
  cases hs : TL.spl [32] 0 [] (TL.tl w) with
  | nil => exact (spl_ne _ _ _ _ hs).elim
  | cons w0 rest =>
    rw [hs] at h xs hsl
    have eR : ((w0 :: rest).map sgnT).map D.str = D.str (sgnT w0) :: wdsD rest := by rw [List.map_map]; rfl
    have hml : (wdsD rest).length = rest.length := List.length_map _
    show T_rule_in_2 (dEnds Q PX) [some (.str w), some (.lst (((w0 :: rest).map sgnT).map D.str)), none, none, none, none] m
    rw [eR]
    have i0 : atI (D.str (sgnT w0) :: wdsD rest) 0 = some (D.str (sgnT w0)) := atI0 _ _
    obtain ⟨N, hN⟩ : ∃ N : Int, N = ((D.str (sgnT w0) :: wdsD rest).length : Int) := ⟨_, rfl⟩
    have hN2 : N = (rest.length : Int) + 1 := by rw [hN, List.length_cons, hml]; rfl
    have x0 := xs w0 (by simp)
    walk_at "dl"
    rw [i0]
    refine ⟨_, rfl, by rw [tl_sgnT]; exact x0, ?_⟩
    rw [tl_sgnT]
    walk_at "dl"
    rw [← hN, if_pos rfl]
    rcases ru3_cases (w0 :: rest) with h3 | ⟨a, t, b, e⟩
    · rw [ru3_no h3] at h
      rw [List.length_cons] at h3
      rw [decide_eq_false (show ¬ N = 3 by omega)]
      exact h m (Kp.refl _ _)
    · obtain ⟨rfl, rfl⟩ := List.cons.inj e
      rw [decide_eq_true (show N = 3 by rw [hN2]; rfl)]
      change ∀ m', Kp [] m m' → Q (oRu (ruF w0 t b)) m' at h
      unfold ruF at h
      walk_at "dl"
      cases hc : callR w0 with
      | none =>
        rw [hc] at h
        exact h m (Kp.refl _ _)
      | some p =>
        obtain ⟨p, d, c⟩ := p
        obtain ⟨xp, xd, xc, ea⟩ := call_sub x0 hc
        rw [hc] at h
        dsimp only at h
        have i1 : atI (D.str (sgnT w0) :: wdsD [t, b]) 1 = some (.str (sgnT t)) := rfl
        have i2 : atI (D.str (sgnT w0) :: wdsD [t, b]) 2 = some (.str (sgnT b)) := rfl
        generalize hWD : D.str (sgnT w0) :: wdsD [t, b] = WD at i0 i1 i2 hN ⊢
        have xb := xs b (by simp)
        have xt := xs t (by simp)
        have lb := xb.len
        have sb := sgnT_len b
        have lt := xt.len
        have st := sgnT_len t
        have hbl := spl_le [44] b 0 []
        obtain ⟨bs, hbs⟩ : ∃ bs, bs = TL.spl [44] 0 [] b := ⟨_, rfl⟩
        have fin : ∀ dd : D, dd = (if d = [42] then .non else .str (sgnT d)) → T_rule_in_5 (dEnds Q PX) [some (.str w), some (.lst WD), some (.tup [.str (sgnT p), .str (sgnT d), .str (sgnT c)]), some dd, none, none] m := by
          intro dd hdd
          have thd : thD 1 dd := by
            rw [hdd]
            split
            · exact thD_non
            · exact ⟨by rw [sgnT_len]; have := xd.len; omega, xd.cod⟩
          walk_at "dl"
          rw [i2]
          walk_at "dl"
          refine ⟨⟨by decide, len_line (by omega)⟩, ?_⟩
          rw [split_sgn (sgnT b) "," (by decide) (by decide +kernel), List.map_map, tl_sgnT, show TL.tl ("," : Str) = [44] from by decide, ← hbs]
          rw [← hbs] at hbl h
          refine comp_on bs (fun p => .str (sgnT p)) (fun p => antDD p) (by omega) trivial (fun p hp2 Q' h' => ?_) ?_
          · walk_at "dl"
            refine ⟨_, rfl, ?_, ?_⟩
            · rw [tl_sgnT]; exact xb.spl (S := [44]) (by rw [← hbs]; exact hp2)
            · rw [tl_sgnT]; exact h'
          walk_at "dl"
          refine ⟨_, rfl, by rw [tl_sgnT]; exact xc, fun m' kp => ?_⟩
          rw [tl_sgnT]
          have h := h m' kp
          walk_at "dl"
          rw [i1]
          walk_at "dl"
          have lbs : (bs.map fun p => antDD p).length = bs.length := List.length_map _
          have T1 : ∀ {x : List Nat}, LxOk x → thD 1 (.str (sgnT x)) := fun {x} hx2 => ⟨by rw [sgnT_len]; have := hx2.len; omega, hx2.cod⟩
          refine ⟨rfl, rfl, fun q hq => ⟨q, _, _, _, _, _, rfl, mset_same, thg_of (T1 xp), thg_of thd, thg_of (looksDD_th xc), thg_of (n := 3) (thD_tup (by omega) fun z hz => ?_), thg_of (T1 xt), rOut_of (fun b1 b2 b3 => ?_) (fun nb y => ?_)⟩⟩
          · obtain ⟨x, hx2, rfl⟩ := List.mem_map.mp hz
            exact antDD_th (xb.spl (S := [44]) (by rw [← hbs]; exact hx2))
          · refine ⟨rfl, _, mset_same, ?_⟩
            rw [mset_mset, mdel_mset hq]
            rw [Bool.and_eq_true] at b1 b3
            obtain ⟨b11, b12⟩ := b1
            obtain ⟨b31, b32⟩ := b3
            have k2 : d = [42] ∨ nmB (sgnT d) = true := by
              by_cases hd : d = [42]
              · exact .inl hd
              · rw [hdd, if_neg hd] at b12; exact .inr b12
            have k4 : sgnT t ∈ thensS := of_decide_eq_true b32
            have b33 : decide (1 ≤ (bs.map fun p => antDD p).length) = true ∧ (decide ((bs.map fun p => antDD p).length ≤ 4) = true ∧ (bs.map fun p => antDD p).all ansB = true) := by
              have : (decide (1 ≤ (bs.map fun p => antDD p).length) && (decide ((bs.map fun p => antDD p).length ≤ 4) && (bs.map fun p => antDD p).all ansB)) = true := b31
              rw [Bool.and_eq_true, Bool.and_eq_true] at this
              exact this
            rcases lks_read c with ⟨L, e1, e2, _, _⟩ | ⟨_, e2⟩
            · rcases allG_read ant_read bs with ⟨as, f1, f2, f3, _⟩ | ⟨_, f2⟩
              · have la : as.length ≤ 4 := by
                  have := (allG_parts f1).1
                  have := of_decide_eq_true b33.2.1
                  omega
                rw [e1, f1] at h
                dsimp only at h
                rw [if_pos ⟨⟨b11, k2⟩, la, k4⟩] at h
                have edd : dd = oS (if d = [42] then none else some (sgnT d)) := by
                  rw [hdd]
                  split <;> rfl
                rw [edd, e2, f2]
                exact h
              · rw [b33.2.2] at f2; cases f2
            · rw [b2] at e2; cases e2
          · have hnon : Q .non m' := by
              have key : (match lksR c, allG (bs.map antR) with
                | some L, some as => if (nmB (sgnT p) = true ∧ (d = [42] ∨ nmB (sgnT d) = true)) ∧ as.length ≤ 4 ∧ sgnT t ∈ thensS then some (RuX.mk (sgnT p) (if d = [42] then none else some (sgnT d)) L as (sgnT t)) else none
                | _, _ => none) = none := by
                rcases lks_read c with ⟨L, e1, e2, e3, _⟩ | ⟨e1, _⟩
                · rcases allG_read ant_read bs with ⟨as, f1, f2, f3, _⟩ | ⟨f1, _⟩
                  · rw [e1, f1]
                    dsimp only
                    refine if_neg fun z => nb ⟨?_, e3, ?_⟩
                    · rw [Bool.and_eq_true]
                      refine ⟨z.1.1, ?_⟩
                      rw [hdd]
                      by_cases hd : d = [42]
                      · rw [if_pos hd]; rfl
                      · rw [if_neg hd]; exact z.1.2.resolve_left hd
                    · rw [Bool.and_eq_true]
                      refine ⟨?_, decide_eq_true z.2.2⟩
                      show (decide (1 ≤ (bs.map fun p => antDD p).length) && (decide ((bs.map fun p => antDD p).length ≤ 4) && (bs.map fun p => antDD p).all ansB)) = true
                      have l1 := (allG_parts f1).1
                      have l0 : 1 ≤ bs.length := by
                        rw [hbs]
                        exact List.length_pos_iff.mpr (spl_ne _ _ _ _)
                      rw [show (bs.map fun p => antDD p).all ansB = true from f3, decide_eq_true (by omega), decide_eq_true (by have := z.2.1; omega)]; rfl
                  · rw [e1, f1]
                · rw [e1]
              rw [key] at h
              exact h
            refine ⟨by decide, ?_⟩
            rw [mdel_mset hq]
            walk_at "dl"
            intro a C dd2 ha
            exact hnon
        walk_at "dl"
        rw [if_neg Bool.false_ne_true, eq_str (l := [42]) (by decide), tl_sgnT]
        by_cases hd : d = [42]
        · rw [decide_eq_true hd]
          exact fin .non (by rw [if_pos hd])
        · rw [decide_eq_false hd]
          exact fin _ (by rw [if_neg hd])
def sp_read_rule : SpD := fun ds m P PX => ∃ w : Str, ds = [.str w] ∧ LxOk (TL.tl w) ∧ (∀ r, ruleR (TL.tl w) = some r → ∀ m', Kp [] m m' → P r.d m') ∧ (ruleR (TL.tl w) = none → ∀ m', Kp [] m m' → PX "BadText" (noTx 0) m')
def rd_read_rule : DS :=
    sSeq (sSet 1 (rCall sp_rule_in [] (rCons (rV 0) (rNil))))
    (sSeq (sIf (rTst (rOp (oIsN false) (rV 1) (rC .non))) (sRaise1 "BadText" "line" "no such text" (rCons (rC (.int 0)) (rNil))) (sNext))
    (sRet (rV 1)))
theorem ln_read_rule : ∀ ds m Q PX, sp_read_rule ds m Q PX → ds.length = 1 := fun ds m Q PX h => by repeat' (first | (subst_vars; rfl; done) | (refine Or.elim h (fun h => ?_) (fun h => ?_)) | (obtain ⟨_, h⟩ := h))
theorem pu_read_rule : ∀ ds m Q PX, sp_read_rule ds m Q PX → rd_read_rule (dEnds Q PX) (dstart ["text", "found"] ds) m := by
  rintro ds m Q PX ⟨w, rfl, hx, h1, h2⟩
  walk_at "dl"
  refine ⟨w, rfl, hx, fun m' kp => ?_⟩
  cases hr : ruleR (TL.tl w) with
  | none =>
    have := h2 hr m' kp
    walk_at "dl"
    exact this
  | some r =>
    have := h1 r hr m' kp
    walk_at "dl"
    exact this
theorem callT_B {p : Str} {d : Option Str} {L : Option (List Lk)} (hp : nmB p = true) (hd : ∀ x, d = some x → nmB x = true) (hL : LksN L) : TxB 2023 (callT p d L) := by
  have d1 : TxB 8 (d.getD "*") := by
    cases hdd : d with
    | none => exact (TxB.lit "*" (n := 1)).mono
    | some x => exact nm_B (hd x hdd)
  exact ((((((nm_B hp).app (TxB.lit "." (n := 1))).app d1).app (TxB.lit "(" (n := 1))).app (lks_B hL)).app (TxB.lit ")" (n := 1)))
theorem ants_B {as : List AnT} (h : ∀ t ∈ as, t.N) (hl : as.length ≤ 4) : TxB 260 (Txt.join "," (as.map antW)) := TxB.join (q := 4) (n := 64) (k := 1) (y := ",") (l := as.map antW) (fun s hs => by
  obtain ⟨t, ht, rfl⟩ := List.mem_map.mp hs
  exact ant_B (h t ht)) (TxB.lit ",") (by rw [List.length_map]; exact hl)
theorem tn_B {t : Str} (this : t ∈ thensS) : TxB 5 t := by
  unfold thensS at this
  rcases List.mem_cons.mp this with e | this
  · rw [e]; exact (TxB.lit "stay" (n := 4)).mono
  · rcases List.mem_cons.mp this with e | this
    · rw [e]; exact TxB.lit "again" (n := 5)
    · rw [List.mem_singleton.mp this]; exact (TxB.lit "stop" (n := 4)).mono
theorem ruT_app (r : RuX) : ruT r = callT r.part r.deed r.looks ++ (" " : Str) ++ r.tn ++ (" " : Str) ++ Txt.join "," (r.ans.map antW) := by
  apply TL.ext_tl
  unfold ruT
  rw [tl_joinT, TL.tl_append, TL.tl_append, TL.tl_append, TL.tl_append]
  show TL.tl (callT r.part r.deed r.looks) ++ ([32] ++ (TL.tl r.tn ++ ([32] ++ TL.tl (Txt.join "," (r.ans.map antW))))) = TL.tl (callT r.part r.deed r.looks) ++ [32] ++ TL.tl r.tn ++ [32] ++ TL.tl (Txt.join "," (r.ans.map antW))
  simp
theorem ru_B {r : RuX} (h : r.N) : TxB 2300 (ruT r) := by
  rw [ruT_app]
  exact (((((callT_B h.part h.deed h.looks).app (TxB.lit " " (n := 1))).app (tn_B h.tn)).app (TxB.lit " " (n := 1))).app (ants_B h.ans h.many.2)).mono
def sp_rule_text : SpD := fun ds m P _ => ∃ r : RuX, ds = [r.d] ∧ r.N ∧ P (.str (ruT r)) m
def rd_rule_text : DS :=
    sSeq (sSet 1 (rJoin (rC (.str ",")) (rLc (iAny (rFld "Rule" "answers" (rV 0))) [2] (gN 2) (qYes) (rCall sp_answer_text [] (rCons (rV 2) (rNil))))))
    (sRet (rJoin (rC (.str " ")) (rLst (rCons (rCall sp_call_text [] (rCons (rFld "Rule" "part" (rV 0)) (rCons (rFld "Rule" "deed" (rV 0)) (rCons (rFld "Rule" "looks" (rV 0)) (rNil))))) (rCons (rFld "Rule" "then" (rV 0)) (rCons (rV 1) (rNil)))))))
theorem ln_rule_text : ∀ ds m Q PX, sp_rule_text ds m Q PX → ds.length = 1 := fun ds m Q PX h => by repeat' (first | (subst_vars; rfl; done) | (refine Or.elim h (fun h => ?_) (fun h => ?_)) | (obtain ⟨_, h⟩ := h))
theorem pu_rule_text : ∀ ds m Q PX, sp_rule_text ds m Q PX → rd_rule_text (dEnds Q PX) (dstart ["rule", "answers", "answer"] ds) m := by
  rintro ds m Q PX ⟨r, rfl, hN, h⟩
  have e4 : Str.length "," = 1 := by decide
  have e5 : Str.length " " = 1 := by decide
  have hm := hN.many
  have B := (ru_B hN).1
  obtain ⟨p, d, L, as, t⟩ := r
  walk_at "dl"
  refine comp_on as AnT.d (fun x => .str (antW x)) (by have : as.length ≤ 4 := hm.2; omega) trivial (fun x hx Q' h' => ?_) ?_
  · walk_at "go"
    exact ⟨x, rfl, hN.ans x hx, h'⟩
  have et : textsD (as.map fun x => D.str (antW x)) = some (as.map antW) := textsD_strs antW as
  have s1 : ((as.map antW).map (·.length)).sum ≤ (as.map antW).length * 64 := sum_len fun x hx => by
    obtain ⟨y, hy, rfl⟩ := List.mem_map.mp hx
    exact (ant_B (hN.ans y hy)).1
  rw [List.length_map] at s1
  have l4 : as.length ≤ 4 := hm.2
  walk_at "dl"
  rw [et]
  dsimp only
  refine ⟨by rw [e4, List.length_map]; omega, ?_⟩
  walk_at "dl"
  refine ⟨p, d, L, rfl, hN.part, hN.deed, hN.looks, ?_⟩
  walk_at "dl"
  refine ⟨by show 3 ≤ sizeLine; decide, ?_⟩
  walk_at "dl"
  have b1 := (callT_B hN.part hN.deed hN.looks).1
  have b2 := (tn_B hN.tn).1
  have b3 := (ants_B hN.ans hN.many.2).1
  dsimp only at b1 b2 b3
  have b3' : (Txt.join (Str.ofString ",") (List.map antW as)).length ≤ 260 := b3
  refine ⟨?_, h⟩
  show (callT p d L).length + (t.length + ((Txt.join (Str.ofString ",") (List.map antW as)).length + 0)) + 3 * (Str.ofString " ").length ≤ 16777216
  have e6 : (Str.ofString " ").length = 1 := e5
  omega
def tdU (w : List Nat) : D := match ruleR w with | none => .tup [.str "refused", .int 0] | some r => .tup [.str "told", r.five]
def sp__law_told_v9 : SpD := fun ds m P _ => ∃ w : Str, ds = [.str w] ∧ LxOk (TL.tl w) ∧ ∀ m', Kp [] m m' → P (tdU (TL.tl w)) m'
def rd__law_told_v9 : DS :=
    sSeq (sTryA "BadText" 1 (sSet 2 (rCall sp_read_rule [] (rCons (rV 0) (rNil)))) (fun xa xc xd => sSeq (sIf (rTru (rCB (cIsX xa xc xd) (rCons (rV 1) (rCons (rC (.glb "BadRule")) (rNil))))) (sRet (rTup (rCons (rC (.str "odd")) (rNil)))) (sNext))
    (sRet (rTup (rCons (rC (.str "refused")) (rCons (rXf xa xc xd "line" (rV 1)) (rNil)))))))
    (sSeq (sIf (rOr (rNot (rTru (rCB cIsG (rCons (rV 2) (rCons (rC (.glb "Rule")) (rNil)))))) (rTst (rOp oNe (rCall sp_rule_text [] (rCons (rV 2) (rNil))) (rV 0)))) (sRet (rTup (rCons (rC (.str "odd")) (rNil)))) (sNext))
    (sRet (rTup (rCons (rC (.str "told")) (rCons (rTup (rCons (rFld "Rule" "part" (rV 2)) (rCons (rFld "Rule" "deed" (rV 2)) (rCons (rFld "Rule" "looks" (rV 2)) (rCons (rFld "Rule" "answers" (rV 2)) (rCons (rFld "Rule" "then" (rV 2)) (rNil))))))) (rNil))))))
theorem ln__law_told_v9 : ∀ ds m Q PX, sp__law_told_v9 ds m Q PX → ds.length = 1 := fun ds m Q PX h => by repeat' (first | (subst_vars; rfl; done) | (refine Or.elim h (fun h => ?_) (fun h => ?_)) | (obtain ⟨_, h⟩ := h))
theorem pu__law_told_v9 : ∀ ds m Q PX, sp__law_told_v9 ds m Q PX → rd__law_told_v9 (dEnds Q PX) (dstart ["_law_line", "e", "_law_found"] ds) m := by
  rintro ds m Q PX ⟨w, rfl, hx, h⟩
  walk_at "dl"
  refine ⟨w, rfl, hx, fun r e m' kp => ?_, fun e m' kp => ?_⟩
  · have h := h m' kp
    unfold tdU at h
    rw [e] at h
    obtain ⟨e1, hN⟩ := rule_back hx e
    have ew : ruT r = w := TL.ext_tl e1
    walk_at "dl"
    refine ⟨r, rfl, hN, ?_⟩
    rw [ew]
    walk_at "dl"
    rw [if_pos rfl, decide_eq_true rfl]
    walk_at "dl"
    refine ⟨by show 5 ≤ sizeLine; decide, ?_⟩
    walk_at "dl"
    exact ⟨by show 2 ≤ sizeLine; decide, h⟩
  · have h := h m' kp
    unfold tdU at h
    rw [e] at h
    refine ⟨by decide, ?_⟩
    walk_at "dl"
    intro a C dd ha
    walk_at "dl"
    refine ⟨⟨rfl, rfl, rfl, by decide⟩, ?_⟩
    rw [show isX1 (Str.ofString "BadText") (D.glb (Str.ofString "BadRule")) = some false from by decide]
    walk_at "dl"
    exact ⟨⟨rfl, rfl, rfl, by decide⟩, by show 2 ≤ sizeLine; decide, h⟩
end
section
/-! # rules: the law's own reading -/
def oR5 : Option RuX → D
  | none => .non
  | some r => r.five
theorem oA4_non (o : Option AnT) : deq (oA4 o) .non = o.isNone := by
  cases o with
  | none => exact deq_nn
  | some t => cases t with
    | num n => exact deq_in n
    | thing k n => exact deq_tn _
    | run s => exact deq_tn _
theorem oA4_th {w : List Nat} (h : LxOk w) : thD 2 (oA4 (antR w)) := by
  rcases ant_read w with ⟨t, e1, e2, _⟩ | ⟨e1, _⟩
  · rw [e1]
    show thD 2 t.d
    rw [← e2]
    exact antDD_th h
  · rw [e1]; exact thD_non
abbrev sp__law_rule_read : SpD := fun ds m P _ => ∃ w : Str, ds = [.str w] ∧ LxOk (TL.tl w) ∧ ∀ m', Kp [] m m' → P (oR5 (ruleR (TL.tl w))) m'
def rd__law_rule_read : DS :=
    sSeq (sSet 1 (rSplit (rV 0) (rC (.str " "))))
    (sSeq (sIf (rOr (rTst (rOp oNe (rCB cLen (rCons (rV 1) (rNil))) (rC (.int 3)))) (rOr (rTst (rOp oNe (rSl (rOp oIx (rV 1) (rC (.int 0))) (rPart (rNeg (rC (.int 1)))) rNoP) (rC (.str ")")))) (rTst (rOp (oInN true) (rOp oIx (rV 1) (rC (.int 1))) (rLst (rCons (rC (.str "stay")) (rCons (rC (.str "again")) (rCons (rC (.str "stop")) (rNil))))))))) (sRet (rC .non)) (sNext))
    (sSeq (sTup [4, 5, 6] (rParti (rSl (rOp oIx (rV 1) (rC (.int 0))) rNoP (rPart (rNeg (rC (.int 1))))) (rC (.str "("))))
    (sSeq (sTup [7, 8, 9] (rParti (rV 4) (rC (.str "."))))
    (sSeq (sIf (rOr (rTst (rOp oEq (rV 5) (rC (.str "")))) (rOr (rNot (rTru (rCall sp__law_is_name_v2 [] (rCons (rV 7) (rNil))))) (rAnd (rTst (rOp oNe (rV 9) (rC (.str "*")))) (rNot (rTru (rCall sp__law_is_name_v2 [] (rCons (rV 9) (rNil)))))))) (sRet (rC .non)) (sNext))
    (sSeq (sSet 2 (rC .non))
    (sSeq (sIf (rTst (rOp oNe (rV 6) (rC (.str "...")))) (sSeq (sSet 2 (rCall sp__law_looks_read [] (rCons (rV 6) (rNil))))
    (sIf (rTst (rOp (oIsN false) (rV 2) (rC .non))) (sRet (rC .non)) (sNext))) (sNext))
    (sSeq (sIf (rTst (rOp oEq (rV 9) (rC (.str "*")))) (sSet 9 (rC .non)) (sNext))
    (sSeq (sSet 3 (rLc (iAny (rSplit (rOp oIx (rV 1) (rC (.int 2))) (rC (.str ",")))) [10] (gN 10) (qYes) (rCall sp__law_answer_read [] (rCons (rV 10) (rNil)))))
    (sSeq (sIf (rOr (rTst (rOp (oInN false) (rC .non) (rV 3))) (rTst (rOp oGt (rCB cLen (rCons (rV 3) (rNil))) (rC (.int 4))))) (sRet (rC .non)) (sNext))
    (sRet (rTup (rCons (rV 7) (rCons (rV 9) (rCons (rV 2) (rCons (rCB cTup (rCons (rV 3) (rNil))) (rCons (rOp oIx (rV 1) (rC (.int 1))) (rNil)))))))))))))))))
def T__law_rule_read_2 : DS := sSeq (sIf (rOr (rTst (rOp oNe (rCB cLen (rCons (rV 1) (rNil))) (rC (.int 3)))) (rOr (rTst (rOp oNe (rSl (rOp oIx (rV 1) (rC (.int 0))) (rPart (rNeg (rC (.int 1)))) rNoP) (rC (.str ")")))) (rTst (rOp (oInN true) (rOp oIx (rV 1) (rC (.int 1))) (rLst (rCons (rC (.str "stay")) (rCons (rC (.str "again")) (rCons (rC (.str "stop")) (rNil))))))))) (sRet (rC .non)) (sNext))
    (sSeq (sTup [4, 5, 6] (rParti (rSl (rOp oIx (rV 1) (rC (.int 0))) rNoP (rPart (rNeg (rC (.int 1))))) (rC (.str "("))))
    (sSeq (sTup [7, 8, 9] (rParti (rV 4) (rC (.str "."))))
    (sSeq (sIf (rOr (rTst (rOp oEq (rV 5) (rC (.str "")))) (rOr (rNot (rTru (rCall sp__law_is_name_v2 [] (rCons (rV 7) (rNil))))) (rAnd (rTst (rOp oNe (rV 9) (rC (.str "*")))) (rNot (rTru (rCall sp__law_is_name_v2 [] (rCons (rV 9) (rNil)))))))) (sRet (rC .non)) (sNext))
    (sSeq (sSet 2 (rC .non))
    (sSeq (sIf (rTst (rOp oNe (rV 6) (rC (.str "...")))) (sSeq (sSet 2 (rCall sp__law_looks_read [] (rCons (rV 6) (rNil))))
    (sIf (rTst (rOp (oIsN false) (rV 2) (rC .non))) (sRet (rC .non)) (sNext))) (sNext))
    (sSeq (sIf (rTst (rOp oEq (rV 9) (rC (.str "*")))) (sSet 9 (rC .non)) (sNext))
    (sSeq (sSet 3 (rLc (iAny (rSplit (rOp oIx (rV 1) (rC (.int 2))) (rC (.str ",")))) [10] (gN 10) (qYes) (rCall sp__law_answer_read [] (rCons (rV 10) (rNil)))))
    (sSeq (sIf (rOr (rTst (rOp (oInN false) (rC .non) (rV 3))) (rTst (rOp oGt (rCB cLen (rCons (rV 3) (rNil))) (rC (.int 4))))) (sRet (rC .non)) (sNext))
    (sRet (rTup (rCons (rV 7) (rCons (rV 9) (rCons (rV 2) (rCons (rCB cTup (rCons (rV 3) (rNil))) (rCons (rOp oIx (rV 1) (rC (.int 1))) (rNil))))))))))))))))
def T__law_rule_read_6 : DS := sSeq (sSet 2 (rC .non))
    (sSeq (sIf (rTst (rOp oNe (rV 6) (rC (.str "...")))) (sSeq (sSet 2 (rCall sp__law_looks_read [] (rCons (rV 6) (rNil))))
    (sIf (rTst (rOp (oIsN false) (rV 2) (rC .non))) (sRet (rC .non)) (sNext))) (sNext))
    (sSeq (sIf (rTst (rOp oEq (rV 9) (rC (.str "*")))) (sSet 9 (rC .non)) (sNext))
    (sSeq (sSet 3 (rLc (iAny (rSplit (rOp oIx (rV 1) (rC (.int 2))) (rC (.str ",")))) [10] (gN 10) (qYes) (rCall sp__law_answer_read [] (rCons (rV 10) (rNil)))))
    (sSeq (sIf (rOr (rTst (rOp (oInN false) (rC .non) (rV 3))) (rTst (rOp oGt (rCB cLen (rCons (rV 3) (rNil))) (rC (.int 4))))) (sRet (rC .non)) (sNext))
    (sRet (rTup (rCons (rV 7) (rCons (rV 9) (rCons (rV 2) (rCons (rCB cTup (rCons (rV 3) (rNil))) (rCons (rOp oIx (rV 1) (rC (.int 1))) (rNil))))))))))))
def T__law_rule_read_9 : DS := sSeq (sIf (rTst (rOp oEq (rV 9) (rC (.str "*")))) (sSet 9 (rC .non)) (sNext))
    (sSeq (sSet 3 (rLc (iAny (rSplit (rOp oIx (rV 1) (rC (.int 2))) (rC (.str ",")))) [10] (gN 10) (qYes) (rCall sp__law_answer_read [] (rCons (rV 10) (rNil)))))
    (sSeq (sIf (rOr (rTst (rOp (oInN false) (rC .non) (rV 3))) (rTst (rOp oGt (rCB cLen (rCons (rV 3) (rNil))) (rC (.int 4))))) (sRet (rC .non)) (sNext))
    (sRet (rTup (rCons (rV 7) (rCons (rV 9) (rCons (rV 2) (rCons (rCB cTup (rCons (rV 3) (rNil))) (rCons (rOp oIx (rV 1) (rC (.int 1))) (rNil))))))))))
def T__law_rule_read_10 : DS := sSeq (sSet 3 (rLc (iAny (rSplit (rOp oIx (rV 1) (rC (.int 2))) (rC (.str ",")))) [10] (gN 10) (qYes) (rCall sp__law_answer_read [] (rCons (rV 10) (rNil)))))
    (sSeq (sIf (rOr (rTst (rOp (oInN false) (rC .non) (rV 3))) (rTst (rOp oGt (rCB cLen (rCons (rV 3) (rNil))) (rC (.int 4))))) (sRet (rC .non)) (sNext))
    (sRet (rTup (rCons (rV 7) (rCons (rV 9) (rCons (rV 2) (rCons (rCB cTup (rCons (rV 3) (rNil))) (rCons (rOp oIx (rV 1) (rC (.int 1))) (rNil)))))))))
theorem ln__law_rule_read : ∀ ds m Q PX, sp__law_rule_read ds m Q PX → ds.length = 1 := fun ds m Q PX h => by repeat' (first | (subst_vars; rfl; done) | (refine Or.elim h (fun h => ?_) (fun h => ?_)) | (obtain ⟨_, h⟩ := h))
theorem pu__law_rule_read : ∀ ds m Q PX, sp__law_rule_read ds m Q PX → rd__law_rule_read (dEnds Q PX) (dstart ["_law_line", "_law_words", "_law_looks", "_law_found", "_law_head", "_law_bracket", "_law_inside", "_law_part", "_law_point", "_law_deed", "_law_word_here"] ds) m := by
  rintro ds m Q PX ⟨w, rfl, hx, h⟩
  have hw := hx.len
  have hwl := TL.len_tl w
  unfold ruleR at h
  walk_at "dl"
  refine ⟨⟨by decide, len_line (by omega)⟩, ?_⟩
  rw [split_sgn w " " (by decide) (by decide +kernel), show TL.tl (" " : Str) = [32] from by decide]
  have xs : ∀ x ∈ TL.spl [32] 0 [] (TL.tl w), LxOk x := fun x hx2 => hx.spl (S := [32]) hx2
  have hsl := spl_le [32] (TL.tl w) 0 []
  have eR : (TL.spl [32] 0 [] (TL.tl w)).map (D.str ∘ sgnT) = wdsD (TL.spl [32] 0 [] (TL.tl w)) := rfl
  rw [List.map_map, eR]
  generalize TL.spl [32] 0 [] (TL.tl w) = WS at h xs hsl
  have hml : (wdsD WS).length = WS.length := List.length_map _
  obtain ⟨N, hN⟩ : ∃ N : Int, N = ((wdsD WS).length : Int) := ⟨_, rfl⟩
  show T__law_rule_read_2 (dEnds Q PX) [some (.str w), some (.lst (wdsD WS)), none, none, none, none, none, none, none, none, none] m
  walk_at "dl"
  rw [← hN, if_pos rfl]
  rcases ru3_cases WS with h3 | ⟨a, t, b, rfl⟩
  · rw [ru3_no h3] at h
    rw [decide_eq_false (show ¬ N = 3 by omega)]
    exact h m (Kp.refl _ _)
  · change ∀ m', Kp [] m m' → Q (oR5 (ruF a t b)) m' at h
    have hN3 : N = 3 := by rw [hN, hml]; rfl
    rw [decide_eq_true hN3]
    have i0 : atI (wdsD [a, t, b]) 0 = some (.str (sgnT a)) := rfl
    have i1 : atI (wdsD [a, t, b]) 1 = some (.str (sgnT t)) := rfl
    have i2 : atI (wdsD [a, t, b]) 2 = some (.str (sgnT b)) := rfl
    generalize hWD : wdsD [a, t, b] = WD at i0 i1 i2 hN ⊢
    have xa := xs a (by simp)
    have xb := xs b (by simp)
    have xt := xs t (by simp)
    have la := xa.len
    have sa := sgnT_len a
    have lb := xb.len
    have sb := sgnT_len b
    have lt := xt.len
    have st := sgnT_len t
    unfold ruF at h
    rw [callR_law] at h
    walk_at "dl"
    rw [i0]
    walk_at "dl"
    refine ⟨len_line (by omega), ?_⟩
    walk_at "dl"
    rw [if_pos rfl, last_cut (c := 41) (by decide), tl_sgnT]
    by_cases h8 : a.drop (a.length - 1) = [41]
    · rw [decide_eq_true h8]
      rw [if_pos h8] at h
      walk_at "dl"
      rw [i1]
      walk_at "dl"
      refine ⟨by show 3 ≤ sizeLine; decide, ?_⟩
      walk_at "dl"
      refine ⟨.inl ⟨rfl, rfl⟩, ?_⟩
      rw [if_pos rfl]
      show (match ![D.str "stay", D.str "again", D.str "stop"].any (fun z => deq z (.str (sgnT t))) with | true => _ | false => _)
      rw [show ([D.str "stay", D.str "again", D.str "stop"].any (fun z => deq z (.str (sgnT t)))) = decide (sgnT t ∈ thensS) from by
        rw [List.any_cons, List.any_cons, List.any_cons, List.any_nil, Bool.or_false, deq_ss, deq_ss, deq_ss, Bool.eq_iff_iff, Bool.or_eq_true, Bool.or_eq_true, decide_eq_true_eq, decide_eq_true_eq, decide_eq_true_eq, decide_eq_true_eq]
        unfold thensS
        simp only [List.mem_cons, List.not_mem_nil, or_false]
        exact ⟨fun z => z.elim (fun z => .inl z.symm) (fun z => z.elim (fun z => .inr (.inl z.symm)) (fun z => .inr (.inr z.symm))), fun z => z.elim (fun z => .inl z.symm) (fun z => z.elim (fun z => .inr (.inl z.symm)) (fun z => .inr (.inr z.symm)))⟩]
      by_cases ht : sgnT t ∈ thensS
      · rw [decide_eq_true ht]
        have xd := xa.init
        have dl := xd.len
        have dsl := sgnT_len a.dropLast
        walk_at "dl"
        rw [i0]
        walk_at "dl"
        refine ⟨len_line (by omega), ?_⟩
        rw [cutI, tl_sgnT]
        walk_at "dl"
        refine ⟨⟨by decide, len_line (by omega)⟩, ?_⟩
        rw [parti_sgn (sgnT a.dropLast) "(" (by decide), show TL.tl ("(" : Str) = [40] from by decide, tl_sgnT]
        cases hp : TL.par [40] [] a.dropLast with
        | none =>
          rw [hp] at h
          walk_at "go"
          refine ⟨⟨by decide, len_line (by omega)⟩, ?_⟩
          generalize Txt.partition (sgnT a.dropLast) (Str.ofString ".") = p
          walk_at "go"
          exact h m (Kp.refl _ _)
        | some hi =>
          obtain ⟨head, ins⟩ := hi
          obtain ⟨xh, xi⟩ := xd.par (by decide) hp
          have hhl := xh.len
          have hsl2 := sgnT_len head
          have hil := xi.len
          have hisl := sgnT_len ins
          rw [hp] at h
          dsimp only at h
          walk_at "go"
          refine ⟨⟨by decide, len_line (by omega)⟩, ?_⟩
          rw [parti_sgn (sgnT head) "." (by decide), show TL.tl ("." : Str) = [46] from by decide, tl_sgnT]
          cases hq : TL.par [46] [] head with
          | none =>
            rw [hq] at h
            have h0 := h m (Kp.refl _ _)
            walk_at "go"
            refine ⟨_, rfl, xh, ?_⟩
            cases hnm : nmB (sgnT head) with
            | false => exact h0
            | true =>
              walk_at "go"
              exact ⟨"", rfl, ⟨by decide, fun c hc => by cases hc⟩, h0⟩
          | some ab =>
            obtain ⟨p, d⟩ := ab
            obtain ⟨xp, xdd⟩ := xh.par (by decide) hq
            rw [hq] at h
            dsimp only at h
            have badn : ¬ (nmB (sgnT p) = true ∧ (d = [42] ∨ nmB (sgnT d) = true)) → Q .non m := by
              intro z
              have h0 := h m (Kp.refl _ _)
              split at h0
              · rw [if_neg (fun y => z y.1)] at h0; exact h0
              · exact h0
            obtain ⟨bs, hbs⟩ : ∃ bs, bs = TL.spl [44] 0 [] b := ⟨_, rfl⟩
            have hbl := spl_le [44] b 0 []
            rw [← hbs] at h hbl
            obtain ⟨DE, hDE⟩ : ∃ DE : Option Str, DE = if d = [42] then none else some (sgnT d) := ⟨_, rfl⟩
            rw [← hDE] at h
            have after3 : nmB (sgnT p) = true ∧ (d = [42] ∨ nmB (sgnT d) = true) → ∀ (L : Option (List Lk)) (m' : Mu), Kp [] m m' → lksR ins = some L → T__law_rule_read_10 (dEnds Q PX) [some (.str w), some (.lst WD), some (oL L), none, some (.str (sgnT head)), some (.str "("), some (.str (sgnT ins)), some (.str (sgnT p)), some (.str "."), some (oS DE), none] m' := by
              intro hpd L m' kp eL
              have h := h m' kp
              rw [eL] at h
              walk_at "dl"
              rw [i2]
              walk_at "dl"
              refine ⟨⟨by decide, len_line (by omega)⟩, ?_⟩
              rw [split_sgn (sgnT b) "," (by decide) (by decide +kernel), List.map_map, tl_sgnT, show TL.tl ("," : Str) = [44] from by decide, ← hbs]
              refine comp_on bs (fun p => .str (sgnT p)) (fun p => oA4 (antR p)) (by omega) trivial (fun p hp2 Q' h' => ?_) ?_
              · walk_at "dl"
                refine ⟨_, rfl, ?_, ?_⟩
                · rw [tl_sgnT]; exact xb.spl (S := [44]) (by rw [← hbs]; exact hp2)
                · rw [tl_sgnT]; exact h'
              have lbs : (bs.map fun p => oA4 (antR p)).length = bs.length := List.length_map _
              walk_at "dl"
              refine ⟨.inr ⟨shpT81 (n := 0) thD_non, shpT81 (n := 3) (thD_lst (by omega) fun d hd => ?_)⟩, ?_⟩
              · obtain ⟨x, hx2, rfl⟩ := List.mem_map.mp hd
                exact oA4_th (xb.spl (S := [44]) (by rw [← hbs]; exact hx2))
              rw [if_neg Bool.false_ne_true]
              show (match (bs.map fun p => oA4 (antR p)).any (fun z => deq z .non) with | true => _ | false => _)
              rw [show (bs.map fun p => oA4 (antR p)) = (bs.map antR).map oA4 from by rw [List.map_map]; rfl, any_nonG oA4_non]
              cases hts : allG (bs.map antR) with
              | none =>
                rw [hts] at h
                exact h
              | some as =>
                rw [hts] at h
                dsimp only at h
                dsimp only [Option.isNone]
                have e8 := allG_some hts
                rw [e8, List.map_map]
                have f8 : as.map (oA4 ∘ some) = as.map AnT.d := rfl
                rw [f8]
                walk_at "dl"
                rw [List.length_map]
                by_cases k3 : as.length ≤ 4
                · rw [decide_eq_false (show ¬ (4 : Int) < (as.length : Int) by omega)]
                  rw [if_pos ⟨hpd, k3, ht⟩] at h
                  walk_at "dl"
                  rw [i1]
                  exact ⟨by show 5 ≤ sizeLine; decide, h⟩
                · rw [decide_eq_true (show (4 : Int) < (as.length : Int) by omega)]
                  rw [if_neg (fun z => k3 z.2.1)] at h
                  exact h
            have after2 : nmB (sgnT p) = true ∧ (d = [42] ∨ nmB (sgnT d) = true) → ∀ (L : Option (List Lk)) (m' : Mu), Kp [] m m' → lksR ins = some L → T__law_rule_read_9 (dEnds Q PX) [some (.str w), some (.lst WD), some (oL L), none, some (.str (sgnT head)), some (.str "("), some (.str (sgnT ins)), some (.str (sgnT p)), some (.str "."), some (.str (sgnT d)), none] m' := by
              intro hpd L m' kp eL
              have a3 := after3 hpd L m' kp eL
              walk_at "dl"
              rw [if_neg Bool.false_ne_true, eq_str (l := [42]) (by decide), tl_sgnT]
              by_cases hd : d = [42]
              · rw [decide_eq_true hd]
                rw [hDE, if_pos hd] at a3
                exact a3
              · rw [decide_eq_false hd]
                rw [hDE, if_neg hd] at a3
                exact a3
            have cont : nmB (sgnT p) = true ∧ (d = [42] ∨ nmB (sgnT d) = true) → T__law_rule_read_6 (dEnds Q PX) [some (.str w), some (.lst WD), none, none, some (.str (sgnT head)), some (.str "("), some (.str (sgnT ins)), some (.str (sgnT p)), some (.str "."), some (.str (sgnT d)), none] m := by
              intro hpd
              walk_at "dl"
              rw [if_pos rfl, eq_str (l := [46, 46, 46]) (by decide), tl_sgnT]
              by_cases hi : ins = [46, 46, 46]
              · rw [decide_eq_true hi]
                exact after2 hpd none m (Kp.refl _ _) (by unfold lksR; rw [if_pos hi])
              · rw [decide_eq_false hi]
                walk_at "dl"
                refine ⟨_, rfl, by rw [tl_sgnT]; exact xi, fun m' kp => ?_⟩
                rw [tl_sgnT]
                rcases lksF_of hi with ⟨e1, e2⟩ | ⟨ls, e1, e2⟩
                · rw [e2]
                  have h := h m' kp
                  rw [e1] at h
                  walk_at "dl"
                  exact h
                · rw [e2]
                  walk_at "dl"
                  exact after2 hpd (some ls) m' kp e1
            walk_at "go"
            refine ⟨_, rfl, xp, ?_⟩
            cases ha : nmB (sgnT p) with
            | false => exact badn (fun z => by rw [ha] at z; cases z.1)
            | true =>
              walk_at "dl"
              rw [if_pos rfl, eq_str (l := [42]) (by decide), tl_sgnT]
              by_cases hd : d = [42]
              · rw [decide_eq_true hd]
                exact cont ⟨ha, .inl hd⟩
              · rw [decide_eq_false hd]
                walk_at "dl"
                refine ⟨_, rfl, by rw [tl_sgnT]; exact xdd, ?_⟩
                cases hb : nmB (sgnT d) with
                | false => exact badn (fun z => z.2.elim hd (fun y => by rw [hb] at y; cases y))
                | true => exact cont ⟨ha, .inr hb⟩
      · rw [decide_eq_false ht]
        have h0 := h m (Kp.refl _ _)
        have : Q .non m := by
          split at h0
          · exact h0
          · split at h0
            · rw [if_neg (fun y => ht y.2.2)] at h0; exact h0
            · exact h0
        exact this
    · rw [decide_eq_false h8]
      rw [if_neg h8] at h
      exact h m (Kp.refl _ _)
abbrev sp__law_due_v11 : SpD := fun ds m P _ => ∃ w : Str, ds = [.str w] ∧ LxOk (TL.tl w) ∧ ∀ m', Kp [] m m' → P (tdU (TL.tl w)) m'
def rd__law_due_v11 : DS :=
    sSeq (sSet 1 (rCall sp__law_rule_read [] (rCons (rV 0) (rNil))))
    (sSeq (sIf (rTst (rOp (oIsN false) (rV 1) (rC .non))) (sRet (rTup (rCons (rC (.str "refused")) (rCons (rC (.int 0)) (rNil))))) (sNext))
    (sRet (rTup (rCons (rC (.str "told")) (rCons (rV 1) (rNil))))))
theorem ln__law_due_v11 : ∀ ds m Q PX, sp__law_due_v11 ds m Q PX → ds.length = 1 := fun ds m Q PX h => by repeat' (first | (subst_vars; rfl; done) | (refine Or.elim h (fun h => ?_) (fun h => ?_)) | (obtain ⟨_, h⟩ := h))
theorem pu__law_due_v11 : ∀ ds m Q PX, sp__law_due_v11 ds m Q PX → rd__law_due_v11 (dEnds Q PX) (dstart ["_law_line", "_law_found"] ds) m := by
  rintro ds m Q PX ⟨w, rfl, hx, h⟩
  walk_at "dl"
  refine ⟨w, rfl, hx, fun m' kp => ?_⟩
  have h := h m' kp
  unfold tdU at h
  cases hr : ruleR (TL.tl w) with
  | none =>
    rw [hr] at h
    walk_at "dl"
    exact ⟨by show 2 ≤ sizeLine; decide, h⟩
  | some r =>
    rw [hr] at h
    walk_at "dl"
    exact ⟨by show 2 ≤ sizeLine; decide, h⟩
end
section
/-! # rules: what is written is read -/
theorem fold_flat (DN : List (List Nat)) : ∀ (u CU : List Nat), (∀ c ∈ u, c ≠ 44 ∧ c ≠ 123 ∧ c ≠ 125) → u.foldl pcS (DN, CU, 0) = (DN, CU ++ u, 0)
  | [], CU, _ => by rw [List.append_nil]; rfl
  | c :: r, CU, h => by
    obtain ⟨h1, h2, h3⟩ := h c List.mem_cons_self
    have e : pcS (DN, CU, 0) c = (DN, CU ++ [c], 0) := by
      unfold pcS brN
      rw [if_neg (fun z => h1 z.1), if_neg h2, if_neg h3]; rfl
    rw [List.foldl_cons, e, fold_flat DN r _ fun x hx => h x (List.mem_cons_of_mem _ hx)]
    simp
theorem fold_in (DN : List (List Nat)) : ∀ (u CU : List Nat), (∀ c ∈ u, c ≠ 123 ∧ c ≠ 125) → u.foldl pcS (DN, CU, 1) = (DN, CU ++ u, 1)
  | [], CU, _ => by rw [List.append_nil]; rfl
  | c :: r, CU, h => by
    obtain ⟨h2, h3⟩ := h c List.mem_cons_self
    have e : pcS (DN, CU, 1) c = (DN, CU ++ [c], 1) := by
      unfold pcS brN
      rw [if_neg h2, if_neg h3, if_neg (fun z => absurd (show (1 : Int) + 0 = 0 from z.2) (by decide))]; rfl
    rw [List.foldl_cons, e, fold_in DN r _ fun x hx => h x (List.mem_cons_of_mem _ hx)]
    simp
theorem fold_bra (DN : List (List Nat)) (u CU : List Nat) (h : ∀ c ∈ u, c ≠ 123 ∧ c ≠ 125) : (123 :: u ++ [125]).foldl pcS (DN, CU, 0) = (DN, CU ++ (123 :: u ++ [125]), 0) := by
  have e1 : (123 :: u).foldl pcS (DN, CU, 0) = (DN, CU ++ [123] ++ u, 1) := by
    rw [List.foldl_cons]
    show u.foldl pcS (DN, CU ++ [123], 1) = _
    exact fold_in DN u _ h
  rw [List.foldl_append, e1]
  show (DN, CU ++ [123] ++ u ++ [125], (1 : Int) + -1) = _
  simp
theorem fold_look1 (DN : List (List Nat)) {l : Lk} (hr : l.Rd) (hd : l.dep = 1) (CU : List Nat) : (TL.tl l.text).foldl pcS (DN, CU, 0) = (DN, CU ++ TL.tl l.text, 0) := by
  have dg : ∀ n : Int, ∀ c ∈ TL.tl (dig n), c ≠ 44 ∧ c ≠ 123 ∧ c ≠ 125 := fun n c hc => by
    have := dig_chars c hc
    omega
  have dots : ∀ c ∈ TL.tl (".." : Str), c = 46 := by decide
  cases l with
  | any => exact fold_flat DN _ _ (by show ∀ c ∈ [42], _; decide)
  | is n => exact fold_flat DN _ _ (dg n)
  | frm n =>
    refine fold_flat DN _ _ fun c hc => ?_
    have hc' : c ∈ TL.tl (dig n ++ (".." : Str)) := hc
    rw [TL.tl_append] at hc'
    rcases List.mem_append.mp hc' with z | z
    · exact dg n c z
    · have := dots c z; omega
  | upto n =>
    refine fold_flat DN _ _ fun c hc => ?_
    have hc' : c ∈ TL.tl ((".." : Str) ++ dig n) := hc
    rw [TL.tl_append] at hc'
    rcases List.mem_append.mp hc' with z | z
    · have := dots c z; omega
    · exact dg n c z
  | inn a b =>
    refine fold_flat DN _ _ fun c hc => ?_
    have hc' : c ∈ TL.tl (dig a ++ (".." : Str) ++ dig b) := hc
    rw [TL.tl_append, TL.tl_append] at hc'
    rcases List.mem_append.mp hc' with z | z
    · rcases List.mem_append.mp z with z | z
      · exact dg a c z
      · have := dots c z; omega
    · exact dg b c z
  | one ns =>
    have e : TL.tl (Lk.one ns).text = 123 :: TL.tl (numsT ns) ++ [125] := by
      show TL.tl (("{" : Str) ++ numsT ns ++ ("}" : Str)) = _
      rw [TL.tl_append, TL.tl_append]; rfl
    rw [e]
    refine fold_bra DN _ _ fun c hc => ?_
    rw [tl_numsT] at hc
    rcases joinL_mem hc with z | ⟨p, hp, z⟩
    · have := List.mem_singleton.mp z; omega
    · obtain ⟨n, _, rfl⟩ := List.mem_map.mp hp
      exact (dg n c z).2
  | but l =>
    have h1 : l.dep + 1 = 1 := hd
    cases l <;> simp [Lk.dep] at h1
theorem fold_look (DN : List (List Nat)) {l : Lk} (hr : l.Rd) (hd : l.dep ≤ 2) (CU : List Nat) : (TL.tl l.text).foldl pcS (DN, CU, 0) = (DN, CU ++ TL.tl l.text, 0) := by
  cases hl : l with
  | but k =>
    rw [hl] at hd hr
    have hk : k.dep = 1 := by
      have : k.dep + 1 ≤ 2 := hd
      have h1 : 1 ≤ k.dep := by cases k <;> simp [Lk.dep]
      omega
    have e : TL.tl (Lk.but k).text = 33 :: TL.tl k.text := by
      show TL.tl (("!" : Str) ++ k.text) = _
      rw [TL.tl_append]; rfl
    rw [e, List.foldl_cons, show pcS (DN, CU, 0) 33 = (DN, CU ++ [33], 0) from rfl, fold_look1 DN (l := k) ⟨hr.nm, hr.few, hr.un⟩ hk]
    simp
  | _ => rw [← hl]; exact fold_look1 DN hr (by rw [hl]; rfl) CU
theorem fold_looks : ∀ (ls : List Lk) (DN : List (List Nat)), ls ≠ [] → (∀ l ∈ ls, l.dep ≤ 2 ∧ l.Rd) → ∃ A B, (TL.joinL [44] (ls.map fun l => TL.tl l.text)).foldl pcS (DN, [], 0) = (A, B, 0) ∧ A ++ [B] = DN ++ ls.map fun l => TL.tl l.text
  | [], _, h, _ => (h rfl).elim
  | [l], DN, _, h => by
    obtain ⟨h1, h2⟩ := h l List.mem_cons_self
    exact ⟨DN, TL.tl l.text, fold_look DN h2 h1 [], rfl⟩
  | l :: k :: r, DN, _, h => by
    obtain ⟨h1, h2⟩ := h l List.mem_cons_self
    obtain ⟨A, B, e1, e2⟩ := fold_looks (k :: r) (DN ++ [TL.tl l.text]) (by simp) fun x hx => h x (List.mem_cons_of_mem _ hx)
    refine ⟨A, B, ?_, by rw [e2]; simp⟩
    rw [List.map_cons, joinL_cons _ _ (by simp), List.foldl_append, fold_look DN h2 h1 [], List.nil_append, List.foldl_append, show [44].foldl pcS (DN, TL.tl l.text, 0) = (DN ++ [TL.tl l.text], [], 0) from rfl]
    exact e1
theorem pieces_back {ls : List Lk} (h : ∀ l ∈ ls, l.dep ≤ 2 ∧ l.Rd) : piecesR (TL.joinL [44] (ls.map fun l => TL.tl l.text)) = ls.map fun l => TL.tl l.text := by
  by_cases hl : ls = []
  · rw [hl]; rfl
  · have h0 : ¬ TL.joinL [44] (ls.map fun l => TL.tl l.text) = [] := fun z => by
      have := joinL_nil (by decide) (fun p hp => by
        obtain ⟨l, hl2, rfl⟩ := List.mem_map.mp hp
        intro y
        have := look_text_back (h l hl2).1 (h l hl2).2
        rw [y] at this
        revert this
        rw [show lookR [] = none from rfl]
        intro this; cases this) z
      exact hl (List.map_eq_nil_iff.mp this)
    unfold piecesR
    rw [if_neg h0]
    obtain ⟨A, B, e1, e2⟩ := fold_looks ls [] hl h
    unfold pcL pcT
    rw [e1]
    exact e2
theorem lks_text_back {L : Option (List Lk)} (h : LksN L) : lksR (TL.tl (lksT L)) = some L := by
  cases L with
  | none => rfl
  | some ls =>
    obtain ⟨h1, h2⟩ := h ls rfl
    have e : TL.tl (lksT (some ls)) = TL.joinL [44] (ls.map fun l => TL.tl l.text) := by
      show TL.tl (Txt.join "," (ls.map Lk.text)) = _
      rw [tl_joinT, List.map_map]; rfl
    have hp := pieces_back h2
    rw [e]
    unfold lksR
    have hb : allG ((piecesR (TL.joinL [44] (ls.map fun l => TL.tl l.text))).map lookR) = some ls := by
      rw [hp, List.map_map, show ls.map (lookR ∘ fun l => TL.tl l.text) = ls.map some from List.map_congr_left fun l hl => look_text_back (h2 l hl).1 (h2 l hl).2]
      exact allG_map ls
    rw [if_neg, hb]
    · dsimp only
      rw [if_pos h1]
    · intro z
      rw [z, show piecesR [46, 46, 46] = [[46, 46, 46]] from rfl] at hb
      revert hb
      rw [show ([[46, 46, 46]] : List (List Nat)).map lookR = [none] from rfl]
      intro hb; cases hb
theorem callT_back {p : Str} {d : Option Str} {L : Option (List Lk)} (hp : nmB p = true) (hd : ∀ x, d = some x → nmB x = true) : callR (TL.tl (callT p d L)) = some (TL.tl p, TL.tl (d.getD "*"), TL.tl (lksT L)) := by
  have hdf : ∀ k, (k = 40 ∨ k = 46) → k ∉ TL.tl (d.getD "*") := fun k hk => by
    cases hdd : d with
    | none =>
      intro z
      have : k ∈ [42] := z
      have := List.mem_singleton.mp this
      omega
    | some x => exact nm_free (hd x hdd) (by omega)
  have e0 : TL.tl (callT p d L) = (TL.tl p ++ 46 :: TL.tl (d.getD "*")) ++ 40 :: (TL.tl (lksT L) ++ [41]) := by
    rw [tl_callT]; simp
  have h1 := par1_of (s := 40) (p := TL.tl p ++ 46 :: TL.tl (d.getD "*")) (b := TL.tl (lksT L) ++ [41]) (fun z => by
    rcases List.mem_append.mp z with z | z
    · exact nm_free hp (by omega) z
    · rcases List.mem_cons.mp z with z | z
      · omega
      · exact hdf 40 (.inl rfl) z)
  have h2 := par1_of (s := 46) (p := TL.tl p) (b := TL.tl (d.getD "*")) (nm_free hp (by omega))
  unfold callR
  rw [e0, h1]
  dsimp only
  rw [h2]
  dsimp only
  rw [if_pos (by rw [drop_last1 (by simp)]; simp), List.dropLast_concat]
theorem ant_chars {t : AnT} (h : t.N) : ∀ c ∈ TL.tl (antW t), c = 35 ∨ c = 64 ∨ c = 43 ∨ c = 45 ∨ (48 ≤ c ∧ c ≤ 57) ∨ (97 ≤ c ∧ c ≤ 122) := by
  intro c hc
  cases t with
  | num n => have := dig_chars c hc; omega
  | thing k n =>
    have hc' : c ∈ TL.tl (("#" : Str) ++ dig k ++ moreT n) := hc
    rw [TL.tl_append, TL.tl_append] at hc'
    rcases List.mem_append.mp hc' with z | z
    · rcases List.mem_append.mp z with z | z
      · have : c ∈ [35] := z
        have := List.mem_singleton.mp this; omega
      · have := dig_chars c z; omega
    · have hz : c ∈ TL.tl ((if 0 ≤ n then ("+" : Str) else ("" : Str)) ++ dig n) := z
      rw [TL.tl_append] at hz
      rcases List.mem_append.mp hz with z | z
      · split at z
        · have : c ∈ [43] := z
          have := List.mem_singleton.mp this; omega
        · cases z
      · have := dig_chars c z; omega
  | run s =>
    have hc' : c ∈ TL.tl (("@" : Str) ++ s) := hc
    rw [TL.tl_append] at hc'
    rcases List.mem_append.mp hc' with z | z
    · have : c ∈ [64] := z
      have := List.mem_singleton.mp this; omega
    · have := nm_lows h c z; omega
theorem rule_text_back {r : RuX} (h : r.N) : ruleR (TL.tl (ruT r)) = some r := by
  obtain ⟨p, d, L, as, t⟩ := r
  have hp : nmB p = true := h.part
  have hd : ∀ x, d = some x → nmB x = true := h.deed
  have hL : LksN L := h.looks
  have ha : ∀ x ∈ as, x.N := h.ans
  have hm : 1 ≤ as.length ∧ as.length ≤ 4 := h.many
  have ht : t ∈ thensS := h.tn
  have tch : ∀ c ∈ TL.tl t, c ≠ 32 := by
    unfold thensS at ht
    rcases List.mem_cons.mp ht with e | ht
    · rw [e]; decide
    · rcases List.mem_cons.mp ht with e | ht
      · rw [e]; decide
      · rw [List.mem_singleton.mp ht]; decide
  have cch : (32 : Nat) ∉ TL.tl (callT p d L) := by
    rw [tl_callT]
    intro z
    simp only [List.mem_append, List.mem_cons, List.mem_singleton, List.not_mem_nil, or_false] at z
    rcases z with ((z | z) | z) | z
    · exact nm_free hp (by omega) z
    · rcases z with z | z
      · omega
      · cases hdd : d with
        | none => rw [hdd] at z; have : (32 : Nat) ∈ [42] := z; have := List.mem_singleton.mp this; omega
        | some x => rw [hdd] at z; exact nm_free (hd x hdd) (by omega) z
    · rcases z with z | z
      · omega
      · cases hLL : L with
        | none => rw [hLL] at z; have : (32 : Nat) ∈ [46, 46, 46] := z; simp at this
        | some ls =>
          rw [hLL] at z
          obtain ⟨_, h2⟩ := hL ls hLL
          have z2 : (32 : Nat) ∈ TL.tl (Txt.join "," (ls.map Lk.text)) := z
          rw [tl_joinT, List.map_map] at z2
          rcases joinL_mem z2 with z | ⟨q, hq, z⟩
          · have : (32 : Nat) ∈ [44] := z
            have := List.mem_singleton.mp this; omega
          · obtain ⟨l, hl, rfl⟩ := List.mem_map.mp hq
            have := look_chars (h2 l hl).2 (h2 l hl).1 32 z
            omega
    · omega
  unfold ruleR
  rw [tl_ruT, TL.spl_join (s := 32) (S := []) (by simp) (List.forall_mem_cons.mpr ⟨cch, List.forall_mem_cons.mpr ⟨fun z => tch 32 z rfl, List.forall_mem_cons.mpr ⟨fun z => by
    rcases joinL_mem z with z | ⟨q, hq, z⟩
    · have := List.mem_singleton.mp z; omega
    · obtain ⟨x, hx, rfl⟩ := List.mem_map.mp hq
      have := ant_chars (ha x hx) 32 z
      omega, List.forall_mem_nil _⟩⟩⟩)]
  show ruF (TL.tl (callT p d L)) (TL.tl t) (TL.joinL [44] (as.map fun t => TL.tl (antW t))) = _
  unfold ruF
  rw [callT_back hp hd]
  dsimp only
  have hne : as ≠ [] := fun z => by rw [z] at hm; simp at hm
  rw [lks_text_back hL, TL.spl_join (s := 44) (S := []) (fun z => hne (List.map_eq_nil_iff.mp z)) (fun q hq => by
    obtain ⟨x, hx, rfl⟩ := List.mem_map.mp hq
    intro z
    have := ant_chars (ha x hx) 44 z
    omega), List.map_map, show as.map (antR ∘ fun t => TL.tl (antW t)) = as.map some from List.map_congr_left fun x hx => ant_text_back (ha x hx), allG_map]
  dsimp only
  rw [sgnT_tl, sgnT_tl, sgnT_tl]
  have hdd : (if TL.tl (d.getD "*") = [42] then none else some (d.getD "*")) = d ∧ (TL.tl (d.getD "*") = [42] ∨ nmB (d.getD "*") = true) := by
    cases d with
    | none => exact ⟨if_pos rfl, .inl rfl⟩
    | some x =>
      have hx := hd x rfl
      refine ⟨?_, .inr hx⟩
      show (if TL.tl x = [42] then none else some x) = some x
      rw [if_neg]
      intro z
      have := nm_lows hx 42 (by rw [z]; simp)
      omega
  rw [if_pos ⟨⟨hp, hdd.2⟩, hm.2, ht⟩, hdd.1]
theorem tdU_back {r : RuX} (h : r.N) : tdU (TL.tl (ruT r)) = .tup [.str "told", r.five] := by
  unfold tdU
  rw [rule_text_back h]
end
section
/-! # rooms drawn -/
abbrev sp__law_whole_v2 : SpD := fun ds m P _ => ∃ w : Addr, ds = [.adr w] ∧ Dr w 3 (fun d => ∃ n : Int, N60 n ∧ d = .int n) m P
def rd__law_whole_v2 : DS :=
    sSeq (sSet 1 (rCall sp__law_draw_v2 [] (rCons (rV 0) (rCons (rC (.int 4)) (rNil)))))
    (sSeq (sSet 2 (rCall sp__law_draw_v2 [] (rCons (rV 0) (rCons (rC (.int 12)) (rNil)))))
    (sSeq (sSet 3 (rCall sp__law_draw_v2 [] (rCons (rV 0) (rCons (rOp oPow (rC (.int 10)) (rC (.int 60))) (rNil)))))
    (sRet (rOp oIx (rLst (rCons (rV 2) (rCons (rOp oSub (rC (.int 0)) (rV 2)) (rCons (rV 3) (rCons (rOp oSub (rC (.int 0)) (rV 3)) (rNil)))))) (rV 1)))))
theorem ln__law_whole_v2 : ∀ ds m Q PX, sp__law_whole_v2 ds m Q PX → ds.length = 1 := fun ds m Q PX h => by repeat' (first | (subst_vars; rfl; done) | (refine Or.elim h (fun h => ?_) (fun h => ?_)) | (obtain ⟨_, h⟩ := h))
theorem pu__law_whole_v2 : ∀ ds m Q PX, sp__law_whole_v2 ds m Q PX → rd__law_whole_v2 (dEnds Q PX) (dstart ["_law_well", "_law_way", "_law_small", "_law_great"] ds) m := by
  rintro ds m Q PX ⟨w, rfl, h⟩
  have big : (2 : Nat) ^ 200 > 10 ^ 60 := by decide
  have e60 : (10 : Int) ^ Int.toNat 60 = ((10 ^ 60 : Nat) : Int) := by decide
  obtain ⟨T, hT⟩ : ∃ T : Nat, T = 10 ^ 60 := ⟨_, rfl⟩
  rw [← hT] at big e60
  have hT12 : 12 < T := by rw [hT]; decide
  have nb : ∀ n : Int, n.natAbs < T → N60 n := fun n hn => by unfold N60; rw [← hT]; exact hn
  walk_at "go"
  refine h.num (by decide) (by omega) (by omega) fun way m1 a0 a1 kp1 h => ?_
  walk_at "go"
  refine h.num (by decide) (by omega) (by omega) fun small m2 b0 b1 kp2 h => ?_
  walk_at "dl"
  refine ⟨⟨by decide, by decide, by decide⟩, ?_⟩
  walk_at "dl"
  rw [e60]
  refine h.num (by decide) (by omega) (by omega) fun great m3 c0 c1 kp3 h => ?_
  have fin : ∀ r : Int, 0 ≤ r → r < 4 → (match atI [D.int small, D.int (0 - small), D.int great, D.int (0 - great)] r with | some d => Q d m3 | none => False) := by
    intro r r0 r1
    rcases (show r = 0 ∨ r = 1 ∨ r = 2 ∨ r = 3 by omega) with z | z | z | z
    · rw [z]
      exact h.done ⟨small, nb _ (by omega), rfl⟩
    · rw [z]
      exact h.done ⟨0 - small, nb _ (by omega), rfl⟩
    · rw [z]
      exact h.done ⟨great, nb _ (by omega), rfl⟩
    · rw [z]
      exact h.done ⟨0 - great, nb _ (by omega), rfl⟩
  walk_at "dl"
  exact ⟨len_line (by simp), fin way a0 a1⟩
end
section
/-! # rooms bent -/
theorem cutD_to (xs : List D) (k : Nat) : cutD xs none (some (k : Int)) = xs.take k := by
  unfold cutD
  rw [HT.sIx_none, HT.sIx_nat, List.drop_zero, Nat.sub_zero]
  by_cases h : k ≤ xs.length
  · rw [Nat.min_eq_left h]
  · rw [Nat.min_eq_right (by omega), List.take_of_length_le (Nat.le_refl _), List.take_of_length_le (by omega)]
theorem cutD_from (xs : List D) (k : Nat) : cutD xs (some (k : Int)) none = xs.drop k := by
  unfold cutD
  rw [HT.sIx_none, HT.sIx_nat]
  by_cases h : k ≤ xs.length
  · rw [Nat.min_eq_left h, List.take_of_length_le (by rw [List.length_drop]; exact Nat.le_refl _)]
  · rw [Nat.min_eq_right (by omega), List.drop_of_length_le (Nat.le_refl _), List.drop_of_length_le (by omega), List.take_nil]
/-- rows of texts as a list -/
def rwD (l : List Str) : List D := l.map .str
theorem rwD_to (l : List Str) (k : Nat) : cutD (rwD l) none (some (k : Int)) = rwD (l.take k) := by
  rw [cutD_to]; exact (List.map_take ..).symm
theorem rwD_from (l : List Str) (k : Nat) : cutD (rwD l) (some (k : Int)) none = rwD (l.drop k) := by
  rw [cutD_from]; exact (List.map_drop ..).symm
theorem rwD_behind (l : List Str) (k : Nat) : cutD (rwD l) (some ((k : Int) + 1)) none = rwD (l.drop (k + 1)) := by
  rw [show ((k : Int) + 1) = ((k + 1 : Nat) : Int) by omega, rwD_from]
theorem rwD_app (a b : List Str) : rwD a ++ rwD b = rwD (a ++ b) := (List.map_append ..).symm
theorem rwD_len (a : List Str) : (rwD a).length = a.length := List.length_map _
end
section
/-! # rules drawn -/
abbrev sp__law_look_v8 : SpD := fun ds m P _ => ∃ w : Addr, ds = [.adr w] ∧ Dr w 9 (fun d => ∃ l : Lk, l.W2 ∧ d = l.d) m P
def rd__law_look_v8 : DS :=
    sSeq (sSet 1 (rCall sp__law_draw_v2 [] (rCons (rV 0) (rCons (rC (.int 9)) (rNil)))))
    (sSeq (sSet 2 (rCall sp__law_whole_v2 [] (rCons (rV 0) (rNil))))
    (sSeq (sSet 3 (rLstM (rCons (rTup (rCons (rC (.str "any")) (rNil))) (rCons (rTup (rCons (rC (.str "is")) (rCons (rV 2) (rNil)))) (rCons (rTup (rCons (rC (.str "from")) (rCons (rV 2) (rNil)))) (rCons (rTup (rCons (rC (.str "to")) (rCons (rV 2) (rNil)))) (rCons (rTup (rCons (rC (.str "in")) (rCons (rV 2) (rCons (rCall sp__law_whole_v2 [] (rCons (rV 0) (rNil))) (rNil))))) (rNil))))))))
    (sSeq (sSet 4 (rLst (rCons (rTup (rCons (rV 2) (rNil))) (rCons (rTup (rNil)) (rCons (rTup (rCons (rV 2) (rCons (rOp oSub (rC (.int 1)) (rV 2)) (rNil)))) (rCons (rTup (rCons (rOp oAdd (rC (.int 3)) (rOp oMul (rV 2) (rC (.int 2)))) (rCons (rC (.int 2)) (rCons (rC (.int 0)) (rCons (rNeg (rC (.int 4))) (rNil)))))) (rNil)))))))
    (sSeq (sExpr (rApp (rV 3) (rTup (rCons (rC (.str "one")) (rCons (rOp oIx (rV 4) (rCall sp__law_draw_v2 [] (rCons (rV 0) (rCons (rOp oIx (rLst (rCons (rC (.int 2)) (rCons (rC (.int 4)) (rNil)))) (rCB cInt (rCons (rOp oLt (rCB cAbs (rCons (rV 2) (rNil))) (rOp oPow (rC (.int 10)) (rC (.int 9)))) (rNil)))) (rNil))))) (rNil))))))
    (sSeq (sIf (rTst (rOp oLt (rV 1) (rC (.int 6)))) (sRet (rOp oIx (rV 3) (rV 1))) (sNext))
    (sRet (rTup (rCons (rC (.str "but")) (rCons (rOp oIx (rV 3) (rCall sp__law_draw_v2 [] (rCons (rV 0) (rCons (rC (.int 6)) (rNil))))) (rNil))))))))))
theorem ln__law_look_v8 : ∀ ds m Q PX, sp__law_look_v8 ds m Q PX → ds.length = 1 := fun ds m Q PX h => by repeat' (first | (subst_vars; rfl; done) | (refine Or.elim h (fun h => ?_) (fun h => ?_)) | (obtain ⟨_, h⟩ := h))
theorem pu__law_look_v8 : ∀ ds m Q PX, sp__law_look_v8 ds m Q PX → rd__law_look_v8 (dEnds Q PX) (dstart ["_law_well", "_law_way", "_law_low", "_law_some", "_law_few"] ds) m := by
  rintro ds m Q PX ⟨w, rfl, h⟩
  have big : (2 : Nat) ^ 200 > 1000 := by decide
  walk_at "go"
  refine h.num (by decide) (by omega) (by omega) fun way m1 a0 a1 kp1 h => ?_
  walk_at "go"
  refine ⟨w, rfl, h.sub (by decide) fun d m2 hd kp2 h => ?_⟩
  obtain ⟨low, hlow, rfl⟩ := hd
  walk_at "go"
  refine ⟨w, rfl, h.sub (by decide) fun d m3 hd kp3 h => ?_⟩
  obtain ⟨high, hhigh, rfl⟩ := hd
  walk_at "go"
  intro q hq
  obtain ⟨k, wl, hk, h⟩ := h
  have hqw : q ≠ w := fun z => wl.some (z ▸ hq)
  have wl4 := wl.keep (kp_new (ws := []) (o := MO.lst [.tup [.str "any"], .tup [.str "is", .int low], .tup [.str "from", .int low], .tup [.str "to", .int low], .tup [.str "in", .int low, .int high]]) hq) (by simp)
  walk_at "go"
  refine ⟨.inr ⟨by decide, by decide⟩, ?_⟩
  walk_at "dl"
  refine ⟨by show 4 ≤ sizeLine; decide, ?_⟩
  walk_at "dl"
  refine ⟨by show 4 ≤ sizeLine; decide, ?_⟩
  walk_at "dl"
  refine ⟨⟨_, mset_same⟩, ?_⟩
  have pick : ∀ (M r : Int), (M = 2 ∨ (M = 4 ∧ low.natAbs < 1000000000)) → 0 ≤ r → r < M → ∃ ns : List Int, atI [D.tup [.int low], D.tup [], D.tup [.int low, .int (1 - low)], D.tup [.int (3 + low * 2), .int 2, .int 0, .int (-4)]] r = some (.tup (ns.map .int)) ∧ (Lk.one ns).Rd := by
    intro M r hM r0 r1
    have sm : ∀ n : Int, n.natAbs < 10 ^ 11 → N60 n := fun n hn => Nat.lt_of_lt_of_le hn (by decide)
    rcases (show r = 0 ∨ r = 1 ∨ ((r = 2 ∨ r = 3) ∧ low.natAbs < 1000000000) by omega) with z | z | ⟨z | z, hs⟩
    · rw [z]
      exact ⟨[low], rfl, ⟨fun n hn => by rw [List.mem_singleton.mp hn]; exact hlow, by show 1 ≤ 4; decide, by show [low].Nodup; simp⟩⟩
    · rw [z]
      exact ⟨[], rfl, ⟨fun n hn => (by cases hn), Nat.zero_le _, List.nodup_nil⟩⟩
    · rw [z]
      refine ⟨[low, 1 - low], rfl, ⟨List.forall_mem_cons.mpr ⟨hlow, List.forall_mem_cons.mpr ⟨sm _ (by omega), List.forall_mem_nil _⟩⟩, by show 2 ≤ 4; decide, ?_⟩⟩
      show [low, 1 - low].Nodup
      rw [List.nodup_cons]
      refine ⟨fun y => ?_, by simp⟩
      have := List.mem_singleton.mp y
      omega
    · rw [z]
      refine ⟨[3 + low * 2, 2, 0, -4], rfl, ⟨List.forall_mem_cons.mpr ⟨sm _ (by omega), List.forall_mem_cons.mpr ⟨sm _ (by decide), List.forall_mem_cons.mpr ⟨sm _ (by decide), List.forall_mem_cons.mpr ⟨sm _ (by decide), List.forall_mem_nil _⟩⟩⟩⟩, Nat.le_refl _, ?_⟩⟩
      show [3 + low * 2, 2, 0, -4].Nodup
      rw [List.nodup_cons]
      refine ⟨fun y => ?_, by decide⟩
      simp only [List.mem_cons, List.not_mem_nil, or_false] at y
      omega
  walk_at "dl"
  refine ⟨by show 2 ≤ sizeLine; decide, ?_⟩
  walk_at "dl"
  refine ⟨⟨by decide, by decide, by decide⟩, ?_⟩
  obtain ⟨M, hM, eM⟩ : ∃ M : Int, (M = 2 ∨ (M = 4 ∧ low.natAbs < 1000000000)) ∧ atI [D.int 2, D.int 4] (if decide ((if low < 0 then -low else low) < 10 ^ Int.toNat 9) = true then 1 else 0) = some (.int M) := by
    have e9 : (10 : Int) ^ Int.toNat 9 = 1000000000 := by decide
    by_cases hb : (if low < 0 then -low else low) < 10 ^ Int.toNat 9
    · refine ⟨4, .inr ⟨rfl, ?_⟩, by rw [decide_eq_true hb]; rfl⟩
      rw [e9] at hb
      split at hb <;> omega
    · exact ⟨2, .inl rfl, by rw [decide_eq_false hb]; rfl⟩
  walk_at "dl"
  rw [eM]
  refine ⟨w, M, rfl, by omega, by omega, k, wl4, by omega, fun d m5 hd kp5 wl5 => ?_⟩
  obtain ⟨r, b0, b1, rfl⟩ := hd
  obtain ⟨ns, ens, hns⟩ := pick M r hM b0 b1
  have eq5 : m5 q = some (.lst [.tup [.str "any"], .tup [.str "is", .int low], .tup [.str "from", .int low], .tup [.str "to", .int low], .tup [.str "in", .int low, .int high]]) := kp5 q _ (by simpa using hqw) mset_same
  obtain ⟨L, hL⟩ : ∃ L : List Lk, L = [.any, .is low, .frm low, .upto low, .inn low high, .one ns] := ⟨_, rfl⟩
  have eL : [D.tup [.str "any"], .tup [.str "is", .int low], .tup [.str "from", .int low], .tup [.str "to", .int low], .tup [.str "in", .int low, .int high]] ++ [D.tup [.str "one", .tup (ns.map .int)]] = L.map Lk.d := by rw [hL]; rfl
  have hw2 : ∀ l ∈ L, l.Rd ∧ l.dep = 1 := by
    rw [hL]
    refine List.forall_mem_cons.mpr ⟨⟨⟨(fun n hn => by cases hn), trivial, trivial⟩, rfl⟩, List.forall_mem_cons.mpr ⟨⟨⟨(fun n hn => by rw [List.mem_singleton.mp hn]; exact hlow), trivial, trivial⟩, rfl⟩, List.forall_mem_cons.mpr ⟨⟨⟨(fun n hn => by rw [List.mem_singleton.mp hn]; exact hlow), trivial, trivial⟩, rfl⟩, List.forall_mem_cons.mpr ⟨⟨⟨(fun n hn => by rw [List.mem_singleton.mp hn]; exact hlow), trivial, trivial⟩, rfl⟩, List.forall_mem_cons.mpr ⟨⟨⟨(fun n hn => ?_), trivial, trivial⟩, rfl⟩, List.forall_mem_cons.mpr ⟨⟨hns, rfl⟩, List.forall_mem_nil _⟩⟩⟩⟩⟩⟩
    rcases List.mem_cons.mp hn with rfl | hn
    · exact hlow
    · rw [List.mem_singleton.mp hn]; exact hhigh
  have lL : L.length = 6 := by rw [hL]; rfl
  walk_at "dl"
  rw [ens]
  walk_at "dl"
  refine ⟨by show 2 ≤ sizeLine; decide, ?_⟩
  rw [eq5]
  refine ⟨len_line (by simp), ?_⟩
  walk_at "dl"
  rw [eL]
  obtain ⟨m8, hm8⟩ : ∃ m8, m8 = mset m5 q (.lst (L.map Lk.d)) := ⟨_, rfl⟩
  have e8 : m8 q = some (.lst (L.map Lk.d)) := by rw [hm8]; exact mset_same
  have w8 : Wl m8 w (k + 1) := by
    obtain ⟨a, b, c, e, r⟩ := wl5.ex
    exact ⟨a, b, c, by rw [hm8, mset_ne (fun z => hqw z.symm)]; exact e, r⟩
  have kp8 : Kp [w] m3 m8 := fun a o hn z => by
    have z2 : a ≠ q := fun y => by rw [y, hq] at z; cases z
    rw [hm8, mset_ne z2]
    exact kp5 a o hn (by rw [mset_ne z2]; exact z)
  rw [← hm8]
  by_cases h6 : way < 6
  · rw [decide_eq_true h6]
    walk_at "dl"
    rw [asL_adr e8]
    obtain ⟨d, e1, e2⟩ := atI_some (xs := L.map Lk.d) (i := way) a0 (by rw [List.length_map, lL]; omega)
    obtain ⟨l, hl2, rfl⟩ := List.mem_map.mp (List.mem_of_getElem? e2)
    walk_at "dl"
    rw [e1]
    exact h _ _ ⟨l, ⟨(hw2 l hl2).1, by have := (hw2 l hl2).2; omega⟩, rfl⟩ kp8 (w8.mono (by omega))
  · rw [decide_eq_false h6]
    walk_at "go"
    refine ⟨w, 6, rfl, by decide, by decide, _, w8, by omega, fun d m9 hd kp9 w9 => ?_⟩
    obtain ⟨r, c0, c1, rfl⟩ := hd
    have e9 := kp9 q _ (by simpa using hqw) e8
    walk_at "dl"
    rw [asL_adr e9]
    obtain ⟨d, e1, e2⟩ := atI_some (xs := L.map Lk.d) (i := r) c0 (by rw [List.length_map, lL]; omega)
    obtain ⟨l, hl2, rfl⟩ := List.mem_map.mp (List.mem_of_getElem? e2)
    walk_at "dl"
    rw [e1]
    walk_at "dl"
    refine ⟨len_line (by simp), ?_⟩
    obtain ⟨q1, q2⟩ := hw2 l hl2
    exact h _ _ ⟨.but l, ⟨⟨q1.nm, q1.few, q1.un⟩, by show l.dep + 1 ≤ 2; omega⟩, rfl⟩ (kp8.trans kp9) (w9.mono (by omega))
abbrev sp__law_answer_v2 : SpD := fun ds m P _ => ∃ w : Addr, ds = [.adr w] ∧ Dr w 14 (fun d => ∃ t : AnT, t.N ∧ d = t.d) m P
def rd__law_answer_v2 : DS :=
    sSeq (sSet 1 (rCall sp__law_draw_v2 [] (rCons (rV 0) (rCons (rC (.int 3)) (rNil)))))
    (sSeq (sSet 2 (rCall sp__law_draw_v2 [] (rCons (rV 0) (rCons (rC (.int 2)) (rNil)))))
    (sSeq (sSet 3 (rCall sp__law_whole_v2 [] (rCons (rV 0) (rNil))))
    (sRet (rOp oIx (rLst (rCons (rV 3) (rCons (rTup (rCons (rC (.str "thing")) (rCons (rV 2) (rCons (rV 3) (rNil))))) (rCons (rTup (rCons (rC (.str "run")) (rCons (rCall sp__law_word_v6 [] (rCons (rV 0) (rNil))) (rNil)))) (rNil))))) (rV 1)))))
theorem ln__law_answer_v2 : ∀ ds m Q PX, sp__law_answer_v2 ds m Q PX → ds.length = 1 := fun ds m Q PX h => by repeat' (first | (subst_vars; rfl; done) | (refine Or.elim h (fun h => ?_) (fun h => ?_)) | (obtain ⟨_, h⟩ := h))
theorem pu__law_answer_v2 : ∀ ds m Q PX, sp__law_answer_v2 ds m Q PX → rd__law_answer_v2 (dEnds Q PX) (dstart ["_law_well", "_law_way", "_law_at", "_law_number_here"] ds) m := by
  rintro ds m Q PX ⟨w, rfl, h⟩
  walk_at "go"
  refine h.num (by decide) (by omega) (by omega) fun way m1 a0 a1 kp1 h => ?_
  walk_at "go"
  refine h.num (by decide) (by omega) (by omega) fun at_ m2 b0 b1 kp2 h => ?_
  walk_at "go"
  refine ⟨w, rfl, h.sub (by decide) fun d m3 hd kp3 h => ?_⟩
  obtain ⟨n, hn, rfl⟩ := hd
  walk_at "dl"
  refine ⟨by show 3 ≤ sizeLine; decide, ?_⟩
  walk_at "dl"
  refine ⟨w, rfl, h.sub (by decide) fun d m4 hd kp4 h => ?_⟩
  obtain ⟨x, rfl, hx⟩ := hd
  have fin : ∀ r : Int, 0 ≤ r → r < 3 → (match atI [D.int n, D.tup [.str "thing", .int at_, .int n], D.tup [.str "run", .str x]] r with | some d => Q d m4 | none => False) := by
    intro r r0 r1
    rcases (show r = 0 ∨ r = 1 ∨ r = 2 by omega) with z | z | z
    · rw [z]
      exact h.done ⟨.num n, hn, rfl⟩
    · rw [z]
      exact h.done ⟨.thing at_ n, ⟨⟨b0, by omega⟩, hn⟩, rfl⟩
    · rw [z]
      exact h.done ⟨.run x, hx, rfl⟩
  walk_at "dl"
  refine ⟨by show 2 ≤ sizeLine; decide, ?_⟩
  walk_at "dl"
  exact ⟨by show 3 ≤ sizeLine; decide, fin way a0 a1⟩
abbrev sp__law_call_written : SpD := fun ds m P _ => ∃ (p : Str) (d : Option Str) (L : Option (List Lk)), ds = [oS d, oL L, .str p] ∧ nmB p = true ∧ (∀ x, d = some x → nmB x = true) ∧ LksN L ∧ P (.str (callT p d L)) m
def rd__law_call_written : DS :=
    sSeq (sSet 3 (rV 0))
    (sSeq (sIf (rTst (rOp (oIsN false) (rV 0) (rC .non))) (sSet 3 (rC (.str "*"))) (sNext))
    (sSeq (sSet 4 (rC (.str "...")))
    (sSeq (sIf (rTst (rOp (oIsN true) (rV 1) (rC .non))) (sSet 4 (rJoin (rC (.str ",")) (rLc (iAny (rV 1)) [5] (gN 5) (qYes) (rCall (sp__law_written 2) [] (rCons (rV 5) (rNil)))))) (sNext))
    (sRet (rOp oAdd (rOp oAdd (rOp oAdd (rOp oAdd (rOp oAdd (rV 2) (rC (.str "."))) (rV 3)) (rC (.str "("))) (rV 4)) (rC (.str ")")))))))
def T__law_call_written_4 : DS := sSeq (sIf (rTst (rOp (oIsN true) (rV 1) (rC .non))) (sSet 4 (rJoin (rC (.str ",")) (rLc (iAny (rV 1)) [5] (gN 5) (qYes) (rCall (sp__law_written 2) [] (rCons (rV 5) (rNil)))))) (sNext))
    (sRet (rOp oAdd (rOp oAdd (rOp oAdd (rOp oAdd (rOp oAdd (rV 2) (rC (.str "."))) (rV 3)) (rC (.str "("))) (rV 4)) (rC (.str ")"))))
def T__law_call_written_5 : DS := sRet (rOp oAdd (rOp oAdd (rOp oAdd (rOp oAdd (rOp oAdd (rV 2) (rC (.str "."))) (rV 3)) (rC (.str "("))) (rV 4)) (rC (.str ")")))
theorem ln__law_call_written : ∀ ds m Q PX, sp__law_call_written ds m Q PX → ds.length = 3 := fun ds m Q PX h => by repeat' (first | (subst_vars; rfl; done) | (refine Or.elim h (fun h => ?_) (fun h => ?_)) | (obtain ⟨_, h⟩ := h))
theorem pu__law_call_written : ∀ ds m Q PX, sp__law_call_written ds m Q PX → rd__law_call_written (dEnds Q PX) (dstart ["_law_deed", "_law_looks", "_law_part", "_law_word_here", "_law_inside", "_law_look_here"] ds) m := by
  rintro ds m Q PX ⟨p, d, L, rfl, hp, hd, hL, h⟩
  have pB := (nm_B hp).1
  have LB := (lks_B hL).1
  have e1 : Str.length "." = 1 := by decide
  have e2 : Str.length "(" = 1 := by decide
  have e3 : Str.length ")" = 1 := by decide
  have e4 : Str.length "," = 1 := by decide
  have xB : (d.getD "*").length ≤ 8 := by
    cases d with
    | none => decide
    | some x => exact (nm_B (hd x rfl)).1
  have fin : T__law_call_written_5 (dEnds Q PX) [some (oS d), some (oL L), some (.str p), some (.str (d.getD "*")), some (.str (lksT L)), none] m := by
    unfold callT at h
    generalize d.getD "*" = dd at xB h
    walk_at "dl"
    repeat (refine ⟨len_line (by (try simp only [PySem.Str.length_append]); omega), ?_⟩; walk_at "dl")
    exact h
  have mid : T__law_call_written_4 (dEnds Q PX) [some (oS d), some (oL L), some (.str p), some (.str (d.getD "*")), some (.str "..."), none] m := by
    walk_at "dl"
    cases L with
    | none => exact fin
    | some ls =>
      obtain ⟨h1, h2⟩ := hL ls rfl
      walk_at "dl"
      refine comp_on ls Lk.d (fun l => .str l.text) (by omega) trivial (fun l hl Q' h' => ?_) ?_
      · walk_at "go"
        exact ⟨l, rfl, (h2 l hl).1, (h2 l hl).2.ok (h2 l hl).1, h'⟩
      have et : textsD (ls.map fun l => D.str l.text) = some (ls.map Lk.text) := textsD_strs Lk.text ls
      have s1 : ((ls.map Lk.text).map (·.length)).sum ≤ (ls.map Lk.text).length * 1001 := sum_len fun x hx => by
        obtain ⟨l, hl, rfl⟩ := List.mem_map.mp hx
        exact (look_B (h2 l hl).2 (h2 l hl).1).1
      rw [List.length_map] at s1
      walk_at "dl"
      rw [et]
      dsimp only
      exact ⟨by rw [e4, List.length_map]; omega, fin⟩
  walk_at "dl"
  cases d with
  | none => exact mid
  | some x => exact mid
end
section
/-! # a rule's text bent -/
theorem acc_in {xs : List Str} {d : D} {P : Str → Prop} (h : ∀ s ∈ xs, P s) (hd : d ∈ xs.map D.str) : ∃ s, P s ∧ d = .str s := by
  obtain ⟨s, hs, rfl⟩ := List.mem_map.mp hd
  exact ⟨s, h s hs, rfl⟩
def sp__law_bent_v4 : SpD := fun ds m P _ => ∃ (w : Addr) (t : Str), ds = [.adr w, .str t] ∧ TxB 2300 t ∧ Dr w 5 (fun d => ∃ s, TxB 9990 s ∧ d = .str s) m P
def rd__law_bent_v4 : DS :=
    sSeq (sSet 2 (rCall sp__law_draw_v2 [] (rCons (rV 0) (rCons (rC (.int 8)) (rNil)))))
    (sSeq (sSet 3 (rCall sp__law_draw_v2 [] (rCons (rV 0) (rCons (rOp oAdd (rCB cLen (rCons (rV 1) (rNil))) (rC (.int 1))) (rNil)))))
    (sSeq (sSet 4 (rC (.str " !\"#$&'()*+,-./0123456789:;<=>?@ABCDEFGHIJKLMNOPQRSTUVWXYZ[\\]^_`abcdefghijklmnopqrstuvwxyz{|}~\n")))
    (sSeq (sSet 5 (rOp oIx (rLst (rCons (rCall sp__law_pick_v2 [] (rCons (rV 0) (rCons (rV 4) (rNil)))) (rCons (rCall sp__law_pick_v2 [] (rCons (rV 0) (rCons (rC (.str "0123456789-.,{}()!*+#@ \nab")) (rNil)))) (rNil)))) (rCall sp__law_draw_v2 [] (rCons (rV 0) (rCons (rC (.int 2)) (rNil))))))
    (sSeq (sSet 6 (rLst (rCons (rV 1) (rCons (rOp oAdd (rOp oAdd (rSl (rV 1) rNoP (rPart (rV 3))) (rV 5)) (rSl (rV 1) (rPart (rV 3)) rNoP)) (rCons (rOp oAdd (rSl (rV 1) rNoP (rPart (rV 3))) (rSl (rV 1) (rPart (rOp oAdd (rV 3) (rC (.int 1)))) rNoP)) (rCons (rOp oAdd (rOp oAdd (rSl (rV 1) rNoP (rPart (rV 3))) (rV 5)) (rSl (rV 1) (rPart (rV 3)) rNoP)) (rNil)))))))
    (sSeq (sSet 7 (rOp oAdd (rSl (rV 1) (rPart (rOp oAdd (rV 3) (rC (.int 1)))) (rPart (rOp oAdd (rV 3) (rC (.int 2))))) (rSl (rV 1) (rPart (rV 3)) (rPart (rOp oAdd (rV 3) (rC (.int 1)))))))
    (sSeq (sSet 6 (rOp oAdd (rV 6) (rLst (rCons (rOp oAdd (rOp oAdd (rSl (rV 1) rNoP (rPart (rV 3))) (rV 5)) (rSl (rV 1) (rPart (rOp oAdd (rV 3) (rC (.int 1)))) rNoP)) (rCons (rOp oAdd (rOp oAdd (rSl (rV 1) rNoP (rPart (rV 3))) (rV 7)) (rSl (rV 1) (rPart (rOp oAdd (rV 3) (rC (.int 2)))) rNoP)) (rNil))))))
    (sSeq (sSet 6 (rOp oAdd (rV 6) (rLst (rCons (rOp oAdd (rOp oAdd (rSl (rV 1) rNoP (rPart (rV 3))) (rOp oMulS (rC (.str "7")) (rC (.int 100)))) (rSl (rV 1) (rPart (rV 3)) rNoP)) (rCons (rOp oAdd (rV 1) (rC (.str "\n"))) (rNil))))))
    (sRet (rOp oIx (rV 6) (rV 2))))))))))
theorem ln__law_bent_v4 : ∀ ds m Q PX, sp__law_bent_v4 ds m Q PX → ds.length = 2 := fun ds m Q PX h => by repeat' (first | (subst_vars; rfl; done) | (refine Or.elim h (fun h => ?_) (fun h => ?_)) | (obtain ⟨_, h⟩ := h))
theorem pu__law_bent_v4 : ∀ ds m Q PX, sp__law_bent_v4 ds m Q PX → rd__law_bent_v4 (dEnds Q PX) (dstart ["_law_well", "_law_word_here", "_law_way", "_law_at", "_law_signs", "_law_sign", "_law_some", "_law_pair"] ds) m := by
  rintro ds m Q PX ⟨w, t, rfl, ht, h⟩
  have big : (2 : Nat) ^ 200 > 1000000 := by decide
  have ht1 := ht.1
  obtain ⟨N, hN⟩ : ∃ N : Int, N = (t.length : Int) := ⟨_, rfl⟩
  walk_at "go"
  refine h.num (by decide) (by omega) (by omega) fun way m1 a0 a1 kp1 h => ?_
  walk_at "go"
  rw [← hN]
  refine h.num (by decide) (by omega) (by omega) fun at_ m2 b0 b1 kp2 h => ?_
  walk_at "go"
  refine .inr ⟨w, _, rfl, by decide, by decide, h.sub (by decide) fun d m3 hd kp3 h => ?_⟩
  obtain ⟨c, hc, rfl⟩ := hd
  have xc := TxB.sgn ((TxB.lit " !\"#$&'()*+,-./0123456789:;<=>?@ABCDEFGHIJKLMNOPQRSTUVWXYZ[\\]^_`abcdefghijklmnopqrstuvwxyz{|}~\n" (n := 1000)).2 c hc)
  walk_at "go"
  refine .inr ⟨w, _, rfl, by decide, by decide, h.sub (by decide) fun d m4 hd kp4 h => ?_⟩
  obtain ⟨e, he, rfl⟩ := hd
  have xe := TxB.sgn ((TxB.lit "0123456789-.,{}()!*+#@ \nab" (n := 1000)).2 e he)
  walk_at "go"
  refine h.num (by decide) (by omega) (by omega) fun r m5 c0 c1 kp5 h => ?_
  have pk : ∃ u : Str, atI [D.str ⟨#[c]⟩, D.str ⟨#[e]⟩] r = some (.str u) ∧ TxB 1 u := by
    rcases (show r = 0 ∨ r = 1 by omega) with z | z
    · rw [z]; exact ⟨_, rfl, xc⟩
    · rw [z]; exact ⟨_, rfl, xe⟩
  obtain ⟨u, eu, xg⟩ := pk
  have x1 := ht.cut none (some at_)
  have x2 := ht.cut (some (at_ + 1)) none
  have x3 := ht.cut (some at_) none
  have x4 := ht.cut (some (at_ + 1)) (some (at_ + 2))
  have x5 := ht.cut (some at_) (some (at_ + 1))
  have x6 := ht.cut (some (at_ + 2)) none
  have y2 := x1.app xg
  have y5 := x4.app x5
  have y6 := x1.app y5
  have l1 := x1.1
  have l2 := x2.1
  have l3 := x3.1
  have l4 := x4.1
  have l5 := x5.1
  have l6 := x6.1
  have l7 := y2.1
  have l8 := y5.1
  have l9 := y6.1
  have lg := xg.1
  walk_at "dl"
  rw [eu]
  generalize hg1 : (Str.ofString " !\"#$&'()*+,-./0123456789:;<=>?@ABCDEFGHIJKLMNOPQRSTUVWXYZ[\\]^_`abcdefghijklmnopqrstuvwxyz{|}~\n") = G
  walk_at "dl"
  repeat (refine ⟨len_line (by (try simp only [PySem.Str.length_append, List.length_cons, List.length_nil, List.length_append]); omega), ?_⟩; walk_at "dl")
  have x7 := TxB.rep "7" (k := 100) (TxB.lit "7" (n := 1))
  have y7 := x1.app x7
  have l10 := x7.1
  have e1 : Str.length "7" = 1 := by decide
  have e2 : Str.length "\n" = 1 := by decide
  refine ⟨⟨by decide, by decide, by decide, by decide⟩, ?_⟩
  generalize hsv : repS (Int.toNat 100) (Str.ofString "7") = sv
  have hsv2 : repS 100 "7" = sv := hsv
  rw [hsv2] at x7 y7 l10
  have l11 := y7.1
  have e3 : (Str.ofString "\n").length = 1 := e2
  walk_at "dl"
  repeat (refine ⟨len_line (by (try simp only [PySem.Str.length_append, List.length_cons, List.length_nil, List.length_append]); omega), ?_⟩; walk_at "dl")
  obtain ⟨M, hM⟩ : ∃ M : List Str, M = [t, L2.cutS t none (some at_) ++ u ++ L2.cutS t (some at_) none, L2.cutS t none (some at_) ++ L2.cutS t (some (at_ + 1)) none, L2.cutS t none (some at_) ++ u ++ L2.cutS t (some at_) none, L2.cutS t none (some at_) ++ u ++ L2.cutS t (some (at_ + 1)) none, L2.cutS t none (some at_) ++ (L2.cutS t (some (at_ + 1)) (some (at_ + 2)) ++ L2.cutS t (some at_) (some (at_ + 1))) ++ L2.cutS t (some (at_ + 2)) none, L2.cutS t none (some at_) ++ sv ++ L2.cutS t (some at_) none, t ++ Str.ofString "\n"] := ⟨_, rfl⟩
  have lM : M.length = 8 := by rw [hM]; rfl
  have hB : ∀ s ∈ M, TxB 9990 s := by
    rw [hM]
    exact List.forall_mem_cons.mpr ⟨ht.mono, List.forall_mem_cons.mpr ⟨(y2.app x3).mono, List.forall_mem_cons.mpr ⟨(x1.app x2).mono, List.forall_mem_cons.mpr ⟨(y2.app x3).mono, List.forall_mem_cons.mpr ⟨(y2.app x2).mono, List.forall_mem_cons.mpr ⟨(y6.app x6).mono, List.forall_mem_cons.mpr ⟨(y7.app x3).mono, List.forall_mem_cons.mpr ⟨(ht.app (TxB.lit "\n" (n := 1))).mono, List.forall_mem_nil _⟩⟩⟩⟩⟩⟩⟩⟩
  obtain ⟨d, f1, f2⟩ := atI_some (xs := M.map D.str) (i := way) a0 (by rw [List.length_map, lM]; omega)
  obtain ⟨s, hs, rfl⟩ := acc_in hB (List.mem_of_getElem? f2)
  walk_at "dl"
  exact (show ∀ xs, xs = M.map D.str → (match atI xs way with | some d => Q d m5 | none => False) from fun xs e => by rw [e, f1]; exact h.done ⟨s, hs, rfl⟩) _ (by rw [hM]; rfl)
end
end DL
namespace Lw
open PySem L2 DL
local macro_rules | `(tactic| walk_at "dl") => `(tactic| ((conv => whnf); try dsimp only))
local macro_rules | `(tactic| walk_at "sd") => `(tactic| first | trivial | exact Nat.zero_le _ | assumption | decide | omega | exact len_line (by first | decide | omega | (simp; done) | (simp; omega)) | (simp; done) | (simp; omega) | exact ⟨by decide, by decide, by decide⟩ | exact .inl ⟨by decide, by decide⟩ | exact .inl ⟨by omega, by omega⟩ | exact wide_div (b := 64) (by decide) (by decide) (by decide) (by decide))
local macro_rules | `(tactic| walk_at "go") => `(tactic| ((conv => whnf); (try dsimp only); repeat ((with_reducible refine And.intro ?_ ?_); (focus (walk_at "sd")); (conv => whnf); (try dsimp only))))
local macro_rules | `(tactic| walk_at "th") => `(tactic| repeat' (first | assumption | exact thD_txt _ _ | exact thD_int | exact thD_non | exact thD_bl | (refine thD_mono _ _ _ ?_ (by assumption); decide) | refine List.forall_mem_cons.mpr (And.intro ?_ ?_) | exact List.forall_mem_nil _ | refine thD_tup (by simp) ?_ | refine thD_lst (by simp) ?_))
local macro_rules | `(tactic| walk_at "ln") => `(tactic| (intro ds m Q PX h; repeat (obtain ⟨_, h⟩ := h); subst_vars; rfl))
def top (i : Nat) : Stmt := PySem.Challenge.pw_stoodin_k84_rules_of_answers_read.main.body.getD i (.Pass ⟨0, 0, 0, 0⟩)
abbrev s_is_whole : Stmt := top 8
abbrev N_is_whole : List Str := ["thing"]
abbrev s_is_name : Stmt := top 9
abbrev N_is_name : List Str := ["thing", "sign"]
abbrev s_are_unlike : Stmt := top 10
abbrev N_are_unlike : List Str := ["some", "at", "one"]
abbrev s_is_one : Stmt := top 14
abbrev N_is_one : List Str := ["numbers", "number"]
abbrev s_is_plain : Stmt := top 15
abbrev N_is_plain : List Str := ["look", "word", "rest", "number"]
abbrev s_is_look : Stmt := top 16
abbrev N_is_look : List Str := ["look"]
abbrev s_look_text : Stmt := top 17
abbrev N_look_text : List Str := ["look", "first", "some", "word", "rest", "number"]
abbrev s_are_looks : Stmt := top 20
abbrev N_are_looks : List Str := ["looks", "look"]
abbrev s_call_text : Stmt := top 21
abbrev N_call_text : List Str := ["part", "deed", "looks", "inside", "look"]
abbrev s_is_answer : Stmt := top 28
abbrev N_is_answer : List Str := ["answer", "word", "rest"]
abbrev s_are_answers : Stmt := top 29
abbrev N_are_answers : List Str := ["answers", "answer"]
abbrev s_is_then : Stmt := top 30
abbrev N_is_then : List Str := ["word"]
abbrev s_Rule___init__ : Stmt := clsSt (top 31) 0
abbrev N_Rule___init__ : List Str := ["self", "part", "deed", "looks", "answers", "then"]
abbrev s_number_in : Stmt := top 35
abbrev N_number_in : List Str := ["word", "figures", "sign"]
abbrev s_numbers_in : Stmt := top 36
abbrev N_numbers_in : List Str := ["word", "part"]
abbrev s_within : Stmt := top 37
abbrev N_within : List Str := ["word", "first", "last"]
abbrev s_plain_in : Stmt := top 38
abbrev N_plain_in : List Str := ["word", "inside", "low", "points", "high"]
abbrev s_look_in : Stmt := top 39
abbrev N_look_in : List Str := ["word"]
abbrev s_pieces : Stmt := top 40
abbrev N_pieces : List Str := ["word", "found", "depth", "sign"]
abbrev s_call_in : Stmt := top 41
abbrev N_call_in : List Str := ["word", "head", "bracket", "rest", "part", "point", "deed"]
abbrev s_looks_in : Stmt := top 42
abbrev N_looks_in : List Str := ["inside", "piece"]
abbrev s_more_text : Stmt := top 44
abbrev N_more_text : List Str := ["more"]
abbrev s_more_in : Stmt := top 45
abbrev N_more_in : List Str := ["word"]
abbrev s_answer_text : Stmt := top 46
abbrev N_answer_text : List Str := ["answer", "word", "rest"]
abbrev s_answer_in : Stmt := top 47
abbrev N_answer_in : List Str := ["word"]
abbrev s_rule_text : Stmt := top 48
abbrev N_rule_text : List Str := ["rule", "answers", "answer"]
abbrev s_rule_in : Stmt := top 49
abbrev N_rule_in : List Str := ["text", "words", "call", "deed", "answers", "word"]
abbrev s_read_rule : Stmt := top 50
abbrev N_read_rule : List Str := ["text", "found"]
abbrev s__law_cell_at : Stmt := top 52
abbrev N__law_cell_at : List Str := ["_law_script", "_law_k"]
abbrev s__law_spring : Stmt := top 53
abbrev N__law_spring : List Str := ["_law_cell"]
abbrev s__law_draw : Stmt := top 54
abbrev N__law_draw : List Str := ["_law_well", "_law_many", "_law_number_here", "_law_digit"]
abbrev s__law_pick : Stmt := top 55
abbrev N__law_pick : List Str := ["_law_well", "_law_some"]
abbrev s__law_word : Stmt := top 56
abbrev N__law_word : List Str := ["_law_well", "_law_letters", "_law_k"]
abbrev s__law_whole : Stmt := top 57
abbrev N__law_whole : List Str := ["_law_well", "_law_way", "_law_small", "_law_great"]
abbrev s__law_look : Stmt := top 58
abbrev N__law_look : List Str := ["_law_well", "_law_way", "_law_low", "_law_some", "_law_few"]
abbrev s__law_written : Stmt := top 59
abbrev N__law_written : List Str := ["_law_look_here", "_law_number_here"]
abbrev s__law_answer : Stmt := top 60
abbrev N__law_answer : List Str := ["_law_well", "_law_way", "_law_at", "_law_number_here"]
abbrev s__law_answer_written : Stmt := top 61
abbrev N__law_answer_written : List Str := ["_law_answer_here"]
abbrev s__law_call_written : Stmt := top 62
abbrev N__law_call_written : List Str := ["_law_deed", "_law_looks", "_law_part", "_law_word_here", "_law_inside", "_law_look_here"]
abbrev s__law_is_name : Stmt := top 63
abbrev N__law_is_name : List Str := ["_law_word_here", "_law_strange", "_law_sign"]
abbrev s__law_number : Stmt := top 64
abbrev N__law_number : List Str := ["_law_word_here", "_law_below", "_law_figures", "_law_sign"]
abbrev s__law_plain_read : Stmt := top 65
abbrev N__law_plain_read : List Str := ["_law_word_here", "_law_numbers", "_law_low", "_law_points", "_law_high", "_law_found", "_law_part", "_law_k"]
abbrev s__law_looks_read : Stmt := top 66
abbrev N__law_looks_read : List Str := ["_law_word_here", "_law_found", "_law_open_at", "_law_start", "_law_k", "_law_piece", "_law_turned", "_law_look_here"]
abbrev s__law_answer_read : Stmt := top 67
abbrev N__law_answer_read : List Str := ["_law_word_here", "_law_more", "_law_number_here"]
abbrev s__law_rule_read : Stmt := top 68
abbrev N__law_rule_read : List Str := ["_law_line", "_law_words", "_law_looks", "_law_found", "_law_head", "_law_bracket", "_law_inside", "_law_part", "_law_point", "_law_deed", "_law_word_here"]
abbrev s__law_bent : Stmt := top 69
abbrev N__law_bent : List Str := ["_law_well", "_law_word_here", "_law_way", "_law_at", "_law_signs", "_law_sign", "_law_some", "_law_pair"]
abbrev s__law_told : Stmt := top 70
abbrev N__law_told : List Str := ["_law_line", "e", "_law_found"]
abbrev s__law_due : Stmt := top 71
abbrev N__law_due : List Str := ["_law_line", "_law_found"]
abbrev s_law : Stmt := top 72
abbrev N_law : List Str := ["_law_script", "_law_cell", "_law_well", "_law_word_here", "_law_many", "_law_part", "_law_deed", "_law_looks", "_law_some", "_law_head", "_law_tail", "_law_line", "_law_made", "_law_at", "_law_odd", "_law_lines", "_law_answer_here", "_law_k", "_law_turned"]
abbrev s_TrialError___init__ : Stmt := clsSt (top 2) 0
abbrev s_BadText___init__ : Stmt := clsSt (top 4) 0
def rd_law : DS :=
    sSeq (sFor (iAny (rOp oAdd (rLst (rCons (rCall sp__law_cell_at [] (rCons (rV 0) (rCons (rC (.int 0)) (rNil)))) (rNil))) (rSl (rV 0) (rPart (rC (.int 1))) (rPart (rC (.int 5)))))) (gN 1) (sSeq (sSet 2 (rCall sp__law_spring [] (rCons (rV 1) (rNil))))
    (sSeq (sSet 3 (rCall sp__law_pick_v2 [] (rCons (rV 2) (rCons (rLst (rCons (rC (.str "stay")) (rCons (rC (.str "again")) (rCons (rC (.str "stop")) (rNil))))) (rNil)))))
    (sSeq (sSet 4 (rCall sp__law_pick_v2 [] (rCons (rV 2) (rCons (rLst (rCons (rC (.int 1)) (rCons (rC .non) (rCons (rC (.int 2)) (rCons (rC (.int 0)) (rNil)))))) (rNil)))))
    (sSeq (sSet 5 (rCall sp__law_word_v6 [] (rCons (rV 2) (rNil))))
    (sSeq (sSet 6 (rCall sp__law_pick_v2 [] (rCons (rV 2) (rCons (rLst (rCons (rCall sp__law_word_v6 [] (rCons (rV 2) (rNil))) (rCons (rC .non) (rNil)))) (rNil)))))
    (sSeq (sSet 7 (rC .non))
    (sSeq (sIf (rTst (rOp (oIsN true) (rV 4) (rC .non))) (sSet 7 (rCB cTup (rCons (rLc (iRange (rCons (rV 4) (rNil))) [17] (gN 17) (qYes) (rCall sp__law_look_v8 [] (rCons (rV 2) (rNil)))) (rNil)))) (sNext))
    (sSeq (sSet 8 (rCB cTup (rCons (rLc (iRange (rCons (rOp oAdd (rC (.int 1)) (rCall sp__law_draw_v2 [] (rCons (rV 2) (rCons (rC (.int 4)) (rNil))))) (rNil))) [17] (gN 17) (qYes) (rCall sp__law_answer_v2 [] (rCons (rV 2) (rNil)))) (rNil))))
    (sSeq (sSet 9 (rOp oAdd (rOp oAdd (rOp oAdd (rCall sp__law_call_written [] (rCons (rV 6) (rCons (rV 7) (rCons (rV 5) (rNil))))) (rC (.str " "))) (rV 3)) (rC (.str " "))))
    (sSeq (sSet 10 (rLc (iAny (rV 8)) [16] (gN 16) (qYes) (rCall sp__law_answer_written [] (rCons (rV 16) (rNil)))))
    (sSeq (sSet 11 (rOp oAdd (rV 9) (rJoin (rC (.str ",")) (rV 10))))
    (sSeq (sSet 12 (rMk "Rule" sp_Rule___init__ 3 2 (fun ds es => gI [0, 1, 2, 3, 4, 5] (ds ++ es) [.non, .non]) (rCons (rV 5) (rCons (rV 6) (rCons (rV 7) (rNil)))) (rCons (rV 8) (rCons (rV 3) (rNil)))))
    (sSeq (sIf (rOr (rTst (rOp oNe (rCall sp_rule_text [] (rCons (rV 12) (rNil))) (rV 11))) (rOr (rTst (rOp oNe (rCallK sp_rule_text 0 1 (gI [0]) rNil (rCons (rV 12) (rNil))) (rV 11))) (rTst (rOp oNe (rFld "Rule" "answers" (rCallK sp_read_rule 0 1 (gI [0]) rNil (rCons (rV 11) (rNil)))) (rV 8))))) (sRet (rC (.bl false))) (sNext))
    (sSeq (sIf (rTst (rOp oNe (rCall sp__law_told_v9 [] (rCons (rV 11) (rNil))) (rTup (rCons (rC (.str "told")) (rCons (rTup (rCons (rV 5) (rCons (rV 6) (rCons (rV 7) (rCons (rV 8) (rCons (rV 3) (rNil))))))) (rNil)))))) (sRet (rC (.bl false))) (sNext))
    (sSeq (sSet 13 (rCall sp__law_draw_v2 [] (rCons (rV 2) (rCons (rCB cLen (rCons (rV 8) (rNil))) (rNil)))))
    (sSeq (sSet 14 (rLst (rCons (rC (.str "#2+1")) (rCons (rC (.str "#0")) (rCons (rC (.str "@")) (rCons (rC (.str "#1-0")) (rCons (rC (.str "#0+0")) (rCons (rC (.str "+5")) (rCons (rC (.str "@run")) (rCons (rC (.str "-0")) (rCons (rC (.str "#-1+2")) (rCons (rC (.str "")) (rCons (rC (.str "#0+-1")) (rCons (rC (.str "#1-7")) (rCons (rC (.str "0")) (rNil))))))))))))))))
    (sSeq (sSet 14 (rOp oIx (rV 14) (rCall sp__law_draw_v2 [] (rCons (rV 2) (rCons (rC (.int 13)) (rNil))))))
    (sSeq (sSet 15 (rLst (rCons (rOp oAdd (rV 9) (rJoin (rC (.str ",")) (rOp oAdd (rOp oAdd (rSl (rV 10) rNoP (rPart (rV 13))) (rLst (rCons (rV 14) (rNil)))) (rSl (rV 10) (rPart (rOp oAdd (rV 13) (rC (.int 1)))) rNoP)))) (rCons (rOp oAdd (rV 9) (rJoin (rC (.str ",")) (rOp oAdd (rSl (rV 10) rNoP (rPart (rOp oAdd (rV 13) (rC (.int 1))))) (rSl (rV 10) (rPart (rV 13)) rNoP)))) (rNil)))))
    (sSeq (sSet 15 (rOp oAdd (rV 15) (rLst (rCons (rOp oAdd (rV 9) (rJoin (rC (.str ",")) (rOp oAdd (rSl (rV 10) rNoP (rPart (rV 13))) (rSl (rV 10) (rPart (rOp oAdd (rV 13) (rC (.int 1)))) rNoP)))) (rCons (rCall sp__law_bent_v4 [] (rCons (rV 2) (rCons (rV 11) (rNil)))) (rCons (rCall sp__law_bent_v4 [] (rCons (rV 2) (rCons (rV 11) (rNil)))) (rNil)))))))
    (sIf (rTst (rOp oNe (rLc (iAny (rV 15)) [18] (gN 18) (rTst (rOp oNe (rCall sp__law_told_v9 [] (rCons (rV 18) (rNil))) (rCall sp__law_due_v11 [] (rCons (rV 18) (rNil))))) (rV 18)) (rLst (rNil)))) (sRet (rC (.bl false))) (sNext))))))))))))))))))))))
    (sRet (rC (.bl true)))
def T_law_7 : DS := sSeq (sIf (rTst (rOp (oIsN true) (rV 4) (rC .non))) (sSet 7 (rCB cTup (rCons (rLc (iRange (rCons (rV 4) (rNil))) [17] (gN 17) (qYes) (rCall sp__law_look_v8 [] (rCons (rV 2) (rNil)))) (rNil)))) (sNext))
    (sSeq (sSet 8 (rCB cTup (rCons (rLc (iRange (rCons (rOp oAdd (rC (.int 1)) (rCall sp__law_draw_v2 [] (rCons (rV 2) (rCons (rC (.int 4)) (rNil))))) (rNil))) [17] (gN 17) (qYes) (rCall sp__law_answer_v2 [] (rCons (rV 2) (rNil)))) (rNil))))
    (sSeq (sSet 9 (rOp oAdd (rOp oAdd (rOp oAdd (rCall sp__law_call_written [] (rCons (rV 6) (rCons (rV 7) (rCons (rV 5) (rNil))))) (rC (.str " "))) (rV 3)) (rC (.str " "))))
    (sSeq (sSet 10 (rLc (iAny (rV 8)) [16] (gN 16) (qYes) (rCall sp__law_answer_written [] (rCons (rV 16) (rNil)))))
    (sSeq (sSet 11 (rOp oAdd (rV 9) (rJoin (rC (.str ",")) (rV 10))))
    (sSeq (sSet 12 (rMk "Rule" sp_Rule___init__ 3 2 (fun ds es => gI [0, 1, 2, 3, 4, 5] (ds ++ es) [.non, .non]) (rCons (rV 5) (rCons (rV 6) (rCons (rV 7) (rNil)))) (rCons (rV 8) (rCons (rV 3) (rNil)))))
    (sSeq (sIf (rOr (rTst (rOp oNe (rCall sp_rule_text [] (rCons (rV 12) (rNil))) (rV 11))) (rOr (rTst (rOp oNe (rCallK sp_rule_text 0 1 (gI [0]) rNil (rCons (rV 12) (rNil))) (rV 11))) (rTst (rOp oNe (rFld "Rule" "answers" (rCallK sp_read_rule 0 1 (gI [0]) rNil (rCons (rV 11) (rNil)))) (rV 8))))) (sRet (rC (.bl false))) (sNext))
    (sSeq (sIf (rTst (rOp oNe (rCall sp__law_told_v9 [] (rCons (rV 11) (rNil))) (rTup (rCons (rC (.str "told")) (rCons (rTup (rCons (rV 5) (rCons (rV 6) (rCons (rV 7) (rCons (rV 8) (rCons (rV 3) (rNil))))))) (rNil)))))) (sRet (rC (.bl false))) (sNext))
    (sSeq (sSet 13 (rCall sp__law_draw_v2 [] (rCons (rV 2) (rCons (rCB cLen (rCons (rV 8) (rNil))) (rNil)))))
    (sSeq (sSet 14 (rLst (rCons (rC (.str "#2+1")) (rCons (rC (.str "#0")) (rCons (rC (.str "@")) (rCons (rC (.str "#1-0")) (rCons (rC (.str "#0+0")) (rCons (rC (.str "+5")) (rCons (rC (.str "@run")) (rCons (rC (.str "-0")) (rCons (rC (.str "#-1+2")) (rCons (rC (.str "")) (rCons (rC (.str "#0+-1")) (rCons (rC (.str "#1-7")) (rCons (rC (.str "0")) (rNil))))))))))))))))
    (sSeq (sSet 14 (rOp oIx (rV 14) (rCall sp__law_draw_v2 [] (rCons (rV 2) (rCons (rC (.int 13)) (rNil))))))
    (sSeq (sSet 15 (rLst (rCons (rOp oAdd (rV 9) (rJoin (rC (.str ",")) (rOp oAdd (rOp oAdd (rSl (rV 10) rNoP (rPart (rV 13))) (rLst (rCons (rV 14) (rNil)))) (rSl (rV 10) (rPart (rOp oAdd (rV 13) (rC (.int 1)))) rNoP)))) (rCons (rOp oAdd (rV 9) (rJoin (rC (.str ",")) (rOp oAdd (rSl (rV 10) rNoP (rPart (rOp oAdd (rV 13) (rC (.int 1))))) (rSl (rV 10) (rPart (rV 13)) rNoP)))) (rNil)))))
    (sSeq (sSet 15 (rOp oAdd (rV 15) (rLst (rCons (rOp oAdd (rV 9) (rJoin (rC (.str ",")) (rOp oAdd (rSl (rV 10) rNoP (rPart (rV 13))) (rSl (rV 10) (rPart (rOp oAdd (rV 13) (rC (.int 1)))) rNoP)))) (rCons (rCall sp__law_bent_v4 [] (rCons (rV 2) (rCons (rV 11) (rNil)))) (rCons (rCall sp__law_bent_v4 [] (rCons (rV 2) (rCons (rV 11) (rNil)))) (rNil)))))))
    (sIf (rTst (rOp oNe (rLc (iAny (rV 15)) [18] (gN 18) (rTst (rOp oNe (rCall sp__law_told_v9 [] (rCons (rV 18) (rNil))) (rCall sp__law_due_v11 [] (rCons (rV 18) (rNil))))) (rV 18)) (rLst (rNil)))) (sRet (rC (.bl false))) (sNext))))))))))))))
def T_law_8 : DS := sSeq (sSet 8 (rCB cTup (rCons (rLc (iRange (rCons (rOp oAdd (rC (.int 1)) (rCall sp__law_draw_v2 [] (rCons (rV 2) (rCons (rC (.int 4)) (rNil))))) (rNil))) [17] (gN 17) (qYes) (rCall sp__law_answer_v2 [] (rCons (rV 2) (rNil)))) (rNil))))
    (sSeq (sSet 9 (rOp oAdd (rOp oAdd (rOp oAdd (rCall sp__law_call_written [] (rCons (rV 6) (rCons (rV 7) (rCons (rV 5) (rNil))))) (rC (.str " "))) (rV 3)) (rC (.str " "))))
    (sSeq (sSet 10 (rLc (iAny (rV 8)) [16] (gN 16) (qYes) (rCall sp__law_answer_written [] (rCons (rV 16) (rNil)))))
    (sSeq (sSet 11 (rOp oAdd (rV 9) (rJoin (rC (.str ",")) (rV 10))))
    (sSeq (sSet 12 (rMk "Rule" sp_Rule___init__ 3 2 (fun ds es => gI [0, 1, 2, 3, 4, 5] (ds ++ es) [.non, .non]) (rCons (rV 5) (rCons (rV 6) (rCons (rV 7) (rNil)))) (rCons (rV 8) (rCons (rV 3) (rNil)))))
    (sSeq (sIf (rOr (rTst (rOp oNe (rCall sp_rule_text [] (rCons (rV 12) (rNil))) (rV 11))) (rOr (rTst (rOp oNe (rCallK sp_rule_text 0 1 (gI [0]) rNil (rCons (rV 12) (rNil))) (rV 11))) (rTst (rOp oNe (rFld "Rule" "answers" (rCallK sp_read_rule 0 1 (gI [0]) rNil (rCons (rV 11) (rNil)))) (rV 8))))) (sRet (rC (.bl false))) (sNext))
    (sSeq (sIf (rTst (rOp oNe (rCall sp__law_told_v9 [] (rCons (rV 11) (rNil))) (rTup (rCons (rC (.str "told")) (rCons (rTup (rCons (rV 5) (rCons (rV 6) (rCons (rV 7) (rCons (rV 8) (rCons (rV 3) (rNil))))))) (rNil)))))) (sRet (rC (.bl false))) (sNext))
    (sSeq (sSet 13 (rCall sp__law_draw_v2 [] (rCons (rV 2) (rCons (rCB cLen (rCons (rV 8) (rNil))) (rNil)))))
    (sSeq (sSet 14 (rLst (rCons (rC (.str "#2+1")) (rCons (rC (.str "#0")) (rCons (rC (.str "@")) (rCons (rC (.str "#1-0")) (rCons (rC (.str "#0+0")) (rCons (rC (.str "+5")) (rCons (rC (.str "@run")) (rCons (rC (.str "-0")) (rCons (rC (.str "#-1+2")) (rCons (rC (.str "")) (rCons (rC (.str "#0+-1")) (rCons (rC (.str "#1-7")) (rCons (rC (.str "0")) (rNil))))))))))))))))
    (sSeq (sSet 14 (rOp oIx (rV 14) (rCall sp__law_draw_v2 [] (rCons (rV 2) (rCons (rC (.int 13)) (rNil))))))
    (sSeq (sSet 15 (rLst (rCons (rOp oAdd (rV 9) (rJoin (rC (.str ",")) (rOp oAdd (rOp oAdd (rSl (rV 10) rNoP (rPart (rV 13))) (rLst (rCons (rV 14) (rNil)))) (rSl (rV 10) (rPart (rOp oAdd (rV 13) (rC (.int 1)))) rNoP)))) (rCons (rOp oAdd (rV 9) (rJoin (rC (.str ",")) (rOp oAdd (rSl (rV 10) rNoP (rPart (rOp oAdd (rV 13) (rC (.int 1))))) (rSl (rV 10) (rPart (rV 13)) rNoP)))) (rNil)))))
    (sSeq (sSet 15 (rOp oAdd (rV 15) (rLst (rCons (rOp oAdd (rV 9) (rJoin (rC (.str ",")) (rOp oAdd (rSl (rV 10) rNoP (rPart (rV 13))) (rSl (rV 10) (rPart (rOp oAdd (rV 13) (rC (.int 1)))) rNoP)))) (rCons (rCall sp__law_bent_v4 [] (rCons (rV 2) (rCons (rV 11) (rNil)))) (rCons (rCall sp__law_bent_v4 [] (rCons (rV 2) (rCons (rV 11) (rNil)))) (rNil)))))))
    (sIf (rTst (rOp oNe (rLc (iAny (rV 15)) [18] (gN 18) (rTst (rOp oNe (rCall sp__law_told_v9 [] (rCons (rV 18) (rNil))) (rCall sp__law_due_v11 [] (rCons (rV 18) (rNil))))) (rV 18)) (rLst (rNil)))) (sRet (rC (.bl false))) (sNext)))))))))))))
def T_law_9 : DS := sSeq (sSet 9 (rOp oAdd (rOp oAdd (rOp oAdd (rCall sp__law_call_written [] (rCons (rV 6) (rCons (rV 7) (rCons (rV 5) (rNil))))) (rC (.str " "))) (rV 3)) (rC (.str " "))))
    (sSeq (sSet 10 (rLc (iAny (rV 8)) [16] (gN 16) (qYes) (rCall sp__law_answer_written [] (rCons (rV 16) (rNil)))))
    (sSeq (sSet 11 (rOp oAdd (rV 9) (rJoin (rC (.str ",")) (rV 10))))
    (sSeq (sSet 12 (rMk "Rule" sp_Rule___init__ 3 2 (fun ds es => gI [0, 1, 2, 3, 4, 5] (ds ++ es) [.non, .non]) (rCons (rV 5) (rCons (rV 6) (rCons (rV 7) (rNil)))) (rCons (rV 8) (rCons (rV 3) (rNil)))))
    (sSeq (sIf (rOr (rTst (rOp oNe (rCall sp_rule_text [] (rCons (rV 12) (rNil))) (rV 11))) (rOr (rTst (rOp oNe (rCallK sp_rule_text 0 1 (gI [0]) rNil (rCons (rV 12) (rNil))) (rV 11))) (rTst (rOp oNe (rFld "Rule" "answers" (rCallK sp_read_rule 0 1 (gI [0]) rNil (rCons (rV 11) (rNil)))) (rV 8))))) (sRet (rC (.bl false))) (sNext))
    (sSeq (sIf (rTst (rOp oNe (rCall sp__law_told_v9 [] (rCons (rV 11) (rNil))) (rTup (rCons (rC (.str "told")) (rCons (rTup (rCons (rV 5) (rCons (rV 6) (rCons (rV 7) (rCons (rV 8) (rCons (rV 3) (rNil))))))) (rNil)))))) (sRet (rC (.bl false))) (sNext))
    (sSeq (sSet 13 (rCall sp__law_draw_v2 [] (rCons (rV 2) (rCons (rCB cLen (rCons (rV 8) (rNil))) (rNil)))))
    (sSeq (sSet 14 (rLst (rCons (rC (.str "#2+1")) (rCons (rC (.str "#0")) (rCons (rC (.str "@")) (rCons (rC (.str "#1-0")) (rCons (rC (.str "#0+0")) (rCons (rC (.str "+5")) (rCons (rC (.str "@run")) (rCons (rC (.str "-0")) (rCons (rC (.str "#-1+2")) (rCons (rC (.str "")) (rCons (rC (.str "#0+-1")) (rCons (rC (.str "#1-7")) (rCons (rC (.str "0")) (rNil))))))))))))))))
    (sSeq (sSet 14 (rOp oIx (rV 14) (rCall sp__law_draw_v2 [] (rCons (rV 2) (rCons (rC (.int 13)) (rNil))))))
    (sSeq (sSet 15 (rLst (rCons (rOp oAdd (rV 9) (rJoin (rC (.str ",")) (rOp oAdd (rOp oAdd (rSl (rV 10) rNoP (rPart (rV 13))) (rLst (rCons (rV 14) (rNil)))) (rSl (rV 10) (rPart (rOp oAdd (rV 13) (rC (.int 1)))) rNoP)))) (rCons (rOp oAdd (rV 9) (rJoin (rC (.str ",")) (rOp oAdd (rSl (rV 10) rNoP (rPart (rOp oAdd (rV 13) (rC (.int 1))))) (rSl (rV 10) (rPart (rV 13)) rNoP)))) (rNil)))))
    (sSeq (sSet 15 (rOp oAdd (rV 15) (rLst (rCons (rOp oAdd (rV 9) (rJoin (rC (.str ",")) (rOp oAdd (rSl (rV 10) rNoP (rPart (rV 13))) (rSl (rV 10) (rPart (rOp oAdd (rV 13) (rC (.int 1)))) rNoP)))) (rCons (rCall sp__law_bent_v4 [] (rCons (rV 2) (rCons (rV 11) (rNil)))) (rCons (rCall sp__law_bent_v4 [] (rCons (rV 2) (rCons (rV 11) (rNil)))) (rNil)))))))
    (sIf (rTst (rOp oNe (rLc (iAny (rV 15)) [18] (gN 18) (rTst (rOp oNe (rCall sp__law_told_v9 [] (rCons (rV 18) (rNil))) (rCall sp__law_due_v11 [] (rCons (rV 18) (rNil))))) (rV 18)) (rLst (rNil)))) (sRet (rC (.bl false))) (sNext))))))))))))
def T_law_10 : DS := sSeq (sSet 10 (rLc (iAny (rV 8)) [16] (gN 16) (qYes) (rCall sp__law_answer_written [] (rCons (rV 16) (rNil)))))
    (sSeq (sSet 11 (rOp oAdd (rV 9) (rJoin (rC (.str ",")) (rV 10))))
    (sSeq (sSet 12 (rMk "Rule" sp_Rule___init__ 3 2 (fun ds es => gI [0, 1, 2, 3, 4, 5] (ds ++ es) [.non, .non]) (rCons (rV 5) (rCons (rV 6) (rCons (rV 7) (rNil)))) (rCons (rV 8) (rCons (rV 3) (rNil)))))
    (sSeq (sIf (rOr (rTst (rOp oNe (rCall sp_rule_text [] (rCons (rV 12) (rNil))) (rV 11))) (rOr (rTst (rOp oNe (rCallK sp_rule_text 0 1 (gI [0]) rNil (rCons (rV 12) (rNil))) (rV 11))) (rTst (rOp oNe (rFld "Rule" "answers" (rCallK sp_read_rule 0 1 (gI [0]) rNil (rCons (rV 11) (rNil)))) (rV 8))))) (sRet (rC (.bl false))) (sNext))
    (sSeq (sIf (rTst (rOp oNe (rCall sp__law_told_v9 [] (rCons (rV 11) (rNil))) (rTup (rCons (rC (.str "told")) (rCons (rTup (rCons (rV 5) (rCons (rV 6) (rCons (rV 7) (rCons (rV 8) (rCons (rV 3) (rNil))))))) (rNil)))))) (sRet (rC (.bl false))) (sNext))
    (sSeq (sSet 13 (rCall sp__law_draw_v2 [] (rCons (rV 2) (rCons (rCB cLen (rCons (rV 8) (rNil))) (rNil)))))
    (sSeq (sSet 14 (rLst (rCons (rC (.str "#2+1")) (rCons (rC (.str "#0")) (rCons (rC (.str "@")) (rCons (rC (.str "#1-0")) (rCons (rC (.str "#0+0")) (rCons (rC (.str "+5")) (rCons (rC (.str "@run")) (rCons (rC (.str "-0")) (rCons (rC (.str "#-1+2")) (rCons (rC (.str "")) (rCons (rC (.str "#0+-1")) (rCons (rC (.str "#1-7")) (rCons (rC (.str "0")) (rNil))))))))))))))))
    (sSeq (sSet 14 (rOp oIx (rV 14) (rCall sp__law_draw_v2 [] (rCons (rV 2) (rCons (rC (.int 13)) (rNil))))))
    (sSeq (sSet 15 (rLst (rCons (rOp oAdd (rV 9) (rJoin (rC (.str ",")) (rOp oAdd (rOp oAdd (rSl (rV 10) rNoP (rPart (rV 13))) (rLst (rCons (rV 14) (rNil)))) (rSl (rV 10) (rPart (rOp oAdd (rV 13) (rC (.int 1)))) rNoP)))) (rCons (rOp oAdd (rV 9) (rJoin (rC (.str ",")) (rOp oAdd (rSl (rV 10) rNoP (rPart (rOp oAdd (rV 13) (rC (.int 1))))) (rSl (rV 10) (rPart (rV 13)) rNoP)))) (rNil)))))
    (sSeq (sSet 15 (rOp oAdd (rV 15) (rLst (rCons (rOp oAdd (rV 9) (rJoin (rC (.str ",")) (rOp oAdd (rSl (rV 10) rNoP (rPart (rV 13))) (rSl (rV 10) (rPart (rOp oAdd (rV 13) (rC (.int 1)))) rNoP)))) (rCons (rCall sp__law_bent_v4 [] (rCons (rV 2) (rCons (rV 11) (rNil)))) (rCons (rCall sp__law_bent_v4 [] (rCons (rV 2) (rCons (rV 11) (rNil)))) (rNil)))))))
    (sIf (rTst (rOp oNe (rLc (iAny (rV 15)) [18] (gN 18) (rTst (rOp oNe (rCall sp__law_told_v9 [] (rCons (rV 18) (rNil))) (rCall sp__law_due_v11 [] (rCons (rV 18) (rNil))))) (rV 18)) (rLst (rNil)))) (sRet (rC (.bl false))) (sNext)))))))))))
def T_law_13 : DS := sSeq (sIf (rOr (rTst (rOp oNe (rCall sp_rule_text [] (rCons (rV 12) (rNil))) (rV 11))) (rOr (rTst (rOp oNe (rCallK sp_rule_text 0 1 (gI [0]) rNil (rCons (rV 12) (rNil))) (rV 11))) (rTst (rOp oNe (rFld "Rule" "answers" (rCallK sp_read_rule 0 1 (gI [0]) rNil (rCons (rV 11) (rNil)))) (rV 8))))) (sRet (rC (.bl false))) (sNext))
    (sSeq (sIf (rTst (rOp oNe (rCall sp__law_told_v9 [] (rCons (rV 11) (rNil))) (rTup (rCons (rC (.str "told")) (rCons (rTup (rCons (rV 5) (rCons (rV 6) (rCons (rV 7) (rCons (rV 8) (rCons (rV 3) (rNil))))))) (rNil)))))) (sRet (rC (.bl false))) (sNext))
    (sSeq (sSet 13 (rCall sp__law_draw_v2 [] (rCons (rV 2) (rCons (rCB cLen (rCons (rV 8) (rNil))) (rNil)))))
    (sSeq (sSet 14 (rLst (rCons (rC (.str "#2+1")) (rCons (rC (.str "#0")) (rCons (rC (.str "@")) (rCons (rC (.str "#1-0")) (rCons (rC (.str "#0+0")) (rCons (rC (.str "+5")) (rCons (rC (.str "@run")) (rCons (rC (.str "-0")) (rCons (rC (.str "#-1+2")) (rCons (rC (.str "")) (rCons (rC (.str "#0+-1")) (rCons (rC (.str "#1-7")) (rCons (rC (.str "0")) (rNil))))))))))))))))
    (sSeq (sSet 14 (rOp oIx (rV 14) (rCall sp__law_draw_v2 [] (rCons (rV 2) (rCons (rC (.int 13)) (rNil))))))
    (sSeq (sSet 15 (rLst (rCons (rOp oAdd (rV 9) (rJoin (rC (.str ",")) (rOp oAdd (rOp oAdd (rSl (rV 10) rNoP (rPart (rV 13))) (rLst (rCons (rV 14) (rNil)))) (rSl (rV 10) (rPart (rOp oAdd (rV 13) (rC (.int 1)))) rNoP)))) (rCons (rOp oAdd (rV 9) (rJoin (rC (.str ",")) (rOp oAdd (rSl (rV 10) rNoP (rPart (rOp oAdd (rV 13) (rC (.int 1))))) (rSl (rV 10) (rPart (rV 13)) rNoP)))) (rNil)))))
    (sSeq (sSet 15 (rOp oAdd (rV 15) (rLst (rCons (rOp oAdd (rV 9) (rJoin (rC (.str ",")) (rOp oAdd (rSl (rV 10) rNoP (rPart (rV 13))) (rSl (rV 10) (rPart (rOp oAdd (rV 13) (rC (.int 1)))) rNoP)))) (rCons (rCall sp__law_bent_v4 [] (rCons (rV 2) (rCons (rV 11) (rNil)))) (rCons (rCall sp__law_bent_v4 [] (rCons (rV 2) (rCons (rV 11) (rNil)))) (rNil)))))))
    (sIf (rTst (rOp oNe (rLc (iAny (rV 15)) [18] (gN 18) (rTst (rOp oNe (rCall sp__law_told_v9 [] (rCons (rV 18) (rNil))) (rCall sp__law_due_v11 [] (rCons (rV 18) (rNil))))) (rV 18)) (rLst (rNil)))) (sRet (rC (.bl false))) (sNext))))))))
def T_law_15 : DS := sSeq (sSet 13 (rCall sp__law_draw_v2 [] (rCons (rV 2) (rCons (rCB cLen (rCons (rV 8) (rNil))) (rNil)))))
    (sSeq (sSet 14 (rLst (rCons (rC (.str "#2+1")) (rCons (rC (.str "#0")) (rCons (rC (.str "@")) (rCons (rC (.str "#1-0")) (rCons (rC (.str "#0+0")) (rCons (rC (.str "+5")) (rCons (rC (.str "@run")) (rCons (rC (.str "-0")) (rCons (rC (.str "#-1+2")) (rCons (rC (.str "")) (rCons (rC (.str "#0+-1")) (rCons (rC (.str "#1-7")) (rCons (rC (.str "0")) (rNil))))))))))))))))
    (sSeq (sSet 14 (rOp oIx (rV 14) (rCall sp__law_draw_v2 [] (rCons (rV 2) (rCons (rC (.int 13)) (rNil))))))
    (sSeq (sSet 15 (rLst (rCons (rOp oAdd (rV 9) (rJoin (rC (.str ",")) (rOp oAdd (rOp oAdd (rSl (rV 10) rNoP (rPart (rV 13))) (rLst (rCons (rV 14) (rNil)))) (rSl (rV 10) (rPart (rOp oAdd (rV 13) (rC (.int 1)))) rNoP)))) (rCons (rOp oAdd (rV 9) (rJoin (rC (.str ",")) (rOp oAdd (rSl (rV 10) rNoP (rPart (rOp oAdd (rV 13) (rC (.int 1))))) (rSl (rV 10) (rPart (rV 13)) rNoP)))) (rNil)))))
    (sSeq (sSet 15 (rOp oAdd (rV 15) (rLst (rCons (rOp oAdd (rV 9) (rJoin (rC (.str ",")) (rOp oAdd (rSl (rV 10) rNoP (rPart (rV 13))) (rSl (rV 10) (rPart (rOp oAdd (rV 13) (rC (.int 1)))) rNoP)))) (rCons (rCall sp__law_bent_v4 [] (rCons (rV 2) (rCons (rV 11) (rNil)))) (rCons (rCall sp__law_bent_v4 [] (rCons (rV 2) (rCons (rV 11) (rNil)))) (rNil)))))))
    (sIf (rTst (rOp oNe (rLc (iAny (rV 15)) [18] (gN 18) (rTst (rOp oNe (rCall sp__law_told_v9 [] (rCons (rV 18) (rNil))) (rCall sp__law_due_v11 [] (rCons (rV 18) (rNil))))) (rV 18)) (rLst (rNil)))) (sRet (rC (.bl false))) (sNext))))))
def T_law_18 : DS := sSeq (sSet 15 (rLst (rCons (rOp oAdd (rV 9) (rJoin (rC (.str ",")) (rOp oAdd (rOp oAdd (rSl (rV 10) rNoP (rPart (rV 13))) (rLst (rCons (rV 14) (rNil)))) (rSl (rV 10) (rPart (rOp oAdd (rV 13) (rC (.int 1)))) rNoP)))) (rCons (rOp oAdd (rV 9) (rJoin (rC (.str ",")) (rOp oAdd (rSl (rV 10) rNoP (rPart (rOp oAdd (rV 13) (rC (.int 1))))) (rSl (rV 10) (rPart (rV 13)) rNoP)))) (rNil)))))
    (sSeq (sSet 15 (rOp oAdd (rV 15) (rLst (rCons (rOp oAdd (rV 9) (rJoin (rC (.str ",")) (rOp oAdd (rSl (rV 10) rNoP (rPart (rV 13))) (rSl (rV 10) (rPart (rOp oAdd (rV 13) (rC (.int 1)))) rNoP)))) (rCons (rCall sp__law_bent_v4 [] (rCons (rV 2) (rCons (rV 11) (rNil)))) (rCons (rCall sp__law_bent_v4 [] (rCons (rV 2) (rCons (rV 11) (rNil)))) (rNil)))))))
    (sIf (rTst (rOp oNe (rLc (iAny (rV 15)) [18] (gN 18) (rTst (rOp oNe (rCall sp__law_told_v9 [] (rCons (rV 18) (rNil))) (rCall sp__law_due_v11 [] (rCons (rV 18) (rNil))))) (rV 18)) (rLst (rNil)))) (sRet (rC (.bl false))) (sNext)))
def T_law_20 : DS := sIf (rTst (rOp oNe (rLc (iAny (rV 15)) [18] (gN 18) (rTst (rOp oNe (rCall sp__law_told_v9 [] (rCons (rV 18) (rNil))) (rCall sp__law_due_v11 [] (rCons (rV 18) (rNil))))) (rV 18)) (rLst (rNil)))) (sRet (rC (.bl false))) (sNext)
theorem ar_0_1 {T0 T1 : Type} {P : List T0 → List T1 → Prop} (h : ∀ (a0 : T1), P [] [a0]) : ∀ (u0 : List T0) (u1 : List T1), u0.length = 0 → u1.length = 1 → P u0 u1 := fun u0 u1 h0 h1 => match u0, u1, h0, h1 with | [], [_], _, _ => h _
theorem ar_1 {T0 : Type} {P : List T0 → Prop} (h : ∀ (a0 : T0), P [a0]) : ∀ (u0 : List T0), u0.length = 1 → P u0 := fun u0 h0 => match u0, h0 with | [_], _ => h _
theorem ar_2 {T0 : Type} {P : List T0 → Prop} (h : ∀ (a0 a1 : T0), P [a0, a1]) : ∀ (u0 : List T0), u0.length = 2 → P u0 := fun u0 h0 => match u0, h0 with | [_, _], _ => h _ _
theorem ar_2_1_0 {T0 T1 T2 : Type} {P : List T0 → List T1 → List T2 → Prop} (h : ∀ (a0 a1 : T0) (a2 : T1), P [a0, a1] [a2] []) : ∀ (u0 : List T0) (u1 : List T1) (u2 : List T2), u0.length = 2 → u1.length = 1 → u2.length = 0 → P u0 u1 u2 := fun u0 u1 u2 h0 h1 h2 => match u0, u1, u2, h0, h1, h2 with | [_, _], [_], [], _, _, _ => h _ _ _
theorem ar_3 {T0 : Type} {P : List T0 → Prop} (h : ∀ (a0 a1 a2 : T0), P [a0, a1, a2]) : ∀ (u0 : List T0), u0.length = 3 → P u0 := fun u0 h0 => match u0, h0 with | [_, _, _], _ => h _ _ _
theorem ar_4_2_2 {T0 T1 T2 : Type} {P : List T0 → List T1 → List T2 → Prop} (h : ∀ (a0 a1 a2 a3 : T0) (a4 a5 : T1) (a6 a7 : T2), P [a0, a1, a2, a3] [a4, a5] [a6, a7]) : ∀ (u0 : List T0) (u1 : List T1) (u2 : List T2), u0.length = 4 → u1.length = 2 → u2.length = 2 → P u0 u1 u2 := fun u0 u1 u2 h0 h1 h2 => match u0, u1, u2, h0, h1, h2 with | [_, _, _, _], [_, _], [_, _], _, _, _ => h _ _ _ _ _ _ _ _
/-- what the top has left -/
structure Tx (w : World) (K : PySem.W.Frag) (mg : Str → Option Value) : Prop where
  f_is_whole : FunAt K mg "is_whole" "is_whole" s_is_whole
  f_is_name : FunAt K mg "is_name" "is_name" s_is_name
  f_are_unlike : FunAt K mg "are_unlike" "are_unlike" s_are_unlike
  f_is_one : FunAt K mg "is_one" "is_one" s_is_one
  f_is_plain : FunAt K mg "is_plain" "is_plain" s_is_plain
  f_is_look : FunAt K mg "is_look" "is_look" s_is_look
  f_look_text : FunAt K mg "look_text" "look_text" s_look_text
  f_are_looks : FunAt K mg "are_looks" "are_looks" s_are_looks
  f_call_text : FunAt K mg "call_text" "call_text" s_call_text
  f_is_answer : FunAt K mg "is_answer" "is_answer" s_is_answer
  f_are_answers : FunAt K mg "are_answers" "are_answers" s_are_answers
  f_is_then : FunAt K mg "is_then" "is_then" s_is_then
  f_Rule___init__ : MkAt K mg "Rule" "Rule.__init__" s_Rule___init__ [.non, .non] [("answers", .tup [.int 0]), ("then", .str "stay")]
  f_number_in : FunAt K mg "number_in" "number_in" s_number_in
  f_numbers_in : FunAt K mg "numbers_in" "numbers_in" s_numbers_in
  f_within : FunAt K mg "within" "within" s_within
  f_plain_in : FunAt K mg "plain_in" "plain_in" s_plain_in
  f_look_in : FunAt K mg "look_in" "look_in" s_look_in
  f_pieces : FunAt K mg "pieces" "pieces" s_pieces
  f_call_in : FunAt K mg "call_in" "call_in" s_call_in
  f_looks_in : FunAt K mg "looks_in" "looks_in" s_looks_in
  f_more_text : FunAt K mg "more_text" "more_text" s_more_text
  f_more_in : FunAt K mg "more_in" "more_in" s_more_in
  f_answer_text : FunAt K mg "answer_text" "answer_text" s_answer_text
  f_answer_in : FunAt K mg "answer_in" "answer_in" s_answer_in
  f_rule_text : FunAt K mg "rule_text" "rule_text" s_rule_text
  f_rule_in : FunAt K mg "rule_in" "rule_in" s_rule_in
  f_read_rule : FunAt K mg "read_rule" "read_rule" s_read_rule
  f__law_cell_at : FunAt K mg "_law_cell_at" "_law_cell_at" s__law_cell_at
  f__law_spring : FunAt K mg "_law_spring" "_law_spring" s__law_spring
  f__law_draw : FunAt K mg "_law_draw" "_law_draw" s__law_draw
  f__law_pick : FunAt K mg "_law_pick" "_law_pick" s__law_pick
  f__law_word : FunAt K mg "_law_word" "_law_word" s__law_word
  f__law_whole : FunAt K mg "_law_whole" "_law_whole" s__law_whole
  f__law_look : FunAt K mg "_law_look" "_law_look" s__law_look
  f__law_written : FunAt K mg "_law_written" "_law_written" s__law_written
  f__law_answer : FunAt K mg "_law_answer" "_law_answer" s__law_answer
  f__law_answer_written : FunAt K mg "_law_answer_written" "_law_answer_written" s__law_answer_written
  f__law_call_written : FunAt K mg "_law_call_written" "_law_call_written" s__law_call_written
  f__law_is_name : FunAt K mg "_law_is_name" "_law_is_name" s__law_is_name
  f__law_number : FunAt K mg "_law_number" "_law_number" s__law_number
  f__law_plain_read : FunAt K mg "_law_plain_read" "_law_plain_read" s__law_plain_read
  f__law_looks_read : FunAt K mg "_law_looks_read" "_law_looks_read" s__law_looks_read
  f__law_answer_read : FunAt K mg "_law_answer_read" "_law_answer_read" s__law_answer_read
  f__law_rule_read : FunAt K mg "_law_rule_read" "_law_rule_read" s__law_rule_read
  f__law_bent : FunAt K mg "_law_bent" "_law_bent" s__law_bent
  f__law_told : FunAt K mg "_law_told" "_law_told" s__law_told
  f__law_due : FunAt K mg "_law_due" "_law_due" s__law_due
  f_law : FunAt K mg "law" "law" s_law
  x_BadRule : XAt K mg "BadRule" s_TrialError___init__
  x_TrialError : XAt K mg "TrialError" s_TrialError___init__
  xf_BadText : XAf K mg "BadText" "BadText.__init__" "line" s_BadText___init__
  ci_TE : CiF K "TrialError"
  vV : PySem.W.findCls K (.type "ValueError") (.type "type") "__init__" = some (.val (.builtin "ValueError.__init__"))
  b_ValueError : mg "ValueError" = none
  b_abs : mg "abs" = none
  b_all : mg "all" = none
  b_bool : mg "bool" = none
  b_enumerate : mg "enumerate" = none
  b_int : mg "int" = none
  b_isinstance : mg "isinstance" = none
  b_len : mg "len" = none
  b_list : mg "list" = none
  b_range : mg "range" = none
  b_str : mg "str" = none
  b_tuple : mg "tuple" = none
  c0_FIGURES : ∃ t, mg "FIGURES" = some (.str "0123456789" t)
  c0_LETTERS : ∃ t, mg "LETTERS" = some (.str "abcdefghijklmnopqrstuvwxyz" t)
  c0_MOST_ANSWERS : ∃ t, mg "MOST_ANSWERS" = some (.int 4 t)
  c0_MOST_FIGURES : ∃ t, mg "MOST_FIGURES" = some (.int 60 t)
  c0_MOST_LETTERS : ∃ t, mg "MOST_LETTERS" = some (.int 8 t)
  c0_MOST_ONE : ∃ t, mg "MOST_ONE" = some (.int 4 t)
  c0_MOST_THINGS : ∃ t, mg "MOST_THINGS" = some (.int 2 t)
  d_SIZES : KdF K w mg "SIZES" [("any", .int 1), ("is", .int 2), ("from", .int 2), ("to", .int 2), ("in", .int 3), ("one", .int 2)]
  ea_BadRule : ExAt K mg "BadRule"
  ea_BadText : ExAt K mg "BadText"
  fl_Rule_answers : FldF K "Rule" "answers"
  fl_Rule_deed : FldF K "Rule" "deed"
  fl_Rule_looks : FldF K "Rule" "looks"
  fl_Rule_part : FldF K "Rule" "part"
  fl_Rule_then : FldF K "Rule" "then"
  g_BadRule : GlbF K mg "BadRule"
  g_Rule : GlbF K mg "Rule"
  iso : IsoF K
  k_THENS : ConF K mg "THENS" (.tup [.str "stay", .str "again", .str "stop"])
  xc : XcF K
  xi : XiF K
  xn_line : XnF K "line"
theorem bb_abs : bootBuiltins "abs" = some (.builtin "abs") := by decide +kernel
theorem bb_all : bootBuiltins "all" = some (.builtin "all") := by decide +kernel
theorem bb_bool : bootBuiltins "bool" = some (.type "bool") := by decide +kernel
theorem bb_int : bootBuiltins "int" = some (.type "int") := by decide +kernel
theorem bb_isinstance : bootBuiltins "isinstance" = some (.builtin "isinstance") := by decide +kernel
theorem bb_len : bootBuiltins "len" = some (.builtin "len") := by decide +kernel
theorem bb_list : bootBuiltins "list" = some (.type "list") := by decide +kernel
theorem bb_str : bootBuiltins "str" = some (.type "str") := by decide +kernel
theorem bb_tuple : bootBuiltins "tuple" = some (.type "tuple") := by decide +kernel
theorem sc_is_whole : FnScope N_is_whole ["thing"] (defScope s_is_whole) := ⟨rfl, rfl, rfl, by decide +kernel, rfl, by decide +kernel, by decide +kernel⟩
theorem bi_is_whole : BindAll "is_whole" "is_whole" s_is_whole ["thing"] := fun _ _ _ _ _ _ => ar_1 (fun _ => rfl)
theorem sc_is_name : FnScope N_is_name ["thing"] (defScope s_is_name) := ⟨rfl, rfl, rfl, by decide +kernel, rfl, by decide +kernel, by decide +kernel⟩
theorem bi_is_name : BindAll "is_name" "is_name" s_is_name ["thing"] := fun _ _ _ _ _ _ => ar_1 (fun _ => rfl)
theorem sc_are_unlike : FnScope N_are_unlike ["some"] (defScope s_are_unlike) := ⟨rfl, rfl, rfl, by decide +kernel, rfl, by decide +kernel, by decide +kernel⟩
theorem bi_are_unlike : BindAll "are_unlike" "are_unlike" s_are_unlike ["some"] := fun _ _ _ _ _ _ => ar_1 (fun _ => rfl)
theorem sc_is_one : FnScope N_is_one ["numbers"] (defScope s_is_one) := ⟨rfl, rfl, rfl, by decide +kernel, rfl, by decide +kernel, by decide +kernel⟩
theorem bi_is_one : BindAll "is_one" "is_one" s_is_one ["numbers"] := fun _ _ _ _ _ _ => ar_1 (fun _ => rfl)
theorem sc_is_plain : FnScope N_is_plain ["look"] (defScope s_is_plain) := ⟨rfl, rfl, rfl, by decide +kernel, rfl, by decide +kernel, by decide +kernel⟩
theorem bi_is_plain : BindAll "is_plain" "is_plain" s_is_plain ["look"] := fun _ _ _ _ _ _ => ar_1 (fun _ => rfl)
theorem sc_is_look : FnScope N_is_look ["look"] (defScope s_is_look) := ⟨rfl, rfl, rfl, by decide +kernel, rfl, by decide +kernel, by decide +kernel⟩
theorem bi_is_look : BindAll "is_look" "is_look" s_is_look ["look"] := fun _ _ _ _ _ _ => ar_1 (fun _ => rfl)
theorem sc_look_text : FnScope N_look_text ["look"] (defScope s_look_text) := ⟨rfl, rfl, rfl, by decide +kernel, rfl, by decide +kernel, by decide +kernel⟩
theorem bi_look_text : BindAll "look_text" "look_text" s_look_text ["look"] := fun _ _ _ _ _ _ => ar_1 (fun _ => rfl)
theorem sc_are_looks : FnScope N_are_looks ["looks"] (defScope s_are_looks) := ⟨rfl, rfl, rfl, by decide +kernel, rfl, by decide +kernel, by decide +kernel⟩
theorem bi_are_looks : BindAll "are_looks" "are_looks" s_are_looks ["looks"] := fun _ _ _ _ _ _ => ar_1 (fun _ => rfl)
theorem sc_call_text : FnScope N_call_text ["part", "deed", "looks"] (defScope s_call_text) := ⟨rfl, rfl, rfl, by decide +kernel, rfl, by decide +kernel, by decide +kernel⟩
theorem bi_call_text : BindAll "call_text" "call_text" s_call_text ["part", "deed", "looks"] := fun _ _ _ _ _ _ => ar_3 (fun _ _ _ => rfl)
theorem sc_is_answer : FnScope N_is_answer ["answer"] (defScope s_is_answer) := ⟨rfl, rfl, rfl, by decide +kernel, rfl, by decide +kernel, by decide +kernel⟩
theorem bi_is_answer : BindAll "is_answer" "is_answer" s_is_answer ["answer"] := fun _ _ _ _ _ _ => ar_1 (fun _ => rfl)
theorem sc_are_answers : FnScope N_are_answers ["answers"] (defScope s_are_answers) := ⟨rfl, rfl, rfl, by decide +kernel, rfl, by decide +kernel, by decide +kernel⟩
theorem bi_are_answers : BindAll "are_answers" "are_answers" s_are_answers ["answers"] := fun _ _ _ _ _ _ => ar_1 (fun _ => rfl)
theorem sc_is_then : FnScope N_is_then ["word"] (defScope s_is_then) := ⟨rfl, rfl, rfl, by decide +kernel, rfl, by decide +kernel, by decide +kernel⟩
theorem bi_is_then : BindAll "is_then" "is_then" s_is_then ["word"] := fun _ _ _ _ _ _ => ar_1 (fun _ => rfl)
theorem sc_Rule___init__ : FnScope N_Rule___init__ ["self", "part", "deed", "looks", "answers", "then"] (defScope s_Rule___init__) := ⟨rfl, rfl, rfl, by decide +kernel, rfl, by decide +kernel, by decide +kernel⟩
theorem sc_number_in : FnScope N_number_in ["word"] (defScope s_number_in) := ⟨rfl, rfl, rfl, by decide +kernel, rfl, by decide +kernel, by decide +kernel⟩
theorem bi_number_in : BindAll "number_in" "number_in" s_number_in ["word"] := fun _ _ _ _ _ _ => ar_1 (fun _ => rfl)
theorem sc_numbers_in : FnScope N_numbers_in ["word"] (defScope s_numbers_in) := ⟨rfl, rfl, rfl, by decide +kernel, rfl, by decide +kernel, by decide +kernel⟩
theorem bi_numbers_in : BindAll "numbers_in" "numbers_in" s_numbers_in ["word"] := fun _ _ _ _ _ _ => ar_1 (fun _ => rfl)
theorem sc_within : FnScope N_within ["word", "first", "last"] (defScope s_within) := ⟨rfl, rfl, rfl, by decide +kernel, rfl, by decide +kernel, by decide +kernel⟩
theorem bi_within : BindAll "within" "within" s_within ["word", "first", "last"] := fun _ _ _ _ _ _ => ar_3 (fun _ _ _ => rfl)
theorem sc_plain_in : FnScope N_plain_in ["word"] (defScope s_plain_in) := ⟨rfl, rfl, rfl, by decide +kernel, rfl, by decide +kernel, by decide +kernel⟩
theorem bi_plain_in : BindAll "plain_in" "plain_in" s_plain_in ["word"] := fun _ _ _ _ _ _ => ar_1 (fun _ => rfl)
theorem sc_look_in : FnScope N_look_in ["word"] (defScope s_look_in) := ⟨rfl, rfl, rfl, by decide +kernel, rfl, by decide +kernel, by decide +kernel⟩
theorem bi_look_in : BindAll "look_in" "look_in" s_look_in ["word"] := fun _ _ _ _ _ _ => ar_1 (fun _ => rfl)
theorem sc_pieces : FnScope N_pieces ["word"] (defScope s_pieces) := ⟨rfl, rfl, rfl, by decide +kernel, rfl, by decide +kernel, by decide +kernel⟩
theorem bi_pieces : BindAll "pieces" "pieces" s_pieces ["word"] := fun _ _ _ _ _ _ => ar_1 (fun _ => rfl)
theorem sc_call_in : FnScope N_call_in ["word"] (defScope s_call_in) := ⟨rfl, rfl, rfl, by decide +kernel, rfl, by decide +kernel, by decide +kernel⟩
theorem bi_call_in : BindAll "call_in" "call_in" s_call_in ["word"] := fun _ _ _ _ _ _ => ar_1 (fun _ => rfl)
theorem sc_looks_in : FnScope N_looks_in ["inside"] (defScope s_looks_in) := ⟨rfl, rfl, rfl, by decide +kernel, rfl, by decide +kernel, by decide +kernel⟩
theorem bi_looks_in : BindAll "looks_in" "looks_in" s_looks_in ["inside"] := fun _ _ _ _ _ _ => ar_1 (fun _ => rfl)
theorem sc_more_text : FnScope N_more_text ["more"] (defScope s_more_text) := ⟨rfl, rfl, rfl, by decide +kernel, rfl, by decide +kernel, by decide +kernel⟩
theorem bi_more_text : BindAll "more_text" "more_text" s_more_text ["more"] := fun _ _ _ _ _ _ => ar_1 (fun _ => rfl)
theorem sc_more_in : FnScope N_more_in ["word"] (defScope s_more_in) := ⟨rfl, rfl, rfl, by decide +kernel, rfl, by decide +kernel, by decide +kernel⟩
theorem bi_more_in : BindAll "more_in" "more_in" s_more_in ["word"] := fun _ _ _ _ _ _ => ar_1 (fun _ => rfl)
theorem sc_answer_text : FnScope N_answer_text ["answer"] (defScope s_answer_text) := ⟨rfl, rfl, rfl, by decide +kernel, rfl, by decide +kernel, by decide +kernel⟩
theorem bi_answer_text : BindAll "answer_text" "answer_text" s_answer_text ["answer"] := fun _ _ _ _ _ _ => ar_1 (fun _ => rfl)
theorem sc_answer_in : FnScope N_answer_in ["word"] (defScope s_answer_in) := ⟨rfl, rfl, rfl, by decide +kernel, rfl, by decide +kernel, by decide +kernel⟩
theorem bi_answer_in : BindAll "answer_in" "answer_in" s_answer_in ["word"] := fun _ _ _ _ _ _ => ar_1 (fun _ => rfl)
theorem sc_rule_text : FnScope N_rule_text ["rule"] (defScope s_rule_text) := ⟨rfl, rfl, rfl, by decide +kernel, rfl, by decide +kernel, by decide +kernel⟩
theorem bi_rule_text : BindAll "rule_text" "rule_text" s_rule_text ["rule"] := fun _ _ _ _ _ _ => ar_1 (fun _ => rfl)
theorem sc_rule_in : FnScope N_rule_in ["text"] (defScope s_rule_in) := ⟨rfl, rfl, rfl, by decide +kernel, rfl, by decide +kernel, by decide +kernel⟩
theorem bi_rule_in : BindAll "rule_in" "rule_in" s_rule_in ["text"] := fun _ _ _ _ _ _ => ar_1 (fun _ => rfl)
theorem sc_read_rule : FnScope N_read_rule ["text"] (defScope s_read_rule) := ⟨rfl, rfl, rfl, by decide +kernel, rfl, by decide +kernel, by decide +kernel⟩
theorem bi_read_rule : BindAll "read_rule" "read_rule" s_read_rule ["text"] := fun _ _ _ _ _ _ => ar_1 (fun _ => rfl)
theorem sc__law_cell_at : FnScope N__law_cell_at ["_law_script", "_law_k"] (defScope s__law_cell_at) := ⟨rfl, rfl, rfl, by decide +kernel, rfl, by decide +kernel, by decide +kernel⟩
theorem bi__law_cell_at : BindAll "_law_cell_at" "_law_cell_at" s__law_cell_at ["_law_script", "_law_k"] := fun _ _ _ _ _ _ => ar_2 (fun _ _ => rfl)
theorem sc__law_spring : FnScope N__law_spring ["_law_cell"] (defScope s__law_spring) := ⟨rfl, rfl, rfl, by decide +kernel, rfl, by decide +kernel, by decide +kernel⟩
theorem bi__law_spring : BindAll "_law_spring" "_law_spring" s__law_spring ["_law_cell"] := fun _ _ _ _ _ _ => ar_1 (fun _ => rfl)
theorem sc__law_draw : FnScope N__law_draw ["_law_well", "_law_many"] (defScope s__law_draw) := ⟨rfl, rfl, rfl, by decide +kernel, rfl, by decide +kernel, by decide +kernel⟩
theorem bi__law_draw : BindAll "_law_draw" "_law_draw" s__law_draw ["_law_well", "_law_many"] := fun _ _ _ _ _ _ => ar_2 (fun _ _ => rfl)
theorem sc__law_pick : FnScope N__law_pick ["_law_well", "_law_some"] (defScope s__law_pick) := ⟨rfl, rfl, rfl, by decide +kernel, rfl, by decide +kernel, by decide +kernel⟩
theorem bi__law_pick : BindAll "_law_pick" "_law_pick" s__law_pick ["_law_well", "_law_some"] := fun _ _ _ _ _ _ => ar_2 (fun _ _ => rfl)
theorem sc__law_word : FnScope N__law_word ["_law_well"] (defScope s__law_word) := ⟨rfl, rfl, rfl, by decide +kernel, rfl, by decide +kernel, by decide +kernel⟩
theorem bi__law_word : BindAll "_law_word" "_law_word" s__law_word ["_law_well"] := fun _ _ _ _ _ _ => ar_1 (fun _ => rfl)
theorem sc__law_whole : FnScope N__law_whole ["_law_well"] (defScope s__law_whole) := ⟨rfl, rfl, rfl, by decide +kernel, rfl, by decide +kernel, by decide +kernel⟩
theorem bi__law_whole : BindAll "_law_whole" "_law_whole" s__law_whole ["_law_well"] := fun _ _ _ _ _ _ => ar_1 (fun _ => rfl)
theorem sc__law_look : FnScope N__law_look ["_law_well"] (defScope s__law_look) := ⟨rfl, rfl, rfl, by decide +kernel, rfl, by decide +kernel, by decide +kernel⟩
theorem bi__law_look : BindAll "_law_look" "_law_look" s__law_look ["_law_well"] := fun _ _ _ _ _ _ => ar_1 (fun _ => rfl)
theorem sc__law_written : FnScope N__law_written ["_law_look_here"] (defScope s__law_written) := ⟨rfl, rfl, rfl, by decide +kernel, rfl, by decide +kernel, by decide +kernel⟩
theorem bi__law_written : BindAll "_law_written" "_law_written" s__law_written ["_law_look_here"] := fun _ _ _ _ _ _ => ar_1 (fun _ => rfl)
theorem sc__law_answer : FnScope N__law_answer ["_law_well"] (defScope s__law_answer) := ⟨rfl, rfl, rfl, by decide +kernel, rfl, by decide +kernel, by decide +kernel⟩
theorem bi__law_answer : BindAll "_law_answer" "_law_answer" s__law_answer ["_law_well"] := fun _ _ _ _ _ _ => ar_1 (fun _ => rfl)
theorem sc__law_answer_written : FnScope N__law_answer_written ["_law_answer_here"] (defScope s__law_answer_written) := ⟨rfl, rfl, rfl, by decide +kernel, rfl, by decide +kernel, by decide +kernel⟩
theorem bi__law_answer_written : BindAll "_law_answer_written" "_law_answer_written" s__law_answer_written ["_law_answer_here"] := fun _ _ _ _ _ _ => ar_1 (fun _ => rfl)
theorem sc__law_call_written : FnScope N__law_call_written ["_law_deed", "_law_looks", "_law_part"] (defScope s__law_call_written) := ⟨rfl, rfl, rfl, by decide +kernel, rfl, by decide +kernel, by decide +kernel⟩
theorem bi__law_call_written : BindAll "_law_call_written" "_law_call_written" s__law_call_written ["_law_deed", "_law_looks", "_law_part"] := fun _ _ _ _ _ _ => ar_3 (fun _ _ _ => rfl)
theorem sc__law_is_name : FnScope N__law_is_name ["_law_word_here"] (defScope s__law_is_name) := ⟨rfl, rfl, rfl, by decide +kernel, rfl, by decide +kernel, by decide +kernel⟩
theorem bi__law_is_name : BindAll "_law_is_name" "_law_is_name" s__law_is_name ["_law_word_here"] := fun _ _ _ _ _ _ => ar_1 (fun _ => rfl)
theorem sc__law_number : FnScope N__law_number ["_law_word_here"] (defScope s__law_number) := ⟨rfl, rfl, rfl, by decide +kernel, rfl, by decide +kernel, by decide +kernel⟩
theorem bi__law_number : BindAll "_law_number" "_law_number" s__law_number ["_law_word_here"] := fun _ _ _ _ _ _ => ar_1 (fun _ => rfl)
theorem sc__law_plain_read : FnScope N__law_plain_read ["_law_word_here"] (defScope s__law_plain_read) := ⟨rfl, rfl, rfl, by decide +kernel, rfl, by decide +kernel, by decide +kernel⟩
theorem bi__law_plain_read : BindAll "_law_plain_read" "_law_plain_read" s__law_plain_read ["_law_word_here"] := fun _ _ _ _ _ _ => ar_1 (fun _ => rfl)
theorem sc__law_looks_read : FnScope N__law_looks_read ["_law_word_here"] (defScope s__law_looks_read) := ⟨rfl, rfl, rfl, by decide +kernel, rfl, by decide +kernel, by decide +kernel⟩
theorem bi__law_looks_read : BindAll "_law_looks_read" "_law_looks_read" s__law_looks_read ["_law_word_here"] := fun _ _ _ _ _ _ => ar_1 (fun _ => rfl)
theorem sc__law_answer_read : FnScope N__law_answer_read ["_law_word_here"] (defScope s__law_answer_read) := ⟨rfl, rfl, rfl, by decide +kernel, rfl, by decide +kernel, by decide +kernel⟩
theorem bi__law_answer_read : BindAll "_law_answer_read" "_law_answer_read" s__law_answer_read ["_law_word_here"] := fun _ _ _ _ _ _ => ar_1 (fun _ => rfl)
theorem sc__law_rule_read : FnScope N__law_rule_read ["_law_line"] (defScope s__law_rule_read) := ⟨rfl, rfl, rfl, by decide +kernel, rfl, by decide +kernel, by decide +kernel⟩
theorem bi__law_rule_read : BindAll "_law_rule_read" "_law_rule_read" s__law_rule_read ["_law_line"] := fun _ _ _ _ _ _ => ar_1 (fun _ => rfl)
theorem sc__law_bent : FnScope N__law_bent ["_law_well", "_law_word_here"] (defScope s__law_bent) := ⟨rfl, rfl, rfl, by decide +kernel, rfl, by decide +kernel, by decide +kernel⟩
theorem bi__law_bent : BindAll "_law_bent" "_law_bent" s__law_bent ["_law_well", "_law_word_here"] := fun _ _ _ _ _ _ => ar_2 (fun _ _ => rfl)
theorem sc__law_told : FnScope N__law_told ["_law_line"] (defScope s__law_told) := ⟨rfl, rfl, rfl, by decide +kernel, rfl, by decide +kernel, by decide +kernel⟩
theorem bi__law_told : BindAll "_law_told" "_law_told" s__law_told ["_law_line"] := fun _ _ _ _ _ _ => ar_1 (fun _ => rfl)
theorem sc__law_due : FnScope N__law_due ["_law_line"] (defScope s__law_due) := ⟨rfl, rfl, rfl, by decide +kernel, rfl, by decide +kernel, by decide +kernel⟩
theorem bi__law_due : BindAll "_law_due" "_law_due" s__law_due ["_law_line"] := fun _ _ _ _ _ _ => ar_1 (fun _ => rfl)
theorem sc_law : FnScope N_law ["_law_script"] (defScope s_law) := ⟨rfl, rfl, rfl, by decide +kernel, rfl, by decide +kernel, by decide +kernel⟩
theorem bi_law : BindAll "law" "law" s_law ["_law_script"] := fun _ _ _ _ _ _ => ar_1 (fun _ => rfl)
theorem bk_rule_text_0 : BindKw "rule_text" "rule_text" s_rule_text ["rule"] 0 ["rule"] [0] := fun _ _ _ _ _ _ => ar_0_1 (fun _ => rfl)
theorem bk_read_rule_1 : BindKw "read_rule" "read_rule" s_read_rule ["text"] 0 ["text"] [0] := fun _ _ _ _ _ _ => ar_0_1 (fun _ => rfl)
theorem bkb_Rule___init___0 : BindT0 "__init__" "Rule.__init__" s_Rule___init__ ["self", "part", "deed", "looks", "answers", "then"] 4 ["answers", "then"] 2 [0, 1, 2, 3, 4, 5] := fun _ _ _ _ _ _ _ => ar_4_2_2 (fun _ _ _ _ _ _ _ _ => ⟨_, rfl, rfl⟩)
theorem kb_Rule___init___0 {K : PySem.W.Frag} : ∀ f fd, FunG K "__init__" "Rule.__init__" s_Rule___init__ [.non, .non] [("answers", .tup [.int 0]), ("then", .str "stay")] f fd → KBd K fd ["self", "part", "deed", "looks", "answers", "then"] 4 ["answers", "then"] (fun ds es => gI [0, 1, 2, 3, 4, 5] (ds ++ es) [.non, .non]) := fun f fd G => kbd_T0 G (by simp) bkb_Rule___init___0
theorem sc_TE : FnScope ["self", "why"] ["self", "why"] (defScope s_TrialError___init__) := ⟨rfl, rfl, rfl, by decide +kernel, rfl, by decide +kernel, by decide +kernel⟩
theorem bt_TE : BindT0 "__init__" "TrialError.__init__" s_TrialError___init__ ["self", "why"] 2 [] 1 [0, 1] := fun _ _ _ _ _ _ _ => ar_2_1_0 (fun _ _ _ => ⟨_, rfl, rfl⟩)
theorem hb_TE {K : PySem.W.Frag} : ∀ fd, (∃ fI, FunG K "__init__" "TrialError.__init__" s_TrialError___init__ [.str "refused"] [] fI fd) → Binds K fd ["self", "why"] [] := fun fd ⟨_, G⟩ => te_binds G bt_TE
theorem sc_XF_BadText : FnScope ["self", "line"] ["self", "line"] (defScope s_BadText___init__) := ⟨rfl, rfl, rfl, by decide +kernel, rfl, by decide +kernel, by decide +kernel⟩
theorem bi_XF_BadText : BindAll "__init__" "BadText.__init__" s_BadText___init__ ["self", "line"] := fun _ _ _ _ _ _ => ar_2 (fun _ _ => rfl)
theorem hb_BadText {K : PySem.W.Frag} : ∀ fd, (∃ fI, FunG K "__init__" "BadText.__init__" s_BadText___init__ [] [] fI fd) → Binds K fd ["self", "line"] [] := fun fd ⟨_, G⟩ => xf_binds G bi_XF_BadText
-- tails
theorem ln_law : ∀ ds m Q PX, spLaw ds m Q PX → ds.length = 1 := by rintro ds m Q PX ⟨d, rfl, _⟩; rfl
theorem oL_ok {L : Option (List Lk)} (h : LksN L) : looksB (oL L) = true ∧ thD 6 (oL L) := by
  have e := lks_text_back h
  have x := (lks_B h).lx
  rcases lks_read (TL.tl (lksT L)) with ⟨L', e1, e2, e3, _⟩ | ⟨e1, _⟩
  · rw [e] at e1
    cases e1
    rw [← e2]
    exact ⟨e3, looksDD_th x⟩
  · rw [e] at e1; cases e1
theorem ant_ok {t : AnT} (h : t.N) : ansB t.d = true ∧ thD 2 t.d := by
  have e := ant_text_back h
  have x := (ant_B h).lx
  rcases ant_read (TL.tl (antW t)) with ⟨t', e1, e2, e3, _⟩ | ⟨e1, _⟩
  · rw [e] at e1
    cases e1
    rw [← e2]
    exact ⟨e3, antDD_th x⟩
  · rw [e] at e1; cases e1
theorem tx_th {x : Str} {n k : Nat} (h : TxB n x) (hn : n ≤ 100000 := by decide) : thD (k + 1) (.str x) := ⟨Nat.le_trans h.1 hn, h.2⟩
theorem oS_th {d : Option Str} (h : ∀ x, d = some x → nmB x = true) : thD 7 (oS d) := by
  cases d with
  | none => exact thD_non
  | some x => exact tx_th (nm_B (h x rfl))
theorem ants_th {as : List AnT} (h : ∀ t ∈ as, t.N) (hl : as.length ≤ 4) : thD 7 (.tup (as.map AnT.d)) := thD_tup (by rw [List.length_map]; omega) fun d hd => by
  obtain ⟨t, ht, rfl⟩ := List.mem_map.mp hd
  exact thD_mono 2 6 _ (by decide) (ant_ok (h t ht)).2
theorem five_th {r : RuX} (h : r.N) : thD 8 r.five := thD_tup (by simp) (List.forall_mem_cons.mpr ⟨tx_th (nm_B h.part), List.forall_mem_cons.mpr ⟨oS_th h.deed, List.forall_mem_cons.mpr ⟨thD_mono 6 7 _ (by decide) (oL_ok h.looks).2, List.forall_mem_cons.mpr ⟨ants_th h.ans h.many.2, List.forall_mem_cons.mpr ⟨tx_th (tn_B h.tn), List.forall_mem_nil _⟩⟩⟩⟩⟩)
theorem tdU_shp (w : List Nat) (h : LxOk w) : ∃ xs, tdU w = .tup xs ∧ shp (.tup xs) := by
  unfold tdU
  cases hr : ruleR w with
  | none => exact ⟨_, rfl, shpT81 (n := 2) (thD_tup (by simp) (List.forall_mem_cons.mpr ⟨thD_txt _ _, List.forall_mem_cons.mpr ⟨thD_int, List.forall_mem_nil _⟩⟩))⟩
  | some r => exact ⟨_, rfl, shpT81 (n := 9) (thD_tup (by simp) (List.forall_mem_cons.mpr ⟨tx_th (TxB.lit "told" (n := 4)), List.forall_mem_cons.mpr ⟨five_th (rule_back h hr).2, List.forall_mem_nil _⟩⟩))⟩
theorem pu_law : ∀ ds m Q PX, spLaw ds m Q PX → rd_law (dEnds Q PX) (dstart N_law ds) m := by
  rintro ds m Q PX ⟨ns, rfl, hn, h⟩
  have big : (2 : Nat) ^ 200 > 1000000 := by decide
  walk_at "go"
  refine ⟨ns, 0, rfl, fun c0 => ?_⟩
  have hcut := cut_le ns (some 1) (some 5)
  walk_at "go"
  refine loop_inv (fun i δ m' => ∃ a1 a2 a3 a4 a5 a6 a7 a8 a9 a10 a11 a12 a13 a14 a15 a16 a17 a18, δ = [some (.lst (ns.map .int)), a1, a2, a3, a4, a5, a6, a7, a8, a9, a10, a11, a12, a13, a14, a15, a16, a17, a18]) (fun i d δ m' e hh => ?_) (fun δ m' hh => ⟨trivial, h _⟩) ⟨_, _, _, _, _, _, _, _, _, _, _, _, _, _, _, _, _, _, rfl⟩
  obtain ⟨a1, a2, a3, a4, a5, a6, a7, a8, a9, a10, a11, a12, a13, a14, a15, a16, a17, a18, rfl⟩ := hh
  obtain ⟨c, rfl⟩ := cells d (List.mem_of_getElem? e)
  refine ⟨trivial, fun Nx k1 => ?_⟩
  walk_at "go"
  refine ⟨c, rfl, fun w m1 hw kp1 w1 => ?_⟩
  walk_at "go"
  refine .inl ⟨w, _, _, rfl, .inl rfl, by decide, by decide, _, w1, by decide, fun d m2 hd kp2 w2 => ?_⟩
  obtain ⟨tn, htn, rfl⟩ : ∃ t : Str, t ∈ thensS ∧ d = .str t := by
    have : ∀ d ∈ thensS.map D.str, ∃ t : Str, t ∈ thensS ∧ d = .str t := fun d hd => by
      obtain ⟨t, ht, rfl⟩ := List.mem_map.mp hd
      exact ⟨t, ht, rfl⟩
    exact this d hd
  walk_at "go"
  refine .inl ⟨w, _, _, rfl, .inl rfl, by decide, by decide, _, w2, by decide, fun MD m3 hMD kp3 w3 => ?_⟩
  walk_at "go"
  refine ⟨w, rfl, _, w3, by decide, fun d m4 hd kp4 w4 => ?_⟩
  obtain ⟨pt, rfl, hpt⟩ := hd
  walk_at "go"
  refine ⟨w, rfl, _, w4, by decide, fun d m5 hd kp5 w5 => ?_⟩
  obtain ⟨y, rfl, hy⟩ := hd
  walk_at "go"
  refine .inl ⟨w, _, _, rfl, .inl rfl, by show 0 < 2; decide, by show 2 ≤ 1000000; decide, _, w5, by decide, fun d m6 hd kp6 w6 => ?_⟩
  obtain ⟨DE, hDE, rfl⟩ : ∃ DE : Option Str, (∀ x, DE = some x → nmB x = true) ∧ d = oS DE := by
    rcases List.mem_cons.mp hd with hd | hd
    · exact ⟨some y, fun x z => by cases z; exact hy, hd⟩
    · exact ⟨none, (fun x z => by cases z), List.mem_singleton.mp hd⟩
  have kNx : ∀ a1 a2 a3 a4 a5 a6 a7 a8 a9 a10 a11 a12 a13 a14 a15 a16 a17 a18 m', Nx [some (.lst (ns.map .int)), a1, a2, a3, a4, a5, a6, a7, a8, a9, a10, a11, a12, a13, a14, a15, a16, a17, a18] m' := fun a1 a2 a3 a4 a5 a6 a7 a8 a9 a10 a11 a12 a13 a14 a15 a16 a17 a18 m' => k1 _ _ ⟨_, _, _, _, _, _, _, _, _, _, _, _, _, _, _, _, _, _, rfl⟩
  -- behind the answers
  have fin : ∀ (L : Option (List Lk)) (as : List AnT) (m7 : Mu), LksN L → (1 ≤ as.length ∧ as.length ≤ 4) → (∀ t ∈ as, t.N) → Wl m7 w 1000 → T_law_9 { nx := Nx, rt := Q, bk := sRet (rC (.bl true)) (dEnds Q PX), ct := Nx, xx := fun c fs _ m => PX c fs m } [some (.lst (ns.map .int)), some (.int c), some (.adr w), some (.str tn), some MD, some (.str pt), some (oS DE), some (oL L), some (.tup (as.map AnT.d)), a9, a10, a11, a12, a13, a14, a15, a16, a17, a18] m7 := by
    intro L as m7 hL hm has w7
    obtain ⟨R, hR⟩ : ∃ R : RuX, R = ⟨pt, DE, L, as, tn⟩ := ⟨_, rfl⟩
    have hN : R.N := by rw [hR]; exact ⟨hpt, hDE, hL, hm, has, htn⟩
    have tB := (tn_B htn).1
    have cB := (callT_B hpt hDE hL).1
    have aB := ants_B has hm.2
    have aB1 := aB.1
    have hB := ru_B hN
    have eR := ruT_app R
    rw [hR] at eR
    dsimp only at eR
    rw [← hR] at eR
    have e1 : Str.length " " = 1 := by decide
    have e4 : Str.length "," = 1 := by decide
    obtain ⟨HD, hHD⟩ : ∃ HD : Str, HD = callT pt DE L ++ (" " : Str) ++ tn ++ (" " : Str) := ⟨_, rfl⟩
    have hdB : TxB 2030 HD := by
      rw [hHD]
      exact (((callT_B hpt hDE hL).app (TxB.lit " " (n := 1))).app (tn_B htn)).app (TxB.lit " " (n := 1))
    rw [← hHD] at eR
    walk_at "dl"
    refine ⟨pt, DE, L, rfl, hpt, hDE, hL, ?_⟩
    walk_at "dl"
    refine ⟨len_line (by omega), ?_⟩
    walk_at "dl"
    refine ⟨len_line (by rw [PySem.Str.length_append]; omega), ?_⟩
    walk_at "dl"
    refine ⟨len_line (by rw [PySem.Str.length_append, PySem.Str.length_append]; omega), ?_⟩
    show T_law_10 _ [some (.lst (ns.map .int)), some (.int c), some (.adr w), some (.str tn), some MD, some (.str pt), some (oS DE), some (oL L), some (.tup (as.map AnT.d)), some (.str (callT pt DE L ++ (" " : Str) ++ tn ++ (" " : Str))), a10, a11, a12, a13, a14, a15, a16, a17, a18] m7
    rw [← hHD]
    walk_at "dl"
    refine comp_on as AnT.d (fun t => .str (antW t)) (by omega) trivial (fun t ht Q' h' => ?_) ?_
    · walk_at "go"
      exact ⟨t, rfl, has t ht, h'⟩
    have et : textsD (as.map fun x => D.str (antW x)) = some (as.map antW) := textsD_strs antW as
    have s1 : ((as.map antW).map (·.length)).sum ≤ (as.map antW).length * 64 := sum_len fun x hx => by
      obtain ⟨y, hy, rfl⟩ := List.mem_map.mp hx
      exact (ant_B (has y hy)).1
    rw [List.length_map] at s1
    have hdl := hdB.1
    walk_at "dl"
    rw [et]
    dsimp only
    refine ⟨by rw [e4, List.length_map]; omega, ?_⟩
    walk_at "dl"
    refine ⟨len_line (by show HD.length + (Txt.join (Str.ofString ",") (as.map antW)).length ≤ _; have : (Txt.join (Str.ofString ",") (as.map antW)).length ≤ 260 := aB1; omega), ?_⟩
    walk_at "dl"
    obtain ⟨lB, lT⟩ := oL_ok hL
    have aT := ants_th has hm.2
    refine ⟨rfl, rfl, fun q hq => ⟨q, _, _, _, _, _, rfl, mset_same, thg_of (n := 7) (tx_th (nm_B hpt)), thg_of (oS_th hDE), thg_of lT, thg_of aT, thg_of (n := 7) (tx_th (tn_B htn)), rOut_of (fun _ _ _ => ?_) (fun nb _ => (nb ⟨?_, lB, ?_⟩).elim)⟩⟩
    rotate_left
    · rw [Bool.and_eq_true]
      refine ⟨hpt, ?_⟩
      cases hd : DE with
      | none => rfl
      | some x => exact hDE x hd
    · rw [Bool.and_eq_true]
      refine ⟨?_, decide_eq_true htn⟩
      show (decide (1 ≤ (as.map AnT.d).length) && (decide ((as.map AnT.d).length ≤ 4) && (as.map AnT.d).all ansB)) = true
      have ha : (as.map AnT.d).all ansB = true := by
        rw [List.all_map, List.all_eq_true]
        exact fun t ht => (ant_ok (has t ht)).1
      rw [ha, List.length_map, decide_eq_true hm.1, decide_eq_true hm.2]; rfl
    refine ⟨rfl, _, mset_same, ?_⟩
    rw [mset_mset, mdel_mset hq]
    show T_law_13 _ [some (.lst (ns.map .int)), some (.int c), some (.adr w), some (.str tn), some MD, some (.str pt), some (oS DE), some (oL L), some (.tup (as.map AnT.d)), some (.str HD), some (.lst (as.map fun t => .str (antW t))), some (.str (HD ++ Txt.join "," (as.map antW))), some (RuX.d ⟨pt, DE, L, as, tn⟩), a13, a14, a15, a16, a17, a18] m7
    rw [← hR, ← eR]
    have aN : R.ans = as := by rw [hR]
    have eF : R.five = .tup [.str pt, oS DE, oL L, .tup (as.map AnT.d), .str tn] := by rw [hR]; rfl
    have sA : shp (.tup (as.map AnT.d)) := shpT81 aT
    have sF : shp (.tup [.str "told", R.five]) := shpT81 (n := 9) (thD_tup (by simp) (List.forall_mem_cons.mpr ⟨tx_th (TxB.lit "told" (n := 4)), List.forall_mem_cons.mpr ⟨five_th hN, List.forall_mem_nil _⟩⟩))
    have rB := hB.1
    walk_at "dl"
    refine ⟨R, rfl, hN, ?_⟩
    walk_at "dl"
    rw [if_pos rfl, decide_eq_true rfl]
    walk_at "dl"
    refine ⟨rfl, rfl, ?_⟩
    refine ⟨R, rfl, hN, ?_⟩
    walk_at "dl"
    rw [if_pos rfl, decide_eq_true rfl]
    walk_at "dl"
    refine ⟨rfl, rfl, ?_⟩
    refine ⟨ruT R, rfl, hB.lx, fun r' e' m8 kp8 => ?_, fun e' => by rw [rule_text_back hN] at e'; cases e'⟩
    rw [rule_text_back hN] at e'
    cases e'
    have w8 := w7.keep kp8 (by simp)
    -- what is told of the turned ones
    have last : ∀ (X : List Str) (b13 b14 b16 b17 b18 : Option D) (m1 : Mu), (∀ s ∈ X, TxB 9990 s) → X.length ≤ 10 → T_law_20 { nx := Nx, rt := Q, bk := sRet (rC (.bl true)) (dEnds Q PX), ct := Nx, xx := fun c fs _ m => PX c fs m } [some (.lst (ns.map .int)), some (.int c), some (.adr w), some (.str tn), some MD, some (.str pt), some (oS DE), some (oL L), some (.tup (as.map AnT.d)), some (.str HD), some (.lst (rwD (as.map antW))), some (.str (ruT R)), some R.d, b13, b14, some (.lst (X.map .str)), b16, b17, b18] m1 := by
      intro X b13 b14 b16 b17 b18 m1 hX hXl
      walk_at "go"
      refine comp_inv (fun i acc m' => acc = []) (fun i acc m' hh => by rw [hh]; exact Nat.zero_le _) (by rw [List.length_map]; omega) (fun i d acc m' e hh => ?_) (fun acc m' hh => ?_) rfl
      · subst hh
        refine ⟨trivial, fun Kt Kf _ kf => ?_⟩
        obtain ⟨s, hs, rfl⟩ := List.mem_map.mp (List.mem_of_getElem? e)
        have hx := (hX s hs).lx
        obtain ⟨xs, ex, hsh⟩ := tdU_shp (TL.tl s) hx
        walk_at "go"
        refine ⟨s, rfl, hx, fun m2 kp2 => ?_⟩
        walk_at "go"
        refine ⟨s, rfl, hx, fun m3 kp3 => ?_⟩
        rw [ex]
        have kf2 := kf m3 rfl
        walk_at "dl"
        refine ⟨hsh, hsh, ?_⟩
        rw [if_pos rfl]
        show (match !deq (.tup xs) (.tup xs) with | true => _ | false => _)
        rw [deq_shp81 hsh]
        exact kf2
      · subst hh
        refine ⟨trivial, ?_⟩
        walk_at "dl"
        refine ⟨Nat.zero_le _, ?_⟩
        walk_at "dl"
        refine ⟨shpT (n := 1) (thD_lst (by simp) (List.forall_mem_nil _)), shpT (n := 1) (thD_lst (by simp) (List.forall_mem_nil _)), ?_⟩
        have e0 : deq (dat m' (D.lst [])) (dat m' (D.lst [])) = true := by
          show deq (.lst []) (.lst []) = true
          rw [deq_lst_nil]; rfl
        rw [if_pos rfl, e0]
        exact kNx _ _ _ _ _ _ _ _ _ _ _ _ _ _ _ _ _ _ _
    -- behind the telling
    have tail : ∀ m9, Wl m9 w 1000 → T_law_15 { nx := Nx, rt := Q, bk := sRet (rC (.bl true)) (dEnds Q PX), ct := Nx, xx := fun c fs _ m => PX c fs m } [some (.lst (ns.map .int)), some (.int c), some (.adr w), some (.str tn), some MD, some (.str pt), some (oS DE), some (oL L), some (.tup (as.map AnT.d)), some (.str HD), some (.lst (rwD (as.map antW))), some (.str (ruT R)), some R.d, a13, a14, a15, a16, a17, a18] m9 := by
      intro m9 w9
      have lA : (as.map AnT.d).length = as.length := List.length_map _
      have lR : (rwD (as.map antW)).length = as.length := by rw [rwD_len, List.length_map]
      obtain ⟨N, hNN⟩ : ∃ N : Int, N = (as.length : Int) := ⟨_, rfl⟩
      obtain ⟨tl, htl⟩ : ∃ tl : List Str, tl = as.map antW := ⟨_, rfl⟩
      have tlB : ∀ s ∈ tl, TxB 64 s := by
        rw [htl]
        intro s hs
        obtain ⟨t, ht, rfl⟩ := List.mem_map.mp hs
        exact ant_B (has t ht)
      have tlL : tl.length = as.length := by rw [htl, List.length_map]
      rw [← htl]
      walk_at "go"
      rw [lA, ← hNN]
      refine ⟨w, N, rfl, by omega, by omega, _, w9, by decide, fun d m10 hd kp10 w10 => ?_⟩
      obtain ⟨r, r0, r1, rfl⟩ := hd
      obtain ⟨k, rfl⟩ : ∃ k : Nat, r = (k : Int) := ⟨r.toNat, by omega⟩
      have lit : ∀ (X : String), (Str.ofString X).length ≤ 64 → TxB 64 (Str.ofString X) := fun X hX => TxB.lit X hX
      obtain ⟨O, hO⟩ : ∃ O : List Str, O = ["#2+1", "#0", "@", "#1-0", "#0+0", "+5", "@run", "-0", "#-1+2", "", "#0+-1", "#1-7", "0"].map Str.ofString := ⟨_, rfl⟩
      have oB : ∀ s ∈ O, TxB 64 s := by
        rw [hO]
        intro s hs
        obtain ⟨X, hX, rfl⟩ := List.mem_map.mp hs
        refine lit X ?_
        have : ∀ X ∈ ["#2+1", "#0", "@", "#1-0", "#0+0", "+5", "@run", "-0", "#-1+2", "", "#0+-1", "#1-7", "0"], (Str.ofString X).length ≤ 64 := by decide
        exact this X hX
      have oLen : O.length = 13 := by rw [hO]; rfl
      walk_at "go"
      refine ⟨w, 13, rfl, by decide, by decide, _, w10, by decide, fun d m11 hd kp11 w11 => ?_⟩
      obtain ⟨r, s0, s1, rfl⟩ := hd
      obtain ⟨d, f1, f2⟩ := atI_some (xs := O.map D.str) (i := r) s0 (by rw [List.length_map, oLen]; omega)
      obtain ⟨o, oo, rfl⟩ := acc_in oB (List.mem_of_getElem? f2)
      have after : T_law_18 { nx := Nx, rt := Q, bk := sRet (rC (.bl true)) (dEnds Q PX), ct := Nx, xx := fun c fs _ m => PX c fs m } [some (.lst (ns.map .int)), some (.int c), some (.adr w), some (.str tn), some MD, some (.str pt), some (oS DE), some (oL L), some (.tup (as.map AnT.d)), some (.str HD), some (.lst (rwD (as.map antW))), some (.str (ruT R)), some R.d, some (.int (k : Nat)), some (.str o), a15, a16, a17, a18] m11 := by
        rw [← htl]
        have c1 : cutD (rwD tl) none (some ((k : Int) + 1)) = rwD (tl.take (k + 1)) := by
          rw [show ((k : Int) + 1) = ((k + 1 : Nat) : Int) by omega, rwD_to]
        obtain ⟨A, hA⟩ : ∃ A, A = tl.take k := ⟨_, rfl⟩
        obtain ⟨B, hB⟩ : ∃ B, B = tl.drop (k + 1) := ⟨_, rfl⟩
        obtain ⟨A1, hA1⟩ : ∃ A, A = tl.take (k + 1) := ⟨_, rfl⟩
        obtain ⟨B0, hB0⟩ : ∃ B, B = tl.drop k := ⟨_, rfl⟩
        have bA : ∀ s ∈ A, TxB 64 s := fun s hs => tlB s (List.mem_of_mem_take (hA ▸ hs))
        have bB : ∀ s ∈ B, TxB 64 s := fun s hs => tlB s (List.mem_of_mem_drop (hB ▸ hs))
        have bA1 : ∀ s ∈ A1, TxB 64 s := fun s hs => tlB s (List.mem_of_mem_take (hA1 ▸ hs))
        have bB0 : ∀ s ∈ B0, TxB 64 s := fun s hs => tlB s (List.mem_of_mem_drop (hB0 ▸ hs))
        have lA0 : A.length ≤ 4 := by rw [hA, List.length_take]; omega
        have lB0 : B.length ≤ 4 := by rw [hB, List.length_drop]; omega
        have lA1 : A1.length ≤ 4 := by rw [hA1, List.length_take]; omega
        have lB1 : B0.length ≤ 4 := by rw [hB0, List.length_drop]; omega
        have rA := rwD_len A
        have rB' := rwD_len B
        have rA1 := rwD_len A1
        have rB0 := rwD_len B0
        have bo : ∀ s ∈ [o], TxB 64 s := fun s hs => by rw [List.mem_singleton.mp hs]; exact oo
        have ap : ∀ {x y : List Str}, (∀ s ∈ x, TxB 64 s) → (∀ s ∈ y, TxB 64 s) → ∀ s ∈ x ++ y, TxB 64 s := fun h1 h2 s hs => (List.mem_append.mp hs).elim (h1 s) (h2 s)
        have jn : ∀ l : List Str, l.length ≤ 10 → (∀ s ∈ l, TxB 64 s) → TxB 650 (Txt.join "," l) ∧ (l.map (·.length)).sum ≤ 10 * 64 ∧ textsD (rwD l) = some l := fun l h1 h2 => ⟨TxB.join (q := 10) (n := 64) (k := 1) h2 (TxB.lit ",") h1, Nat.le_trans (sum_len fun x hx => (h2 x hx).1) (Nat.mul_le_mul_right _ h1), texts_map l⟩
        obtain ⟨j1, j2, j3⟩ := jn (A ++ [o] ++ B) (by rw [List.length_append, List.length_append]; simp; omega) (ap (ap bA bo) bB)
        obtain ⟨j4, j5, j6⟩ := jn (A1 ++ B0) (by rw [List.length_append]; omega) (ap bA1 bB0)
        obtain ⟨j7, j8, j9⟩ := jn (A ++ B) (by rw [List.length_append]; omega) (ap bA bB)
        have hdl2 := hdB.1
        have n1 := j1.1
        have n4 := j4.1
        have n7 := j7.1
        have ec : [D.str o] = rwD [o] := rfl
        have e44 : (Str.ofString ",").length = 1 := e4
        have q1 : (A ++ [o] ++ B).length ≤ 10 := by rw [List.length_append, List.length_append]; simp; omega
        have q2 : (A1 ++ B0).length ≤ 10 := by rw [List.length_append]; omega
        have q3 : (A ++ B).length ≤ 10 := by rw [List.length_append]; omega
        walk_at "dl"
        repeat (first
          | (rw [rwD_to tl k, ← hA]; walk_at "dl")
          | (rw [rwD_behind tl k, ← hB]; walk_at "dl")
          | (rw [c1, ← hA1]; walk_at "dl")
          | (rw [rwD_from tl k, ← hB0]; walk_at "dl")
          | (rw [ec]; walk_at "dl")
          | (rw [rwD_app A [o]]; walk_at "dl")
          | (rw [rwD_app (A ++ [o]) B]; walk_at "dl")
          | (rw [rwD_app A1 B0]; walk_at "dl")
          | (rw [rwD_app A B]; walk_at "dl")
          | (rw [j3]; walk_at "dl")
          | (rw [j6]; walk_at "dl")
          | (rw [j9]; walk_at "dl")
          | (refine ⟨by show 1 ≤ sizeLine; decide, ?_⟩; walk_at "dl")
          | (refine ⟨by show 2 ≤ sizeLine; decide, ?_⟩; walk_at "dl")
          | (refine ⟨len_line (by (try simp only [rwD_len, List.length_append, List.length_cons, List.length_nil]); omega), ?_⟩; walk_at "dl")
          | (refine ⟨len_line (by show HD.length + (Txt.join (Str.ofString ",") (A ++ [o] ++ B)).length ≤ _; have : (Txt.join (Str.ofString ",") (A ++ [o] ++ B)).length ≤ 650 := n1; omega), ?_⟩; walk_at "dl")
          | (refine ⟨len_line (by show HD.length + (Txt.join (Str.ofString ",") (A1 ++ B0)).length ≤ _; have : (Txt.join (Str.ofString ",") (A1 ++ B0)).length ≤ 650 := n4; omega), ?_⟩; walk_at "dl")
          | (refine ⟨len_line (by show HD.length + (Txt.join (Str.ofString ",") (A ++ B)).length ≤ _; have : (Txt.join (Str.ofString ",") (A ++ B)).length ≤ 650 := n7; omega), ?_⟩; walk_at "dl")
          | (refine ⟨by rw [e44]; omega, ?_⟩; walk_at "dl"))
        refine ⟨w, ruT R, rfl, ru_B hN, _, w11, by decide, fun d m12 hd kp12 w12 => ?_⟩
        obtain ⟨u, uB, rfl⟩ := hd
        walk_at "dl"
        refine ⟨w, ruT R, rfl, ru_B hN, _, w12, by decide, fun d m13 hd kp13 w13 => ?_⟩
        obtain ⟨v, vB, rfl⟩ := hd
        walk_at "dl"
        refine ⟨by show 3 ≤ sizeLine; decide, ?_⟩
        walk_at "dl"
        refine ⟨by show 2 + 3 ≤ sizeLine; decide, ?_⟩
        have lst := last [HD ++ Txt.join (Str.ofString ",") (A ++ [o] ++ B), HD ++ Txt.join (Str.ofString ",") (A1 ++ B0), HD ++ Txt.join (Str.ofString ",") (A ++ B), u, v] (some (.int (k : Nat))) (some (.str o)) a16 a17 a18 m13 (List.forall_mem_cons.mpr ⟨(hdB.app j1).mono, List.forall_mem_cons.mpr ⟨(hdB.app j4).mono, List.forall_mem_cons.mpr ⟨(hdB.app j7).mono, List.forall_mem_cons.mpr ⟨uB, List.forall_mem_cons.mpr ⟨vB, List.forall_mem_nil _⟩⟩⟩⟩⟩) (by simp)
        rw [← htl] at lst
        exact lst
      walk_at "dl"
      rw [show atI [D.str "#2+1", D.str "#0", D.str "@", D.str "#1-0", D.str "#0+0", D.str "+5", D.str "@run", D.str "-0", D.str "#-1+2", D.str "", D.str "#0+-1", D.str "#1-7", D.str "0"] r = some (.str o) from by rw [hO] at f1; exact f1]
      rw [← htl] at after
      exact after
    walk_at "dl"
    rw [aN]
    refine ⟨sA, sA, ?_⟩
    rw [if_pos rfl]
    show (match !deq (.tup (as.map AnT.d)) (.tup (as.map AnT.d)) with | true => _ | false => _)
    rw [deq_shp81 sA]
    walk_at "dl"
    refine ⟨ruT R, rfl, hB.lx, fun m9 kp9 => ?_⟩
    rw [tdU_back hN]
    walk_at "dl"
    refine ⟨by show 5 ≤ sizeLine; decide, ?_⟩
    walk_at "dl"
    refine ⟨by show 2 ≤ sizeLine; decide, ?_⟩
    rw [← eF]
    walk_at "dl"
    refine ⟨sF, sF, ?_⟩
    rw [if_pos rfl]
    show (match !deq (.tup [.str "told", R.five]) (.tup [.str "told", R.five]) with | true => _ | false => _)
    rw [deq_shp81 sF]
    have tl := tail m9 (w8.keep kp9 (by simp))
    unfold rwD at tl
    rw [List.map_map] at tl
    exact tl
  have mid : ∀ (L : Option (List Lk)) (m7 : Mu), LksN L → Wl m7 w 100 → T_law_8 { nx := Nx, rt := Q, bk := sRet (rC (.bl true)) (dEnds Q PX), ct := Nx, xx := fun c fs _ m => PX c fs m } [some (.lst (ns.map .int)), some (.int c), some (.adr w), some (.str tn), some MD, some (.str pt), some (oS DE), some (oL L), a8, a9, a10, a11, a12, a13, a14, a15, a16, a17, a18] m7 := by
    intro L m7 hL w7
    walk_at "go"
    refine ⟨w, 4, rfl, by decide, by decide, _, w7, by decide, fun d m8 hd kp8 w8 => ?_⟩
    obtain ⟨r, r0, r4, rfl⟩ := hd
    obtain ⟨n, hnn⟩ : ∃ n : Nat, 1 + r = (n : Int) := ⟨(1 + r).toNat, by omega⟩
    walk_at "dl"
    rw [hnn]
    refine ⟨⟨by omega, by omega⟩, ?_⟩
    refine comp_inv (fun i acc m' => Wl m' w (100 + 1 + 14 * i) ∧ ∃ as : List AnT, acc = as.map AnT.d ∧ as.length = i ∧ ∀ t ∈ as, t.N) (fun i acc m' hh => ?_) (by rw [rg_len]; omega) (fun i d acc m' e hh => ?_) (fun acc m9 hh => ?_) ⟨w8, [], rfl, rfl, fun _ z => by cases z⟩
    · obtain ⟨_, as, rfl, hl, _⟩ := hh
      rw [List.length_map, hl]; exact Nat.le_refl _
    · obtain ⟨wi, as, rfl, hl, hx⟩ := hh
      obtain ⟨hi, rfl⟩ := rg_get e
      refine ⟨trivial, fun Kt Kf k1 _ => ?_⟩
      walk_at "go"
      refine ⟨w, rfl, _, wi, by omega, fun d m7 hd kp7 w7 => ?_⟩
      obtain ⟨t, ht, rfl⟩ := hd
      refine k1 _ _ ⟨w7.mono (by omega), as ++ [t], by simp, by simp [hl], fun x hx' => ?_⟩
      rcases List.mem_append.mp hx' with hx' | hx'
      · exact hx x hx'
      · rw [List.mem_singleton.mp hx']; exact ht
    · obtain ⟨w9, as, rfl, hl, hx⟩ := hh
      rw [rg_len, Int.toNat_natCast] at hl w9
      exact ⟨trivial, fin L as m9 hL (by omega) hx (w9.mono (by omega))⟩
  have lks : ∀ k : Nat, k ≤ 2 → MD = .int (k : Nat) → T_law_7 { nx := Nx, rt := Q, bk := sRet (rC (.bl true)) (dEnds Q PX), ct := Nx, xx := fun c fs _ m => PX c fs m } [some (.lst (ns.map .int)), some (.int c), some (.adr w), some (.str tn), some MD, some (.str pt), some (oS DE), some .non, a8, a9, a10, a11, a12, a13, a14, a15, a16, a17, a18] m6 := by
    intro k hk e
    subst e
    walk_at "dl"
    refine ⟨⟨by omega, by omega⟩, ?_⟩
    refine comp_inv (fun i acc m' => Wl m' w (0 + 1 + 1 + 9 + 9 + 1 + 9 * i) ∧ ∃ ls : List Lk, acc = ls.map Lk.d ∧ ls.length = i ∧ ∀ l ∈ ls, l.W2) (fun i acc m' hh => ?_) (by rw [rg_len]; omega) (fun i d acc m' e hh => ?_) (fun acc m9 hh => ?_) ⟨w6, [], rfl, rfl, fun _ z => by cases z⟩
    · obtain ⟨_, ls, rfl, hl, _⟩ := hh
      rw [List.length_map, hl]; exact Nat.le_refl _
    · obtain ⟨wi, ls, rfl, hl, hx⟩ := hh
      obtain ⟨hi, rfl⟩ := rg_get e
      refine ⟨trivial, fun Kt Kf k1 _ => ?_⟩
      walk_at "go"
      refine ⟨w, rfl, _, wi, by omega, fun d m7 hd kp7 w7 => ?_⟩
      obtain ⟨l, hl2, rfl⟩ := hd
      refine k1 _ _ ⟨w7.mono (by omega), ls ++ [l], by simp, by simp [hl], fun x hx' => ?_⟩
      rcases List.mem_append.mp hx' with hx' | hx'
      · exact hx x hx'
      · rw [List.mem_singleton.mp hx']; exact hl2
    · obtain ⟨w9, ls, rfl, hl, hx⟩ := hh
      rw [rg_len, Int.toNat_natCast] at hl w9
      exact ⟨trivial, mid (some ls) m9 (fun ls' z => by cases z; exact ⟨by omega, fun l hl2 => ⟨(hx l hl2).2, (hx l hl2).1⟩⟩) (w9.mono (by omega))⟩
  rcases List.mem_cons.mp hMD with z | hMD
  · exact lks 1 (by decide) z
  · rcases List.mem_cons.mp hMD with z | hMD
    · subst z
      exact mid none m6 (fun ls z => by cases z) (w6.mono (by decide))
    · rcases List.mem_cons.mp hMD with z | hMD
      · exact lks 2 (by decide) z
      · exact lks 0 (by decide) (List.mem_singleton.mp hMD)
section
variable {P : Program} {w : World} {K : PySem.W.Frag} {mg : Str → Option Value} {base : Heap}
theorem ok_is_whole (T : Tx w K mg) : DefOk P w K mg base 1 "is_whole" "is_whole" s_is_whole ["thing"] sp_is_whole := by
  refine def_ok (r := rd_is_whole) T.f_is_whole sc_is_whole ln_is_whole (fun f cdv A outer s H E hr => ?_) pu_is_whole
  have tk : Takes (cxOf (L2.CX P w) P w K mg base N_is_whole "is_whole" (defScope s_is_whole) f cdv A outer s H E) (fun c d _ H => E c d H) := takes_of rfl rfl rfl rfl
  exact dss_one (ds_ret (pd_and (pd_isi T.b_isinstance bb_isinstance (da_cons (pd_v 0) (da_cons (pd_ty T.b_int bb_int) (da_nil)))) (pd_one (pd_not (pd_isi T.b_isinstance bb_isinstance (da_cons (pd_v 0) (da_cons (pd_ty T.b_bool bb_bool) (da_nil))))))))
theorem ok_is_name (T : Tx w K mg) : DefOk P w K mg base 1 "is_name" "is_name" s_is_name ["thing"] sp_is_name := by
  obtain ⟨t_LETTERS, c_LETTERS⟩ := T.c0_LETTERS
  obtain ⟨t_MOST_LETTERS, c_MOST_LETTERS⟩ := T.c0_MOST_LETTERS
  refine def_ok (r := rd_is_name) T.f_is_name sc_is_name ln_is_name (fun f cdv A outer s H E hr => ?_) pu_is_name
  have tk : Takes (cxOf (L2.CX P w) P w K mg base N_is_name "is_name" (defScope s_is_name) f cdv A outer s H E) (fun c d _ H => E c d H) := takes_of rfl rfl rfl rfl
  exact dss_cons (ds_if (PW.pt (dw_or (dt_not (dt_tru (pd_isi T.b_isinstance bb_isinstance (da_cons (pd_v 0) (da_cons (pd_ty T.b_str bb_str) (da_nil)))))) (dw_or1 (dt_not (dt_chain op_le op_le le_ok le_ok (pd_int) (pd_len T.b_len bb_len (da_cons (pd_v 0) (da_nil))) (pd_gint c_MOST_LETTERS)))))) (dss_one (ds_ret (pd_bl))) (dss_nil))
    (dss_one (ds_ret (pd_all rfl T.b_all bb_all (da_cons (pd_lc rfl sc_is_name.nd (di_any (pd_v 0)) (blkOk_by (own := [("sign", 1)]) (N := N_is_name) (sc := defScope s_is_name) (by decide +kernel)) (gN_ok) rfl (fun _ _ _ _ _ => pg_name (i := 1) sc_is_name.nd rfl (by first | exact Or.inl rfl | exact Or.inr rfl)) (fun _ _ _ _ _ => dts_nil) (fun _ _ _ _ _ => pd_in (units65 hr) (pd_v 1) (pd_gstr c_LETTERS))) (da_nil)))))
theorem ok_are_unlike (T : Tx w K mg) : DefOk P w K mg base 1 "are_unlike" "are_unlike" s_are_unlike ["some"] sp_are_unlike := by
  refine def_ok (r := rd_are_unlike) T.f_are_unlike sc_are_unlike ln_are_unlike (fun f cdv A outer s H E hr => ?_) pu_are_unlike
  have tk : Takes (cxOf (L2.CX P w) P w K mg base N_are_unlike "are_unlike" (defScope s_are_unlike) f cdv A outer s H E) (fun c d _ H => E c d H) := takes_of rfl rfl rfl rfl
  exact dss_one (ds_ret (pd_all rfl T.b_all bb_all (da_cons (pd_lc rfl sc_are_unlike.nd (di_enum T.b_enumerate (da_cons (pd_v 0) (da_nil))) (blkOk_by (own := [("at", 1), ("one", 2)]) (N := N_are_unlike) (sc := defScope s_are_unlike) (by decide +kernel)) (gT_ok (js := [1, 2])) rfl (fun _ _ _ _ _ => pg_tup rfl (dgs_cons (pg_name (i := 1) sc_are_unlike.nd rfl (by first | exact Or.inl rfl | exact Or.inr rfl)) (dgs_cons (pg_name (i := 2) sc_are_unlike.nd rfl (by first | exact Or.inl rfl | exact Or.inr rfl)) (dgs_nil)))) (fun _ _ _ _ _ => dts_nil) (fun _ _ _ _ _ => pd_notIn (units65 hr) (pd_v 2) (pd_sl (pd_v 0) dp_none (dp_some (pd_v 1))))) (da_nil))))
theorem ok_is_one (T : Tx w K mg) (G_is_whole : DefOk P w K mg base 1 "is_whole" "is_whole" s_is_whole ["thing"] sp_is_whole) (G_are_unlike : DefOk P w K mg base 1 "are_unlike" "are_unlike" s_are_unlike ["some"] sp_are_unlike) : DefOk P w K mg base 2 "is_one" "is_one" s_is_one ["numbers"] sp_is_one := by
  obtain ⟨t_MOST_ONE, c_MOST_ONE⟩ := T.c0_MOST_ONE
  refine def_ok (r := rd_is_one) T.f_is_one sc_is_one ln_is_one (fun f cdv A outer s H E hr => ?_) pu_is_one
  have tk : Takes (cxOf (L2.CX P w) P w K mg base N_is_one "is_one" (defScope s_is_one) f cdv A outer s H E) (fun c d _ H => E c d H) := takes_of rfl rfl rfl rfl
  exact dss_cons (ds_if (PW.pt (dw_or (dt_not (dt_tru (pd_isi T.b_isinstance bb_isinstance (da_cons (pd_v 0) (da_cons (pd_ty T.b_tuple bb_tuple) (da_nil)))))) (dw_or1 (dt_gt (pd_len T.b_len bb_len (da_cons (pd_v 0) (da_nil))) (pd_gint c_MOST_ONE))))) (dss_one (ds_ret (pd_bl))) (dss_nil))
    (dss_one (ds_ret (pd_and (pd_all rfl T.b_all bb_all (da_cons (pd_lc rfl sc_is_one.nd (di_any (pd_v 0)) (blkOk_by (own := [("number", 1)]) (N := N_is_one) (sc := defScope s_is_one) (by decide +kernel)) (gN_ok) rfl (fun _ _ _ _ _ => pg_name (i := 1) sc_is_one.nd rfl (by first | exact Or.inl rfl | exact Or.inr rfl)) (fun _ _ _ _ _ => dts_nil) (fun _ _ _ _ _ => pd_callD G_is_whole bi_is_whole (hr.mono (by decide)) takes0 (da_cons (pd_v 1) (da_nil)))) (da_nil))) (pd_one (pd_callD G_are_unlike bi_are_unlike (hr.mono (by decide)) tk (da_cons (pd_listOf T.b_list bb_list (da_cons (pd_v 0) (da_nil))) (da_nil)))))))
theorem ok_is_plain (T : Tx w K mg) (G_is_whole : DefOk P w K mg base 1 "is_whole" "is_whole" s_is_whole ["thing"] sp_is_whole) (G_is_one : DefOk P w K mg base 2 "is_one" "is_one" s_is_one ["numbers"] sp_is_one) : DefOk P w K mg base 3 "is_plain" "is_plain" s_is_plain ["look"] sp_is_plain := by
  refine def_ok (r := rd_is_plain) T.f_is_plain sc_is_plain ln_is_plain (fun f cdv A outer s H E hr => ?_) pu_is_plain
  have tk : Takes (cxOf (L2.CX P w) P w K mg base N_is_plain "is_plain" (defScope s_is_plain) f cdv A outer s H E) (fun c d _ H => E c d H) := takes_of rfl rfl rfl rfl
  exact dss_cons (ds_if (PW.pt (dw_or (dt_not (dt_tru (pd_isi T.b_isinstance bb_isinstance (da_cons (pd_v 0) (da_cons (pd_ty T.b_tuple bb_tuple) (da_nil)))))) (dw_or (dt_eq hr.units (pd_v 0) (pd_tup (da_nil))) (dw_or1 (dt_not (dt_tru (pd_isi T.b_isinstance bb_isinstance (da_cons (pd_ix (pd_v 0) (pd_int)) (da_cons (pd_ty T.b_str bb_str) (da_nil)))))))))) (dss_one (ds_ret (pd_bl))) (dss_nil))
    (dss_cons (ds_star rfl (pd_v 0) (pg_name (i := 1) sc_is_plain.nd rfl (by first | exact Or.inl rfl | exact Or.inr rfl)) (pg_name (i := 2) sc_is_plain.nd rfl (by first | exact Or.inl rfl | exact Or.inr rfl)))
    (dss_cons (ds_if (PW.pt (dw_or (dt_notInK T.d_SIZES (pd_v 1)) (dw_or1 (dt_ne hr.units (pd_len T.b_len bb_len (da_cons (pd_v 0) (da_nil))) (pd_ixK T.d_SIZES (pd_v 1)))))) (dss_one (ds_ret (pd_bl))) (dss_nil))
    (dss_cons (ds_if (dt_eq hr.units (pd_v 1) (pd_str)) (dss_one (ds_ret (pd_callD G_is_one bi_is_one (hr.mono (by decide)) tk (da_cons (pd_ix (pd_v 0) (pd_int)) (da_nil))))) (dss_nil))
    (dss_one (ds_ret (pd_all rfl T.b_all bb_all (da_cons (pd_lc rfl sc_is_plain.nd (di_any (pd_v 2)) (blkOk_by (own := [("number", 3)]) (N := N_is_plain) (sc := defScope s_is_plain) (by decide +kernel)) (gN_ok) rfl (fun _ _ _ _ _ => pg_name (i := 3) sc_is_plain.nd rfl (by first | exact Or.inl rfl | exact Or.inr rfl)) (fun _ _ _ _ _ => dts_nil) (fun _ _ _ _ _ => pd_callD G_is_whole bi_is_whole (hr.mono (by decide)) takes0 (da_cons (pd_v 3) (da_nil)))) (da_nil))))))))
theorem ok_is_look (T : Tx w K mg) (G_is_plain : DefOk P w K mg base 3 "is_plain" "is_plain" s_is_plain ["look"] sp_is_plain) : DefOk P w K mg base 4 "is_look" "is_look" s_is_look ["look"] sp_is_look := by
  refine def_ok (r := rd_is_look) T.f_is_look sc_is_look ln_is_look (fun f cdv A outer s H E hr => ?_) pu_is_look
  have tk : Takes (cxOf (L2.CX P w) P w K mg base N_is_look "is_look" (defScope s_is_look) f cdv A outer s H E) (fun c d _ H => E c d H) := takes_of rfl rfl rfl rfl
  exact dss_cons (ds_if (PW.pt (dw_and (dt_tru (pd_isi T.b_isinstance bb_isinstance (da_cons (pd_v 0) (da_cons (pd_ty T.b_tuple bb_tuple) (da_nil))))) (dw_and (dt_eq hr.units (pd_len T.b_len bb_len (da_cons (pd_v 0) (da_nil))) (pd_int)) (dw_and (dt_tru (pd_isi T.b_isinstance bb_isinstance (da_cons (pd_ix (pd_v 0) (pd_int)) (da_cons (pd_ty T.b_str bb_str) (da_nil))))) (dw_and1 (dt_eq hr.units (pd_ix (pd_v 0) (pd_int)) (pd_str))))))) (dss_one (ds_ret (pd_callD G_is_plain bi_is_plain (hr.mono (by decide)) tk (da_cons (pd_ix (pd_v 0) (pd_int)) (da_nil))))) (dss_nil))
    (dss_one (ds_ret (pd_callD G_is_plain bi_is_plain (hr.mono (by decide)) tk (da_cons (pd_v 0) (da_nil)))))
theorem ok_look_text (T : Tx w K mg) : ∀ kk : Nat, DefOk P w K mg base (0 + kk) "look_text" "look_text" s_look_text ["look"] (sp_look_text kk)
  | 0 => def_no _ T.f_look_text (fun _ _ _ _ h => h)
  | kk + 1 => by
    have G_look_text := ok_look_text T kk
    refine def_ok (k := 0 + kk) (r := rd_look_text (sp_look_text kk)) T.f_look_text sc_look_text (ln_look_text (kk + 1)) (fun f cdv A outer s H E hr => ?_) (pu_look_text kk)
    have tk : Takes (cxOf (L2.CX P w) P w K mg base N_look_text "look_text" (defScope s_look_text) f cdv A outer s H E) (fun c d _ H => E c d H) := takes_of rfl rfl rfl rfl
    exact dss_cons (ds_star rfl (pd_v 0) (pg_name (i := 3) sc_look_text.nd rfl (by first | exact Or.inl rfl | exact Or.inr rfl)) (pg_name (i := 4) sc_look_text.nd rfl (by first | exact Or.inl rfl | exact Or.inr rfl)))
      (dss_cons (ds_if (dt_eq hr.units (pd_v 3) (pd_str)) (dss_one (ds_ret (pd_add (pd_str) (pd_callD G_look_text bi_look_text (hr.mono (by omega)) tk (da_cons (pd_ix (pd_v 4) (pd_int)) (da_nil)))))) (dss_nil))
      (dss_cons (ds_if (dt_eq hr.units (pd_v 3) (pd_str)) (dss_one (ds_ret (pd_str))) (dss_nil))
      (dss_cons (ds_if (dt_eq hr.units (pd_v 3) (pd_str)) (dss_one (ds_ret (pd_add (pd_add (pd_str) (pd_join (pd_str) (pd_lc rfl sc_look_text.nd (di_any (pd_ix (pd_v 4) (pd_int))) (blkOk_by (own := [("number", 5)]) (N := N_look_text) (sc := defScope s_look_text) (by decide +kernel)) (gN_ok) rfl (fun _ _ _ _ _ => pg_name (i := 5) sc_look_text.nd rfl (by first | exact Or.inl rfl | exact Or.inr rfl)) (fun _ _ _ _ _ => dts_nil) (fun _ _ _ _ _ => pd_strOf T.b_str bb_str (da_cons (pd_v 5) (da_nil)))))) (pd_str)))) (dss_nil))
      (dss_cons (ds_set (i := 1) sc_look_text.nd (pd_strOf T.b_str bb_str (da_cons (pd_ix (pd_v 4) (pd_int)) (da_nil))))
      (dss_cons (ds_set (i := 2) sc_look_text.nd (pd_dctN (dps_cons (pd_str) (pd_v 1) (dps_cons (pd_str) (pd_add (pd_v 1) (pd_str)) (dps_cons (pd_str) (pd_add (pd_str) (pd_v 1)) (dps_cons (pd_str) (pd_add (pd_add (pd_v 1) (pd_str)) (pd_strOf T.b_str bb_str (da_cons (pd_ix (pd_v 4) (pd_neg (pd_int))) (da_nil)))) (dps_nil)))))))
      (dss_one (ds_ret (pd_dget (units1 hr) (pd_v 2) (pd_v 3)))))))))
theorem ok_are_looks (T : Tx w K mg) (G_is_look : DefOk P w K mg base 4 "is_look" "is_look" s_is_look ["look"] sp_is_look) : DefOk P w K mg base 5 "are_looks" "are_looks" s_are_looks ["looks"] sp_are_looks := by
  obtain ⟨t_MOST_THINGS, c_MOST_THINGS⟩ := T.c0_MOST_THINGS
  refine def_ok (r := rd_are_looks) T.f_are_looks sc_are_looks ln_are_looks (fun f cdv A outer s H E hr => ?_) pu_are_looks
  have tk : Takes (cxOf (L2.CX P w) P w K mg base N_are_looks "are_looks" (defScope s_are_looks) f cdv A outer s H E) (fun c d _ H => E c d H) := takes_of rfl rfl rfl rfl
  exact dss_cons (ds_if (dt_isN (pd_v 0) (pd_non)) (dss_one (ds_ret (pd_bl))) (dss_nil))
    (dss_one (ds_ret (pd_and (pd_isi T.b_isinstance bb_isinstance (da_cons (pd_v 0) (da_cons (pd_ty T.b_tuple bb_tuple) (da_nil)))) (pd_and (pd_le (pd_len T.b_len bb_len (da_cons (pd_v 0) (da_nil))) (pd_gint c_MOST_THINGS)) (pd_one (pd_all rfl T.b_all bb_all (da_cons (pd_lc rfl sc_are_looks.nd (di_any (pd_v 0)) (blkOk_by (own := [("look", 1)]) (N := N_are_looks) (sc := defScope s_are_looks) (by decide +kernel)) (gN_ok) rfl (fun _ _ _ _ _ => pg_name (i := 1) sc_are_looks.nd rfl (by first | exact Or.inl rfl | exact Or.inr rfl)) (fun _ _ _ _ _ => dts_nil) (fun _ _ _ _ _ => pd_callD G_is_look bi_is_look (hr.mono (by decide)) takes0 (da_cons (pd_v 1) (da_nil)))) (da_nil))))))))
theorem ok_call_text (T : Tx w K mg) (G_look_text : DefOk P w K mg base 2 "look_text" "look_text" s_look_text ["look"] (sp_look_text 2)) : DefOk P w K mg base 3 "call_text" "call_text" s_call_text ["part", "deed", "looks"] sp_call_text := by
  refine def_ok (r := rd_call_text) T.f_call_text sc_call_text ln_call_text (fun f cdv A outer s H E hr => ?_) pu_call_text
  have tk : Takes (cxOf (L2.CX P w) P w K mg base N_call_text "call_text" (defScope s_call_text) f cdv A outer s H E) (fun c d _ H => E c d H) := takes_of rfl rfl rfl rfl
  exact dss_cons (ds_set (i := 3) sc_call_text.nd (pd_str))
    (dss_cons (ds_if (dt_notN (pd_v 2) (pd_non)) (dss_one (ds_set (i := 3) sc_call_text.nd (pd_join (pd_str) (pd_lc rfl sc_call_text.nd (di_any (pd_v 2)) (blkOk_by (own := [("look", 4)]) (N := N_call_text) (sc := defScope s_call_text) (by decide +kernel)) (gN_ok) rfl (fun _ _ _ _ _ => pg_name (i := 4) sc_call_text.nd rfl (by first | exact Or.inl rfl | exact Or.inr rfl)) (fun _ _ _ _ _ => dts_nil) (fun _ _ _ _ _ => pd_callD G_look_text bi_look_text (hr.mono (by decide)) takes0 (da_cons (pd_v 4) (da_nil))))))) (dss_nil))
    (dss_one (ds_ret (pd_add (pd_add (pd_add (pd_add (pd_add (pd_v 0) (pd_str)) (pd_orT (pd_v 1) (pd_one (pd_str)))) (pd_str)) (pd_v 3)) (pd_str)))))
theorem ok_is_answer (T : Tx w K mg) (G_is_whole : DefOk P w K mg base 1 "is_whole" "is_whole" s_is_whole ["thing"] sp_is_whole) (G_is_name : DefOk P w K mg base 1 "is_name" "is_name" s_is_name ["thing"] sp_is_name) : DefOk P w K mg base 2 "is_answer" "is_answer" s_is_answer ["answer"] sp_is_answer := by
  refine def_ok (r := rd_is_answer) T.f_is_answer sc_is_answer ln_is_answer (fun f cdv A outer s H E hr => ?_) pu_is_answer
  have tk : Takes (cxOf (L2.CX P w) P w K mg base N_is_answer "is_answer" (defScope s_is_answer) f cdv A outer s H E) (fun c d _ H => E c d H) := takes_of rfl rfl rfl rfl
  exact dss_cons (ds_if (dt_tru (pd_callD G_is_whole bi_is_whole (hr.mono (by decide)) tk (da_cons (pd_v 0) (da_nil)))) (dss_one (ds_ret (pd_bl))) (dss_nil))
    (dss_cons (ds_if (PW.pt (dw_or (dt_not (dt_tru (pd_isi T.b_isinstance bb_isinstance (da_cons (pd_v 0) (da_cons (pd_ty T.b_tuple bb_tuple) (da_nil)))))) (dw_or (dt_eq hr.units (pd_v 0) (pd_tup (da_nil))) (dw_or1 (dt_not (dt_tru (pd_isi T.b_isinstance bb_isinstance (da_cons (pd_ix (pd_v 0) (pd_int)) (da_cons (pd_ty T.b_str bb_str) (da_nil)))))))))) (dss_one (ds_ret (pd_bl))) (dss_nil))
    (dss_cons (ds_star rfl (pd_v 0) (pg_name (i := 1) sc_is_answer.nd rfl (by first | exact Or.inl rfl | exact Or.inr rfl)) (pg_name (i := 2) sc_is_answer.nd rfl (by first | exact Or.inl rfl | exact Or.inr rfl)))
    (dss_cons (ds_if (dt_eq hr.units (pd_v 1) (pd_str)) (dss_one (ds_ret (pd_and (pd_eq hr.units (pd_len T.b_len bb_len (da_cons (pd_v 2) (da_nil))) (pd_int)) (pd_one (pd_callD G_is_name bi_is_name (hr.mono (by decide)) tk (da_cons (pd_ix (pd_v 2) (pd_int)) (da_nil))))))) (dss_nil))
    (dss_cons (ds_if (PW.pt (dw_or (dt_ne hr.units (pd_v 1) (pd_str)) (dw_or (dt_ne hr.units (pd_len T.b_len bb_len (da_cons (pd_v 2) (da_nil))) (pd_int)) (dw_or (dt_not (dt_tru (pd_callD G_is_whole bi_is_whole (hr.mono (by decide)) tk (da_cons (pd_ix (pd_v 2) (pd_int)) (da_nil))))) (dw_or1 (dt_not (dt_tru (pd_callD G_is_whole bi_is_whole (hr.mono (by decide)) tk (da_cons (pd_ix (pd_v 2) (pd_int)) (da_nil)))))))))) (dss_one (ds_ret (pd_bl))) (dss_nil))
    (dss_one (ds_ret (pd_chain op_le op_le le_ok le_ok (pd_int) (pd_ix (pd_v 2) (pd_int)) (pd_int))))))))
theorem ok_are_answers (T : Tx w K mg) (G_is_answer : DefOk P w K mg base 2 "is_answer" "is_answer" s_is_answer ["answer"] sp_is_answer) : DefOk P w K mg base 3 "are_answers" "are_answers" s_are_answers ["answers"] sp_are_answers := by
  obtain ⟨t_MOST_ANSWERS, c_MOST_ANSWERS⟩ := T.c0_MOST_ANSWERS
  refine def_ok (r := rd_are_answers) T.f_are_answers sc_are_answers ln_are_answers (fun f cdv A outer s H E hr => ?_) pu_are_answers
  have tk : Takes (cxOf (L2.CX P w) P w K mg base N_are_answers "are_answers" (defScope s_are_answers) f cdv A outer s H E) (fun c d _ H => E c d H) := takes_of rfl rfl rfl rfl
  exact dss_cons (ds_if (PW.pt (dw_or (dt_not (dt_tru (pd_isi T.b_isinstance bb_isinstance (da_cons (pd_v 0) (da_cons (pd_ty T.b_tuple bb_tuple) (da_nil)))))) (dw_or1 (dt_not (dt_chain op_le op_le le_ok le_ok (pd_int) (pd_len T.b_len bb_len (da_cons (pd_v 0) (da_nil))) (pd_gint c_MOST_ANSWERS)))))) (dss_one (ds_ret (pd_bl))) (dss_nil))
    (dss_one (ds_ret (pd_all rfl T.b_all bb_all (da_cons (pd_lc rfl sc_are_answers.nd (di_any (pd_v 0)) (blkOk_by (own := [("answer", 1)]) (N := N_are_answers) (sc := defScope s_are_answers) (by decide +kernel)) (gN_ok) rfl (fun _ _ _ _ _ => pg_name (i := 1) sc_are_answers.nd rfl (by first | exact Or.inl rfl | exact Or.inr rfl)) (fun _ _ _ _ _ => dts_nil) (fun _ _ _ _ _ => pd_callD G_is_answer bi_is_answer (hr.mono (by decide)) takes0 (da_cons (pd_v 1) (da_nil)))) (da_nil)))))
theorem ok_is_then (T : Tx w K mg) : DefOk P w K mg base 1 "is_then" "is_then" s_is_then ["word"] sp_is_then := by
  refine def_ok (r := rd_is_then) T.f_is_then sc_is_then ln_is_then (fun f cdv A outer s H E hr => ?_) pu_is_then
  have tk : Takes (cxOf (L2.CX P w) P w K mg base N_is_then "is_then" (defScope s_is_then) f cdv A outer s H E) (fun c d _ H => E c d H) := takes_of rfl rfl rfl rfl
  exact dss_one (ds_ret (pd_and (pd_isi T.b_isinstance bb_isinstance (da_cons (pd_v 0) (da_cons (pd_ty T.b_str bb_str) (da_nil)))) (pd_one (pd_in (units65 hr) (pd_v 0) (pd_con T.k_THENS)))))
theorem ok_Rule___init__ (T : Tx w K mg) (G_is_name : DefOk P w K mg base 1 "is_name" "is_name" s_is_name ["thing"] sp_is_name) (G_are_looks : DefOk P w K mg base 5 "are_looks" "are_looks" s_are_looks ["looks"] sp_are_looks) (G_are_answers : DefOk P w K mg base 3 "are_answers" "are_answers" s_are_answers ["answers"] sp_are_answers) (G_is_then : DefOk P w K mg base 1 "is_then" "is_then" s_is_then ["word"] sp_is_then) (X_BadRule : XMk P w K mg base 1 "BadRule" ["self", "why"] spTE (fun fd => ∃ fI, FunG K "__init__" "TrialError.__init__" s_TrialError___init__ [.str "refused"] [] fI fd)) : MkG P w K mg base 6 "Rule" "Rule.__init__" s_Rule___init__ ["self", "part", "deed", "looks", "answers", "then"] [.non, .non] [("answers", .tup [.int 0]), ("then", .str "stay")] sp_Rule___init__ := by
  refine mk_ok (r := rd_Rule___init__) T.f_Rule___init__ sc_Rule___init__ ln_Rule___init__ (fun f cdv A outer s H E hr => ?_) pu_Rule___init__
  have tk : Takes (cxOf (L2.CX P w) P w K mg base N_Rule___init__ "Rule.__init__" (defScope s_Rule___init__) f cdv A outer s H E) (fun c d _ H => E c d H) := takes_of rfl rfl rfl rfl
  exact dss_cons (ds_if (PW.pt (dw_or (dt_not (dt_tru (pd_callD G_is_name bi_is_name (hr.mono (by decide)) tk (da_cons (pd_v 1) (da_nil))))) (dw_or1 (PW.pt (dw_and (dt_notN (pd_v 2) (pd_non)) (dw_and1 (dt_not (dt_tru (pd_callD G_is_name bi_is_name (hr.mono (by decide)) tk (da_cons (pd_v 2) (da_nil))))))))))) (dss_one (ds_raise rfl X_BadRule hb_TE (hr.mono (by decide)) tk (da_cons (pd_str) (da_nil)))) (dss_nil))
    (dss_cons (ds_if (dt_not (dt_tru (pd_callD G_are_looks bi_are_looks (hr.mono (by decide)) tk (da_cons (pd_v 3) (da_nil))))) (dss_one (ds_raise rfl X_BadRule hb_TE (hr.mono (by decide)) tk (da_cons (pd_str) (da_nil)))) (dss_nil))
    (dss_cons (ds_if (PW.pt (dw_or (dt_not (dt_tru (pd_callD G_are_answers bi_are_answers (hr.mono (by decide)) tk (da_cons (pd_v 4) (da_nil))))) (dw_or1 (dt_not (dt_tru (pd_callD G_is_then bi_is_then (hr.mono (by decide)) tk (da_cons (pd_v 5) (da_nil)))))))) (dss_one (ds_raise rfl X_BadRule hb_TE (hr.mono (by decide)) tk (da_cons (pd_str) (da_nil)))) (dss_nil))
    (dss_cons (ds_asgM (pd_tup (da_cons (pd_v 1) (da_cons (pd_v 2) (da_cons (pd_v 3) (da_nil))))) (pg_tup rfl (pgs_cons (pg_fld (pd_v 0)) (pgs_cons (pg_fld (pd_v 0)) (pgs_cons (pg_fld (pd_v 0)) (pgs_nil))))) (gkm_tup (gkms_cons (gkm_fld (W := noW) T.fl_Rule_part) (gkms_cons (gkm_fld (W := noW) T.fl_Rule_deed) (gkms_cons (gkm_fld (W := noW) T.fl_Rule_looks) (gkms_nil))))))
    (dss_one (ds_asgM (pd_tup (da_cons (pd_v 4) (da_cons (pd_v 5) (da_nil)))) (pg_tup rfl (pgs_cons (pg_fld (pd_v 0)) (pgs_cons (pg_fld (pd_v 0)) (pgs_nil)))) (gkm_tup (gkms_cons (gkm_fld (W := noW) T.fl_Rule_answers) (gkms_cons (gkm_fld (W := noW) T.fl_Rule_then) (gkms_nil)))))))))
theorem ok_number_in (T : Tx w K mg) : DefOk P w K mg base 1 "number_in" "number_in" s_number_in ["word"] sp_number_in := by
  obtain ⟨t_FIGURES, c_FIGURES⟩ := T.c0_FIGURES
  obtain ⟨t_MOST_FIGURES, c_MOST_FIGURES⟩ := T.c0_MOST_FIGURES
  refine def_ok (r := rd_number_in) T.f_number_in sc_number_in ln_number_in (fun f cdv A outer s H E hr => ?_) pu_number_in
  have tk : Takes (cxOf (L2.CX P w) P w K mg base N_number_in "number_in" (defScope s_number_in) f cdv A outer s H E) (fun c d _ H => E c d H) := takes_of rfl rfl rfl rfl
  exact dss_cons (ds_set (i := 1) sc_number_in.nd (pd_if (dt_eq hr.units (pd_sl (pd_v 0) dp_none (dp_some (pd_int))) (pd_str)) (pd_sl (pd_v 0) (dp_some (pd_int)) dp_none) (pd_v 0)))
    (dss_cons (ds_if (PW.pt (dw_or (dt_not (dt_chain op_le op_le le_ok le_ok (pd_int) (pd_len T.b_len bb_len (da_cons (pd_v 1) (da_nil))) (pd_gint c_MOST_FIGURES))) (dw_or1 (dt_not (dt_tru (pd_all rfl T.b_all bb_all (da_cons (pd_lc rfl sc_number_in.nd (di_any (pd_v 1)) (blkOk_by (own := [("sign", 2)]) (N := N_number_in) (sc := defScope s_number_in) (by decide +kernel)) (gN_ok) rfl (fun _ _ _ _ _ => pg_name (i := 2) sc_number_in.nd rfl (by first | exact Or.inl rfl | exact Or.inr rfl)) (fun _ _ _ _ _ => dts_nil) (fun _ _ _ _ _ => pd_in (units65 hr) (pd_v 2) (pd_gstr c_FIGURES))) (da_nil)))))))) (dss_one (ds_ret (pd_non))) (dss_nil))
    (dss_cons (ds_if (PW.pt (dw_and (dt_eq hr.units (pd_ix (pd_v 1) (pd_int)) (pd_str)) (dw_and1 (dt_ne hr.units (pd_v 0) (pd_str))))) (dss_one (ds_ret (pd_non))) (dss_nil))
    (dss_one (ds_ret (pd_intT T.b_int bb_int (da_cons (pd_v 0) (da_cons (pd_int) (da_nil))))))))
theorem ok_numbers_in (T : Tx w K mg) (G_number_in : DefOk P w K mg base 1 "number_in" "number_in" s_number_in ["word"] sp_number_in) : DefOk P w K mg base 2 "numbers_in" "numbers_in" s_numbers_in ["word"] sp_numbers_in := by
  refine def_ok (r := rd_numbers_in) T.f_numbers_in sc_numbers_in ln_numbers_in (fun f cdv A outer s H E hr => ?_) pu_numbers_in
  have tk : Takes (cxOf (L2.CX P w) P w K mg base N_numbers_in "numbers_in" (defScope s_numbers_in) f cdv A outer s H E) (fun c d _ H => E c d H) := takes_of rfl rfl rfl rfl
  exact dss_cons (ds_if (dt_eq hr.units (pd_v 0) (pd_str)) (dss_one (ds_ret (pd_tup (da_nil)))) (dss_nil))
    (dss_one (ds_ret (pd_tupleOf T.b_tuple bb_tuple (da_cons (pd_lc rfl sc_numbers_in.nd (di_any (pd_split (pd_v 0) (pd_str))) (blkOk_by (own := [("part", 1)]) (N := N_numbers_in) (sc := defScope s_numbers_in) (by decide +kernel)) (gN_ok) rfl (fun _ _ _ _ _ => pg_name (i := 1) sc_numbers_in.nd rfl (by first | exact Or.inl rfl | exact Or.inr rfl)) (fun _ _ _ _ _ => dts_nil) (fun _ _ _ _ _ => pd_callD G_number_in bi_number_in (hr.mono (by decide)) takes0 (da_cons (pd_v 1) (da_nil)))) (da_nil)))))
theorem ok_within (T : Tx w K mg) : DefOk P w K mg base 1 "within" "within" s_within ["word", "first", "last"] sp_within := by
  refine def_ok (r := rd_within) T.f_within sc_within ln_within (fun f cdv A outer s H E hr => ?_) pu_within
  have tk : Takes (cxOf (L2.CX P w) P w K mg base N_within "within" (defScope s_within) f cdv A outer s H E) (fun c d _ H => E c d H) := takes_of rfl rfl rfl rfl
  exact dss_cons (ds_if (PW.pt (dw_or (dt_lt (pd_len T.b_len bb_len (da_cons (pd_v 0) (da_nil))) (pd_int)) (dw_or (dt_ne hr.units (pd_ix (pd_v 0) (pd_int)) (pd_v 1)) (dw_or1 (dt_ne hr.units (pd_ix (pd_v 0) (pd_neg (pd_int))) (pd_v 2)))))) (dss_one (ds_ret (pd_non))) (dss_nil))
    (dss_one (ds_ret (pd_sl (pd_v 0) (dp_some (pd_int)) (dp_some (pd_neg (pd_int))))))
theorem ok_plain_in (T : Tx w K mg) (G_number_in : DefOk P w K mg base 1 "number_in" "number_in" s_number_in ["word"] sp_number_in) (G_numbers_in : DefOk P w K mg base 2 "numbers_in" "numbers_in" s_numbers_in ["word"] sp_numbers_in) (G_within : DefOk P w K mg base 1 "within" "within" s_within ["word", "first", "last"] sp_within) : DefOk P w K mg base 3 "plain_in" "plain_in" s_plain_in ["word"] sp_plain_in := by
  refine def_ok (r := rd_plain_in) T.f_plain_in sc_plain_in ln_plain_in (fun f cdv A outer s H E hr => ?_) pu_plain_in
  have tk : Takes (cxOf (L2.CX P w) P w K mg base N_plain_in "plain_in" (defScope s_plain_in) f cdv A outer s H E) (fun c d _ H => E c d H) := takes_of rfl rfl rfl rfl
  exact dss_cons (ds_if (dt_eq hr.units (pd_v 0) (pd_str)) (dss_one (ds_ret (pd_tup (da_cons (pd_str) (da_nil))))) (dss_nil))
    (dss_cons (ds_set (i := 1) sc_plain_in.nd (pd_callD G_within bi_within (hr.mono (by decide)) tk (da_cons (pd_v 0) (da_cons (pd_str) (da_cons (pd_str) (da_nil))))))
    (dss_cons (ds_if (dt_notN (pd_v 1) (pd_non)) (dss_one (ds_ret (pd_tup (da_cons (pd_str) (da_cons (pd_callD G_numbers_in bi_numbers_in (hr.mono (by decide)) tk (da_cons (pd_v 1) (da_nil))) (da_nil)))))) (dss_nil))
    (dss_cons (ds_tup (pd_parti (pd_v 0) (pd_str)) (pg_tup rfl (dgs_cons (pg_name (i := 2) sc_plain_in.nd rfl (by first | exact Or.inl rfl | exact Or.inr rfl)) (dgs_cons (pg_name (i := 3) sc_plain_in.nd rfl (by first | exact Or.inl rfl | exact Or.inr rfl)) (dgs_cons (pg_name (i := 4) sc_plain_in.nd rfl (by first | exact Or.inl rfl | exact Or.inr rfl)) (dgs_nil))))) (gT_ok (js := [2, 3, 4])))
    (dss_cons (ds_if (dt_eq hr.units (pd_v 3) (pd_str)) (dss_one (ds_ret (pd_tup (da_cons (pd_str) (da_cons (pd_callD G_number_in bi_number_in (hr.mono (by decide)) tk (da_cons (pd_v 0) (da_nil))) (da_nil)))))) (dss_nil))
    (dss_cons (ds_if (dt_eq hr.units (pd_v 4) (pd_str)) (dss_one (ds_ret (pd_tup (da_cons (pd_str) (da_cons (pd_callD G_number_in bi_number_in (hr.mono (by decide)) tk (da_cons (pd_v 2) (da_nil))) (da_nil)))))) (dss_nil))
    (dss_cons (ds_if (dt_eq hr.units (pd_v 2) (pd_str)) (dss_one (ds_ret (pd_tup (da_cons (pd_str) (da_cons (pd_callD G_number_in bi_number_in (hr.mono (by decide)) tk (da_cons (pd_v 4) (da_nil))) (da_nil)))))) (dss_nil))
    (dss_one (ds_ret (pd_tup (da_cons (pd_str) (da_cons (pd_callD G_number_in bi_number_in (hr.mono (by decide)) tk (da_cons (pd_v 2) (da_nil))) (da_cons (pd_callD G_number_in bi_number_in (hr.mono (by decide)) tk (da_cons (pd_v 4) (da_nil))) (da_nil)))))))))))))
theorem ok_look_in (T : Tx w K mg) (G_plain_in : DefOk P w K mg base 3 "plain_in" "plain_in" s_plain_in ["word"] sp_plain_in) : DefOk P w K mg base 4 "look_in" "look_in" s_look_in ["word"] sp_look_in := by
  refine def_ok (r := rd_look_in) T.f_look_in sc_look_in ln_look_in (fun f cdv A outer s H E hr => ?_) pu_look_in
  have tk : Takes (cxOf (L2.CX P w) P w K mg base N_look_in "look_in" (defScope s_look_in) f cdv A outer s H E) (fun c d _ H => E c d H) := takes_of rfl rfl rfl rfl
  exact dss_cons (ds_if (dt_eq hr.units (pd_sl (pd_v 0) dp_none (dp_some (pd_int))) (pd_str)) (dss_one (ds_ret (pd_tup (da_cons (pd_str) (da_cons (pd_callD G_plain_in bi_plain_in (hr.mono (by decide)) tk (da_cons (pd_sl (pd_v 0) (dp_some (pd_int)) dp_none) (da_nil))) (da_nil)))))) (dss_nil))
    (dss_one (ds_ret (pd_callD G_plain_in bi_plain_in (hr.mono (by decide)) tk (da_cons (pd_v 0) (da_nil)))))
theorem ok_pieces (T : Tx w K mg) : DefOk P w K mg base 1 "pieces" "pieces" s_pieces ["word"] sp_pieces := by
  refine def_ok (r := rd_pieces) T.f_pieces sc_pieces ln_pieces (fun f cdv A outer s H E hr => ?_) pu_pieces
  have tk : Takes (cxOf (L2.CX P w) P w K mg base N_pieces "pieces" (defScope s_pieces) f cdv A outer s H E) (fun c d _ H => E c d H) := takes_of rfl rfl rfl rfl
  exact dss_cons (ds_set (i := 1) sc_pieces.nd (pd_lstM (da_cons (pd_str) (da_nil))))
    (dss_cons (ds_set (i := 2) sc_pieces.nd (pd_int))
    (dss_cons (ds_for (passes_of rfl) rfl (di_any (pd_v 0)) (pg_name (i := 3) sc_pieces.nd rfl (by first | exact Or.inl rfl | exact Or.inr rfl)) (gN_ok) (dss_cons (ds_aug (i := 2) sc_pieces.nd (pd_dget2 (units1 hr) (pd_dctN (dps_cons (pd_str) (pd_int) (dps_cons (pd_str) (pd_neg (pd_int)) (dps_nil)))) (pd_v 3) (pd_int)))
    (dss_one (ds_if (PW.pt (dw_and (dt_eq hr.units (pd_v 3) (pd_str)) (dw_and1 (dt_eq hr.units (pd_v 2) (pd_int))))) (dss_one (ds_expr (pd_app (pd_v 1) (pd_str)))) (dss_one (ds_augIx (pd_v 1) (pd_neg (pd_int)) (pd_v 3)))))))
    (dss_one (ds_ret (pd_if (dt_ne hr.units (pd_v 0) (pd_str)) (pd_seal (pd_v 1)) (pd_lst (da_nil)))))))
theorem ok_call_in (T : Tx w K mg) : DefOk P w K mg base 1 "call_in" "call_in" s_call_in ["word"] sp_call_in := by
  refine def_ok (r := rd_call_in) T.f_call_in sc_call_in ln_call_in (fun f cdv A outer s H E hr => ?_) pu_call_in
  have tk : Takes (cxOf (L2.CX P w) P w K mg base N_call_in "call_in" (defScope s_call_in) f cdv A outer s H E) (fun c d _ H => E c d H) := takes_of rfl rfl rfl rfl
  exact dss_cons (ds_tup (pd_parti (pd_v 0) (pd_str)) (pg_tup rfl (dgs_cons (pg_name (i := 1) sc_call_in.nd rfl (by first | exact Or.inl rfl | exact Or.inr rfl)) (dgs_cons (pg_name (i := 2) sc_call_in.nd rfl (by first | exact Or.inl rfl | exact Or.inr rfl)) (dgs_cons (pg_name (i := 3) sc_call_in.nd rfl (by first | exact Or.inl rfl | exact Or.inr rfl)) (dgs_nil))))) (gT_ok (js := [1, 2, 3])))
    (dss_cons (ds_tup (pd_parti (pd_v 1) (pd_str)) (pg_tup rfl (dgs_cons (pg_name (i := 4) sc_call_in.nd rfl (by first | exact Or.inl rfl | exact Or.inr rfl)) (dgs_cons (pg_name (i := 5) sc_call_in.nd rfl (by first | exact Or.inl rfl | exact Or.inr rfl)) (dgs_cons (pg_name (i := 6) sc_call_in.nd rfl (by first | exact Or.inl rfl | exact Or.inr rfl)) (dgs_nil))))) (gT_ok (js := [4, 5, 6])))
    (dss_cons (ds_if (PW.pt (dw_or (dt_eq hr.units (pd_v 2) (pd_str)) (dw_or (dt_eq hr.units (pd_v 5) (pd_str)) (dw_or1 (dt_ne hr.units (pd_sl (pd_v 3) (dp_some (pd_neg (pd_int))) dp_none) (pd_str)))))) (dss_one (ds_ret (pd_non))) (dss_nil))
    (dss_one (ds_ret (pd_tup (da_cons (pd_v 4) (da_cons (pd_v 6) (da_cons (pd_sl (pd_v 3) dp_none (dp_some (pd_neg (pd_int)))) (da_nil)))))))))
theorem ok_looks_in (T : Tx w K mg) (G_look_in : DefOk P w K mg base 4 "look_in" "look_in" s_look_in ["word"] sp_look_in) (G_pieces : DefOk P w K mg base 1 "pieces" "pieces" s_pieces ["word"] sp_pieces) : DefOk P w K mg base 5 "looks_in" "looks_in" s_looks_in ["inside"] sp_looks_in := by
  refine def_ok (r := rd_looks_in) T.f_looks_in sc_looks_in ln_looks_in (fun f cdv A outer s H E hr => ?_) pu_looks_in
  have tk : Takes (cxOf (L2.CX P w) P w K mg base N_looks_in "looks_in" (defScope s_looks_in) f cdv A outer s H E) (fun c d _ H => E c d H) := takes_of rfl rfl rfl rfl
  exact dss_cons (ds_if (dt_eq hr.units (pd_v 0) (pd_str)) (dss_one (ds_ret (pd_non))) (dss_nil))
    (dss_one (ds_ret (pd_tupleOf T.b_tuple bb_tuple (da_cons (pd_lc rfl sc_looks_in.nd (di_any (pd_callD G_pieces bi_pieces (hr.mono (by decide)) tk (da_cons (pd_v 0) (da_nil)))) (blkOk_by (own := [("piece", 1)]) (N := N_looks_in) (sc := defScope s_looks_in) (by decide +kernel)) (gN_ok) rfl (fun _ _ _ _ _ => pg_name (i := 1) sc_looks_in.nd rfl (by first | exact Or.inl rfl | exact Or.inr rfl)) (fun _ _ _ _ _ => dts_nil) (fun _ _ _ _ _ => pd_callD G_look_in bi_look_in (hr.mono (by decide)) takes0 (da_cons (pd_v 1) (da_nil)))) (da_nil)))))
theorem ok_more_text (T : Tx w K mg) : DefOk P w K mg base 1 "more_text" "more_text" s_more_text ["more"] sp_more_text := by
  refine def_ok (r := rd_more_text) T.f_more_text sc_more_text ln_more_text (fun f cdv A outer s H E hr => ?_) pu_more_text
  have tk : Takes (cxOf (L2.CX P w) P w K mg base N_more_text "more_text" (defScope s_more_text) f cdv A outer s H E) (fun c d _ H => E c d H) := takes_of rfl rfl rfl rfl
  exact dss_one (ds_ret (pd_add (pd_mulSB (pd_str) (pd_intOf T.b_int bb_int (da_cons (pd_ge (pd_v 0) (pd_int)) (da_nil)))) (pd_strOf T.b_str bb_str (da_cons (pd_v 0) (da_nil)))))
theorem ok_more_in (T : Tx w K mg) (G_number_in : DefOk P w K mg base 1 "number_in" "number_in" s_number_in ["word"] sp_number_in) : DefOk P w K mg base 2 "more_in" "more_in" s_more_in ["word"] sp_more_in := by
  refine def_ok (r := rd_more_in) T.f_more_in sc_more_in ln_more_in (fun f cdv A outer s H E hr => ?_) pu_more_in
  have tk : Takes (cxOf (L2.CX P w) P w K mg base N_more_in "more_in" (defScope s_more_in) f cdv A outer s H E) (fun c d _ H => E c d H) := takes_of rfl rfl rfl rfl
  exact dss_cons (ds_if (PW.pt (dw_and (dt_eq hr.units (pd_sl (pd_v 0) dp_none (dp_some (pd_int))) (pd_str)) (dw_and1 (dt_ne hr.units (pd_sl (pd_v 0) (dp_some (pd_int)) (dp_some (pd_int))) (pd_str))))) (dss_one (ds_ret (pd_callD G_number_in bi_number_in (hr.mono (by decide)) tk (da_cons (pd_sl (pd_v 0) (dp_some (pd_int)) dp_none) (da_nil))))) (dss_nil))
    (dss_cons (ds_if (dt_eq hr.units (pd_sl (pd_v 0) dp_none (dp_some (pd_int))) (pd_str)) (dss_one (ds_ret (pd_callD G_number_in bi_number_in (hr.mono (by decide)) tk (da_cons (pd_v 0) (da_nil))))) (dss_nil))
    (dss_one (ds_ret (pd_non))))
theorem ok_answer_text (T : Tx w K mg) (G_is_whole : DefOk P w K mg base 1 "is_whole" "is_whole" s_is_whole ["thing"] sp_is_whole) (G_more_text : DefOk P w K mg base 1 "more_text" "more_text" s_more_text ["more"] sp_more_text) : DefOk P w K mg base 2 "answer_text" "answer_text" s_answer_text ["answer"] sp_answer_text := by
  refine def_ok (r := rd_answer_text) T.f_answer_text sc_answer_text ln_answer_text (fun f cdv A outer s H E hr => ?_) pu_answer_text
  have tk : Takes (cxOf (L2.CX P w) P w K mg base N_answer_text "answer_text" (defScope s_answer_text) f cdv A outer s H E) (fun c d _ H => E c d H) := takes_of rfl rfl rfl rfl
  exact dss_cons (ds_if (dt_tru (pd_callD G_is_whole bi_is_whole (hr.mono (by decide)) tk (da_cons (pd_v 0) (da_nil)))) (dss_one (ds_ret (pd_strOf T.b_str bb_str (da_cons (pd_v 0) (da_nil))))) (dss_nil))
    (dss_cons (ds_star rfl (pd_v 0) (pg_name (i := 1) sc_answer_text.nd rfl (by first | exact Or.inl rfl | exact Or.inr rfl)) (pg_name (i := 2) sc_answer_text.nd rfl (by first | exact Or.inl rfl | exact Or.inr rfl)))
    (dss_cons (ds_if (dt_eq hr.units (pd_v 1) (pd_str)) (dss_one (ds_ret (pd_add (pd_str) (pd_ix (pd_v 2) (pd_int))))) (dss_nil))
    (dss_one (ds_ret (pd_add (pd_add (pd_str) (pd_strOf T.b_str bb_str (da_cons (pd_ix (pd_v 2) (pd_int)) (da_nil)))) (pd_callD G_more_text bi_more_text (hr.mono (by decide)) tk (da_cons (pd_ix (pd_v 2) (pd_int)) (da_nil))))))))
theorem ok_answer_in (T : Tx w K mg) (G_number_in : DefOk P w K mg base 1 "number_in" "number_in" s_number_in ["word"] sp_number_in) (G_more_in : DefOk P w K mg base 2 "more_in" "more_in" s_more_in ["word"] sp_more_in) : DefOk P w K mg base 3 "answer_in" "answer_in" s_answer_in ["word"] sp_answer_in := by
  refine def_ok (r := rd_answer_in) T.f_answer_in sc_answer_in ln_answer_in (fun f cdv A outer s H E hr => ?_) pu_answer_in
  have tk : Takes (cxOf (L2.CX P w) P w K mg base N_answer_in "answer_in" (defScope s_answer_in) f cdv A outer s H E) (fun c d _ H => E c d H) := takes_of rfl rfl rfl rfl
  exact dss_cons (ds_if (dt_eq hr.units (pd_sl (pd_v 0) dp_none (dp_some (pd_int))) (pd_str)) (dss_one (ds_ret (pd_tup (da_cons (pd_str) (da_cons (pd_sl (pd_v 0) (dp_some (pd_int)) dp_none) (da_nil)))))) (dss_nil))
    (dss_cons (ds_if (dt_eq hr.units (pd_sl (pd_v 0) dp_none (dp_some (pd_int))) (pd_str)) (dss_one (ds_ret (pd_tup (da_cons (pd_str) (da_cons (pd_callD G_number_in bi_number_in (hr.mono (by decide)) tk (da_cons (pd_sl (pd_v 0) (dp_some (pd_int)) (dp_some (pd_int))) (da_nil))) (da_cons (pd_callD G_more_in bi_more_in (hr.mono (by decide)) tk (da_cons (pd_sl (pd_v 0) (dp_some (pd_int)) dp_none) (da_nil))) (da_nil))))))) (dss_nil))
    (dss_one (ds_ret (pd_callD G_number_in bi_number_in (hr.mono (by decide)) tk (da_cons (pd_v 0) (da_nil))))))
theorem ok_rule_text (T : Tx w K mg) (G_call_text : DefOk P w K mg base 3 "call_text" "call_text" s_call_text ["part", "deed", "looks"] sp_call_text) (G_answer_text : DefOk P w K mg base 2 "answer_text" "answer_text" s_answer_text ["answer"] sp_answer_text) : DefOk P w K mg base 4 "rule_text" "rule_text" s_rule_text ["rule"] sp_rule_text := by
  refine def_ok (r := rd_rule_text) T.f_rule_text sc_rule_text ln_rule_text (fun f cdv A outer s H E hr => ?_) pu_rule_text
  have tk : Takes (cxOf (L2.CX P w) P w K mg base N_rule_text "rule_text" (defScope s_rule_text) f cdv A outer s H E) (fun c d _ H => E c d H) := takes_of rfl rfl rfl rfl
  exact dss_cons (ds_set (i := 1) sc_rule_text.nd (pd_join (pd_str) (pd_lc rfl sc_rule_text.nd (di_any (pd_fld T.fl_Rule_answers (pd_v 0))) (blkOk_by (own := [("answer", 2)]) (N := N_rule_text) (sc := defScope s_rule_text) (by decide +kernel)) (gN_ok) rfl (fun _ _ _ _ _ => pg_name (i := 2) sc_rule_text.nd rfl (by first | exact Or.inl rfl | exact Or.inr rfl)) (fun _ _ _ _ _ => dts_nil) (fun _ _ _ _ _ => pd_callD G_answer_text bi_answer_text (hr.mono (by decide)) takes0 (da_cons (pd_v 2) (da_nil))))))
    (dss_one (ds_ret (pd_join (pd_str) (pd_lst (da_cons (pd_callD G_call_text bi_call_text (hr.mono (by decide)) tk (da_cons (pd_fld T.fl_Rule_part (pd_v 0)) (da_cons (pd_fld T.fl_Rule_deed (pd_v 0)) (da_cons (pd_fld T.fl_Rule_looks (pd_v 0)) (da_nil))))) (da_cons (pd_fld T.fl_Rule_then (pd_v 0)) (da_cons (pd_v 1) (da_nil))))))))
theorem ok_rule_in (T : Tx w K mg) (G_Rule___init__ : MkG P w K mg base 6 "Rule" "Rule.__init__" s_Rule___init__ ["self", "part", "deed", "looks", "answers", "then"] [.non, .non] [("answers", .tup [.int 0]), ("then", .str "stay")] sp_Rule___init__) (G_call_in : DefOk P w K mg base 1 "call_in" "call_in" s_call_in ["word"] sp_call_in) (G_looks_in : DefOk P w K mg base 5 "looks_in" "looks_in" s_looks_in ["inside"] sp_looks_in) (G_answer_in : DefOk P w K mg base 3 "answer_in" "answer_in" s_answer_in ["word"] sp_answer_in) : DefOk P w K mg base 8 "rule_in" "rule_in" s_rule_in ["text"] sp_rule_in := by
  refine def_ok (r := rd_rule_in) T.f_rule_in sc_rule_in ln_rule_in (fun f cdv A outer s H E hr => ?_) pu_rule_in
  have tk : Takes (cxOf (L2.CX P w) P w K mg base N_rule_in "rule_in" (defScope s_rule_in) f cdv A outer s H E) (fun c d _ H => E c d H) := takes_of rfl rfl rfl rfl
  exact dss_cons (ds_set (i := 1) sc_rule_in.nd (pd_split (pd_v 0) (pd_str)))
    (dss_cons (ds_set (i := 2) sc_rule_in.nd (pd_callD G_call_in bi_call_in (hr.mono (by decide)) tk (da_cons (pd_ix (pd_v 1) (pd_int)) (da_nil))))
    (dss_cons (ds_if (PW.pt (dw_or (dt_ne hr.units (pd_len T.b_len bb_len (da_cons (pd_v 1) (da_nil))) (pd_int)) (dw_or1 (dt_isN (pd_v 2) (pd_non))))) (dss_one (ds_ret (pd_non))) (dss_nil))
    (dss_cons (ds_set (i := 3) sc_rule_in.nd (pd_if (dt_eq hr.units (pd_ix (pd_v 2) (pd_int)) (pd_str)) (pd_non) (pd_ix (pd_v 2) (pd_int))))
    (dss_cons (ds_set (i := 4) sc_rule_in.nd (pd_tupleOf T.b_tuple bb_tuple (da_cons (pd_lc rfl sc_rule_in.nd (di_any (pd_split (pd_ix (pd_v 1) (pd_int)) (pd_str))) (blkOk_by (own := [("word", 5)]) (N := N_rule_in) (sc := defScope s_rule_in) (by decide +kernel)) (gN_ok) rfl (fun _ _ _ _ _ => pg_name (i := 5) sc_rule_in.nd rfl (by first | exact Or.inl rfl | exact Or.inr rfl)) (fun _ _ _ _ _ => dts_nil) (fun _ _ _ _ _ => pd_callD G_answer_in bi_answer_in (hr.mono (by decide)) takes0 (da_cons (pd_v 5) (da_nil)))) (da_nil))))
    (dss_one (ds_tryO rfl rfl T.ea_BadRule tk (fun _ _ _ tk _ => dss_one (ds_ret (pd_mk G_Rule___init__ kb_Rule___init___0 (hr.mono (by decide)) tk (cal_cons (da_cons (pd_ix (pd_v 2) (pd_int)) (da_cons (pd_v 3) (da_cons (pd_callD G_looks_in bi_looks_in (hr.mono (by decide)) tk (da_cons (pd_ix (pd_v 2) (pd_int)) (da_nil))) (da_nil)))) (dk_cons (pd_v 4) (dk_cons (pd_ix (pd_v 1) (pd_int)) (dk_nil))))))) (fun xa oe xc xd pn hz hf => dss_one (ds_ret (pd_non)))))))))
theorem ok_read_rule (T : Tx w K mg) (G_rule_in : DefOk P w K mg base 8 "rule_in" "rule_in" s_rule_in ["text"] sp_rule_in) (XF_BadText : XMf P w K mg base 2 "BadText" "line" "no such text" ["self", "line"] (fun fd => ∃ fI, FunG K "__init__" "BadText.__init__" s_BadText___init__ [] [] fI fd)) : DefOk P w K mg base 9 "read_rule" "read_rule" s_read_rule ["text"] sp_read_rule := by
  refine def_ok (r := rd_read_rule) T.f_read_rule sc_read_rule ln_read_rule (fun f cdv A outer s H E hr => ?_) pu_read_rule
  have tk : Takes (cxOf (L2.CX P w) P w K mg base N_read_rule "read_rule" (defScope s_read_rule) f cdv A outer s H E) (fun c d _ H => E c d H) := takes_of rfl rfl rfl rfl
  exact dss_cons (ds_set (i := 1) sc_read_rule.nd (pd_callD G_rule_in bi_rule_in (hr.mono (by decide)) tk (da_cons (pd_v 0) (da_nil))))
    (dss_cons (ds_if (dt_isN (pd_v 1) (pd_non)) (dss_one (ds_raise1 rfl XF_BadText hb_BadText (hr.mono (by decide)) tk (da_cons (pd_int) (da_nil)))) (dss_nil))
    (dss_one (ds_ret (pd_v 1))))
theorem ok__law_cell_at (T : Tx w K mg) : DefOk P w K mg base 1 "_law_cell_at" "_law_cell_at" s__law_cell_at ["_law_script", "_law_k"] sp__law_cell_at := by
  refine def_ok (r := rd__law_cell_at) T.f__law_cell_at sc__law_cell_at ln__law_cell_at (fun f cdv A outer s H E hr => ?_) pu__law_cell_at
  have tk : Takes (cxOf (L2.CX P w) P w K mg base N__law_cell_at "_law_cell_at" (defScope s__law_cell_at) f cdv A outer s H E) (fun c d _ H => E c d H) := takes_of rfl rfl rfl rfl
  exact dss_cons (ds_if (dt_lt (pd_v 1) (pd_len T.b_len bb_len (da_cons (pd_v 0) (da_nil)))) (dss_one (ds_ret (pd_ix (pd_v 0) (pd_v 1)))) (dss_nil))
    (dss_one (ds_ret (pd_int)))
theorem ok__law_spring (T : Tx w K mg) : DefOk P w K mg base 1 "_law_spring" "_law_spring" s__law_spring ["_law_cell"] sp__law_spring := by
  refine def_ok (r := rd__law_spring) T.f__law_spring sc__law_spring ln__law_spring (fun f cdv A outer s H E hr => ?_) pu__law_spring
  have tk : Takes (cxOf (L2.CX P w) P w K mg base N__law_spring "_law_spring" (defScope s__law_spring) f cdv A outer s H E) (fun c d _ H => E c d H) := takes_of rfl rfl rfl rfl
  exact dss_cons (ds_if (dt_ge (pd_v 0) (pd_pow (pd_int) (pd_int))) (dss_one (ds_ret (pd_lstM (da_cons (pd_v 0) (da_cons (pd_mod (pd_intOf T.b_int bb_int (da_cons (pd_v 0) (da_nil))) (pd_int)) (da_cons (pd_int) (da_nil))))))) (dss_nil))
    (dss_one (ds_ret (pd_lstM (da_cons (pd_int) (da_cons (pd_mod (pd_intOf T.b_int bb_int (da_cons (pd_v 0) (da_nil))) (pd_int)) (da_cons (pd_int) (da_nil)))))))
theorem ok__law_draw (T : Tx w K mg) : DefOk P w K mg base 1 "_law_draw" "_law_draw" s__law_draw ["_law_well", "_law_many"] sp__law_draw_v2 := by
  refine def_ok (r := rd__law_draw_v2) T.f__law_draw sc__law_draw ln__law_draw_v2 (fun f cdv A outer s H E hr => ?_) pu__law_draw_v2
  have tk : Takes (cxOf (L2.CX P w) P w K mg base N__law_draw "_law_draw" (defScope s__law_draw) f cdv A outer s H E) (fun c d _ H => E c d H) := takes_of rfl rfl rfl rfl
  exact dss_cons (ds_if (dt_gt (pd_ix (pd_v 0) (pd_int)) (pd_int)) (dss_cons (ds_set (i := 3) sc__law_draw.nd (pd_mod (pd_intOf T.b_int bb_int (da_cons (pd_ix (pd_v 0) (pd_int)) (da_nil))) (pd_v 1)))
    (dss_cons (ds_setIx (pd_div (pd_ix (pd_v 0) (pd_int)) (pd_v 1)) (pd_v 0) (pd_int))
    (dss_one (ds_ret (pd_v 3))))) (dss_nil))
    (dss_cons (ds_setIx (pd_add (pd_ix (pd_v 0) (pd_int)) (pd_int)) (pd_v 0) (pd_int))
    (dss_cons (ds_set (i := 2) sc__law_draw.nd (pd_mod (pd_intOf T.b_int bb_int (da_cons (pd_pow (pd_add (pd_add (pd_ix (pd_v 0) (pd_int)) (pd_mul (pd_int) (pd_ix (pd_v 0) (pd_int)))) (pd_int)) (pd_int)) (da_nil))) (pd_int)))
    (dss_cons (ds_set (i := 2) sc__law_draw.nd (pd_mod (pd_intOf T.b_int bb_int (da_cons (pd_mul (pd_v 2) (pd_add (pd_add (pd_div (pd_v 2) (pd_int)) (pd_int)) (pd_ix (pd_v 0) (pd_int)))) (da_nil))) (pd_int)))
    (dss_one (ds_ret (pd_mod (pd_intOf T.b_int bb_int (da_cons (pd_mod (pd_intOf T.b_int bb_int (da_cons (pd_mul (pd_v 2) (pd_add (pd_div (pd_v 2) (pd_int)) (pd_int))) (da_nil))) (pd_int)) (da_nil))) (pd_v 1)))))))
theorem ok__law_pick (T : Tx w K mg) (G__law_draw : DefOk P w K mg base 1 "_law_draw" "_law_draw" s__law_draw ["_law_well", "_law_many"] sp__law_draw_v2) : DefOk P w K mg base 2 "_law_pick" "_law_pick" s__law_pick ["_law_well", "_law_some"] sp__law_pick_v2 := by
  refine def_ok (r := rd__law_pick_v2) T.f__law_pick sc__law_pick ln__law_pick_v2 (fun f cdv A outer s H E hr => ?_) pu__law_pick_v2
  have tk : Takes (cxOf (L2.CX P w) P w K mg base N__law_pick "_law_pick" (defScope s__law_pick) f cdv A outer s H E) (fun c d _ H => E c d H) := takes_of rfl rfl rfl rfl
  exact dss_one (ds_ret (pd_ix (pd_v 1) (pd_callD G__law_draw bi__law_draw (hr.mono (by decide)) tk (da_cons (pd_v 0) (da_cons (pd_len T.b_len bb_len (da_cons (pd_v 1) (da_nil))) (da_nil))))))
theorem ok__law_word (T : Tx w K mg) (G__law_draw : DefOk P w K mg base 1 "_law_draw" "_law_draw" s__law_draw ["_law_well", "_law_many"] sp__law_draw_v2) : DefOk P w K mg base 2 "_law_word" "_law_word" s__law_word ["_law_well"] sp__law_word_v6 := by
  refine def_ok (r := rd__law_word_v6) T.f__law_word sc__law_word ln__law_word_v6 (fun f cdv A outer s H E hr => ?_) pu__law_word_v6
  have tk : Takes (cxOf (L2.CX P w) P w K mg base N__law_word "_law_word" (defScope s__law_word) f cdv A outer s H E) (fun c d _ H => E c d H) := takes_of rfl rfl rfl rfl
  exact dss_cons (ds_set (i := 1) sc__law_word.nd (pd_str))
    (dss_one (ds_ret (pd_join (pd_str) (pd_lc rfl sc__law_word.nd (di_range T.b_range (da_cons (pd_add (pd_int) (pd_callD G__law_draw bi__law_draw (hr.mono (by decide)) tk (da_cons (pd_v 0) (da_cons (pd_int) (da_nil))))) (da_nil))) (blkOk_by (own := [("_law_k", 2)]) (N := N__law_word) (sc := defScope s__law_word) (by decide +kernel)) (gN_ok) rfl (fun _ _ _ _ _ => pg_name (i := 2) sc__law_word.nd rfl (by first | exact Or.inl rfl | exact Or.inr rfl)) (fun _ _ _ _ _ => dts_nil) (fun _ _ _ _ _ => pd_ix (pd_v 1) (pd_callD G__law_draw bi__law_draw (hr.mono (by decide)) takes0 (da_cons (pd_v 0) (da_cons (pd_int) (da_nil)))))))))
theorem ok__law_whole (T : Tx w K mg) (G__law_draw : DefOk P w K mg base 1 "_law_draw" "_law_draw" s__law_draw ["_law_well", "_law_many"] sp__law_draw_v2) : DefOk P w K mg base 2 "_law_whole" "_law_whole" s__law_whole ["_law_well"] sp__law_whole_v2 := by
  refine def_ok (r := rd__law_whole_v2) T.f__law_whole sc__law_whole ln__law_whole_v2 (fun f cdv A outer s H E hr => ?_) pu__law_whole_v2
  have tk : Takes (cxOf (L2.CX P w) P w K mg base N__law_whole "_law_whole" (defScope s__law_whole) f cdv A outer s H E) (fun c d _ H => E c d H) := takes_of rfl rfl rfl rfl
  exact dss_cons (ds_set (i := 1) sc__law_whole.nd (pd_callD G__law_draw bi__law_draw (hr.mono (by decide)) tk (da_cons (pd_v 0) (da_cons (pd_int) (da_nil)))))
    (dss_cons (ds_set (i := 2) sc__law_whole.nd (pd_callD G__law_draw bi__law_draw (hr.mono (by decide)) tk (da_cons (pd_v 0) (da_cons (pd_int) (da_nil)))))
    (dss_cons (ds_set (i := 3) sc__law_whole.nd (pd_callD G__law_draw bi__law_draw (hr.mono (by decide)) tk (da_cons (pd_v 0) (da_cons (pd_pow (pd_int) (pd_int)) (da_nil)))))
    (dss_one (ds_ret (pd_ix (pd_lst (da_cons (pd_v 2) (da_cons (pd_sub (pd_int) (pd_v 2)) (da_cons (pd_v 3) (da_cons (pd_sub (pd_int) (pd_v 3)) (da_nil)))))) (pd_v 1))))))
theorem ok__law_look (T : Tx w K mg) (G__law_draw : DefOk P w K mg base 1 "_law_draw" "_law_draw" s__law_draw ["_law_well", "_law_many"] sp__law_draw_v2) (G__law_whole : DefOk P w K mg base 2 "_law_whole" "_law_whole" s__law_whole ["_law_well"] sp__law_whole_v2) : DefOk P w K mg base 3 "_law_look" "_law_look" s__law_look ["_law_well"] sp__law_look_v8 := by
  refine def_ok (r := rd__law_look_v8) T.f__law_look sc__law_look ln__law_look_v8 (fun f cdv A outer s H E hr => ?_) pu__law_look_v8
  have tk : Takes (cxOf (L2.CX P w) P w K mg base N__law_look "_law_look" (defScope s__law_look) f cdv A outer s H E) (fun c d _ H => E c d H) := takes_of rfl rfl rfl rfl
  exact dss_cons (ds_set (i := 1) sc__law_look.nd (pd_callD G__law_draw bi__law_draw (hr.mono (by decide)) tk (da_cons (pd_v 0) (da_cons (pd_int) (da_nil)))))
    (dss_cons (ds_set (i := 2) sc__law_look.nd (pd_callD G__law_whole bi__law_whole (hr.mono (by decide)) tk (da_cons (pd_v 0) (da_nil))))
    (dss_cons (ds_set (i := 3) sc__law_look.nd (pd_lstM (da_cons (pd_tup (da_cons (pd_str) (da_nil))) (da_cons (pd_tup (da_cons (pd_str) (da_cons (pd_v 2) (da_nil)))) (da_cons (pd_tup (da_cons (pd_str) (da_cons (pd_v 2) (da_nil)))) (da_cons (pd_tup (da_cons (pd_str) (da_cons (pd_v 2) (da_nil)))) (da_cons (pd_tup (da_cons (pd_str) (da_cons (pd_v 2) (da_cons (pd_callD G__law_whole bi__law_whole (hr.mono (by decide)) tk (da_cons (pd_v 0) (da_nil))) (da_nil))))) (da_nil))))))))
    (dss_cons (ds_set (i := 4) sc__law_look.nd (pd_lst (da_cons (pd_tup (da_cons (pd_v 2) (da_nil))) (da_cons (pd_tup (da_nil)) (da_cons (pd_tup (da_cons (pd_v 2) (da_cons (pd_sub (pd_int) (pd_v 2)) (da_nil)))) (da_cons (pd_tup (da_cons (pd_add (pd_int) (pd_mul (pd_v 2) (pd_int))) (da_cons (pd_int) (da_cons (pd_int) (da_cons (pd_neg (pd_int)) (da_nil)))))) (da_nil)))))))
    (dss_cons (ds_expr (pd_app (pd_v 3) (pd_tup (da_cons (pd_str) (da_cons (pd_ix (pd_v 4) (pd_callD G__law_draw bi__law_draw (hr.mono (by decide)) tk (da_cons (pd_v 0) (da_cons (pd_ix (pd_lst (da_cons (pd_int) (da_cons (pd_int) (da_nil)))) (pd_intOf T.b_int bb_int (da_cons (pd_lt (pd_abs T.b_abs bb_abs (da_cons (pd_v 2) (da_nil))) (pd_pow (pd_int) (pd_int))) (da_nil)))) (da_nil))))) (da_nil))))))
    (dss_cons (ds_if (dt_lt (pd_v 1) (pd_int)) (dss_one (ds_ret (pd_ix (pd_v 3) (pd_v 1)))) (dss_nil))
    (dss_one (ds_ret (pd_tup (da_cons (pd_str) (da_cons (pd_ix (pd_v 3) (pd_callD G__law_draw bi__law_draw (hr.mono (by decide)) tk (da_cons (pd_v 0) (da_cons (pd_int) (da_nil))))) (da_nil)))))))))))
theorem ok__law_written (T : Tx w K mg) : ∀ kk : Nat, DefOk P w K mg base (0 + kk) "_law_written" "_law_written" s__law_written ["_law_look_here"] (sp__law_written kk)
  | 0 => def_no _ T.f__law_written (fun _ _ _ _ h => h)
  | kk + 1 => by
    have G__law_written := ok__law_written T kk
    refine def_ok (k := 0 + kk) (r := rd__law_written (sp__law_written kk)) T.f__law_written sc__law_written (ln__law_written (kk + 1)) (fun f cdv A outer s H E hr => ?_) (pu__law_written kk)
    have tk : Takes (cxOf (L2.CX P w) P w K mg base N__law_written "_law_written" (defScope s__law_written) f cdv A outer s H E) (fun c d _ H => E c d H) := takes_of rfl rfl rfl rfl
    exact dss_cons (ds_if (dt_eq hr.units (pd_ix (pd_v 0) (pd_int)) (pd_str)) (dss_one (ds_ret (pd_add (pd_str) (pd_callD G__law_written bi__law_written (hr.mono (by omega)) tk (da_cons (pd_ix (pd_v 0) (pd_int)) (da_nil)))))) (dss_nil))
      (dss_cons (ds_if (dt_eq hr.units (pd_ix (pd_v 0) (pd_int)) (pd_str)) (dss_one (ds_ret (pd_str))) (dss_nil))
      (dss_cons (ds_if (dt_eq hr.units (pd_ix (pd_v 0) (pd_int)) (pd_str)) (dss_one (ds_ret (pd_add (pd_add (pd_str) (pd_join (pd_str) (pd_lc rfl sc__law_written.nd (di_any (pd_ix (pd_v 0) (pd_int))) (blkOk_by (own := [("_law_number_here", 1)]) (N := N__law_written) (sc := defScope s__law_written) (by decide +kernel)) (gN_ok) rfl (fun _ _ _ _ _ => pg_name (i := 1) sc__law_written.nd rfl (by first | exact Or.inl rfl | exact Or.inr rfl)) (fun _ _ _ _ _ => dts_nil) (fun _ _ _ _ _ => pd_strOf T.b_str bb_str (da_cons (pd_v 1) (da_nil)))))) (pd_str)))) (dss_nil))
      (dss_cons (ds_if (dt_eq hr.units (pd_ix (pd_v 0) (pd_int)) (pd_str)) (dss_one (ds_ret (pd_add (pd_str) (pd_strOf T.b_str bb_str (da_cons (pd_ix (pd_v 0) (pd_int)) (da_nil)))))) (dss_nil))
      (dss_cons (ds_if (dt_eq hr.units (pd_ix (pd_v 0) (pd_int)) (pd_str)) (dss_one (ds_ret (pd_strOf T.b_str bb_str (da_cons (pd_ix (pd_v 0) (pd_int)) (da_nil))))) (dss_nil))
      (dss_cons (ds_if (dt_eq hr.units (pd_ix (pd_v 0) (pd_int)) (pd_str)) (dss_one (ds_ret (pd_add (pd_strOf T.b_str bb_str (da_cons (pd_ix (pd_v 0) (pd_int)) (da_nil))) (pd_str)))) (dss_nil))
      (dss_one (ds_ret (pd_add (pd_add (pd_strOf T.b_str bb_str (da_cons (pd_ix (pd_v 0) (pd_int)) (da_nil))) (pd_str)) (pd_strOf T.b_str bb_str (da_cons (pd_ix (pd_v 0) (pd_int)) (da_nil)))))))))))
theorem ok__law_answer (T : Tx w K mg) (G__law_draw : DefOk P w K mg base 1 "_law_draw" "_law_draw" s__law_draw ["_law_well", "_law_many"] sp__law_draw_v2) (G__law_word : DefOk P w K mg base 2 "_law_word" "_law_word" s__law_word ["_law_well"] sp__law_word_v6) (G__law_whole : DefOk P w K mg base 2 "_law_whole" "_law_whole" s__law_whole ["_law_well"] sp__law_whole_v2) : DefOk P w K mg base 3 "_law_answer" "_law_answer" s__law_answer ["_law_well"] sp__law_answer_v2 := by
  refine def_ok (r := rd__law_answer_v2) T.f__law_answer sc__law_answer ln__law_answer_v2 (fun f cdv A outer s H E hr => ?_) pu__law_answer_v2
  have tk : Takes (cxOf (L2.CX P w) P w K mg base N__law_answer "_law_answer" (defScope s__law_answer) f cdv A outer s H E) (fun c d _ H => E c d H) := takes_of rfl rfl rfl rfl
  exact dss_cons (ds_set (i := 1) sc__law_answer.nd (pd_callD G__law_draw bi__law_draw (hr.mono (by decide)) tk (da_cons (pd_v 0) (da_cons (pd_int) (da_nil)))))
    (dss_cons (ds_set (i := 2) sc__law_answer.nd (pd_callD G__law_draw bi__law_draw (hr.mono (by decide)) tk (da_cons (pd_v 0) (da_cons (pd_int) (da_nil)))))
    (dss_cons (ds_set (i := 3) sc__law_answer.nd (pd_callD G__law_whole bi__law_whole (hr.mono (by decide)) tk (da_cons (pd_v 0) (da_nil))))
    (dss_one (ds_ret (pd_ix (pd_lst (da_cons (pd_v 3) (da_cons (pd_tup (da_cons (pd_str) (da_cons (pd_v 2) (da_cons (pd_v 3) (da_nil))))) (da_cons (pd_tup (da_cons (pd_str) (da_cons (pd_callD G__law_word bi__law_word (hr.mono (by decide)) tk (da_cons (pd_v 0) (da_nil))) (da_nil)))) (da_nil))))) (pd_v 1))))))
theorem ok__law_answer_written (T : Tx w K mg) : DefOk P w K mg base 1 "_law_answer_written" "_law_answer_written" s__law_answer_written ["_law_answer_here"] sp__law_answer_written := by
  refine def_ok (r := rd__law_answer_written) T.f__law_answer_written sc__law_answer_written ln__law_answer_written (fun f cdv A outer s H E hr => ?_) pu__law_answer_written
  have tk : Takes (cxOf (L2.CX P w) P w K mg base N__law_answer_written "_law_answer_written" (defScope s__law_answer_written) f cdv A outer s H E) (fun c d _ H => E c d H) := takes_of rfl rfl rfl rfl
  exact dss_cons (ds_if (dt_tru (pd_isi T.b_isinstance bb_isinstance (da_cons (pd_v 0) (da_cons (pd_ty T.b_int bb_int) (da_nil))))) (dss_one (ds_ret (pd_strOf T.b_str bb_str (da_cons (pd_v 0) (da_nil))))) (dss_nil))
    (dss_cons (ds_if (dt_eq hr.units (pd_ix (pd_v 0) (pd_int)) (pd_str)) (dss_one (ds_ret (pd_add (pd_str) (pd_ix (pd_v 0) (pd_int))))) (dss_nil))
    (dss_cons (ds_if (dt_ge (pd_ix (pd_v 0) (pd_int)) (pd_int)) (dss_one (ds_ret (pd_add (pd_add (pd_add (pd_str) (pd_strOf T.b_str bb_str (da_cons (pd_ix (pd_v 0) (pd_int)) (da_nil)))) (pd_str)) (pd_strOf T.b_str bb_str (da_cons (pd_ix (pd_v 0) (pd_int)) (da_nil)))))) (dss_nil))
    (dss_one (ds_ret (pd_add (pd_add (pd_str) (pd_strOf T.b_str bb_str (da_cons (pd_ix (pd_v 0) (pd_int)) (da_nil)))) (pd_strOf T.b_str bb_str (da_cons (pd_ix (pd_v 0) (pd_int)) (da_nil))))))))
theorem ok__law_call_written (T : Tx w K mg) (G__law_written : DefOk P w K mg base 2 "_law_written" "_law_written" s__law_written ["_law_look_here"] (sp__law_written 2)) : DefOk P w K mg base 3 "_law_call_written" "_law_call_written" s__law_call_written ["_law_deed", "_law_looks", "_law_part"] sp__law_call_written := by
  refine def_ok (r := rd__law_call_written) T.f__law_call_written sc__law_call_written ln__law_call_written (fun f cdv A outer s H E hr => ?_) pu__law_call_written
  have tk : Takes (cxOf (L2.CX P w) P w K mg base N__law_call_written "_law_call_written" (defScope s__law_call_written) f cdv A outer s H E) (fun c d _ H => E c d H) := takes_of rfl rfl rfl rfl
  exact dss_cons (ds_set (i := 3) sc__law_call_written.nd (pd_v 0))
    (dss_cons (ds_if (dt_isN (pd_v 0) (pd_non)) (dss_one (ds_set (i := 3) sc__law_call_written.nd (pd_str))) (dss_nil))
    (dss_cons (ds_set (i := 4) sc__law_call_written.nd (pd_str))
    (dss_cons (ds_if (dt_notN (pd_v 1) (pd_non)) (dss_one (ds_set (i := 4) sc__law_call_written.nd (pd_join (pd_str) (pd_lc rfl sc__law_call_written.nd (di_any (pd_v 1)) (blkOk_by (own := [("_law_look_here", 5)]) (N := N__law_call_written) (sc := defScope s__law_call_written) (by decide +kernel)) (gN_ok) rfl (fun _ _ _ _ _ => pg_name (i := 5) sc__law_call_written.nd rfl (by first | exact Or.inl rfl | exact Or.inr rfl)) (fun _ _ _ _ _ => dts_nil) (fun _ _ _ _ _ => pd_callD G__law_written bi__law_written (hr.mono (by decide)) takes0 (da_cons (pd_v 5) (da_nil))))))) (dss_nil))
    (dss_one (ds_ret (pd_add (pd_add (pd_add (pd_add (pd_add (pd_v 2) (pd_str)) (pd_v 3)) (pd_str)) (pd_v 4)) (pd_str)))))))
theorem ok__law_is_name (T : Tx w K mg) : DefOk P w K mg base 1 "_law_is_name" "_law_is_name" s__law_is_name ["_law_word_here"] sp__law_is_name_v2 := by
  refine def_ok (r := rd__law_is_name_v2) T.f__law_is_name sc__law_is_name ln__law_is_name_v2 (fun f cdv A outer s H E hr => ?_) pu__law_is_name_v2
  have tk : Takes (cxOf (L2.CX P w) P w K mg base N__law_is_name "_law_is_name" (defScope s__law_is_name) f cdv A outer s H E) (fun c d _ H => E c d H) := takes_of rfl rfl rfl rfl
  exact dss_cons (ds_setLc (i := 1) rfl sc__law_is_name.nd (sw_true rfl rfl rfl (by decide +kernel)) (di_any (pd_v 0)) (blkOk_by (own := [("_law_sign", 2)]) (N := N__law_is_name) (sc := defScope s__law_is_name) (by decide +kernel)) (gN_ok) rfl (fun _ _ _ _ _ => pg_name (i := 2) sc__law_is_name.nd rfl (by first | exact Or.inl rfl | exact Or.inr rfl)) (fun _ _ _ _ _ => dts_one (dt_notIn (units65 hr) (pd_v 2) (pd_str))) (fun _ _ _ _ _ => pd_v 2))
    (dss_one (ds_ret (pd_and (pd_eq hr.units (pd_v 1) (pd_lst (da_nil))) (pd_and (pd_gt (pd_len T.b_len bb_len (da_cons (pd_v 0) (da_nil))) (pd_int)) (pd_one (pd_lt (pd_len T.b_len bb_len (da_cons (pd_v 0) (da_nil))) (pd_int)))))))
theorem ok__law_number (T : Tx w K mg) : DefOk P w K mg base 1 "_law_number" "_law_number" s__law_number ["_law_word_here"] sp__law_number_v2 := by
  refine def_ok (r := rd__law_number_v2) T.f__law_number sc__law_number ln__law_number_v2 (fun f cdv A outer s H E hr => ?_) pu__law_number_v2
  have tk : Takes (cxOf (L2.CX P w) P w K mg base N__law_number "_law_number" (defScope s__law_number) f cdv A outer s H E) (fun c d _ H => E c d H) := takes_of rfl rfl rfl rfl
  exact dss_cons (ds_set (i := 1) sc__law_number.nd (pd_eq hr.units (pd_sl (pd_v 0) dp_none (dp_some (pd_int))) (pd_str)))
    (dss_cons (ds_set (i := 2) sc__law_number.nd (pd_sl (pd_v 0) (dp_some (pd_intT T.b_int bb_int (da_cons (pd_v 1) (da_nil)))) dp_none))
    (dss_cons (ds_if (PW.pt (dw_or (dt_lt (pd_len T.b_len bb_len (da_cons (pd_v 2) (da_nil))) (pd_int)) (dw_or1 (dt_gt (pd_len T.b_len bb_len (da_cons (pd_v 2) (da_nil))) (pd_int))))) (dss_one (ds_ret (pd_non))) (dss_nil))
    (dss_cons (ds_if (dt_ne hr.units (pd_lc rfl sc__law_number.nd (di_any (pd_v 2)) (blkOk_by (own := [("_law_sign", 3)]) (N := N__law_number) (sc := defScope s__law_number) (by decide +kernel)) (gN_ok) rfl (fun _ _ _ _ _ => pg_name (i := 3) sc__law_number.nd rfl (by first | exact Or.inl rfl | exact Or.inr rfl)) (fun _ _ _ _ _ => dts_one (dt_notIn (units65 hr) (pd_v 3) (pd_str))) (fun _ _ _ _ _ => pd_v 3)) (pd_lst (da_nil))) (dss_one (ds_ret (pd_non))) (dss_nil))
    (dss_cons (ds_if (PW.pt (dw_and (dt_eq hr.units (pd_ix (pd_v 2) (pd_int)) (pd_str)) (dw_and1 (dt_ne hr.units (pd_v 0) (pd_str))))) (dss_one (ds_ret (pd_non))) (dss_nil))
    (dss_one (ds_ret (pd_mul (pd_intT T.b_int bb_int (da_cons (pd_v 2) (da_nil))) (pd_sub (pd_int) (pd_mul (pd_int) (pd_intT T.b_int bb_int (da_cons (pd_v 1) (da_nil))))))))))))
theorem ok__law_plain_read (T : Tx w K mg) (G__law_number : DefOk P w K mg base 1 "_law_number" "_law_number" s__law_number ["_law_word_here"] sp__law_number_v2) : DefOk P w K mg base 2 "_law_plain_read" "_law_plain_read" s__law_plain_read ["_law_word_here"] sp__law_plain_read_v2 := by
  refine def_ok (r := rd__law_plain_read_v2) T.f__law_plain_read sc__law_plain_read ln__law_plain_read_v2 (fun f cdv A outer s H E hr => ?_) pu__law_plain_read_v2
  have tk : Takes (cxOf (L2.CX P w) P w K mg base N__law_plain_read "_law_plain_read" (defScope s__law_plain_read) f cdv A outer s H E) (fun c d _ H => E c d H) := takes_of rfl rfl rfl rfl
  exact dss_cons (ds_if (dt_eq hr.units (pd_v 0) (pd_str)) (dss_one (ds_ret (pd_tup (da_cons (pd_str) (da_nil))))) (dss_nil))
    (dss_cons (ds_if (dt_eq hr.units (pd_sl (pd_v 0) dp_none (dp_some (pd_int))) (pd_str)) (dss_cons (ds_set (i := 1) sc__law_plain_read.nd (pd_lc rfl sc__law_plain_read.nd (di_any (pd_split (pd_sl (pd_v 0) (dp_some (pd_int)) (dp_some (pd_neg (pd_int)))) (pd_str))) (blkOk_by (own := [("_law_part", 6)]) (N := N__law_plain_read) (sc := defScope s__law_plain_read) (by decide +kernel)) (gN_ok) rfl (fun _ _ _ _ _ => pg_name (i := 6) sc__law_plain_read.nd rfl (by first | exact Or.inl rfl | exact Or.inr rfl)) (fun _ _ _ _ _ => dts_nil) (fun _ _ _ _ _ => pd_callD G__law_number bi__law_number (hr.mono (by decide)) takes0 (da_cons (pd_v 6) (da_nil)))))
    (dss_cons (ds_if (dt_eq hr.units (pd_v 0) (pd_str)) (dss_one (ds_set (i := 1) sc__law_plain_read.nd (pd_lst (da_nil)))) (dss_nil))
    (dss_cons (ds_if (PW.pt (dw_or (dt_ne hr.units (pd_ix (pd_v 0) (pd_neg (pd_int))) (pd_str)) (dw_or (dt_in (units65 hr) (pd_non) (pd_v 1)) (dw_or (dt_gt (pd_len T.b_len bb_len (da_cons (pd_v 1) (da_nil))) (pd_int)) (dw_or1 (dt_lt (pd_len T.b_len bb_len (da_cons (pd_v 0) (da_nil))) (pd_int))))))) (dss_one (ds_ret (pd_non))) (dss_nil))
    (dss_cons (ds_if (dt_ne hr.units (pd_lc rfl sc__law_plain_read.nd (di_range T.b_range (da_cons (pd_len T.b_len bb_len (da_cons (pd_v 1) (da_nil))) (da_nil))) (blkOk_by (own := [("_law_k", 7)]) (N := N__law_plain_read) (sc := defScope s__law_plain_read) (by decide +kernel)) (gN_ok) rfl (fun _ _ _ _ _ => pg_name (i := 7) sc__law_plain_read.nd rfl (by first | exact Or.inl rfl | exact Or.inr rfl)) (fun _ _ _ _ _ => dts_one (dt_in (units65 hr) (pd_ix (pd_v 1) (pd_v 7)) (pd_sl (pd_v 1) dp_none (dp_some (pd_v 7))))) (fun _ _ _ _ _ => pd_v 7)) (pd_lst (da_nil))) (dss_one (ds_ret (pd_non))) (dss_nil))
    (dss_one (ds_ret (pd_tup (da_cons (pd_str) (da_cons (pd_tupleOf T.b_tuple bb_tuple (da_cons (pd_v 1) (da_nil))) (da_nil)))))))))) (dss_nil))
    (dss_cons (ds_tup (pd_parti (pd_v 0) (pd_str)) (pg_tup rfl (dgs_cons (pg_name (i := 2) sc__law_plain_read.nd rfl (by first | exact Or.inl rfl | exact Or.inr rfl)) (dgs_cons (pg_name (i := 3) sc__law_plain_read.nd rfl (by first | exact Or.inl rfl | exact Or.inr rfl)) (dgs_cons (pg_name (i := 4) sc__law_plain_read.nd rfl (by first | exact Or.inl rfl | exact Or.inr rfl)) (dgs_nil))))) (gT_ok (js := [2, 3, 4])))
    (dss_cons (ds_if (dt_eq hr.units (pd_v 3) (pd_str)) (dss_one (ds_set (i := 5) sc__law_plain_read.nd (pd_tup (da_cons (pd_str) (da_cons (pd_callD G__law_number bi__law_number (hr.mono (by decide)) tk (da_cons (pd_v 2) (da_nil))) (da_nil)))))) (dss_one (ds_if (dt_eq hr.units (pd_v 2) (pd_str)) (dss_one (ds_set (i := 5) sc__law_plain_read.nd (pd_tup (da_cons (pd_str) (da_cons (pd_callD G__law_number bi__law_number (hr.mono (by decide)) tk (da_cons (pd_v 4) (da_nil))) (da_nil)))))) (dss_one (ds_if (dt_eq hr.units (pd_v 4) (pd_str)) (dss_one (ds_set (i := 5) sc__law_plain_read.nd (pd_tup (da_cons (pd_str) (da_cons (pd_callD G__law_number bi__law_number (hr.mono (by decide)) tk (da_cons (pd_v 2) (da_nil))) (da_nil)))))) (dss_one (ds_set (i := 5) sc__law_plain_read.nd (pd_tup (da_cons (pd_str) (da_cons (pd_callD G__law_number bi__law_number (hr.mono (by decide)) tk (da_cons (pd_v 2) (da_nil))) (da_cons (pd_callD G__law_number bi__law_number (hr.mono (by decide)) tk (da_cons (pd_v 4) (da_nil))) (da_nil))))))))))))
    (dss_cons (ds_if (dt_in (units65 hr) (pd_non) (pd_v 5)) (dss_one (ds_ret (pd_non))) (dss_nil))
    (dss_one (ds_ret (pd_v 5)))))))
theorem ok__law_looks_read (T : Tx w K mg) (G__law_plain_read : DefOk P w K mg base 2 "_law_plain_read" "_law_plain_read" s__law_plain_read ["_law_word_here"] sp__law_plain_read_v2) : DefOk P w K mg base 3 "_law_looks_read" "_law_looks_read" s__law_looks_read ["_law_word_here"] sp__law_looks_read := by
  refine def_ok (r := rd__law_looks_read) T.f__law_looks_read sc__law_looks_read ln__law_looks_read (fun f cdv A outer s H E hr => ?_) pu__law_looks_read
  have tk : Takes (cxOf (L2.CX P w) P w K mg base N__law_looks_read "_law_looks_read" (defScope s__law_looks_read) f cdv A outer s H E) (fun c d _ H => E c d H) := takes_of rfl rfl rfl rfl
  exact dss_cons (ds_if (dt_eq hr.units (pd_v 0) (pd_str)) (dss_one (ds_ret (pd_tup (da_nil)))) (dss_nil))
    (dss_cons (ds_set (i := 1) sc__law_looks_read.nd (pd_lstM (da_nil)))
    (dss_cons (ds_set (i := 2) sc__law_looks_read.nd (pd_int))
    (dss_cons (ds_set (i := 3) sc__law_looks_read.nd (pd_int))
    (dss_cons (ds_for (passes_of rfl) rfl (di_range T.b_range (da_cons (pd_add (pd_len T.b_len bb_len (da_cons (pd_v 0) (da_nil))) (pd_int)) (da_nil))) (pg_name (i := 4) sc__law_looks_read.nd rfl (by first | exact Or.inl rfl | exact Or.inr rfl)) (gN_ok) (dss_one (ds_if (PW.pt (dw_or (dt_eq hr.units (pd_v 4) (pd_len T.b_len bb_len (da_cons (pd_v 0) (da_nil)))) (dw_or1 (PW.pt (dw_and (dt_eq hr.units (pd_ix (pd_v 0) (pd_v 4)) (pd_str)) (dw_and1 (dt_eq hr.units (pd_v 2) (pd_int)))))))) (dss_cons (ds_set (i := 5) sc__law_looks_read.nd (pd_sl (pd_v 0) (dp_some (pd_v 3)) (dp_some (pd_v 4))))
    (dss_cons (ds_set (i := 6) sc__law_looks_read.nd (pd_intOf T.b_int bb_int (da_cons (pd_eq hr.units (pd_sl (pd_v 5) dp_none (dp_some (pd_int))) (pd_str)) (da_nil))))
    (dss_cons (ds_set (i := 7) sc__law_looks_read.nd (pd_callD G__law_plain_read bi__law_plain_read (hr.mono (by decide)) tk (da_cons (pd_sl (pd_v 5) (dp_some (pd_v 6)) dp_none) (da_nil))))
    (dss_cons (ds_if (PW.pt (dw_and (dt_eq hr.units (pd_v 6) (pd_int)) (dw_and1 (dt_notN (pd_v 7) (pd_non))))) (dss_one (ds_set (i := 7) sc__law_looks_read.nd (pd_tup (da_cons (pd_str) (da_cons (pd_v 7) (da_nil)))))) (dss_nil))
    (dss_cons (ds_expr (pd_app (pd_v 1) (pd_v 7)))
    (dss_one (ds_set (i := 3) sc__law_looks_read.nd (pd_add (pd_v 4) (pd_int))))))))) (dss_one (ds_if (dt_eq hr.units (pd_ix (pd_v 0) (pd_v 4)) (pd_str)) (dss_one (ds_set (i := 2) sc__law_looks_read.nd (pd_add (pd_v 2) (pd_int)))) (dss_one (ds_if (dt_eq hr.units (pd_ix (pd_v 0) (pd_v 4)) (pd_str)) (dss_one (ds_set (i := 2) sc__law_looks_read.nd (pd_sub (pd_v 2) (pd_int)))) (dss_nil))))))))
    (dss_cons (ds_if (PW.pt (dw_or (dt_in (units65 hr) (pd_non) (pd_v 1)) (dw_or1 (dt_gt (pd_len T.b_len bb_len (da_cons (pd_v 1) (da_nil))) (pd_int))))) (dss_one (ds_ret (pd_non))) (dss_nil))
    (dss_one (ds_ret (pd_tupleOf T.b_tuple bb_tuple (da_cons (pd_v 1) (da_nil))))))))))
theorem ok__law_answer_read (T : Tx w K mg) (G__law_is_name : DefOk P w K mg base 1 "_law_is_name" "_law_is_name" s__law_is_name ["_law_word_here"] sp__law_is_name_v2) (G__law_number : DefOk P w K mg base 1 "_law_number" "_law_number" s__law_number ["_law_word_here"] sp__law_number_v2) : DefOk P w K mg base 2 "_law_answer_read" "_law_answer_read" s__law_answer_read ["_law_word_here"] sp__law_answer_read := by
  refine def_ok (r := rd__law_answer_read) T.f__law_answer_read sc__law_answer_read ln__law_answer_read (fun f cdv A outer s H E hr => ?_) pu__law_answer_read
  have tk : Takes (cxOf (L2.CX P w) P w K mg base N__law_answer_read "_law_answer_read" (defScope s__law_answer_read) f cdv A outer s H E) (fun c d _ H => E c d H) := takes_of rfl rfl rfl rfl
  exact dss_cons (ds_if (dt_eq hr.units (pd_sl (pd_v 0) dp_none (dp_some (pd_int))) (pd_str)) (dss_cons (ds_if (dt_not (dt_tru (pd_callD G__law_is_name bi__law_is_name (hr.mono (by decide)) tk (da_cons (pd_sl (pd_v 0) (dp_some (pd_int)) dp_none) (da_nil))))) (dss_one (ds_ret (pd_non))) (dss_nil))
    (dss_one (ds_ret (pd_tup (da_cons (pd_str) (da_cons (pd_sl (pd_v 0) (dp_some (pd_int)) dp_none) (da_nil))))))) (dss_nil))
    (dss_cons (ds_if (dt_ne hr.units (pd_sl (pd_v 0) dp_none (dp_some (pd_int))) (pd_str)) (dss_one (ds_ret (pd_callD G__law_number bi__law_number (hr.mono (by decide)) tk (da_cons (pd_v 0) (da_nil))))) (dss_nil))
    (dss_cons (ds_set (i := 1) sc__law_answer_read.nd (pd_sl (pd_v 0) (dp_some (pd_int)) dp_none))
    (dss_cons (ds_if (PW.pt (dw_or (dt_notIn (units65 hr) (pd_sl (pd_v 0) (dp_some (pd_int)) (dp_some (pd_int))) (pd_lst (da_cons (pd_str) (da_cons (pd_str) (da_nil))))) (dw_or1 (dt_notIn (units65 hr) (pd_sl (pd_v 1) dp_none (dp_some (pd_int))) (pd_lst (da_cons (pd_str) (da_cons (pd_str) (da_nil)))))))) (dss_one (ds_ret (pd_non))) (dss_nil))
    (dss_cons (ds_if (dt_eq hr.units (pd_sl (pd_v 1) dp_none (dp_some (pd_int))) (pd_str)) (dss_cons (ds_set (i := 1) sc__law_answer_read.nd (pd_sl (pd_v 1) (dp_some (pd_int)) dp_none))
    (dss_one (ds_if (dt_eq hr.units (pd_sl (pd_v 1) dp_none (dp_some (pd_int))) (pd_str)) (dss_one (ds_ret (pd_non))) (dss_nil)))) (dss_nil))
    (dss_cons (ds_set (i := 2) sc__law_answer_read.nd (pd_callD G__law_number bi__law_number (hr.mono (by decide)) tk (da_cons (pd_v 1) (da_nil))))
    (dss_cons (ds_if (dt_isN (pd_v 2) (pd_non)) (dss_one (ds_ret (pd_non))) (dss_nil))
    (dss_one (ds_ret (pd_tup (da_cons (pd_str) (da_cons (pd_intT T.b_int bb_int (da_cons (pd_sl (pd_v 0) (dp_some (pd_int)) (dp_some (pd_int))) (da_nil))) (da_cons (pd_v 2) (da_nil)))))))))))))
theorem ok__law_rule_read (T : Tx w K mg) (G__law_is_name : DefOk P w K mg base 1 "_law_is_name" "_law_is_name" s__law_is_name ["_law_word_here"] sp__law_is_name_v2) (G__law_looks_read : DefOk P w K mg base 3 "_law_looks_read" "_law_looks_read" s__law_looks_read ["_law_word_here"] sp__law_looks_read) (G__law_answer_read : DefOk P w K mg base 2 "_law_answer_read" "_law_answer_read" s__law_answer_read ["_law_word_here"] sp__law_answer_read) : DefOk P w K mg base 4 "_law_rule_read" "_law_rule_read" s__law_rule_read ["_law_line"] sp__law_rule_read := by
  refine def_ok (r := rd__law_rule_read) T.f__law_rule_read sc__law_rule_read ln__law_rule_read (fun f cdv A outer s H E hr => ?_) pu__law_rule_read
  have tk : Takes (cxOf (L2.CX P w) P w K mg base N__law_rule_read "_law_rule_read" (defScope s__law_rule_read) f cdv A outer s H E) (fun c d _ H => E c d H) := takes_of rfl rfl rfl rfl
  exact dss_cons (ds_set (i := 1) sc__law_rule_read.nd (pd_split (pd_v 0) (pd_str)))
    (dss_cons (ds_if (PW.pt (dw_or (dt_ne hr.units (pd_len T.b_len bb_len (da_cons (pd_v 1) (da_nil))) (pd_int)) (dw_or (dt_ne hr.units (pd_sl (pd_ix (pd_v 1) (pd_int)) (dp_some (pd_neg (pd_int))) dp_none) (pd_str)) (dw_or1 (dt_notIn (units65 hr) (pd_ix (pd_v 1) (pd_int)) (pd_lst (da_cons (pd_str) (da_cons (pd_str) (da_cons (pd_str) (da_nil)))))))))) (dss_one (ds_ret (pd_non))) (dss_nil))
    (dss_cons (ds_tup (pd_parti (pd_sl (pd_ix (pd_v 1) (pd_int)) dp_none (dp_some (pd_neg (pd_int)))) (pd_str)) (pg_tup rfl (dgs_cons (pg_name (i := 4) sc__law_rule_read.nd rfl (by first | exact Or.inl rfl | exact Or.inr rfl)) (dgs_cons (pg_name (i := 5) sc__law_rule_read.nd rfl (by first | exact Or.inl rfl | exact Or.inr rfl)) (dgs_cons (pg_name (i := 6) sc__law_rule_read.nd rfl (by first | exact Or.inl rfl | exact Or.inr rfl)) (dgs_nil))))) (gT_ok (js := [4, 5, 6])))
    (dss_cons (ds_tup (pd_parti (pd_v 4) (pd_str)) (pg_tup rfl (dgs_cons (pg_name (i := 7) sc__law_rule_read.nd rfl (by first | exact Or.inl rfl | exact Or.inr rfl)) (dgs_cons (pg_name (i := 8) sc__law_rule_read.nd rfl (by first | exact Or.inl rfl | exact Or.inr rfl)) (dgs_cons (pg_name (i := 9) sc__law_rule_read.nd rfl (by first | exact Or.inl rfl | exact Or.inr rfl)) (dgs_nil))))) (gT_ok (js := [7, 8, 9])))
    (dss_cons (ds_if (PW.pt (dw_or (dt_eq hr.units (pd_v 5) (pd_str)) (dw_or (dt_not (dt_tru (pd_callD G__law_is_name bi__law_is_name (hr.mono (by decide)) tk (da_cons (pd_v 7) (da_nil))))) (dw_or1 (PW.pt (dw_and (dt_ne hr.units (pd_v 9) (pd_str)) (dw_and1 (dt_not (dt_tru (pd_callD G__law_is_name bi__law_is_name (hr.mono (by decide)) tk (da_cons (pd_v 9) (da_nil)))))))))))) (dss_one (ds_ret (pd_non))) (dss_nil))
    (dss_cons (ds_set (i := 2) sc__law_rule_read.nd (pd_non))
    (dss_cons (ds_if (dt_ne hr.units (pd_v 6) (pd_str)) (dss_cons (ds_set (i := 2) sc__law_rule_read.nd (pd_callD G__law_looks_read bi__law_looks_read (hr.mono (by decide)) tk (da_cons (pd_v 6) (da_nil))))
    (dss_one (ds_if (dt_isN (pd_v 2) (pd_non)) (dss_one (ds_ret (pd_non))) (dss_nil)))) (dss_nil))
    (dss_cons (ds_if (dt_eq hr.units (pd_v 9) (pd_str)) (dss_one (ds_set (i := 9) sc__law_rule_read.nd (pd_non))) (dss_nil))
    (dss_cons (ds_setLc (i := 3) rfl sc__law_rule_read.nd (sw_true rfl rfl rfl (by decide +kernel)) (di_any (pd_split (pd_ix (pd_v 1) (pd_int)) (pd_str))) (blkOk_by (own := [("_law_word_here", 10)]) (N := N__law_rule_read) (sc := defScope s__law_rule_read) (by decide +kernel)) (gN_ok) rfl (fun _ _ _ _ _ => pg_name (i := 10) sc__law_rule_read.nd rfl (by first | exact Or.inl rfl | exact Or.inr rfl)) (fun _ _ _ _ _ => dts_nil) (fun _ _ _ _ _ => pd_callD G__law_answer_read bi__law_answer_read (hr.mono (by decide)) takes0 (da_cons (pd_v 10) (da_nil))))
    (dss_cons (ds_if (PW.pt (dw_or (dt_in (units65 hr) (pd_non) (pd_v 3)) (dw_or1 (dt_gt (pd_len T.b_len bb_len (da_cons (pd_v 3) (da_nil))) (pd_int))))) (dss_one (ds_ret (pd_non))) (dss_nil))
    (dss_one (ds_ret (pd_tup (da_cons (pd_v 7) (da_cons (pd_v 9) (da_cons (pd_v 2) (da_cons (pd_tupleOf T.b_tuple bb_tuple (da_cons (pd_v 3) (da_nil))) (da_cons (pd_ix (pd_v 1) (pd_int)) (da_nil))))))))))))))))))
theorem ok__law_bent (T : Tx w K mg) (G__law_draw : DefOk P w K mg base 1 "_law_draw" "_law_draw" s__law_draw ["_law_well", "_law_many"] sp__law_draw_v2) (G__law_pick : DefOk P w K mg base 2 "_law_pick" "_law_pick" s__law_pick ["_law_well", "_law_some"] sp__law_pick_v2) : DefOk P w K mg base 3 "_law_bent" "_law_bent" s__law_bent ["_law_well", "_law_word_here"] sp__law_bent_v4 := by
  refine def_ok (r := rd__law_bent_v4) T.f__law_bent sc__law_bent ln__law_bent_v4 (fun f cdv A outer s H E hr => ?_) pu__law_bent_v4
  have tk : Takes (cxOf (L2.CX P w) P w K mg base N__law_bent "_law_bent" (defScope s__law_bent) f cdv A outer s H E) (fun c d _ H => E c d H) := takes_of rfl rfl rfl rfl
  exact dss_cons (ds_set (i := 2) sc__law_bent.nd (pd_callD G__law_draw bi__law_draw (hr.mono (by decide)) tk (da_cons (pd_v 0) (da_cons (pd_int) (da_nil)))))
    (dss_cons (ds_set (i := 3) sc__law_bent.nd (pd_callD G__law_draw bi__law_draw (hr.mono (by decide)) tk (da_cons (pd_v 0) (da_cons (pd_add (pd_len T.b_len bb_len (da_cons (pd_v 1) (da_nil))) (pd_int)) (da_nil)))))
    (dss_cons (ds_set (i := 4) sc__law_bent.nd (pd_str))
    (dss_cons (ds_set (i := 5) sc__law_bent.nd (pd_ix (pd_lst (da_cons (pd_callD G__law_pick bi__law_pick (hr.mono (by decide)) tk (da_cons (pd_v 0) (da_cons (pd_v 4) (da_nil)))) (da_cons (pd_callD G__law_pick bi__law_pick (hr.mono (by decide)) tk (da_cons (pd_v 0) (da_cons (pd_str) (da_nil)))) (da_nil)))) (pd_callD G__law_draw bi__law_draw (hr.mono (by decide)) tk (da_cons (pd_v 0) (da_cons (pd_int) (da_nil))))))
    (dss_cons (ds_set (i := 6) sc__law_bent.nd (pd_lst (da_cons (pd_v 1) (da_cons (pd_add (pd_add (pd_sl (pd_v 1) dp_none (dp_some (pd_v 3))) (pd_v 5)) (pd_sl (pd_v 1) (dp_some (pd_v 3)) dp_none)) (da_cons (pd_add (pd_sl (pd_v 1) dp_none (dp_some (pd_v 3))) (pd_sl (pd_v 1) (dp_some (pd_add (pd_v 3) (pd_int))) dp_none)) (da_cons (pd_add (pd_add (pd_sl (pd_v 1) dp_none (dp_some (pd_v 3))) (pd_v 5)) (pd_sl (pd_v 1) (dp_some (pd_v 3)) dp_none)) (da_nil)))))))
    (dss_cons (ds_set (i := 7) sc__law_bent.nd (pd_add (pd_sl (pd_v 1) (dp_some (pd_add (pd_v 3) (pd_int))) (dp_some (pd_add (pd_v 3) (pd_int)))) (pd_sl (pd_v 1) (dp_some (pd_v 3)) (dp_some (pd_add (pd_v 3) (pd_int))))))
    (dss_cons (ds_set (i := 6) sc__law_bent.nd (pd_add (pd_v 6) (pd_lst (da_cons (pd_add (pd_add (pd_sl (pd_v 1) dp_none (dp_some (pd_v 3))) (pd_v 5)) (pd_sl (pd_v 1) (dp_some (pd_add (pd_v 3) (pd_int))) dp_none)) (da_cons (pd_add (pd_add (pd_sl (pd_v 1) dp_none (dp_some (pd_v 3))) (pd_v 7)) (pd_sl (pd_v 1) (dp_some (pd_add (pd_v 3) (pd_int))) dp_none)) (da_nil))))))
    (dss_cons (ds_set (i := 6) sc__law_bent.nd (pd_add (pd_v 6) (pd_lst (da_cons (pd_add (pd_add (pd_sl (pd_v 1) dp_none (dp_some (pd_v 3))) (pd_mulS (pd_str) (pd_int))) (pd_sl (pd_v 1) (dp_some (pd_v 3)) dp_none)) (da_cons (pd_add (pd_v 1) (pd_str)) (da_nil))))))
    (dss_one (ds_ret (pd_ix (pd_v 6) (pd_v 2)))))))))))
theorem ok__law_told (T : Tx w K mg) (G_rule_text : DefOk P w K mg base 4 "rule_text" "rule_text" s_rule_text ["rule"] sp_rule_text) (G_read_rule : DefOk P w K mg base 9 "read_rule" "read_rule" s_read_rule ["text"] sp_read_rule) : DefOk P w K mg base 10 "_law_told" "_law_told" s__law_told ["_law_line"] sp__law_told_v9 := by
  refine def_ok (r := rd__law_told_v9) T.f__law_told sc__law_told ln__law_told_v9 (fun f cdv A outer s H E hr => ?_) pu__law_told_v9
  have tk : Takes (cxOf (L2.CX P w) P w K mg base N__law_told "_law_told" (defScope s__law_told) f cdv A outer s H E) (fun c d _ H => E c d H) := takes_of rfl rfl rfl rfl
  exact dss_cons (ds_tryA (i := 1) rfl rfl sc__law_told.nd T.ea_BadText tk (fun _ _ _ tk _ => dss_one (ds_set (i := 2) sc__law_told.nd (pd_callD G_read_rule bi_read_rule (hr.mono (by decide)) tk (da_cons (pd_v 0) (da_nil))))) (fun xa oe xc xd pn hz hf => dss_cons (ds_if (dt_tru (pd_isX T.xc T.xi hz hf T.b_isinstance bb_isinstance (da_cons (pd_v 1) (da_cons (pd_gl T.g_BadRule) (da_nil))))) (dss_one (ds_ret (pd_tup (da_cons (pd_str) (da_nil))))) (dss_nil))
    (dss_one (ds_ret (pd_tup (da_cons (pd_str) (da_cons (pd_xf T.xc T.xn_line hz hf (pd_v 1)) (da_nil))))))))
    (dss_cons (ds_if (PW.pt (dw_or (dt_not (dt_tru (pd_isG T.iso T.b_isinstance bb_isinstance (da_cons (pd_v 2) (da_cons (pd_gl T.g_Rule) (da_nil)))))) (dw_or1 (dt_ne hr.units (pd_callD G_rule_text bi_rule_text (hr.mono (by decide)) tk (da_cons (pd_v 2) (da_nil))) (pd_v 0))))) (dss_one (ds_ret (pd_tup (da_cons (pd_str) (da_nil))))) (dss_nil))
    (dss_one (ds_ret (pd_tup (da_cons (pd_str) (da_cons (pd_tup (da_cons (pd_fld T.fl_Rule_part (pd_v 2)) (da_cons (pd_fld T.fl_Rule_deed (pd_v 2)) (da_cons (pd_fld T.fl_Rule_looks (pd_v 2)) (da_cons (pd_fld T.fl_Rule_answers (pd_v 2)) (da_cons (pd_fld T.fl_Rule_then (pd_v 2)) (da_nil))))))) (da_nil)))))))
theorem ok__law_due (T : Tx w K mg) (G__law_rule_read : DefOk P w K mg base 4 "_law_rule_read" "_law_rule_read" s__law_rule_read ["_law_line"] sp__law_rule_read) : DefOk P w K mg base 5 "_law_due" "_law_due" s__law_due ["_law_line"] sp__law_due_v11 := by
  refine def_ok (r := rd__law_due_v11) T.f__law_due sc__law_due ln__law_due_v11 (fun f cdv A outer s H E hr => ?_) pu__law_due_v11
  have tk : Takes (cxOf (L2.CX P w) P w K mg base N__law_due "_law_due" (defScope s__law_due) f cdv A outer s H E) (fun c d _ H => E c d H) := takes_of rfl rfl rfl rfl
  exact dss_cons (ds_set (i := 1) sc__law_due.nd (pd_callD G__law_rule_read bi__law_rule_read (hr.mono (by decide)) tk (da_cons (pd_v 0) (da_nil))))
    (dss_cons (ds_if (dt_isN (pd_v 1) (pd_non)) (dss_one (ds_ret (pd_tup (da_cons (pd_str) (da_cons (pd_int) (da_nil)))))) (dss_nil))
    (dss_one (ds_ret (pd_tup (da_cons (pd_str) (da_cons (pd_v 1) (da_nil)))))))
theorem ok_law (T : Tx w K mg) (G_Rule___init__ : MkG P w K mg base 6 "Rule" "Rule.__init__" s_Rule___init__ ["self", "part", "deed", "looks", "answers", "then"] [.non, .non] [("answers", .tup [.int 0]), ("then", .str "stay")] sp_Rule___init__) (G_rule_text : DefOk P w K mg base 4 "rule_text" "rule_text" s_rule_text ["rule"] sp_rule_text) (G_read_rule : DefOk P w K mg base 9 "read_rule" "read_rule" s_read_rule ["text"] sp_read_rule) (G__law_cell_at : DefOk P w K mg base 1 "_law_cell_at" "_law_cell_at" s__law_cell_at ["_law_script", "_law_k"] sp__law_cell_at) (G__law_spring : DefOk P w K mg base 1 "_law_spring" "_law_spring" s__law_spring ["_law_cell"] sp__law_spring) (G__law_draw : DefOk P w K mg base 1 "_law_draw" "_law_draw" s__law_draw ["_law_well", "_law_many"] sp__law_draw_v2) (G__law_pick : DefOk P w K mg base 2 "_law_pick" "_law_pick" s__law_pick ["_law_well", "_law_some"] sp__law_pick_v2) (G__law_word : DefOk P w K mg base 2 "_law_word" "_law_word" s__law_word ["_law_well"] sp__law_word_v6) (G__law_look : DefOk P w K mg base 3 "_law_look" "_law_look" s__law_look ["_law_well"] sp__law_look_v8) (G__law_answer : DefOk P w K mg base 3 "_law_answer" "_law_answer" s__law_answer ["_law_well"] sp__law_answer_v2) (G__law_answer_written : DefOk P w K mg base 1 "_law_answer_written" "_law_answer_written" s__law_answer_written ["_law_answer_here"] sp__law_answer_written) (G__law_call_written : DefOk P w K mg base 3 "_law_call_written" "_law_call_written" s__law_call_written ["_law_deed", "_law_looks", "_law_part"] sp__law_call_written) (G__law_bent : DefOk P w K mg base 3 "_law_bent" "_law_bent" s__law_bent ["_law_well", "_law_word_here"] sp__law_bent_v4) (G__law_told : DefOk P w K mg base 10 "_law_told" "_law_told" s__law_told ["_law_line"] sp__law_told_v9) (G__law_due : DefOk P w K mg base 5 "_law_due" "_law_due" s__law_due ["_law_line"] sp__law_due_v11) : DefOk P w K mg base 11 "law" "law" s_law ["_law_script"] spLaw := by
  refine def_ok (r := rd_law) T.f_law sc_law ln_law (fun f cdv A outer s H E hr => ?_) pu_law
  have tk : Takes (cxOf (L2.CX P w) P w K mg base N_law "law" (defScope s_law) f cdv A outer s H E) (fun c d _ H => E c d H) := takes_of rfl rfl rfl rfl
  exact dss_cons (ds_for (passes_of rfl) rfl (di_any (pd_add (pd_lst (da_cons (pd_callD G__law_cell_at bi__law_cell_at (hr.mono (by decide)) tk (da_cons (pd_v 0) (da_cons (pd_int) (da_nil)))) (da_nil))) (pd_sl (pd_v 0) (dp_some (pd_int)) (dp_some (pd_int))))) (pg_name (i := 1) sc_law.nd rfl (by first | exact Or.inl rfl | exact Or.inr rfl)) (gN_ok) (dss_cons (ds_set (i := 2) sc_law.nd (pd_callD G__law_spring bi__law_spring (hr.mono (by decide)) tk (da_cons (pd_v 1) (da_nil))))
    (dss_cons (ds_set (i := 3) sc_law.nd (pd_callD G__law_pick bi__law_pick (hr.mono (by decide)) tk (da_cons (pd_v 2) (da_cons (pd_lst (da_cons (pd_str) (da_cons (pd_str) (da_cons (pd_str) (da_nil))))) (da_nil)))))
    (dss_cons (ds_set (i := 4) sc_law.nd (pd_callD G__law_pick bi__law_pick (hr.mono (by decide)) tk (da_cons (pd_v 2) (da_cons (pd_lst (da_cons (pd_int) (da_cons (pd_non) (da_cons (pd_int) (da_cons (pd_int) (da_nil)))))) (da_nil)))))
    (dss_cons (ds_set (i := 5) sc_law.nd (pd_callD G__law_word bi__law_word (hr.mono (by decide)) tk (da_cons (pd_v 2) (da_nil))))
    (dss_cons (ds_set (i := 6) sc_law.nd (pd_callD G__law_pick bi__law_pick (hr.mono (by decide)) tk (da_cons (pd_v 2) (da_cons (pd_lst (da_cons (pd_callD G__law_word bi__law_word (hr.mono (by decide)) tk (da_cons (pd_v 2) (da_nil))) (da_cons (pd_non) (da_nil)))) (da_nil)))))
    (dss_cons (ds_set (i := 7) sc_law.nd (pd_non))
    (dss_cons (ds_if (dt_notN (pd_v 4) (pd_non)) (dss_one (ds_set (i := 7) sc_law.nd (pd_tupleOf T.b_tuple bb_tuple (da_cons (pd_lc rfl sc_law.nd (di_range T.b_range (da_cons (pd_v 4) (da_nil))) (blkOk_by (own := [("_law_k", 17)]) (N := N_law) (sc := defScope s_law) (by decide +kernel)) (gN_ok) rfl (fun _ _ _ _ _ => pg_name (i := 17) sc_law.nd rfl (by first | exact Or.inl rfl | exact Or.inr rfl)) (fun _ _ _ _ _ => dts_nil) (fun _ _ _ _ _ => pd_callD G__law_look bi__law_look (hr.mono (by decide)) takes0 (da_cons (pd_v 2) (da_nil)))) (da_nil))))) (dss_nil))
    (dss_cons (ds_set (i := 8) sc_law.nd (pd_tupleOf T.b_tuple bb_tuple (da_cons (pd_lc rfl sc_law.nd (di_range T.b_range (da_cons (pd_add (pd_int) (pd_callD G__law_draw bi__law_draw (hr.mono (by decide)) tk (da_cons (pd_v 2) (da_cons (pd_int) (da_nil))))) (da_nil))) (blkOk_by (own := [("_law_k", 17)]) (N := N_law) (sc := defScope s_law) (by decide +kernel)) (gN_ok) rfl (fun _ _ _ _ _ => pg_name (i := 17) sc_law.nd rfl (by first | exact Or.inl rfl | exact Or.inr rfl)) (fun _ _ _ _ _ => dts_nil) (fun _ _ _ _ _ => pd_callD G__law_answer bi__law_answer (hr.mono (by decide)) takes0 (da_cons (pd_v 2) (da_nil)))) (da_nil))))
    (dss_cons (ds_set (i := 9) sc_law.nd (pd_add (pd_add (pd_add (pd_callD G__law_call_written bi__law_call_written (hr.mono (by decide)) tk (da_cons (pd_v 6) (da_cons (pd_v 7) (da_cons (pd_v 5) (da_nil))))) (pd_str)) (pd_v 3)) (pd_str)))
    (dss_cons (ds_setLc (i := 10) rfl sc_law.nd (sw_true rfl rfl rfl (by decide +kernel)) (di_any (pd_v 8)) (blkOk_by (own := [("_law_answer_here", 16)]) (N := N_law) (sc := defScope s_law) (by decide +kernel)) (gN_ok) rfl (fun _ _ _ _ _ => pg_name (i := 16) sc_law.nd rfl (by first | exact Or.inl rfl | exact Or.inr rfl)) (fun _ _ _ _ _ => dts_nil) (fun _ _ _ _ _ => pd_callD G__law_answer_written bi__law_answer_written (hr.mono (by decide)) takes0 (da_cons (pd_v 16) (da_nil))))
    (dss_cons (ds_set (i := 11) sc_law.nd (pd_add (pd_v 9) (pd_join (pd_str) (pd_v 10))))
    (dss_cons (ds_set (i := 12) sc_law.nd (pd_mk G_Rule___init__ kb_Rule___init___0 (hr.mono (by decide)) tk (cal_cons (da_cons (pd_v 5) (da_cons (pd_v 6) (da_cons (pd_v 7) (da_nil)))) (dk_cons (pd_v 8) (dk_cons (pd_v 3) (dk_nil))))))
    (dss_cons (ds_if (PW.pt (dw_or (dt_ne hr.units (pd_callD G_rule_text bi_rule_text (hr.mono (by decide)) tk (da_cons (pd_v 12) (da_nil))) (pd_v 11)) (dw_or (dt_ne hr.units (pd_callDK0 G_rule_text bk_rule_text_0 (hr.mono (by decide)) tk (dk_cons (pd_v 12) (dk_nil))) (pd_v 11)) (dw_or1 (dt_ne hr.units (pd_fld T.fl_Rule_answers (pd_callDK0 G_read_rule bk_read_rule_1 (hr.mono (by decide)) tk (dk_cons (pd_v 11) (dk_nil)))) (pd_v 8)))))) (dss_one (ds_ret (pd_bl))) (dss_nil))
    (dss_cons (ds_if (dt_ne hr.units (pd_callD G__law_told bi__law_told (hr.mono (by decide)) tk (da_cons (pd_v 11) (da_nil))) (pd_tup (da_cons (pd_str) (da_cons (pd_tup (da_cons (pd_v 5) (da_cons (pd_v 6) (da_cons (pd_v 7) (da_cons (pd_v 8) (da_cons (pd_v 3) (da_nil))))))) (da_nil))))) (dss_one (ds_ret (pd_bl))) (dss_nil))
    (dss_cons (ds_set (i := 13) sc_law.nd (pd_callD G__law_draw bi__law_draw (hr.mono (by decide)) tk (da_cons (pd_v 2) (da_cons (pd_len T.b_len bb_len (da_cons (pd_v 8) (da_nil))) (da_nil)))))
    (dss_cons (ds_set (i := 14) sc_law.nd (pd_lst (da_cons (pd_str) (da_cons (pd_str) (da_cons (pd_str) (da_cons (pd_str) (da_cons (pd_str) (da_cons (pd_str) (da_cons (pd_str) (da_cons (pd_str) (da_cons (pd_str) (da_cons (pd_str) (da_cons (pd_str) (da_cons (pd_str) (da_cons (pd_str) (da_nil))))))))))))))))
    (dss_cons (ds_set (i := 14) sc_law.nd (pd_ix (pd_v 14) (pd_callD G__law_draw bi__law_draw (hr.mono (by decide)) tk (da_cons (pd_v 2) (da_cons (pd_int) (da_nil))))))
    (dss_cons (ds_set (i := 15) sc_law.nd (pd_lst (da_cons (pd_add (pd_v 9) (pd_join (pd_str) (pd_add (pd_add (pd_sl (pd_v 10) dp_none (dp_some (pd_v 13))) (pd_lst (da_cons (pd_v 14) (da_nil)))) (pd_sl (pd_v 10) (dp_some (pd_add (pd_v 13) (pd_int))) dp_none)))) (da_cons (pd_add (pd_v 9) (pd_join (pd_str) (pd_add (pd_sl (pd_v 10) dp_none (dp_some (pd_add (pd_v 13) (pd_int)))) (pd_sl (pd_v 10) (dp_some (pd_v 13)) dp_none)))) (da_nil)))))
    (dss_cons (ds_set (i := 15) sc_law.nd (pd_add (pd_v 15) (pd_lst (da_cons (pd_add (pd_v 9) (pd_join (pd_str) (pd_add (pd_sl (pd_v 10) dp_none (dp_some (pd_v 13))) (pd_sl (pd_v 10) (dp_some (pd_add (pd_v 13) (pd_int))) dp_none)))) (da_cons (pd_callD G__law_bent bi__law_bent (hr.mono (by decide)) tk (da_cons (pd_v 2) (da_cons (pd_v 11) (da_nil)))) (da_cons (pd_callD G__law_bent bi__law_bent (hr.mono (by decide)) tk (da_cons (pd_v 2) (da_cons (pd_v 11) (da_nil)))) (da_nil)))))))
    (dss_one (ds_if (dt_ne hr.units (pd_lc rfl sc_law.nd (di_any (pd_v 15)) (blkOk_by (own := [("_law_turned", 18)]) (N := N_law) (sc := defScope s_law) (by decide +kernel)) (gN_ok) rfl (fun _ _ _ _ _ => pg_name (i := 18) sc_law.nd rfl (by first | exact Or.inl rfl | exact Or.inr rfl)) (fun _ _ _ _ _ => dts_one (dt_ne hr.units (pd_callD G__law_told bi__law_told (hr.mono (by decide)) takes0 (da_cons (pd_v 18) (da_nil))) (pd_callD G__law_due bi__law_due (hr.mono (by decide)) takes0 (da_cons (pd_v 18) (da_nil))))) (fun _ _ _ _ _ => pd_v 18)) (pd_lst (da_nil))) (dss_one (ds_ret (pd_bl))) (dss_nil)))))))))))))))))))))))
    (dss_one (ds_ret (pd_bl)))
end
theorem all_ok {l : PySem.W.OpenLaw} {w : World} {K : PySem.W.Frag} {mg : Str → Option Value} {fa : Addr} (hfa : mg "law" = some (.ref fa)) (T : Tx w K mg) : ∃ fd : FuncData, (∀ (s : Shared) (u : Value), BindsTo s fd ⟨[u], []⟩ [("_law_script", u)]) ∧ ∀ base : Heap, K.In base → base.Ns mainGlobals mg → FnOk l.prog w K mg base (L2.CX l.prog w) 11 fa fd ["_law_script"] (lP ⟨K, w⟩ spLaw) := by
  refine law_mk bi_law T.f_law hfa fun base _ _ => ?_
  have X_BadRule : XMk l.prog w K mg base 1 "BadRule" ["self", "why"] spTE _ := xmk_of T.x_BadRule sc_TE fun f cdv A outer s H E => te_walk T.b_ValueError rfl T.vV (pv 0) (pv 1) (pv 0) (pv 1) rfl rfl rfl rfl rfl rfl
  have X_TrialError : XMk l.prog w K mg base 1 "TrialError" ["self", "why"] spTE _ := xmk_of T.x_TrialError sc_TE fun f cdv A outer s H E => te_walk T.b_ValueError rfl T.vV (pv 0) (pv 1) (pv 0) (pv 1) rfl rfl rfl rfl rfl rfl
  have XF_BadText : XMf l.prog w K mg base 2 "BadText" "line" "no such text" ["self", "line"] _ := xmf_of T.xf_BadText sc_XF_BadText fun f cdv A outer s H E hr => t1_walk rfl T.ci_TE X_TrialError bt_TE hr (pv 0) (pv 0) (pv 1) rfl rfl rfl rfl rfl rfl
  have G_is_whole := ok_is_whole (P := l.prog) (w := w) (base := base) T
  have G_is_name := ok_is_name (P := l.prog) (w := w) (base := base) T
  have G_are_unlike := ok_are_unlike (P := l.prog) (w := w) (base := base) T
  have G_is_then := ok_is_then (P := l.prog) (w := w) (base := base) T
  have G_number_in := ok_number_in (P := l.prog) (w := w) (base := base) T
  have G_within := ok_within (P := l.prog) (w := w) (base := base) T
  have G_pieces := ok_pieces (P := l.prog) (w := w) (base := base) T
  have G_call_in := ok_call_in (P := l.prog) (w := w) (base := base) T
  have G_more_text := ok_more_text (P := l.prog) (w := w) (base := base) T
  have G__law_cell_at := ok__law_cell_at (P := l.prog) (w := w) (base := base) T
  have G__law_spring := ok__law_spring (P := l.prog) (w := w) (base := base) T
  have G__law_draw := ok__law_draw (P := l.prog) (w := w) (base := base) T
  have G__law_answer_written := ok__law_answer_written (P := l.prog) (w := w) (base := base) T
  have G__law_is_name := ok__law_is_name (P := l.prog) (w := w) (base := base) T
  have G__law_number := ok__law_number (P := l.prog) (w := w) (base := base) T
  have G_is_one := ok_is_one (P := l.prog) (w := w) (base := base) T G_is_whole G_are_unlike
  have G_look_text := ok_look_text (P := l.prog) (w := w) (base := base) T 2
  have G_is_answer := ok_is_answer (P := l.prog) (w := w) (base := base) T G_is_whole G_is_name
  have G_numbers_in := ok_numbers_in (P := l.prog) (w := w) (base := base) T G_number_in
  have G_more_in := ok_more_in (P := l.prog) (w := w) (base := base) T G_number_in
  have G_answer_text := ok_answer_text (P := l.prog) (w := w) (base := base) T G_is_whole G_more_text
  have G__law_pick := ok__law_pick (P := l.prog) (w := w) (base := base) T G__law_draw
  have G__law_word := ok__law_word (P := l.prog) (w := w) (base := base) T G__law_draw
  have G__law_whole := ok__law_whole (P := l.prog) (w := w) (base := base) T G__law_draw
  have G__law_written := ok__law_written (P := l.prog) (w := w) (base := base) T 2
  have G__law_plain_read := ok__law_plain_read (P := l.prog) (w := w) (base := base) T G__law_number
  have G__law_answer_read := ok__law_answer_read (P := l.prog) (w := w) (base := base) T G__law_is_name G__law_number
  have G_is_plain := ok_is_plain (P := l.prog) (w := w) (base := base) T G_is_whole G_is_one
  have G_call_text := ok_call_text (P := l.prog) (w := w) (base := base) T G_look_text
  have G_are_answers := ok_are_answers (P := l.prog) (w := w) (base := base) T G_is_answer
  have G_plain_in := ok_plain_in (P := l.prog) (w := w) (base := base) T G_number_in G_numbers_in G_within
  have G_answer_in := ok_answer_in (P := l.prog) (w := w) (base := base) T G_number_in G_more_in
  have G__law_look := ok__law_look (P := l.prog) (w := w) (base := base) T G__law_draw G__law_whole
  have G__law_answer := ok__law_answer (P := l.prog) (w := w) (base := base) T G__law_draw G__law_word G__law_whole
  have G__law_call_written := ok__law_call_written (P := l.prog) (w := w) (base := base) T G__law_written
  have G__law_looks_read := ok__law_looks_read (P := l.prog) (w := w) (base := base) T G__law_plain_read
  have G__law_bent := ok__law_bent (P := l.prog) (w := w) (base := base) T G__law_draw G__law_pick
  have G_is_look := ok_is_look (P := l.prog) (w := w) (base := base) T G_is_plain
  have G_look_in := ok_look_in (P := l.prog) (w := w) (base := base) T G_plain_in
  have G_rule_text := ok_rule_text (P := l.prog) (w := w) (base := base) T G_call_text G_answer_text
  have G__law_rule_read := ok__law_rule_read (P := l.prog) (w := w) (base := base) T G__law_is_name G__law_looks_read G__law_answer_read
  have G_are_looks := ok_are_looks (P := l.prog) (w := w) (base := base) T G_is_look
  have G_looks_in := ok_looks_in (P := l.prog) (w := w) (base := base) T G_look_in G_pieces
  have G__law_due := ok__law_due (P := l.prog) (w := w) (base := base) T G__law_rule_read
  have G_Rule___init__ := ok_Rule___init__ (P := l.prog) (w := w) (base := base) T G_is_name G_are_looks G_are_answers G_is_then X_BadRule
  have G_rule_in := ok_rule_in (P := l.prog) (w := w) (base := base) T G_Rule___init__ G_call_in G_looks_in G_answer_in
  have G_read_rule := ok_read_rule (P := l.prog) (w := w) (base := base) T G_rule_in XF_BadText
  have G__law_told := ok__law_told (P := l.prog) (w := w) (base := base) T G_rule_text G_read_rule
  exact ok_law T G_Rule___init__ G_rule_text G_read_rule G__law_cell_at G__law_spring G__law_draw G__law_pick G__law_word G__law_look G__law_answer G__law_answer_written G__law_call_written G__law_bent G__law_told G__law_due
theorem walk {l : PySem.W.OpenLaw} {q : Program} {loose : List Str} {XP : (Str → Option Value) → Heap → Prop} {YP : World → Heap → Prop} {d : DefRec} {K : Params → PySem.W.Frag} (hn : l.most = some 63) (hdf : d.params.defaults = []) (NL : ∀ P, NoLam (K P)) (hY : ∀ (w : World) (h : Heap), YP w h → (K w.params).In h)
    (FF : ∀ (w : World) (mg : Str → Option Value) (fa : Addr) (h : Heap), (K w.params).In h → h.Ns mainGlobals mg → mg d.name = some (.ref fa) →
      ∃ fd : FuncData, (∀ (s : Shared) (u : Value), BindsTo s fd ⟨[u], []⟩ [("_law_script", u)]) ∧ ∀ base : Heap, (K w.params).In base → base.Ns mainGlobals mg → FnOk l.prog w (K w.params) mg base (L2.CX l.prog w) 11 fa fd ["_law_script"] (lP ⟨K w.params, w⟩ spLaw)) :
    PySem.W.WalkO q loose XP YP l.row.toRowW d [] (fun f vs => PySem.call f vs) :=
  L2.walk_of (n := 63) (k := 11) (x := "_law_script") (CX := fun w => L2.CX l.prog w) (sp := fun w => lP ⟨K w.params, w⟩ spLaw) hn (by decide) hdf ⟨rfl, by decide, by decide⟩ hY FF (fun w H a ns hl _ hS => law_sp ⟨K w.params, w⟩ (NL _) H a ns hl hS) fun w H s e s' z => cx_false z
end Lw
section
open PySem PySem.W PyProof.Rows in
set_option maxRecDepth 100000 in
set_option maxHeartbeats 0 in
theorem Lw.hcS : Lw.hdS.2.1 := by
  delta Lw.hdS
  dsimp only
  k_fill
  refine Lw.walk (l := PySem.Challenge.rw_stoodin_k84_rules_of_answers_read) rfl rfl (fun _ => DL.noLam_by (by kernel_rfl)) (fun w h Y => PySem.W.kIn_of Y) ?F
  case F =>
    intro w mg fa h KX G hmg
    refine' Lw.all_ok hmg (Lw.Tx.mk (DL.funAt_mk KX G ?u0 ?u1 ?u2 ?u3) (DL.funAt_mk KX G ?u4 ?u5 ?u6 ?u7) (DL.funAt_mk KX G ?u8 ?u9 ?u10 ?u11) (DL.funAt_mk KX G ?u12 ?u13 ?u14 ?u15) (DL.funAt_mk KX G ?u16 ?u17 ?u18 ?u19) (DL.funAt_mk KX G ?u20 ?u21 ?u22 ?u23) (DL.funAt_mk KX G ?u24 ?u25 ?u26 ?u27) (DL.funAt_mk KX G ?u28 ?u29 ?u30 ?u31) (DL.funAt_mk KX G ?u32 ?u33 ?u34 ?u35) (DL.funAt_mk KX G ?u36 ?u37 ?u38 ?u39) (DL.funAt_mk KX G ?u40 ?u41 ?u42 ?u43) (DL.funAt_mk KX G ?u44 ?u45 ?u46 ?u47) (DL.mkAt_mk KX G ?u48 ?u49 ?u50 ?u51 ?u52 ?u53 ?u54 ?u55 ?u56 ?u57) (DL.funAt_mk KX G ?u58 ?u59 ?u60 ?u61) (DL.funAt_mk KX G ?u62 ?u63 ?u64 ?u65) (DL.funAt_mk KX G ?u66 ?u67 ?u68 ?u69) (DL.funAt_mk KX G ?u70 ?u71 ?u72 ?u73) (DL.funAt_mk KX G ?u74 ?u75 ?u76 ?u77) (DL.funAt_mk KX G ?u78 ?u79 ?u80 ?u81) (DL.funAt_mk KX G ?u82 ?u83 ?u84 ?u85) (DL.funAt_mk KX G ?u86 ?u87 ?u88 ?u89) (DL.funAt_mk KX G ?u90 ?u91 ?u92 ?u93) (DL.funAt_mk KX G ?u94 ?u95 ?u96 ?u97) (DL.funAt_mk KX G ?u98 ?u99 ?u100 ?u101) (DL.funAt_mk KX G ?u102 ?u103 ?u104 ?u105) (DL.funAt_mk KX G ?u106 ?u107 ?u108 ?u109) (DL.funAt_mk KX G ?u110 ?u111 ?u112 ?u113) (DL.funAt_mk KX G ?u114 ?u115 ?u116 ?u117) (DL.funAt_mk KX G ?u118 ?u119 ?u120 ?u121) (DL.funAt_mk KX G ?u122 ?u123 ?u124 ?u125) (DL.funAt_mk KX G ?u126 ?u127 ?u128 ?u129) (DL.funAt_mk KX G ?u130 ?u131 ?u132 ?u133) (DL.funAt_mk KX G ?u134 ?u135 ?u136 ?u137) (DL.funAt_mk KX G ?u138 ?u139 ?u140 ?u141) (DL.funAt_mk KX G ?u142 ?u143 ?u144 ?u145) (DL.funAt_mk KX G ?u146 ?u147 ?u148 ?u149) (DL.funAt_mk KX G ?u150 ?u151 ?u152 ?u153) (DL.funAt_mk KX G ?u154 ?u155 ?u156 ?u157) (DL.funAt_mk KX G ?u158 ?u159 ?u160 ?u161) (DL.funAt_mk KX G ?u162 ?u163 ?u164 ?u165) (DL.funAt_mk KX G ?u166 ?u167 ?u168 ?u169) (DL.funAt_mk KX G ?u170 ?u171 ?u172 ?u173) (DL.funAt_mk KX G ?u174 ?u175 ?u176 ?u177) (DL.funAt_mk KX G ?u178 ?u179 ?u180 ?u181) (DL.funAt_mk KX G ?u182 ?u183 ?u184 ?u185) (DL.funAt_mk KX G ?u186 ?u187 ?u188 ?u189) (DL.funAt_mk KX G ?u190 ?u191 ?u192 ?u193) (DL.funAt_mk KX G ?u194 ?u195 ?u196 ?u197) (DL.funAt_mk KX G ?u198 ?u199 ?u200 ?u201) (DL.xAt_mk KX G ?u202 ?u203 ?u204 ?u205 ?u206 ?u207 ?u208 ?u209 ?u210) (DL.xAt_mk KX G ?u211 ?u212 ?u213 ?u214 ?u215 ?u216 ?u217 ?u218 ?u219) (DL.xAf_mk KX G ?u220 ?u221 ?u222 ?u223 ?u224 ?u225 ?u226 ?u227 ?u228 ?u229 ?u230) (DL.ci_mk ?u231 ?u232 ?u233 ?u234 ?u235 ?u236) (?u237) (PySem.W.mg_none_of KX G ?u238) (PySem.W.mg_none_of KX G ?u239) (PySem.W.mg_none_of KX G ?u240) (PySem.W.mg_none_of KX G ?u241) (PySem.W.mg_none_of KX G ?u242) (PySem.W.mg_none_of KX G ?u243) (PySem.W.mg_none_of KX G ?u244) (PySem.W.mg_none_of KX G ?u245) (PySem.W.mg_none_of KX G ?u246) (PySem.W.mg_none_of KX G ?u247) (PySem.W.mg_none_of KX G ?u248) (PySem.W.mg_none_of KX G ?u249) (DL.constS_mk KX G ?u250 ?u251) (DL.constS_mk KX G ?u252 ?u253) (DL.constI_mk KX G ?u254 ?u255) (DL.constI_mk KX G ?u256 ?u257) (DL.constI_mk KX G ?u258 ?u259) (DL.constI_mk KX G ?u260 ?u261) (DL.constI_mk KX G ?u262 ?u263) (DL.kd_mk KX G ?u264 ?u265 ?u266 ?u267 ?u268) (DL.exAt_own KX G ?u269 ?u270) (DL.exAt_own KX G ?u271 ?u272) (DL.fldB_ok ?u273) (DL.fldB_ok ?u274) (DL.fldB_ok ?u275) (DL.fldB_ok ?u276) (DL.fldB_ok ?u277) (DL.glb_mk KX G ?u278) (DL.glb_mk KX G ?u279) (DL.isoB_ok ?u280) (DL.con_mk KX G ?u281 ?u282) (DL.xcB_ok ?u283) (DL.xiB_ok ?u284) (DL.xnB_ok ?u285))
    (case u0 => k_is)
    (case u1 => k_is)
    (case u2 => k_is)
    (case u3 => k_is)
    (case u4 => k_is)
    (case u5 => k_is)
    (case u6 => k_is)
    (case u7 => k_is)
    (case u8 => k_is)
    (case u9 => k_is)
    (case u10 => k_is)
    (case u11 => k_is)
    (case u12 => k_is)
    (case u13 => k_is)
    (case u14 => k_is)
    (case u15 => k_is)
    (case u16 => k_is)
    (case u17 => k_is)
    (case u18 => k_is)
    (case u19 => k_is)
    (case u20 => k_is)
    (case u21 => k_is)
    (case u22 => k_is)
    (case u23 => k_is)
    (case u24 => k_is)
    (case u25 => k_is)
    (case u26 => k_is)
    (case u27 => k_is)
    (case u28 => k_is)
    (case u29 => k_is)
    (case u30 => k_is)
    (case u31 => k_is)
    (case u32 => k_is)
    (case u33 => k_is)
    (case u34 => k_is)
    (case u35 => k_is)
    (case u36 => k_is)
    (case u37 => k_is)
    (case u38 => k_is)
    (case u39 => k_is)
    (case u40 => k_is)
    (case u41 => k_is)
    (case u42 => k_is)
    (case u43 => k_is)
    (case u44 => k_is)
    (case u45 => k_is)
    (case u46 => k_is)
    (case u47 => k_is)
    (case u48 => k_is)
    (case u49 => k_is)
    (case u50 => k_is)
    (case u51 => k_is)
    (case u52 => k_is)
    (case u53 => k_is)
    (case u54 => k_is)
    (case u55 => k_is)
    (case u56 => kernel_rfl)
    (case u57 => kernel_rfl)
    (case u58 => k_is)
    (case u59 => k_is)
    (case u60 => k_is)
    (case u61 => k_is)
    (case u62 => k_is)
    (case u63 => k_is)
    (case u64 => k_is)
    (case u65 => k_is)
    (case u66 => k_is)
    (case u67 => k_is)
    (case u68 => k_is)
    (case u69 => k_is)
    (case u70 => k_is)
    (case u71 => k_is)
    (case u72 => k_is)
    (case u73 => k_is)
    (case u74 => k_is)
    (case u75 => k_is)
    (case u76 => k_is)
    (case u77 => k_is)
    (case u78 => k_is)
    (case u79 => k_is)
    (case u80 => k_is)
    (case u81 => k_is)
    (case u82 => k_is)
    (case u83 => k_is)
    (case u84 => k_is)
    (case u85 => k_is)
    (case u86 => k_is)
    (case u87 => k_is)
    (case u88 => k_is)
    (case u89 => k_is)
    (case u90 => k_is)
    (case u91 => k_is)
    (case u92 => k_is)
    (case u93 => k_is)
    (case u94 => k_is)
    (case u95 => k_is)
    (case u96 => k_is)
    (case u97 => k_is)
    (case u98 => k_is)
    (case u99 => k_is)
    (case u100 => k_is)
    (case u101 => k_is)
    (case u102 => k_is)
    (case u103 => k_is)
    (case u104 => k_is)
    (case u105 => k_is)
    (case u106 => k_is)
    (case u107 => k_is)
    (case u108 => k_is)
    (case u109 => k_is)
    (case u110 => k_is)
    (case u111 => k_is)
    (case u112 => k_is)
    (case u113 => k_is)
    (case u114 => k_is)
    (case u115 => k_is)
    (case u116 => k_is)
    (case u117 => k_is)
    (case u118 => k_is)
    (case u119 => k_is)
    (case u120 => k_is)
    (case u121 => k_is)
    (case u122 => k_is)
    (case u123 => k_is)
    (case u124 => k_is)
    (case u125 => k_is)
    (case u126 => k_is)
    (case u127 => k_is)
    (case u128 => k_is)
    (case u129 => k_is)
    (case u130 => k_is)
    (case u131 => k_is)
    (case u132 => k_is)
    (case u133 => k_is)
    (case u134 => k_is)
    (case u135 => k_is)
    (case u136 => k_is)
    (case u137 => k_is)
    (case u138 => k_is)
    (case u139 => k_is)
    (case u140 => k_is)
    (case u141 => k_is)
    (case u142 => k_is)
    (case u143 => k_is)
    (case u144 => k_is)
    (case u145 => k_is)
    (case u146 => k_is)
    (case u147 => k_is)
    (case u148 => k_is)
    (case u149 => k_is)
    (case u150 => k_is)
    (case u151 => k_is)
    (case u152 => k_is)
    (case u153 => k_is)
    (case u154 => k_is)
    (case u155 => k_is)
    (case u156 => k_is)
    (case u157 => k_is)
    (case u158 => k_is)
    (case u159 => k_is)
    (case u160 => k_is)
    (case u161 => k_is)
    (case u162 => k_is)
    (case u163 => k_is)
    (case u164 => k_is)
    (case u165 => k_is)
    (case u166 => k_is)
    (case u167 => k_is)
    (case u168 => k_is)
    (case u169 => k_is)
    (case u170 => k_is)
    (case u171 => k_is)
    (case u172 => k_is)
    (case u173 => k_is)
    (case u174 => k_is)
    (case u175 => k_is)
    (case u176 => k_is)
    (case u177 => k_is)
    (case u178 => k_is)
    (case u179 => k_is)
    (case u180 => k_is)
    (case u181 => k_is)
    (case u182 => k_is)
    (case u183 => k_is)
    (case u184 => k_is)
    (case u185 => k_is)
    (case u186 => k_is)
    (case u187 => k_is)
    (case u188 => k_is)
    (case u189 => k_is)
    (case u190 => k_is)
    (case u191 => k_is)
    (case u192 => k_is)
    (case u193 => k_is)
    (case u194 => k_is)
    (case u195 => k_is)
    (case u196 => k_is)
    (case u197 => k_is)
    (case u198 => k_is)
    (case u199 => k_is)
    (case u200 => k_is)
    (case u201 => k_is)
    (case u202 => k_is)
    (case u203 => k_is)
    (case u204 => k_is)
    (case u205 => k_is)
    (case u206 => k_is)
    (case u207 => k_is)
    (case u208 => k_is)
    (case u209 => kernel_rfl)
    (case u210 => kernel_rfl)
    (case u211 => k_is)
    (case u212 => k_is)
    (case u213 => k_is)
    (case u214 => k_is)
    (case u215 => k_is)
    (case u216 => k_is)
    (case u217 => k_is)
    (case u218 => kernel_rfl)
    (case u219 => kernel_rfl)
    (case u220 => k_is)
    (case u221 => k_is)
    (case u222 => k_is)
    (case u223 => k_is)
    (case u224 => k_is)
    (case u225 => k_is)
    (case u226 => k_is)
    (case u227 => k_is)
    (case u228 => kernel_rfl)
    (case u229 => kernel_rfl)
    (case u230 => kernel_rfl)
    (case u231 => k_is)
    (case u232 => k_is)
    (case u233 => k_is)
    (case u234 => k_is)
    (case u235 => k_is)
    (case u236 => k_is)
    (case u237 => k_is)
    (case u238 => k_is)
    (case u239 => k_is)
    (case u240 => k_is)
    (case u241 => k_is)
    (case u242 => k_is)
    (case u243 => k_is)
    (case u244 => k_is)
    (case u245 => k_is)
    (case u246 => k_is)
    (case u247 => k_is)
    (case u248 => k_is)
    (case u249 => k_is)
    (case u250 => k_is)
    (case u251 => exact ⟨_, rfl⟩)
    (case u252 => k_is)
    (case u253 => exact ⟨_, rfl⟩)
    (case u254 => k_is)
    (case u255 => exact ⟨_, rfl⟩)
    (case u256 => k_is)
    (case u257 => exact ⟨_, rfl⟩)
    (case u258 => k_is)
    (case u259 => exact ⟨_, rfl⟩)
    (case u260 => k_is)
    (case u261 => exact ⟨_, rfl⟩)
    (case u262 => k_is)
    (case u263 => exact ⟨_, rfl⟩)
    (case u264 => k_is)
    (case u265 => k_is)
    (case u266 => k_keys)
    (case u267 => decide)
    (case u268 => kernel_rfl)
    (case u269 => k_is)
    (case u270 => kernel_rfl)
    (case u271 => k_is)
    (case u272 => kernel_rfl)
    (case u273 => kernel_rfl)
    (case u274 => kernel_rfl)
    (case u275 => kernel_rfl)
    (case u276 => kernel_rfl)
    (case u277 => kernel_rfl)
    (case u278 => k_is)
    (case u279 => k_is)
    (case u280 => kernel_rfl)
    (case u281 => k_is)
    (case u282 => kernel_rfl)
    (case u283 => kernel_rfl)
    (case u284 => kernel_rfl)
    (case u285 => kernel_rfl)
end
theorem PySem.Challenge.cw_stoodin_k84_rules_of_answers_read_holds : PySem.Challenge.rw_stoodin_k84_rules_of_answers_read.Holds := by
  exact Lw.hdS.2.2 ⟨Lw.hlS.2 Lw.hr0 Lw.hr1 Lw.hr2 Lw.hr3 Lw.hr4 Lw.hr5 Lw.hr6 Lw.hr7 Lw.hr8 Lw.hr9 Lw.hr10 Lw.hr11 Lw.hr12⟩ ⟨Lw.hcS⟩
#print axioms PySem.Challenge.cw_stoodin_k84_rules_of_answers_read_holds
