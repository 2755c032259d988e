import PyProof.Rows.All
import Wide.All
import OpenK.AllK
import Wide.FinOn
import HandS.ForMost
import HandS.ForExc
import HandS.Walk
import HandS.IsInst
import HandS.Deep
import HandS.TupAny
import HandS.TupMul
import HandS.Wide
import KE.GoesMore
import HandS.ExcSuper
import HandS.ExcField
import HandS.ExcIs
import KE.KSuper
import KE.KExcIs
import KE.KIsAll
import HandS.Codes
import HandS.New
import PySem.Challenge.RW_cutweave_k06_whole_played_runs
set_option Elab.async false
set_option linter.all false
set_option maxRecDepth 100000
set_option maxHeartbeats 8000000
/-! The data layer: a big-step reading of the hand layer's terms over plain data. -/
namespace Dl
open PySem L2

/-- plain data; net3: the law's dict of a net; obj: an instance of Net -/
inductive Dat where
  | non | bl (b : Bool) | int (i : Int) | str (x : Str) | lst (xs : List Dat) | tup (xs : List Dat)
  | net3 (p c r : Dat) | obj (p c r : Dat)

/- the value v, in the frozen heap F, is the datum d; C: the class Net -/
mutual
inductive Dt (C : Addr) (F : Hp) : V → Dat → Prop
  | non : Dt C F .non .non
  | bl (b : Bool) : Dt C F (.bl b) (.bl b)
  | int (i : Int) : Dt C F (.int i) (.int i)
  | str (x : Str) : Dt C F (.str x) (.str x)
  | lst {a : Addr} {vs : List V} {ds : List Dat} (h : F a = some (.lst vs)) (hs : Dts C F vs ds) : Dt C F (.ref a) (.lst ds)
  | tup {a : Addr} {vs : List V} {ds : List Dat} (h : F a = some (.tup vs)) (hs : Dts C F vs ds) : Dt C F (.ref a) (.tup ds)
  | net3 {a : Addr} {x y z : V} {p c r : Dat} (h : F a = some (.dK [(Sum.inr "processes", x), (Sum.inr "channels", y), (Sum.inr "rules", z)])) (hp : Dt C F x p) (hc : Dt C F y c) (hr : Dt C F z r) : Dt C F (.ref a) (.net3 p c r)
  | obj {a dx : Addr} {x y z : V} {p c r : Dat} (h : F a = some (.ins C dx [("processes", x), ("channels", y), ("rules", z)])) (hp : Dt C F x p) (hc : Dt C F y c) (hr : Dt C F z r) : Dt C F (.ref a) (.obj p c r)
inductive Dts (C : Addr) (F : Hp) : List V → List Dat → Prop
  | nil : Dts C F [] []
  | cons {v : V} {vs : List V} {d : Dat} {ds : List Dat} (h : Dt C F v d) (hs : Dts C F vs ds) : Dts C F (v :: vs) (d :: ds)
end
mutual
theorem Dt.mono {C : Addr} {F F' : Hp} (s : Same F F') {v : V} {d : Dat} : Dt C F v d → Dt C F' v d
  | .non => .non
  | .bl b => .bl b
  | .int i => .int i
  | .str x => .str x
  | .lst h hs => .lst (s _ _ h) (Dts.mono s hs)
  | .tup h hs => .tup (s _ _ h) (Dts.mono s hs)
  | .net3 h a b c => .net3 (s _ _ h) (Dt.mono s a) (Dt.mono s b) (Dt.mono s c)
  | .obj h a b c => .obj (s _ _ h) (Dt.mono s a) (Dt.mono s b) (Dt.mono s c)
theorem Dts.mono {C : Addr} {F F' : Hp} (s : Same F F') {vs : List V} {ds : List Dat} : Dts C F vs ds → Dts C F' vs ds
  | .nil => .nil
  | .cons h hs => .cons (Dt.mono s h) (Dts.mono s hs)
end
section
variable {C : Addr} {F H : Hp}
theorem Dts.length : ∀ {vs : List V} {ds : List Dat}, Dts C F vs ds → vs.length = ds.length
  | _, _, .nil => rfl
  | _, _, .cons _ hs => congrArg (· + 1) (Dts.length hs)
theorem Dts.get : ∀ {vs : List V} {ds : List Dat} {i : Nat} {d : Dat}, Dts C F vs ds → ds[i]? = some d → ∃ v, vs[i]? = some v ∧ Dt C F v d
  | _, _, _, _, .nil, h => by simp at h
  | _, _, 0, _, .cons h _, e => by simp at e; subst e; exact ⟨_, rfl, h⟩
  | _, _, i + 1, d, .cons _ hs, e => by
    obtain ⟨v, h1, h2⟩ := Dts.get (i := i) (d := d) hs (by simpa using e)
    exact ⟨v, by simpa using h1, h2⟩
theorem Dts.getV : ∀ {vs : List V} {ds : List Dat} {i : Nat} {v : V}, Dts C F vs ds → vs[i]? = some v → ∃ d, ds[i]? = some d ∧ Dt C F v d
  | _, _, _, _, .nil, h => by simp at h
  | _, _, 0, _, .cons h _, e => by simp at e; subst e; exact ⟨_, rfl, h⟩
  | _, _, i + 1, v, .cons _ hs, e => by
    obtain ⟨d, h1, h2⟩ := Dts.getV (i := i) (v := v) hs (by simpa using e)
    exact ⟨d, by simpa using h1, h2⟩
theorem Dts.append : ∀ {vs ws : List V} {ds es : List Dat}, Dts C F vs ds → Dts C F ws es → Dts C F (vs ++ ws) (ds ++ es)
  | _, _, _, _, .nil, h => h
  | _, _, _, _, .cons a b, h => .cons a (Dts.append b h)
theorem Dts.set {v : V} {d : Dat} (h : Dt C F v d) : ∀ {vs : List V} {ds : List Dat} (i : Nat), Dts C F vs ds → Dts C F (vs.set i v) (ds.set i d)
  | _, _, _, .nil => .nil
  | _, _, 0, .cons _ t => .cons h t
  | _, _, i + 1, .cons q t => .cons q (Dts.set h i t)
theorem Dts.take : ∀ {vs : List V} {ds : List Dat} (n : Nat), Dts C F vs ds → Dts C F (vs.take n) (ds.take n)
  | _, _, 0, _ => .nil
  | _, _, _ + 1, .nil => .nil
  | _, _, n + 1, .cons r t => .cons r (Dts.take n t)
theorem Dts.drop : ∀ {vs : List V} {ds : List Dat} (n : Nat), Dts C F vs ds → Dts C F (vs.drop n) (ds.drop n)
  | _, _, 0, r => r
  | _, _, _ + 1, .nil => .nil
  | _, _, n + 1, .cons _ t => Dts.drop n t
theorem Dts.snoc {vs : List V} {ds : List Dat} {v : V} {d : Dat} (a : Dts C F vs ds) (b : Dt C F v d) : Dts C F (vs ++ [v]) (ds ++ [d]) := a.append (.cons b .nil)
theorem Dts.ints : ∀ {vs : List V} {ns : List Int}, Dts C F vs (ns.map Dat.int) → vs = ns.map V.int
  | [], [], _ => rfl
  | _ :: _, [], h => by cases h
  | [], _ :: _, h => by cases h
  | v :: vs, n :: ns, h => by
    cases h with
    | cons a b =>
      cases a
      rw [Dts.ints b, List.map_cons]
theorem Dts.of_ints : ∀ (ns : List Int), Dts C F (ns.map V.int) (ns.map Dat.int)
  | [] => .nil
  | n :: ns => .cons (.int n) (Dts.of_ints ns)
theorem Dts.bls : ∀ {vs : List V} {bs : List Bool}, Dts C F vs (bs.map Dat.bl) → vs = bs.map V.bl
  | [], [], _ => rfl
  | _ :: _, [], h => by cases h
  | [], _ :: _, h => by cases h
  | v :: vs, n :: ns, h => by
    cases h with
    | cons a b =>
      cases a
      rw [Dts.bls b, List.map_cons]
theorem Dts.strs : ∀ {vs : List V} {bs : List Str}, Dts C F vs (bs.map Dat.str) → vs = bs.map V.str
  | [], [], _ => rfl
  | _ :: _, [], h => by cases h
  | [], _ :: _, h => by cases h
  | v :: vs, n :: ns, h => by
    cases h with
    | cons a b =>
      cases a
      rw [Dts.strs b, List.map_cons]
end

/-! ### growth of a world -/
/-- F: what is frozen; H: all that is tracked; P: the one address that may have changed (the pool) -/
structure Gr (P : Option Addr) (F H F' H' : Hp) : Prop where
  f : Same F F'
  h : ∀ a o, P ≠ some a → H a = some o → H' a = some o
  th : ∀ a, H a ≠ none → H' a ≠ none
  fr : ∀ a, H a ≠ none → F a = none → F' a = none
theorem Gr.refl (P : Option Addr) (F H : Hp) : Gr P F H F H := ⟨fun _ _ h => h, fun _ _ _ h => h, fun _ h => h, fun _ _ h => h⟩
theorem Gr.trans {P : Option Addr} {F H F1 H1 F2 H2 : Hp} (a : Gr P F H F1 H1) (b : Gr P F1 H1 F2 H2) : Gr P F H F2 H2 :=
  ⟨a.f.trans b.f, fun x o n e => b.h x o n (a.h x o n e), fun x e => b.th x (a.th x e), fun x e n => b.fr x (a.th x e) (a.fr x e n)⟩
theorem Gr.any {P : Option Addr} {F H F1 H1 : Hp} (a : Gr none F H F1 H1) : Gr P F H F1 H1 := ⟨a.f, fun x o _ e => a.h x o (by simp) e, a.th, a.fr⟩
theorem Gr.same {F H F1 H1 : Hp} (a : Gr none F H F1 H1) : Same H H1 := fun x o e => a.h x o (by simp) e
theorem Gr.back {P : Option Addr} {F H F1 H1 : Hp} (a : Gr P F H F1 H1) {p : Addr} (e : H1 p = none) : H p = none := by
  cases q : H p with
  | none => rfl
  | some o => exact absurd e (a.th p (by rw [q]; simp))
/-- a new frozen object -/
theorem Gr.newF {P : Option Addr} {F H : Hp} {p : Addr} {o : HO} (s : Same F H) (n : H p = none) : Gr P F H (upd F p o) (upd H p o) :=
  ⟨fun a u e => by rw [upd_ne (ne_of_none (s a u e) n)]; exact e, fun a u _ e => by rw [upd_ne (ne_of_none e n)]; exact e,
   fun a e => by
    by_cases h : a = p
    · rw [h, upd_same]; simp
    · rw [upd_ne h]; exact e, fun a e z => by
    have h : a ≠ p := fun q => e (by rw [q]; exact n)
    rw [upd_ne h]; exact z⟩
/-- a new object that is not frozen -/
theorem Gr.newO {P : Option Addr} {F H : Hp} {p : Addr} {o : HO} (n : H p = none) : Gr P F H F (upd H p o) :=
  ⟨fun a u e => e, fun a u _ e => by rw [upd_ne (ne_of_none e n)]; exact e,
   fun a e => by
    by_cases h : a = p
    · rw [h, upd_same]; simp
    · rw [upd_ne h]; exact e, fun a e z => z⟩
theorem same_new {F H : Hp} {p : Addr} {o : HO} (s : Same F H) (n : H p = none) : Same (upd F p o) (upd H p o) := fun a u e => by
  by_cases h : a = p
  · rw [h, upd_same] at e ⊢; exact e
  · rw [upd_ne h] at e ⊢; exact s a u e
theorem same_newO {F H : Hp} {p : Addr} {o : HO} (s : Same F H) (n : F p = none) : Same F (upd H p o) := fun a u e => by
  rw [upd_ne (ne_of_none e n)]; exact s a u e
theorem none_of {F H : Hp} {p : Addr} (s : Same F H) (n : H p = none) : F p = none := by
  cases q : F p with
  | none => rfl
  | some o => rw [s p o q] at n; cases n

/-! ### the pool -/
structure Pool where
  cells : List Int
  at_ : Nat
  rest : Int
  left : Int
  small : Bool
  seed : Int
  turn : Int
def encPool (vc : V) (s : Pool) : List (Key × V) := [(Sum.inr "cells", vc), (Sum.inr "at", .int (s.at_ : Int)), (Sum.inr "rest", .int s.rest), (Sum.inr "left", .int s.left), (Sum.inr "small", .bl s.small), (Sum.inr "seed", .int s.seed), (Sum.inr "turn", .int s.turn)]
def PoolAt (C : Addr) (F H : Hp) (p : Addr) (s : Pool) : Prop := F p = none ∧ ∃ vc, Dt C F vc (.lst (s.cells.map .int)) ∧ H p = some (.dK (encPool vc s))

/-! ### slots -/
inductive Slot where
  | emp | val (d : Dat) | own (ds : List Dat) | pool
/-- where a walk began: the pool's address, the heaps then -/
structure Bs where
  P : Option Addr
  F : Hp
  H : Hp
def SlotOk (C : Addr) (B : Bs) (F H : Hp) (x : Option V) : Slot → Prop
  | .emp => True
  | .val d => ∃ v, x = some v ∧ Dt C F v d
  | .own ds => ∃ p vs, x = some (.ref p) ∧ H p = some (.lst vs) ∧ Dts C F vs ds ∧ F p = none ∧ B.H p = none
  | .pool => ∃ p, x = some (.ref p) ∧ B.P = some p
structure Wd (C : Addr) (B : Bs) (F H : Hp) (σ : L2.St) (δ : List Slot) : Prop where
  sub : Same F H
  gr : Gr B.P B.F B.H F H
  sl : ∀ (i : Nat) k, δ[i]? = some k → ∃ x, σ[i]? = some x ∧ SlotOk C B F H x k
  ap : ∀ (i j : Nat) (di dj : List Dat) (p : Addr), δ[i]? = some (.own di) → δ[j]? = some (.own dj) → σ[i]? = some (some (.ref p)) → σ[j]? = some (some (.ref p)) → i = j
  pl : ∀ p, B.P = some p → ∃ s, PoolAt C F H p s
section
variable {C : Addr} {B : Bs} {F H F' H' : Hp} {σ : L2.St} {δ : List Slot} {s : Pool}
theorem Wd.ownNe (W : Wd C B F H σ δ) {p : Addr} {vs : List V} (h : H p = some (.lst vs)) : B.P ≠ some p := fun e => by
  obtain ⟨_, _, vc, _, q⟩ := W.pl p e
  rw [h] at q; cases q
/-- the world after a step that touches the pool alone -/
theorem Wd.go (W : Wd C B F H σ δ) (g : Gr B.P F H F' H') (sub : Same F' H') (pl : ∀ p, B.P = some p → ∃ s, PoolAt C F' H' p s) : Wd C B F' H' σ δ := by
  refine ⟨sub, W.gr.trans g, fun i k e => ?_, W.ap, pl⟩
  obtain ⟨x, hx, ok⟩ := W.sl i k e
  refine ⟨x, hx, ?_⟩
  cases k with
  | emp => trivial
  | val d =>
    obtain ⟨v, e1, e2⟩ := ok
    exact ⟨v, e1, e2.mono g.f⟩
  | own ds =>
    obtain ⟨p, vs, e1, e2, e3, e4, e5⟩ := ok
    exact ⟨p, vs, e1, g.h p _ (W.ownNe e2) e2, e3.mono g.f, g.fr p (by rw [e2]; simp) e4, e5⟩
  | pool => exact ok
theorem PoolAt.keep {p : Addr} (g : Gr none F H F' H') (h : PoolAt C F H p s) : PoolAt C F' H' p s := by
  obtain ⟨n, vc, d, e⟩ := h
  exact ⟨g.fr p (by rw [e]; simp) n, vc, d.mono g.f, g.h p _ (by simp) e⟩
/-- a pure step -/
theorem Wd.pure (W : Wd C B F H σ δ) (g : Gr none F H F' H') (sub : Same F' H') : Wd C B F' H' σ δ := W.go g.any sub fun p e => let ⟨s, q⟩ := W.pl p e; ⟨s, q.keep g⟩
end
end Dl


namespace Dl
open PySem L2

/-! ### the judgements: P is what follows -/
section
variable (C : Addr)
def Ev (te : TE) (δ : List Slot) (P : Dat → Prop) : Prop :=
  ∀ B F H σ, Wd C B F H σ δ → ∀ Q : VK, (∀ v F' H' d, P d → Gr B.P F H F' H' → Wd C B F' H' σ δ → Dt C F' v d → Q v H') → te σ H Q
def EvT (tt : TT) (δ : List Slot) (P : Bool → Prop) : Prop :=
  ∀ B F H σ, Wd C B F H σ δ → ∀ Q : Bool → Hp → Prop, (∀ F' H' b, P b → Gr B.P F H F' H' → Wd C B F' H' σ δ → Q b H') → tt σ H Q
def EvA (ta : TA) (δ : List Slot) (P : List Dat → Prop) : Prop :=
  ∀ B F H σ, Wd C B F H σ δ → ∀ Q : List V → Hp → Prop, (∀ vs F' H' ds, P ds → Gr B.P F H F' H' → Wd C B F' H' σ δ → Dts C F' vs ds → Q vs H') → ta σ H Q
/-- a new list, not frozen -/
def EvN (te : TE) (δ : List Slot) (P : List Dat → Prop) : Prop :=
  ∀ B F H σ, Wd C B F H σ δ → ∀ Q : VK, (∀ p vs F' H' ds, P ds → Gr B.P F H F' H' → Wd C B F' H' σ δ → H' p = some (.lst vs) → Dts C F' vs ds → F' p = none → H p = none → Q (.ref p) H') → te σ H Q
/-- a part of a slice -/
def EvO (to : TO) (δ : List Slot) (P : Option Int → Prop) : Prop :=
  ∀ B F H σ, Wd C B F H σ δ → ∀ Q : Option Int → Hp → Prop, (∀ F' H' o, P o → Gr B.P F H F' H' → Wd C B F' H' σ δ → Q o H') → to σ H Q
/-- what a step by values may do -/
def Fin (F H : Hp) (P : Dat → Prop) (Q : VK) : Prop := ∀ v F' H' z, P z → Gr none F H F' H' → Same F' H' → Dt C F' v z → Q v H'
/-- an operator on data -/
def RV (r : R2) (x y : Dat) (P : Dat → Prop) : Prop := ∀ F H vx vy, Same F H → Dt C F vx x → Dt C F vy y → ∀ Q : VK, Fin C F H P Q → r vx vy H Q
/-- .. whose left side is an own list -/
def RVO (r : R2) (ds : List Dat) (y : Dat) (P : Dat → Prop) : Prop := ∀ F H p vs vy, Same F H → H p = some (.lst vs) → Dts C F vs ds → Dt C F vy y → ∀ Q : VK, Fin C F H P Q → r (.ref p) vy H Q
/-- .. whose right side is an own list -/
def RVP (r : R2) (x : Dat) (ds : List Dat) (P : Dat → Prop) : Prop := ∀ F H p vs vx, Same F H → H p = some (.lst vs) → Dts C F vs ds → Dt C F vx x → ∀ Q : VK, Fin C F H P Q → r vx (.ref p) H Q
/-- a call by values -/
def RC (r : List V → Hp → VK → Prop) (ds : List Dat) (P : Dat → Prop) : Prop := ∀ F H vs, Same F H → Dts C F vs ds → ∀ Q : VK, Fin C F H P Q → r vs H Q
/-- a slice by values -/
def RS (r : V → Option Int → Option Int → Hp → VK → Prop) (x : Dat) (lo hi : Option Int) (P : Dat → Prop) : Prop := ∀ F H vx, Same F H → Dt C F vx x → ∀ Q : VK, Fin C F H P Q → r vx lo hi H Q
/-- what is walked -/
def DW (J : It) (ds : List Dat) (F : Hp) : Prop := ∀ F1 H1, Same F F1 → Same F1 H1 →
  (∀ i, i < ds.length → J.go i H1) ∧ J.stop ds.length H1 ∧ ∀ i x H2, i < ds.length → J.yld i H1 x H2 → ∃ F2 d, ds[i]? = some d ∧ Gr none F1 H1 F2 H2 ∧ Same F2 H2 ∧ Dt C F2 x d
def EvI (wi : TI) (δ : List Slot) (P : List Dat → Prop) : Prop :=
  ∀ B F H σ, Wd C B F H σ δ → ∀ R : It → Hp → Prop, (∀ J F' H' ds, P ds → Gr B.P F H F' H' → Wd C B F' H' σ δ → DW C J ds F' → R J H') → wi σ H R
/-- a target takes a datum -/
def GG (g : TG) (vs : List Nat) (δ : List Slot) (d : Dat) (δ' : List Slot) : Prop :=
  ∀ B F H σ, Wd C B F H σ δ → ∀ v, Dt C F v d → ∀ Q : L2.St → Hp → Prop, (∀ σ', Wd C B F H σ' δ' → (∀ i, i ∉ vs → σ'[i]? = σ[i]?) → σ'.length = σ.length → Q σ' H) → g v σ H Q
end

/-! ### statements -/
inductive Out where
  | nx (δ : List Slot) | rt (d : Dat) | bk (δ : List Slot) | ct (δ : List Slot) | ex (n : Int)
/-- C: Net, CB: BadStep -/
structure Fits (C CB : Addr) (B : Bs) (D : Ends) (W : WX) (R : Out → Prop) : Prop where
  nx : ∀ δ, R (.nx δ) → ∀ F H σ, Wd C B F H σ δ → D.nx σ H
  bk : ∀ δ, R (.bk δ) → ∀ F H σ, Wd C B F H σ δ → D.bk σ H
  ct : ∀ δ, R (.ct δ) → ∀ F H σ, Wd C B F H σ δ → D.ct σ H
  rt : ∀ d, R (.rt d) → ∀ v F H σ δ, Wd C B F H σ δ → Dt C F v d → D.rt v H
  ex : ∀ n, R (.ex n) → ∀ F H σ δ, Wd C B F H σ δ → ∀ d, H d = none → W (.ref CB) (some d) σ (upd H d (.xd [("at", .int n)]))
def Ex (C CB : Addr) (W : WX) (t : TS) (δ : List Slot) (R : Out → Prop) : Prop :=
  ∀ B F H σ, Wd C B F H σ δ → ∀ D, Fits C CB B D W R → t D σ H
/-- no error is wished -/
abbrev noX : WX := fun _ _ _ _ => False

section
variable {C CB : Addr} {K : PySem.W.Frag} {δ δ' : List Slot} {te ta tb tc : TE} {d x y z : Dat} {r r' : R2} {W : WX} {R : Out → Prop} {P P' : Dat → Prop}
theorem Ev.mono (h : Ev C te δ P) (e : ∀ d, P d → P' d) : Ev C te δ P' := fun B F H σ w Q k => h B F H σ w Q fun v F' H' d p => k v F' H' d (e d p)
theorem EvT.mono {tt : TT} {P P' : Bool → Prop} (h : EvT C tt δ P) (e : ∀ d, P d → P' d) : EvT C tt δ P' := fun B F H σ w Q k => h B F H σ w Q fun F' H' d p => k F' H' d (e d p)
theorem EvA.mono {tt : TA} {P P' : List Dat → Prop} (h : EvA C tt δ P) (e : ∀ d, P d → P' d) : EvA C tt δ P' := fun B F H σ w Q k => h B F H σ w Q fun v F' H' d p => k v F' H' d (e d p)
theorem EvN.mono {P P' : List Dat → Prop} (h : EvN C te δ P) (e : ∀ d, P d → P' d) : EvN C te δ P' := fun B F H σ w Q k => h B F H σ w Q fun v vs F' H' d p => k v vs F' H' d (e d p)
theorem Ex.mono {t : TS} {R' : Out → Prop} (h : Ex C CB W t δ R) (e : ∀ o, R o → R' o) : Ex C CB W t δ R' := fun B F H σ w D f => h B F H σ w D ⟨fun δ a => f.nx δ (e _ a), fun δ a => f.bk δ (e _ a), fun δ a => f.ct δ (e _ a), fun d a => f.rt d (e _ a), fun n a => f.ex n (e _ a)⟩
theorem ev_var {i : Nat} (h : δ[i]? = some (.val d)) (p : P d) : Ev C (tVar i) δ P := fun B F H σ w Q k => by
  obtain ⟨x, hx, v, e, hd⟩ := w.sl i _ h
  subst e
  exact ⟨v, hx, k v F H d p (Gr.refl _ _ _) w hd⟩
theorem ev_int {n : Int} (p : P (.int n)) : Ev C (tC (.int n)) δ P := fun B F H σ w Q k => k _ F H _ p (Gr.refl _ _ _) w (.int n)
theorem ev_str {n : PySem.Str} (p : P (.str n)) : Ev C (tC (.str n)) δ P := fun B F H σ w Q k => k _ F H _ p (Gr.refl _ _ _) w (.str n)
theorem ev_bl {n : Bool} (p : P (.bl n)) : Ev C (tC (.bl n)) δ P := fun B F H σ w Q k => k _ F H _ p (Gr.refl _ _ _) w (.bl n)
theorem ev_non (p : P .non) : Ev C (tC .non) δ P := fun B F H σ w Q k => k _ F H _ p (Gr.refl _ _ _) w .non
theorem ev_op (h : Ev C ta δ fun x => Ev C tb δ fun y => RV C r x y P) : Ev C (tOp r ta tb) δ P := fun B F H σ w Q k =>
  h B F H σ w _ fun v F1 H1 x px g1 w1 d1 => px B F1 H1 σ w1 _ fun u F2 H2 y py g2 w2 d2 => py F2 H2 v u w2.sub (d1.mono g2.f) d2 _ fun z' F3 H3 z pz g3 su d3 =>
    k z' F3 H3 z pz ((g1.trans g2).trans g3.any) (w2.pure g3 su) d3
theorem ev_un {f : Int → Int} (h : Ev C ta δ fun x => ∃ n, x = .int n ∧ P (.int (f n))) : Ev C (tUn (rU fun i => .int (f i)) ta) δ P := fun B F H σ w Q k => h B F H σ w _ fun v F1 H1 x px g1 w1 d1 => by
  obtain ⟨n, e, p⟩ := px
  subst e
  cases d1
  exact ⟨n, rfl, k _ F1 H1 _ p g1 w1 (.int _)⟩
theorem ev_opO {i : Nat} {ds : List Dat} (h : δ[i]? = some (.own ds)) (hb : Ev C tb δ fun y => RVO C r ds y P) : Ev C (tOp r (tVar i) tb) δ P := fun B F H σ w Q k => by
  obtain ⟨x, hx, p, vs, e, hp, hv, hn, hb0⟩ := w.sl i _ h
  subst e
  refine ⟨.ref p, hx, hb B F H σ w _ fun u F2 H2 y py g2 w2 d2 => ?_⟩
  exact py F2 H2 p vs u w2.sub (g2.h p _ (w.ownNe hp) hp) (hv.mono g2.f) d2 _ fun z' F3 H3 z pz g3 su d3 => k z' F3 H3 z pz (g2.trans g3.any) (w2.pure g3 su) d3
theorem ev_opP {i : Nat} {ds : List Dat} (h : δ[i]? = some (.own ds)) (ha : Ev C ta δ fun x => RVP C r x ds P) : Ev C (tOp r ta (tVar i)) δ P := fun B F H σ w Q k =>
  ha B F H σ w _ fun u F2 H2 x px g2 w2 d2 => by
    obtain ⟨x', hx, p, vs, e, hp, hv, hn, hb0⟩ := w2.sl i _ h
    subst e
    exact ⟨.ref p, hx, px F2 H2 p vs u w2.sub hp hv d2 _ fun z' F3 H3 z pz g3 su d3 => k z' F3 H3 z pz (g2.trans g3.any) (w2.pure g3 su) d3⟩
theorem ev_chain (h : Ev C ta δ fun x => Ev C tb δ fun y => RV C r x y fun z => ∃ k, z = .bl k ∧ (k = true → Ev C tc δ fun z' => RV C r' y z' P) ∧ (k = false → P (.bl false))) : Ev C (tChain r r' ta tb tc) δ P := fun B F H σ w Q k =>
  h B F H σ w _ fun v F1 H1 x px g1 w1 d1 => px B F1 H1 σ w1 _ fun u F2 H2 y py g2 w2 d2 => py F2 H2 v u w2.sub (d1.mono g2.f) d2 _ fun z' F3 H3 z pz g3 su d3 => by
    have w3 := w2.pure g3 su
    have g := (g1.trans g2).trans g3.any
    obtain ⟨b, e, yes, no⟩ := pz
    subst e
    cases d3
    refine ⟨b, rfl, ?_⟩
    cases b with
    | true =>
      rw [if_pos rfl]
      exact yes rfl B F3 H3 σ w3 _ fun v4 F4 H4 z4 p4 g4 w4 d4 => p4 F4 H4 u v4 w4.sub ((d2.mono g3.f).mono g4.f) d4 _ fun v5 F5 H5 z5 p5 g5 su5 d5 => k v5 F5 H5 z5 p5 ((g.trans g4).trans g5.any) (w4.pure g5 su5) d5
    | false =>
      rw [if_neg Bool.false_ne_true]
      exact k _ F3 H3 _ (no rfl) g w3 (.bl false)
/-! tests -/
/-- the datum is a truth value -/
def isB (P : Bool → Prop) (d : Dat) : Prop := ∃ b, d = .bl b ∧ P b
theorem et_test {P : Bool → Prop} (h : Ev C te δ (isB P)) : EvT C (tTest te) δ P := fun B F H σ w Q k => h B F H σ w _ fun v F1 H1 d p g1 w1 d1 => by
  obtain ⟨b, e, p⟩ := p
  subst e
  cases d1
  exact ⟨b, rfl, k F1 H1 b p g1 w1⟩
theorem et_B {P : Bool → Prop} (h : Ev C te δ (isB P)) : EvT C (tB te) δ P := fun B F H σ w Q k => h B F H σ w _ fun v F1 H1 d p g1 w1 d1 => by
  obtain ⟨b, e, p⟩ := p
  subst e
  cases d1
  exact ⟨b, rfl, k F1 H1 b p g1 w1⟩
theorem et_and {t u : TT} {P : Bool → Prop} (h : EvT C t δ fun a => (a = true → EvT C u δ P) ∧ (a = false → P false)) : EvT C (tAnd t u) δ P := fun B F H σ w Q k => h B F H σ w _ fun F1 H1 a p g1 w1 => by
  cases a with
  | true => exact iteT (p.1 rfl B F1 H1 σ w1 _ fun F2 H2 b pb g2 w2 => k F2 H2 b pb (g1.trans g2) w2)
  | false => exact iteF (k F1 H1 _ (p.2 rfl) g1 w1)
theorem et_or {t u : TT} {P : Bool → Prop} (h : EvT C t δ fun a => (a = true → P true) ∧ (a = false → EvT C u δ P)) : EvT C (tOr t u) δ P := fun B F H σ w Q k => h B F H σ w _ fun F1 H1 a p g1 w1 => by
  cases a with
  | true => exact iteT (k F1 H1 _ (p.1 rfl) g1 w1)
  | false => exact iteF (p.2 rfl B F1 H1 σ w1 _ fun F2 H2 b pb g2 w2 => k F2 H2 b pb (g1.trans g2) w2)
theorem et_not {t : TT} {P : Bool → Prop} (h : EvT C t δ fun a => P (!a)) : EvT C (tNot t) δ P := fun B F H σ w Q k => h B F H σ w _ fun F1 H1 a p g1 w1 => k F1 H1 _ p g1 w1
theorem ev_andV (h : Ev C ta δ (isB fun a => (a = true → Ev C tb δ P) ∧ (a = false → P (.bl false)))) : Ev C (tAndV ta tb) δ P := fun B F H σ w Q k => h B F H σ w _ fun v F1 H1 d p g1 w1 d1 => by
  obtain ⟨a, e, yes, no⟩ := p
  subst e
  cases d1
  refine ⟨a, rfl, ?_⟩
  cases a with
  | true => exact iteT (yes rfl B F1 H1 σ w1 _ fun v F2 H2 d p g2 w2 => k v F2 H2 d p (g1.trans g2) w2)
  | false => exact iteF (k _ F1 H1 _ (no rfl) g1 w1 (.bl false))
theorem ev_orV (h : Ev C ta δ (isB fun a => (a = true → P (.bl true)) ∧ (a = false → Ev C tb δ P))) : Ev C (tOrV ta tb) δ P := fun B F H σ w Q k => h B F H σ w _ fun v F1 H1 d p g1 w1 d1 => by
  obtain ⟨a, e, yes, no⟩ := p
  subst e
  cases d1
  refine ⟨a, rfl, ?_⟩
  cases a with
  | true => exact iteT (k _ F1 H1 _ (yes rfl) g1 w1 (.bl true))
  | false => exact iteF (no rfl B F1 H1 σ w1 _ fun v F2 H2 d p g2 w2 => k v F2 H2 d p (g1.trans g2) w2)
theorem ev_notV (h : Ev C ta δ (isB fun a => P (.bl (!a)))) : Ev C (tNotV ta) δ P := fun B F H σ w Q k => h B F H σ w _ fun v F1 H1 d p g1 w1 d1 => by
  obtain ⟨a, e, p⟩ := p
  subst e
  cases d1
  exact ⟨a, rfl, k _ F1 H1 _ p g1 w1 (.bl _)⟩
theorem ev_if {t : TT} (h : EvT C t δ fun b => (b = true → Ev C ta δ P) ∧ (b = false → Ev C tb δ P)) : Ev C (tIf t ta tb) δ P := fun B F H σ w Q k => h B F H σ w _ fun F1 H1 b p g1 w1 => by
  cases b with
  | true => exact iteT (p.1 rfl B F1 H1 σ w1 _ fun v F2 H2 d p g2 w2 => k v F2 H2 d p (g1.trans g2) w2)
  | false => exact iteF (p.2 rfl B F1 H1 σ w1 _ fun v F2 H2 d p g2 w2 => k v F2 H2 d p (g1.trans g2) w2)
/-! arguments, displays -/
theorem ea_nil {P : List Dat → Prop} (p : P []) : EvA C tNil δ P := fun B F H σ w Q k => k [] F H [] p (Gr.refl _ _ _) w .nil
theorem ea_cons {tr : TA} {P : List Dat → Prop} (h : Ev C te δ fun d => EvA C tr δ fun ds => P (d :: ds)) : EvA C (tCons te tr) δ P := fun B F H σ w Q k =>
  h B F H σ w _ fun v F1 H1 d p g1 w1 d1 => p B F1 H1 σ w1 _ fun vs F2 H2 ds p2 g2 w2 d2 => k (v :: vs) F2 H2 _ p2 (g1.trans g2) w2 (.cons (d1.mono g2.f) d2)
theorem Wd.newF {B : Bs} {F H : Hp} {σ : L2.St} {p : Addr} {o : HO} (w : Wd C B F H σ δ) (n : H p = none) : Wd C B (upd F p o) (upd H p o) σ δ := w.pure (Gr.newF w.sub n) (same_new w.sub n)
theorem Wd.newO {B : Bs} {F H : Hp} {σ : L2.St} {p : Addr} {o : HO} (w : Wd C B F H σ δ) (n : H p = none) : Wd C B F (upd H p o) σ δ := w.pure (Gr.newO n) (same_newO w.sub (none_of w.sub n))
theorem ev_tup {tr : TA} (h : EvA C tr δ fun ds => ds.length ≤ 100000 ∧ P (.tup ds)) : Ev C (tTup tr) δ P := fun B F H σ w Q k =>
  h B F H σ w _ fun vs F1 H1 ds p g1 w1 d1 => ⟨by rw [d1.length]; exact Nat.le_trans p.1 (by decide), fun a ha =>
    k _ _ _ _ p.2 (g1.trans (Gr.newF w1.sub ha)) (w1.newF ha) (.tup upd_same (d1.mono (Gr.newF (P := none) (o := .tup vs) w1.sub ha).f))⟩
theorem en_lst {tr : TA} {P : List Dat → Prop} (h : EvA C tr δ fun ds => ds.length ≤ 100000 ∧ P ds) : EvN C (tLst tr) δ P := fun B F H σ w Q k =>
  h B F H σ w _ fun vs F1 H1 ds p g1 w1 d1 => ⟨by rw [d1.length]; exact Nat.le_trans p.1 (by decide), fun a ha =>
    k a vs F1 _ ds p.2 (g1.trans (Gr.newO ha)) (w1.newO ha) upd_same d1 (none_of w1.sub ha) (g1.back ha)⟩
/-- a new list is a datum: it is frozen -/
theorem freeze {B : Bs} {F H : Hp} {σ : L2.St} {p : Addr} {vs : List V} (w : Wd C B F H σ δ) (hp : H p = some (.lst vs)) (hn : F p = none) (ho : ∀ (i : Nat) (ds : List Dat), δ[i]? = some (.own ds) → σ[i]? ≠ some (some (.ref p))) (hb : B.H p = none) :
    Same F (upd F p (.lst vs)) ∧ Wd C B (upd F p (.lst vs)) H σ δ := by
  have fs : Same F (upd F p (.lst vs)) := fun a u e => by
    rw [upd_ne (ne_of_none e hn)]; exact e
  refine ⟨fs, ⟨fun a u e => ?_, ⟨w.gr.f.trans fs, w.gr.h, w.gr.th, fun a e z => ?_⟩, fun i k e => ?_, w.ap, fun q e => ?_⟩⟩
  · by_cases h : a = p
    · rw [h, upd_same] at e; rw [h, hp]; exact e
    · rw [upd_ne h] at e; exact w.sub a u e
  · have h : a ≠ p := fun q => e (by rw [q]; exact hb)
    rw [upd_ne h]; exact w.gr.fr a e z
  · obtain ⟨x, hx, ok⟩ := w.sl i k e
    refine ⟨x, hx, ?_⟩
    cases k with
    | emp => trivial
    | val d =>
      obtain ⟨v, e1, e2⟩ := ok
      exact ⟨v, e1, e2.mono fs⟩
    | own ds =>
      obtain ⟨q, ws, e1, e2, e3, e4, e5⟩ := ok
      have h : q ≠ p := fun z => ho i ds e (by rw [hx, e1, z])
      exact ⟨q, ws, e1, e2, e3.mono fs, by rw [upd_ne h]; exact e4, e5⟩
    | pool => exact ok
  · obtain ⟨s, n, vc, d1, e1⟩ := w.pl q e
    have h : q ≠ p := fun z => by rw [z, hp] at e1; cases e1
    exact ⟨s, by rw [upd_ne h]; exact n, vc, d1.mono fs, e1⟩
theorem EvN.ev (h : EvN C te δ fun ds => P (.lst ds)) : Ev C te δ P := fun B F H σ w Q k =>
  h B F H σ w _ fun p vs F1 H1 ds pp g1 w1 hp hd hn h0 => by
    have hb : B.H p = none := w.gr.back h0
    have ho : ∀ (i : Nat) (es : List Dat), δ[i]? = some (.own es) → σ[i]? ≠ some (some (.ref p)) := fun i es e q => by
      obtain ⟨x, hx, p', vs', e1, e2, _⟩ := w.sl i _ e
      rw [hx, e1] at q
      cases q
      rw [h0] at e2; cases e2
    obtain ⟨fs, w2⟩ := freeze w1 hp hn ho hb
    refine k (.ref p) _ H1 _ pp ⟨g1.f.trans fs, g1.h, g1.th, fun a e z => ?_⟩ w2 (.lst upd_same (hd.mono fs))
    have hne : a ≠ p := fun q => e (by rw [q]; exact h0)
    rw [upd_ne hne]
    exact g1.fr a e z
theorem ev_cb {rr : List V → Hp → VK → Prop} {tr : TA} (h : EvA C tr δ fun ds => RC C rr ds P) : Ev C (tCB rr tr) δ P := fun B F H σ w Q k =>
  h B F H σ w _ fun vs F1 H1 ds p g1 w1 d1 => p F1 H1 vs w1.sub d1 _ fun v F2 H2 z pz g2 su d2 => k v F2 H2 z pz (g1.trans g2.any) (w1.pure g2 su) d2
/-! slices -/
theorem eo_none {P : Option Int → Prop} (p : P none) : EvO C tNoPart δ P := fun B F H σ w Q k => k F H _ p (Gr.refl _ _ _) w
theorem eo_some {P : Option Int → Prop} (h : Ev C te δ fun d => ∃ n, d = .int n ∧ P (some n)) : EvO C (tPart te) δ P := fun B F H σ w Q k => h B F H σ w _ fun v F1 H1 d p g1 w1 d1 => by
  obtain ⟨n, e, p⟩ := p
  subst e
  cases d1
  exact ⟨n, rfl, k F1 H1 _ p g1 w1⟩
theorem ev_sl {rr : V → Option Int → Option Int → Hp → VK → Prop} {tl th : TO} (h : Ev C te δ fun x => EvO C tl δ fun lo => EvO C th δ fun hi => RS C rr x lo hi P) : Ev C (tSl rr te tl th) δ P := fun B F H σ w Q k =>
  h B F H σ w _ fun v F1 H1 x p1 g1 w1 d1 => p1 B F1 H1 σ w1 _ fun F2 H2 lo p2 g2 w2 => p2 B F2 H2 σ w2 _ fun F3 H3 hi p3 g3 w3 => p3 F3 H3 v w3.sub ((d1.mono g2.f).mono g3.f) _ fun v F4 H4 z pz g4 su d4 =>
    k v F4 H4 z pz (((g1.trans g2).trans g3).trans g4.any) (w3.pure g4 su) d4

/-! ### statements -/
theorem ex_seq {t u : TS} (h : Ex C CB W t δ (fun o => match o with | .nx δ' => Ex C CB W u δ' R | o => R o)) : Ex C CB W (tSeq t u) δ R := fun B F H σ w D f =>
  h B F H σ w { D with nx := u D } ⟨fun δ' e F' H' σ' w' => e B F' H' σ' w' D f, fun δ' e => f.bk δ' e, fun δ' e => f.ct δ' e, fun d e => f.rt d e, fun n e => f.ex n e⟩
theorem ex_nx (h : R (.nx δ)) : Ex C CB W tNext δ R := fun B F H σ w D f => f.nx δ h F H σ w
theorem ex_bk (h : R (.bk δ)) : Ex C CB W tBreak δ R := fun B F H σ w D f => f.bk δ h F H σ w
theorem ex_ct (h : R (.ct δ)) : Ex C CB W tCont δ R := fun B F H σ w D f => f.ct δ h F H σ w
theorem ex_ret (h : Ev C te δ fun d => R (.rt d)) : Ex C CB W (tRet te) δ R := fun B F H σ w D f => h B F H σ w _ fun v F1 H1 d p g1 w1 d1 => f.rt d p v F1 H1 σ δ w1 d1
theorem ex_if {tt : TT} {t u : TS} (h : EvT C tt δ fun b => (b = true → Ex C CB W t δ R) ∧ (b = false → Ex C CB W u δ R)) : Ex C CB W (tIfS tt t u) δ R := fun B F H σ w D f => h B F H σ w _ fun F1 H1 b p g1 w1 => by
  cases b with
  | true => exact iteT (p.1 rfl B F1 H1 σ w1 D f)
  | false => exact iteF (p.2 rfl B F1 H1 σ w1 D f)
/-- the slot i set -/
theorem Wd.set {B : Bs} {F H : Hp} {σ : L2.St} {i : Nat} {x : Option V} {k : Slot} (w : Wd C B F H σ δ) (ok : SlotOk C B F H x k)
    (ho : ∀ (ds : List Dat) (p : Addr), k = .own ds → x = some (.ref p) → ∀ (j : Nat) (es : List Dat), δ[j]? = some (.own es) → σ[j]? ≠ some (some (.ref p))) : Wd C B F H (σ.set i x) (δ.set i k) := by
  refine ⟨w.sub, w.gr, fun j k' e => ?_, fun j1 j2 d1 d2 p e1 e2 e3 e4 => ?_, w.pl⟩
  · by_cases h : i = j
    · subst h
      rw [List.getElem?_set] at e
      simp only [if_true] at e
      split at e
      · rename_i hl
        cases e
        obtain ⟨y, hy, _⟩ := w.sl i _ (List.getElem?_eq_getElem hl)
        have hl2 := (List.getElem?_eq_some_iff.mp hy).1
        exact ⟨x, by rw [List.getElem?_set_self hl2], ok⟩
      · cases e
    · rw [List.getElem?_set_ne h] at e ⊢
      exact w.sl j k' e
  · have key : ∀ {j : Nat} {dj : List Dat}, (δ.set i k)[j]? = some (.own dj) → (i = j ∧ k = .own dj) ∨ (i ≠ j ∧ δ[j]? = some (.own dj)) := fun {j dj} e => by
      by_cases h : i = j
      · subst h
        rw [List.getElem?_set] at e
        simp only [if_true] at e
        split at e
        · cases e; exact .inl ⟨rfl, rfl⟩
        · cases e
      · rw [List.getElem?_set_ne h] at e
        exact .inr ⟨h, e⟩
    have val : ∀ {j : Nat} {y : Option V}, (σ.set i x)[j]? = some y → i = j → y = x := fun {j y} e h => by
      subst h
      rw [List.getElem?_set] at e
      simp only [if_true] at e
      split at e
      · cases e; rfl
      · cases e
    rcases key e1 with ⟨h1, k1⟩ | ⟨h1, k1⟩
    · rcases key e2 with ⟨h2, k2⟩ | ⟨h2, k2⟩
      · rw [← h1, ← h2]
      · rw [List.getElem?_set_ne h2] at e4
        exact absurd e4 (ho _ p k1 (val e3 h1).symm j2 _ k2)
    · rcases key e2 with ⟨h2, k2⟩ | ⟨h2, k2⟩
      · rw [List.getElem?_set_ne h1] at e3
        exact absurd e3 (ho _ p k2 (val e4 h2).symm j1 _ k1)
      · rw [List.getElem?_set_ne h1] at e3
        rw [List.getElem?_set_ne h2] at e4
        exact w.ap j1 j2 d1 d2 p k1 k2 e3 e4
theorem Wd.setV {B : Bs} {F H : Hp} {σ : L2.St} {i : Nat} {v : V} (w : Wd C B F H σ δ) (h : Dt C F v d) : Wd C B F H (σ.set i (some v)) (δ.set i (.val d)) :=
  w.set ⟨v, rfl, h⟩ fun ds p e _ => by cases e
theorem ex_asg {i : Nat} (h : Ev C te δ fun d => R (.nx (δ.set i (.val d)))) : Ex C CB W (tAsg te (gName i)) δ R := fun B F H σ w D f => h B F H σ w _ fun v F1 H1 d p g1 w1 d1 =>
  f.nx _ p F1 H1 _ (w1.setV d1)
theorem ex_asgO {i : Nat} (h : EvN C te δ fun ds => R (.nx (δ.set i (.own ds)))) : Ex C CB W (tAsg te (gName i)) δ R := fun B F H σ w D f => h B F H σ w _ fun p vs F1 H1 ds pp g1 w1 hp hd hn h0 => by
  refine f.nx _ pp F1 H1 _ (w1.set ⟨p, vs, rfl, hp, hd, hn, w.gr.back h0⟩ fun es q _ e j es' e1 z => ?_)
  cases e
  obtain ⟨x, hx, p', vs', e3, e4, _⟩ := w.sl j _ e1
  rw [hx, e3] at z
  cases z
  rw [h0] at e4; cases e4
theorem ex_drop (h : Ev C te δ fun _ => R (.nx δ)) : Ex C CB W (tDrop te) δ R := fun B F H σ w D f => h B F H σ w _ fun v F1 H1 d p g1 w1 d1 => f.nx _ p F1 H1 _ w1
/-- an own list is changed -/
theorem Wd.mut {B : Bs} {F H : Hp} {σ : L2.St} {i : Nat} {ds es : List Dat} {p : Addr} {vs ws : List V} (w : Wd C B F H σ δ) (h : δ[i]? = some (.own ds)) (hx : σ[i]? = some (some (.ref p))) (hp : H p = some (.lst vs)) (hn : F p = none) (hb : B.H p = none) (hw : Dts C F ws es) :
    Wd C B F (upd H p (.lst ws)) σ (δ.set i (.own es)) := by
  have hl : i < δ.length := (List.getElem?_eq_some_iff.mp h).1
  refine ⟨fun a u e => ?_, ⟨w.gr.f, fun a u n e => ?_, fun a e => ?_, w.gr.fr⟩, fun j k e => ?_, fun j1 j2 d1 d2 q e1 e2 e3 e4 => ?_, fun q e => ?_⟩
  · rw [upd_ne (ne_of_none e hn)]; exact w.sub a u e
  · rw [upd_ne (ne_of_none e hb)]; exact w.gr.h a u n e
  · have ne : a ≠ p := fun z => e (by rw [z]; exact hb)
    rw [upd_ne ne]; exact w.gr.th a e
  · by_cases hj : i = j
    · subst hj
      rw [List.getElem?_set_self hl] at e
      cases e
      exact ⟨_, hx, p, ws, rfl, upd_same, hw, hn, hb⟩
    · rw [List.getElem?_set_ne hj] at e
      obtain ⟨x, e1, ok⟩ := w.sl j k e
      refine ⟨x, e1, ?_⟩
      cases k with
      | emp => trivial
      | val d => exact ok
      | own fs =>
        obtain ⟨q, us, a1, a2, a3, a4, a5⟩ := ok
        have ne : q ≠ p := fun z => hj (w.ap i j ds fs p h e hx (by rw [e1, a1, z]))
        exact ⟨q, us, a1, by rw [upd_ne ne]; exact a2, a3, a4, a5⟩
      | pool => exact ok
  · have key : ∀ {j : Nat} {dj : List Dat}, (δ.set i (.own es))[j]? = some (.own dj) → ∃ dk, δ[j]? = some (.own dk) := fun {j dj} e => by
      by_cases hj : i = j
      · subst hj; exact ⟨ds, h⟩
      · rw [List.getElem?_set_ne hj] at e; exact ⟨dj, e⟩
    obtain ⟨k1, e1⟩ := key e1
    obtain ⟨k2, e2⟩ := key e2
    exact w.ap j1 j2 k1 k2 q e1 e2 e3 e4
  · obtain ⟨s, n, vc, a, b⟩ := w.pl q e
    have ne : q ≠ p := fun z => by rw [z, hp] at b; cases b
    exact ⟨s, n, vc, a, by rw [upd_ne ne]; exact b⟩
theorem ex_app {i : Nat} {ds : List Dat} (h : δ[i]? = some (.own ds)) (hl : ds.length < 100000) (he : Ev C te δ fun d => R (.nx (δ.set i (.own (ds ++ [d]))))) :
    Ex C CB W (tDrop (tBM K "list" rAppend (tVar i) (tCons te tNil))) δ R := fun B F H σ w D f => by
  obtain ⟨x, hx, p, vs, e, hp, hv, hn, hb⟩ := w.sl i _ h
  subst e
  refine ⟨.ref p, hx, .inl ⟨rfl, _, .inl (.inl hp)⟩, he B F H σ w _ fun v F1 H1 d pd g1 w1 d1 => ?_⟩
  have hp1 := g1.h p _ (w.ownNe hp) hp
  refine ⟨p, vs, v, rfl, rfl, hp1, by rw [hv.length]; exact Nat.lt_of_lt_of_le hl (by decide), ?_⟩
  exact f.nx _ pd F1 _ σ (w1.mut h hx hp1 (g1.fr p (by rw [hp]; simp) hn) hb ((hv.mono g1.f).snoc d1))
theorem ixN_nat {n k : Nat} (h : k < n) : ixN n (k : Int) = some k := by
  unfold ixN
  rw [if_pos (Int.natCast_nonneg k), if_pos (by omega), Int.toNat_natCast]
theorem ex_setO {i : Nat} {ds : List Dat} {ti : TE} (h : δ[i]? = some (.own ds)) (he : Ev C te δ fun d => Ev C ti δ fun k => ∃ n : Nat, k = .int (n : Int) ∧ n < ds.length ∧ R (.nx (δ.set i (.own (ds.set n d))))) :
    Ex C CB W (tAsg te (gSub (tVar i) ti rSetL)) δ R := fun B F H σ w D f => he B F H σ w _ fun v F1 H1 d pd g1 w1 d1 => by
  obtain ⟨x, hx, p, vs, e, hp, hv, hn, hb⟩ := w1.sl i _ h
  subst e
  refine ⟨.ref p, hx, pd B F1 H1 σ w1 _ fun u F2 H2 k pk g2 w2 d2 => ?_⟩
  obtain ⟨n, e, hl, pr⟩ := pk
  subst e
  cases d2
  have hp2 := g2.h p _ (w1.ownNe hp) hp
  refine ⟨p, vs, n, n, rfl, rfl, hp2, ixN_nat (by rw [hv.length]; exact hl), ?_⟩
  exact f.nx _ pr F2 _ σ (w2.mut h hx hp2 (g2.fr p (by rw [hp]; simp) hn) hb (Dts.set (d1.mono g2.f) n (hv.mono g2.f)))
theorem ex_freeze {t : TS} {i : Nat} {ds : List Dat} (h : δ[i]? = some (.own ds)) (k : Ex C CB W t (δ.set i (.val (.lst ds))) R) : Ex C CB W t δ R := fun B F H σ w D f => by
  obtain ⟨x, hx, p, vs, e, hp, hv, hn, hb⟩ := w.sl i _ h
  subst e
  have hl : i < δ.length := (List.getElem?_eq_some_iff.mp h).1
  have w0 : Wd C B F H σ (δ.set i .emp) := by
    refine ⟨w.sub, w.gr, fun j k e => ?_, fun j1 j2 d1 d2 q e1 e2 e3 e4 => ?_, w.pl⟩
    · by_cases hj : i = j
      · subst hj
        rw [List.getElem?_set_self hl] at e
        cases e
        exact ⟨_, hx, trivial⟩
      · rw [List.getElem?_set_ne hj] at e
        exact w.sl j k e
    · have key : ∀ {j : Nat} {dj : List Dat}, (δ.set i .emp)[j]? = some (.own dj) → δ[j]? = some (.own dj) := fun {j dj} e => by
        by_cases hj : i = j
        · subst hj; rw [List.getElem?_set_self hl] at e; cases e
        · rw [List.getElem?_set_ne hj] at e; exact e
      exact w.ap j1 j2 d1 d2 q (key e1) (key e2) e3 e4
  have ho : ∀ (j : Nat) (es : List Dat), (δ.set i .emp)[j]? = some (.own es) → σ[j]? ≠ some (some (.ref p)) := fun j es e z => by
    by_cases hj : i = j
    · subst hj; rw [List.getElem?_set_self hl] at e; cases e
    · rw [List.getElem?_set_ne hj] at e
      exact hj (w.ap i j ds es p h e hx z)
  obtain ⟨fs, w1⟩ := freeze w0 hp hn ho hb
  have w2 := w1.set (i := i) (x := some (.ref p)) (k := .val (.lst ds)) ⟨_, rfl, .lst upd_same (hv.mono fs)⟩ fun ds p e _ => by cases e
  have e1 : σ.set i (some (.ref p)) = σ := by
    obtain ⟨hl2, e⟩ := List.getElem?_eq_some_iff.mp hx
    rw [← e, List.set_getElem_self hl2]
  rw [e1, List.set_set] at w2
  exact k B _ H σ w2 D f
/-! targets -/
theorem gg_name {i : Nat} {vs : List Nat} (hi : i ∈ vs) : GG C (gName i) vs δ d (δ.set i (.val d)) := fun B F H σ w v h Q k => k _ (w.setV h) (fun j hj => by
  rw [List.getElem?_set_ne (fun e => hj (by rw [← e]; exact hi))]) (by rw [List.length_set])
def GGs (C : Addr) (g : TGs) (vs : List Nat) (δ : List Slot) (ds : List Dat) (δ' : List Slot) : Prop :=
  ∀ B F H σ, Wd C B F H σ δ → ∀ us, Dts C F us ds → ∀ Q : L2.St → Hp → Prop, (∀ σ', Wd C B F H σ' δ' → (∀ i, i ∉ vs → σ'[i]? = σ[i]?) → σ'.length = σ.length → Q σ' H) → g us σ H Q
theorem ggs_nil {vs : List Nat} : GGs C gNil vs δ [] δ := fun B F H σ w us h Q k => by
  cases h
  exact ⟨rfl, k σ w (fun _ _ => rfl) rfl⟩
theorem ggs_cons {g : TG} {gs : TGs} {vs : List Nat} {ds : List Dat} {δ1 δ2 : List Slot} (h : GG C g vs δ d δ1) (hs : GGs C gs vs δ1 ds δ2) : GGs C (gCons g gs) vs δ (d :: ds) δ2 := fun B F H σ w us hd Q k => by
  cases hd with
  | cons a b => exact ⟨_, _, rfl, h B F H σ w _ a _ fun σ1 w1 e1 l1 => hs B F H σ1 w1 _ b _ fun σ2 w2 e2 l2 => k σ2 w2 (fun i hi => (e2 i hi).trans (e1 i hi)) (l2.trans l1)⟩
theorem gg_tup {gs : TGs} {vs : List Nat} {n : Nat} {ds : List Dat} (h : GGs C gs vs δ ds δ') (hn : ds.length = n) : GG C (gTup K n gs) vs δ (.tup ds) δ' := fun B F H σ w v hd Q k => by
  cases hd with
  | tup e hs => exact ⟨_, _, rfl, .inl (.inl (w.sub _ _ e)), by rw [hs.length, hn], h B F H σ w _ hs _ k⟩
theorem ex_asgG {g : TG} {vs : List Nat} (h : Ev C te δ fun d => ∃ δ', GG C g vs δ d δ' ∧ R (.nx δ')) : Ex C CB W (tAsg te g) δ R := fun B F H σ w D f => h B F H σ w _ fun v F1 H1 d p g1 w1 d1 => by
  obtain ⟨δ', hg, pr⟩ := p
  exact hg B F1 H1 σ w1 v d1 _ fun σ' w' _ _ => f.nx _ pr F1 H1 σ' w'
end
end Dl


namespace L2
open PySem PySem.Spec PyProof.Rows
/-- a list or a tuple is walked -/
def iSeq (K : PySem.W.Frag) (tl : TE) : TI := fun σ H R => tl σ H fun x H1 => ∃ a, x = .ref a ∧ (((∃ xs, SqL K H1 a xs) ∧ R (Itl K a) H1) ∨ ((∃ xs, SqT K H1 a xs) ∧ R (Itt K a) H1))
theorem pi_seq {X : Cx} {tg l : Expr} {tl : TE} (hl : PE X l tl) : PI X tg l (iSeq X.K tl) := by
  refine ⟨fun pins s σ H R I h => ?_⟩
  refine thn (hl.run pins s σ H _ I h) fun v s1 hh => ?_
  obtain ⟨x, H1, I1, r1, a, ex, q⟩ := hh
  rcases q with ⟨⟨xs, hq⟩, q⟩ | ⟨⟨xs, hq⟩, q⟩
  · subst ex
    obtain rfl : v = Value.ref a := r1
    obtain ⟨its, rv, p, hz⟩ := I1.list hq
    exact wpAny_pyIter_list p.isList (pi_one (tk := s1.toks) I1 _ (turn_list a _) ⟨_, Heap.get?_push_size _ rfl, rfl, rfl⟩ q)
  · subst ex
    obtain rfl : v = Value.ref a := r1
    obtain ⟨its, rv, p, hz⟩ := I1.tuple hq
    exact wpAny_pyIter_tuple p (pi_one (tk := s1.toks) I1 _ (turn_tuple a _) ⟨_, Heap.get?_push_size _ rfl, rfl, rfl⟩ q)
end L2


/-! Rules beyond the hand layer: enumerate of a tuple, tuple times 0 and 1. -/
namespace L2
open PySem PySem.Spec PyProof.Rows
/-- the tuple at a as it stands, the items in new pairs -/
def IteT (a : Addr) : It :=
  ⟨fun i H => ∃ (xs : List V) (x : V), H a = some (.tup xs) ∧ xs[i]? = some x, fun i H v H' => ∃ T x, v = .ref T ∧ H T = none ∧ H' = upd H T (.tup [.int (i : Nat), x]) ∧ ∀ xs, H a = some (.tup xs) → xs[i]? = some x, fun i H => ∃ xs : List V, H a = some (.tup xs) ∧ xs.length ≤ i⟩
theorem turn_enumT {P : Program} {w : World} {K : PySem.W.Frag} {elts : List Expr} {kk : Nat} {tpos : Pos} (a e it : Addr) :
    Turn P w K (.Tuple elts kk tpos) (IteT a) [e, it] e (fun i h => (∃ old, IsEnum h e it ((i : Nat) : Int) old) ∧ h.IsTupleIter it a i ∧ e ≠ it) where
  mem := by simp
  obj := fun i h st b hb => by
    obtain ⟨⟨old, he⟩, ⟨o, ho, hc, hd⟩, _⟩ := st
    have e' : b = e ∨ b = it := by simpa using hb
    rcases e' with z | z
    · rw [z]; exact ⟨_, he, fun v q => nomatch q⟩
    · rw [z]; exact ⟨o, ho, fun v q => by rw [hd] at q; cases q⟩
  keep := fun i h h' st k => let ⟨⟨old, he⟩, hi, hne⟩ := st; ⟨⟨old, k e (by simp) _ he⟩, hi.at fun o q => k it (by simp) o q, hne⟩
  item := by
    intro X hP hw hK hc i pins s σ H E I hf st hg
    subst hP hw hK
    obtain ⟨⟨old, he⟩, hit, hne⟩ := st
    obtain ⟨xs, x, hq, hx⟩ := hg
    obtain ⟨hz, its, rv, p⟩ : xs.length ≤ sizeLine ∧ ∃ its : List Value, Vals xs its ∧ IsTup s.heap a its.toArray := I.hok a _ hq
    obtain ⟨u, hu, ru⟩ := rv.get hx
    have hel : e < s.heap.objs.size := Heap.lt_size he
    have hil : it < s.heap.objs.size := by obtain ⟨_, q, _⟩ := hit; exact Heap.lt_size q
    have hai : a ≠ it := fun z => by
      have q := (hf it (by simp)).1
      rw [← z, hq] at q; cases q
    have hae : a ≠ e := fun z => by
      have q := (hf e (by simp)).1
      rw [← z, hq] at q; cases q
    have hlt : i < its.toArray.size := by
      have := (List.getElem?_eq_some_iff.mp hu).1
      simpa using this
    refine wpAny_pyNext_enum_itemD (Draws.tuple (A := X.A.in1) (show X.A.in1.handled = none from I.ok.hd hc) it a hai its.toArray) he ⟨hit, p⟩ hlt hne (by simp; exact ⟨hne, Ne.symm hae⟩) fun y h' tk hPy ho hst' hT hsz hk => ?_
    have ey : y = u := by
      have z : its.toArray[i]? = some u := by simpa using hu
      rw [z] at hPy
      exact (Option.some.inj hPy).symm
    subst ey
    obtain ⟨hit', _⟩ := hst'
    refine ⟨_, rfl, wpAny_letOwnedTupleGo_enum (s := { s with heap := h', toks := tk + 1 }) ho fun h'' he' sb => ?_⟩
    have hT2 : h''.get? s.heap.objs.size = some { cls := .type "tuple", data := .seq #[.int i tk, y] } := (sb.2 _ (Nat.ne_of_gt hel)).trans hT
    have new : ObjOk X.prog X.w (upd H s.heap.objs.size (.tup [.int (i : Nat), x])) h'' s.heap.objs.size (.tup [.int (i : Nat), x]) :=
      ⟨by show 2 ≤ sizeLine; decide, [.int i tk, y], .cons ⟨_, rfl⟩ (.cons ru .nil), ⟨_, hT2, rfl, _, rfl⟩⟩
    have I1 : Inv X pins σ (upd H s.heap.objs.size (.tup [.int (i : Nat), x])) { s with heap := h'', toks := tk + 1 } :=
      I.turnedNew (ch := [e, it]) (fun b ob hb q => (sb.2 b (fun z => hb (by simp [z]))).trans (hk b ob (fun z => hb (by simp [z])) (fun z => hb (by simp [z])) q)) hf (Nat.le_refl _) new
    refine ⟨.ref s.heap.objs.size, _, I1, rfl, ⟨_, x, rfl, I.hok.fresh (Nat.le_refl _), rfl, fun ys hy => by rw [hq] at hy; cases hy; exact hx⟩, ⟨⟨y, ?_⟩, hit'.at fun o q => (sb.2 it (Ne.symm hne)).trans q, hne⟩, fun b hb => ?_⟩
    · have e1 : ((i + 1 : Nat) : Int) = (i : Int) + 1 := by omega
      rw [e1]; exact he'
    · have hb' : b < s.heap.objs.size := by
        have e' : b = e ∨ b = it := by simpa using hb
        rcases e' with z | z
        · rw [z]; exact hel
        · rw [z]; exact hil
      rw [upd_ne (Nat.ne_of_lt hb')]
      exact (hf b hb).1
  done := by
    intro X hP hw hK hc i pins s σ H E I hf st hg
    subst hP hw hK
    obtain ⟨⟨old, he⟩, hit, hne⟩ := st
    obtain ⟨xs, hq, hx⟩ := hg
    obtain ⟨hz, its, rv, p⟩ : xs.length ≤ sizeLine ∧ ∃ its : List Value, Vals xs its ∧ IsTup s.heap a its.toArray := I.hok a _ hq
    obtain ⟨f0, f1, f2, f3, f4, f5⟩ := hf it (by simp)
    have hl := rv.length
    have hT : s.TypeIs (.ref e) "enumerate" := ⟨_, he, rfl⟩
    unfold pyNext
    refine wpAny_bind (wpAny_attempt (wpAny_callSpecial?_slot (name := Str.ofString "__next__") hT PySem.F.slot_enumerate_next
      (wpAny_call_entry PySem.F.slot_enumerate_next hT PySem.F.entry_enumerate_next ?_ (PySem.F.args_enumerate_next_1 _))))
    show wpAny _ _ (field (.ref e) 2 >>= _) _ _ _
    refine wpAny_bind (wpAny_field he rfl (x := .ref it) rfl ?_)
    refine wpAny_bind (wpAny_nextOf_tuple_end (I.ok.hd hc) hit p (i := i) (by simp; omega) fun h' x he' hx' => ?_)
    obtain ⟨o, ho, hc⟩ := hx'
    refine wpAny_bind (wpAny_isInstance (T := "StopIteration") (b := true) ⟨o, ho, hc⟩ isSubtype_stop ?_)
    exact wpAny_pure ⟨rfl, I.turned (t' := s.toks) (fun b o hb q => he' b o hb q) f0 f1 f3 f4 f5⟩
  self := fun A i s Q E st h => let ⟨⟨_, he⟩, _⟩ := st; wpAny_pyIter_enum he h
theorem meets_enumerate_newT (l : Addr) (items : Array Value) (n : Nat) (dct : Option Addr) (sl : Array (Option Value)) :
    Meets (Builtin.«enumerate.__new__» ⟨[.type "enumerate", .ref l], []⟩) (fun _ R s => s.heap.get? l = some { cls := .type "tuple", dict := dct, data := .seq items n, slots := sl } ∧
      R (.ok (.ret (.ref (s.heap.push { cls := .type "tuple_iterator", data := .fields #[.ref l, .int 0 0] }).objs.size)))
        { s with heap := (s.heap.push { cls := .type "tuple_iterator", data := .fields #[.ref l, .int 0 0] }).push { cls := .type "enumerate", data := .fields #[.none, .bool false, .ref s.heap.objs.size, rawInt 0, .none, .none] } }) :=
  .of_wp fun prog w A R s h => by
    obtain ⟨hp, g, d, tk, os⟩ := s; obtain ⟨hl, h⟩ := h
    have hsub := sub_enumerate
    have hL : Heap.IsTuple (Shared.heap ⟨hp, g, d, tk, os⟩) l items := ⟨_, hl, rfl, n, rfl⟩
    wp_walk using AutoSeq1.wpAny_loadPart' hl
    refine wpAny_stack_any fun st => wpAny_pure ?_
    split
    · rename_i c _ _ _ _ _
      cases (c == Value.type "enumerate")
      · wp_walk using AutoSeq1.wpAny_loadPart' hl, wpAny_pyIter_tuple hL
        exact ⟨_, rfl, h⟩
      · wp_walk using AutoSeq1.wpAny_loadPart' hl, wpAny_pyIter_tuple hL
        exact ⟨_, rfl, h⟩
    · wp_walk using AutoSeq1.wpAny_loadPart' hl, wpAny_pyIter_tuple hL
      exact ⟨_, rfl, h⟩
section
variable {prog : Program} {w : World} {A : Around} {E : Value → Shared → Prop} {s : Shared}
theorem call_enumerate_tuple {l : Addr} {items : Array Value} {Q : Value → Shared → Prop} (hL : s.heap.IsTuple l items)
    (h : ∀ h', IsEnum h' (s.heap.objs.size + 1) s.heap.objs.size 0 .none → h'.IsTupleIter s.heap.objs.size l 0 → h'.objs.size = s.heap.objs.size + 2 →
      (∀ b o, s.heap.get? b = some o → h'.get? b = some o) → Q (.ref (s.heap.objs.size + 1)) { s with heap := h' }) :
    wpAny (model prog w) A (call (.type "enumerate") [.ref l]) Q E s := by
  obtain ⟨⟨c, dct, dt, sl⟩, hl, hc, n, hd⟩ := hL
  replace hc : c = .type "tuple" := hc
  replace hd : dt = .seq items n := hd
  subst hc hd
  refine callType_new PySem.F.called_enumerate (by decide) (PySem.F.typeCall_enumerate_1 _) (PySem.F.newCall_enumerate_1 _) (fun obj => PySem.F.args_object_init_2 obj _) PySem.F.entry_enumerate_new
    (meets_enumerate_newT l items n dct sl) ⟨hl, ?_⟩
  have hz : (s.heap.push { cls := .type "tuple_iterator", data := .fields #[.ref l, .int 0 0] }).objs.size = s.heap.objs.size + 1 := Heap.size_push ..
  show _ ∧ _
  rw [hz]
  have he : IsEnum ((s.heap.push { cls := .type "tuple_iterator", data := .fields #[.ref l, .int 0 0] }).push
      { cls := .type "enumerate", data := .fields #[.none, .bool false, .ref s.heap.objs.size, rawInt 0, .none, .none] }) (s.heap.objs.size + 1) s.heap.objs.size 0 .none := by
    have := Heap.get?_push_size (s.heap.push { cls := .type "tuple_iterator", data := .fields #[.ref l, .int 0 0] })
      (o := { cls := .type "enumerate", data := .fields #[.none, .bool false, .ref s.heap.objs.size, rawInt 0, .none, .none] }) rfl
    rw [hz] at this; exact this
  refine ⟨⟨_, he, rfl⟩, h _ he ⟨_, Heap.get?_push_of_some _ (Heap.get?_push_size _ rfl), rfl, rfl⟩ (by rw [Heap.size_push, hz]) fun b o x => Heap.get?_push_of_some _ (Heap.get?_push_of_some _ x)⟩
end
/-- enumerate of a list or a tuple -/
def iEnumA (K : PySem.W.Frag) (ta : TA) : TI := fun σ H R => ta σ H fun vs H1 => ∃ a xs, vs = [.ref a] ∧ ((SqL K H1 a xs ∧ R (Ite K a) H1) ∨ (H1 a = some (.tup xs) ∧ R (IteT a) H1))
theorem pi_enumA {X : Cx} {e : Expr} {ta : TA} {p pos tpos : Pos} {elts : List Expr} {kk : Nat} (hg : Gl X "enumerate") (hm : X.mg "enumerate" = none) (ha : PA X [e] ta) (hs : starEach [e] X.env = [(false, eval e X.env)] := by rfl) :
    PI X (.Tuple elts kk tpos) (.Call (.Name "enumerate" p) [e] [] pos) (iEnumA X.K ta) := by
  refine ⟨fun pins s σ H R I h => ?_⟩
  refine Call_ (ld_blt I hg hm boot_enumerate (PyProof.Rows.callWith_type1 (thn (ha.run pos pins s σ H _ I h) fun us s1 ⟨vs, H1, I1, r1, q1⟩ => ?_) hs rfl))
  obtain ⟨a, xs, ex, q⟩ := q1
  subst ex
  cases r1 with
  | cons r rr =>
    cases rr
    cases r
    have fp : ∀ b ∈ [s1.heap.objs.size + 1, s1.heap.objs.size], FpOk X pins H1 b := fun b hb => by
      have e' : b = s1.heap.objs.size + 1 ∨ b = s1.heap.objs.size := by simpa using hb
      have hle : s1.heap.objs.size ≤ b := by
        rcases e' with z | z
        · rw [z]; exact Nat.le_add_right _ _
        · rw [z]; exact Nat.le_refl _
      exact I1.fpOk hle (I1.hok.fresh hle)
    rcases q with ⟨hq, q⟩ | ⟨hq, q⟩
    · obtain ⟨its, rv, p', hz⟩ := I1.list hq
      refine call_enumerate_list p'.isList fun h' he hit hsz hk => wpAny_pyIter_enum he ?_
      have I2 : Inv X pins σ H1 { s1 with heap := h' } := I1.kept (t' := s1.toks) hk
      exact ⟨s1.heap.objs.size + 1, [s1.heap.objs.size + 1, s1.heap.objs.size], _, _, H1, rfl, I2, turn_enum a (s1.heap.objs.size + 1) s1.heap.objs.size, ⟨⟨.none, he⟩, hit, Nat.succ_ne_self _⟩, fp, q⟩
    · obtain ⟨hz, its, rv, p'⟩ : xs.length ≤ sizeLine ∧ ∃ its : List Value, Vals xs its ∧ IsTup s1.heap a its.toArray := I1.hok a _ hq
      refine call_enumerate_tuple p' fun h' he hit hsz hk => wpAny_pyIter_enum he ?_
      have I2 : Inv X pins σ H1 { s1 with heap := h' } := I1.kept (t' := s1.toks) hk
      exact ⟨s1.heap.objs.size + 1, [s1.heap.objs.size + 1, s1.heap.objs.size], _, _, H1, rfl, I2, turn_enumT a (s1.heap.objs.size + 1) s1.heap.objs.size, ⟨⟨.none, he⟩, hit, Nat.succ_ne_self _⟩, fp, q⟩

/-! ### tuple * k for any k from 0 on -/
theorem tuple_mul1 (l : Addr) (items : Array Value) (n : Nat) (dd : Option Addr) (sl : Array (Option Value)) (u : Tok) :
    Meets (Builtin.«tuple.__mul__» ⟨[.ref l, .int 1 u], []⟩) (fun _ R s => s.heap.get? l = some { cls := .type "tuple", dict := dd, data := .seq items n, slots := sl } ∧
      R (.ok (.ret (.ref l))) s) :=
  .of_wp fun prog w A R s h => by
    obtain ⟨hp, g, d, tk, os⟩ := s
    obtain ⟨hl, h⟩ := h
    have f1 := AutoSeq1.idx_int
    wp_walk using AutoSeq1.wpAny_loadPart' hl
    repeat (first
      | (refine wpAny_ite_false (decide_eq_false (by decide)) ?_; wp_walk using AutoSeq1.wpAny_loadPart' hl)
      | (refine wpAny_ite_true (decide_eq_true (by simp)) ?_; wp_walk using AutoSeq1.wpAny_loadPart' hl))
    exact ⟨_, rfl, h⟩
theorem tuple_mul0 (l : Addr) (items : Array Value) (n : Nat) (dd : Option Addr) (sl : Array (Option Value)) (u : Tok) (hi : items.isEmpty = false) :
    Meets (Builtin.«tuple.__mul__» ⟨[.ref l, .int 0 u], []⟩) (fun _ R s => s.heap.get? l = some { cls := .type "tuple", dict := dd, data := .seq items n, slots := sl } ∧
      R (.ok (.ret (Value.ref s.heap.objs.size))) { s with heap := s.heap.push { cls := Value.type "tuple", data := Data.seq #[] }, toks := s.toks }) :=
  .of_wp fun prog w A R s h => by
    obtain ⟨hp, g, d, tk, os⟩ := s
    obtain ⟨hl, h⟩ := h
    have f1 := AutoSeq1.idx_int
    wp_walk using AutoSeq1.wpAny_loadPart' hl
    repeat (first
      | (refine wpAny_ite_false (decide_eq_false (by decide)) ?_; wp_walk using AutoSeq1.wpAny_loadPart' hl)
      | (refine wpAny_ite_false (decide_eq_false (by rw [hi]; decide)) ?_; wp_walk using AutoSeq1.wpAny_loadPart' hl)
      | (refine wpAny_ite_true (decide_eq_true (by simp)) ?_; wp_walk using AutoSeq1.wpAny_loadPart' hl))
    exact ⟨_, rfl, h⟩
def rRepA (K : PySem.W.Frag) : R2 := fun x y H Q => ∃ l k xs, x = .ref l ∧ y = .int ((k : Nat) : Int) ∧ H l = some (.tup xs) ∧ xs ≠ [] ∧ k ≤ 1000 ∧ xs.length ≤ 1000 ∧
  (k = 1 → Q (.ref l) H) ∧ (k ≠ 1 → ∀ p, H p = none → Q (.ref p) (upd H p (.tup (List.replicate k xs).flatten)))
section
variable {X : Cx}
theorem op_repA : OpR X (binaryOp .Mult) (rRepA X.K) := by
  intro pins s σ H x y v u Q I rx ry h
  obtain ⟨l, k, xs, rfl, rfl, hT, hne, h2, hz, q1, q⟩ := h
  by_cases hk : 2 ≤ k
  · have e : (k : Int).toNat = k := Int.toNat_natCast k
    refine op_repT pins s σ H (.ref l) (.int (k : Int)) v u Q I rx ry ⟨l, (k : Int), xs, rfl, rfl, .inl (.inl hT), hne, by omega, by omega, hz, fun p hp => ?_⟩
    rw [e]
    exact q (by omega) p hp
  cases rx
  obtain ⟨t, rfl⟩ := ry
  obtain ⟨hs, its, r, ⟨⟨cls, dd, data, sl⟩, ho, hc, n, hd⟩⟩ : xs.length ≤ sizeLine ∧ ∃ its : List Value, Vals xs its ∧ IsTup s.heap l its.toArray := I.hok l _ hT
  simp only at hc hd
  subst hc hd
  have hle : its.length = xs.length := r.length.symm
  have hn : its ≠ [] := fun e => hne (by
    rw [e] at hle
    exact List.eq_nil_of_length_eq_zero hle.symm)
  have hi : its.toArray.isEmpty = false := by
    cases its with
    | nil => exact absurd rfl hn
    | cons a b => rfl
  have k01 : k = 0 ∨ k = 1 := by omega
  rcases k01 with rfl | rfl
  · refine wpAny_binaryOp_repeat_ref (T := "tuple") (U := "int") (by decide) ⟨_, ho, rfl⟩ (fun s' => typeIs_int s' _ t) noFill_tuple_mul PySem.F.fills_int_mul PySem.F.slot_int_rmul repeat_tuple PySem.F.slot_int_index.lookup
      (call_meets PySem.F.slot_int_rmul (typeIs_int s _ t) PySem.F.entry_int_rmul (PySem.F.args_int_rmul_2 _ _) (int_rmul_tuple _ t l its.toArray n dd sl)
        ⟨ho, rfl, ⟨_, ho, rfl⟩, call_meets PySem.F.slot_tuple_mul ⟨_, ho, rfl⟩ PySem.F.entry_tuple_mul (PySem.F.args_tuple_mul_2 _ _) (tuple_mul0 l its.toArray n dd sl t hi) ⟨ho, ?_⟩⟩)
    refine ⟨.ref s.heap.objs.size, _, I.laid (t' := s.toks) (o := .tup (List.replicate 0 xs).flatten) (fun b ob q => Heap.get?_push_of_some _ q) (Nat.le_refl _) ?_, rfl, q (by decide) _ (I.hok.fresh (Nat.le_refl _))⟩
    exact ⟨by show 0 ≤ sizeLine; exact Nat.zero_le _, [], .nil, IsTup.new _ _⟩
  · refine wpAny_binaryOp_repeat_ref (T := "tuple") (U := "int") (by decide) ⟨_, ho, rfl⟩ (fun s' => typeIs_int s' _ t) noFill_tuple_mul PySem.F.fills_int_mul PySem.F.slot_int_rmul repeat_tuple PySem.F.slot_int_index.lookup
      (call_meets PySem.F.slot_int_rmul (typeIs_int s _ t) PySem.F.entry_int_rmul (PySem.F.args_int_rmul_2 _ _) (int_rmul_tuple _ t l its.toArray n dd sl)
        ⟨ho, rfl, ⟨_, ho, rfl⟩, call_meets PySem.F.slot_tuple_mul ⟨_, ho, rfl⟩ PySem.F.entry_tuple_mul (PySem.F.args_tuple_mul_2 _ _) (tuple_mul1 l its.toArray n dd sl t) ⟨ho, ?_⟩⟩)
    exact ⟨.ref l, H, I, rfl, q1 rfl⟩
end
end L2


namespace Dl
open PySem L2

/-! ### loops -/
section
variable {C CB : Addr} {K : PySem.W.Frag} {δ δ' : List Slot} {te ta tb tc : TE} {d x y z : Dat} {W : WX} {R : Out → Prop}
/-- what a loop's turn gives -/
def Lp (I : List Slot → Prop) (R : Out → Prop) : Out → Prop
  | .nx a => I a
  | .ct a => I a
  | .bk a => R (.nx a)
  | .rt a => R (.rt a)
  | .ex a => R (.ex a)
/-- a for: I by the turn, the slots -/
theorem ex_for {wi : TI} {g : TG} {tb : TS} (h : EvI C wi δ fun ds => ∃ I : Nat → List Slot → Prop, I 0 δ ∧
    (∀ i d δ', ds[i]? = some d → I i δ' → ∃ vs δ'', GG C g vs δ' d δ'' ∧ Ex C CB W tb δ'' (Lp (I (i + 1)) R)) ∧ (∀ δ', I ds.length δ' → R (.nx δ'))) : Ex C CB W (tFor wi g tb) δ R := fun B F H σ w D f => h B F H σ w _ fun J F1 H1 ds pp g1 w1 hw => by
  obtain ⟨I, h0, hs, hd⟩ := pp
  refine ⟨fun i m σ' H' => m = ds.length - i ∧ i ≤ ds.length ∧ ∃ F' δ', Same F1 F' ∧ Wd C B F' H' σ' δ' ∧ I i δ', ⟨ds.length, by simp, Nat.zero_le _, F1, δ, fun _ _ e => e, w1, h0⟩, ?_⟩
  rintro i m σ' H' ⟨rfl, hi, F', δ', sf, w', p⟩
  obtain ⟨go, st, yl⟩ := hw F' H' sf w'.sub
  by_cases hlt : i < ds.length
  · refine .inr ⟨go i hlt, fun σ2 H2 => ∃ F2 δ2, Same F1 F2 ∧ Wd C B F2 H2 σ2 δ2 ∧ I (i + 1) δ2, fun σ2 H2 ⟨F2, δ2, a, b, c⟩ => ⟨ds.length - (i + 1), by omega, rfl, hlt, F2, δ2, a, b, c⟩, fun x H2 y => ?_⟩
    obtain ⟨F2, d, hd', g2, su2, d2⟩ := yl i x H2 hlt y
    obtain ⟨vs, δ'', hg, hb⟩ := hs i d δ' hd' p
    have w2 := w'.pure g2 su2
    have grow : ∀ {σ3 : L2.St} {F3 H3 : Hp} {δ3 : List Slot}, Wd C ⟨B.P, F2, B.H⟩ F3 H3 σ3 δ3 → Same F1 F3 := fun w => (sf.trans g2.f).trans w.gr.f
    refine hg B F2 H2 σ' w2 x d2 _ fun σ2 w3 _ _ => ?_
    have wb : Wd C ⟨B.P, F2, B.H⟩ F2 H2 σ2 δ'' := ⟨w3.sub, ⟨fun _ _ e => e, w3.gr.h, w3.gr.th, fun a _ e => e⟩, fun j k e => by
        obtain ⟨x, hx, ok⟩ := w3.sl j k e
        refine ⟨x, hx, ?_⟩
        cases k <;> exact ok, w3.ap, w3.pl⟩
    have back : ∀ {σ3 : L2.St} {F3 H3 : Hp} {δ3 : List Slot}, Wd C ⟨B.P, F2, B.H⟩ F3 H3 σ3 δ3 → Wd C B F3 H3 σ3 δ3 := fun {σ3 F3 H3 δ3} w => ⟨w.sub, ⟨(w2.gr.f).trans w.gr.f, w.gr.h, w.gr.th, fun a e n => w.gr.fr a e (w2.gr.fr a e n)⟩, fun j k e => by
        obtain ⟨x, hx, ok⟩ := w.sl j k e
        refine ⟨x, hx, ?_⟩
        cases k <;> exact ok, w.ap, w.pl⟩
    refine hb ⟨B.P, F2, B.H⟩ F2 H2 σ2 wb _ ⟨fun δ3 e F3 H3 σ3 w => ⟨F3, δ3, grow w, back w, e⟩, fun δ3 e F3 H3 σ3 w => f.nx δ3 e F3 H3 σ3 (back w), fun δ3 e F3 H3 σ3 w => ⟨F3, δ3, grow w, back w, e⟩,
      fun d e v F3 H3 σ3 δ3 w hd => f.rt d e v F3 H3 σ3 δ3 (back w) hd, fun n e F3 H3 σ3 δ3 w => f.ex n e F3 H3 σ3 δ3 (back w)⟩
  · have e : i = ds.length := by omega
    subst e
    exact .inl ⟨st, f.nx δ' (hd δ' p) F' H' σ' w'⟩

/-! ### comprehensions -/
theorem wipe_get {σ : L2.St} : ∀ {vs : List Nat} {i : Nat}, i ∉ vs → (wipe σ vs)[i]? = σ[i]?
  | [], _, _ => rfl
  | v :: vs, i, h => by
    show ((wipe σ vs).set v none)[i]? = _
    rw [List.getElem?_set_ne (fun e => h (by rw [← e]; exact List.mem_cons_self))]
    exact wipe_get fun m => h (List.mem_cons_of_mem _ m)
theorem wipe_at {σ : L2.St} : ∀ {vs : List Nat} {i : Nat}, i ∈ vs → i < σ.length → (wipe σ vs)[i]? = some none
  | v :: vs, i, h, hl => by
    show ((wipe σ vs).set v none)[i]? = _
    by_cases e : v = i
    · subst e
      rw [List.getElem?_set_self (by rw [wipe_length]; exact hl)]
    · rw [List.getElem?_set_ne e]
      rcases List.mem_cons.mp h with q | q
      · exact absurd q.symm e
      · exact wipe_at q hl
/-- what two walks over the block's names agree on -/
theorem wipe_eq {σ σ' : L2.St} {vs : List Nat} (hl : σ'.length = σ.length) (h : ∀ i, i ∉ vs → σ'[i]? = σ[i]?) : wipe σ' vs = wipe σ vs := by
  refine List.ext_getElem? fun i => ?_
  by_cases hi : i ∈ vs
  · by_cases hn : i < σ.length
    · rw [wipe_at hi hn, wipe_at hi (by omega)]
    · rw [List.getElem?_eq_none (by rw [wipe_length]; omega), List.getElem?_eq_none (by rw [wipe_length]; omega)]
  · rw [wipe_get hi, wipe_get hi, h i hi]
def wipeS (δ : List Slot) : List Nat → List Slot
  | [] => δ
  | v :: vs => (wipeS δ vs).set v .emp
theorem Wd.emp {B : Bs} {F H : Hp} {σ : L2.St} {i : Nat} {x : Option V} (w : Wd C B F H σ δ) : Wd C B F H (σ.set i x) (δ.set i .emp) := w.set trivial fun ds p e _ => by cases e
theorem Wd.wipe {B : Bs} {F H : Hp} {σ : L2.St} (w : Wd C B F H σ δ) : ∀ vs : List Nat, Wd C B F H (wipe σ vs) (wipeS δ vs)
  | [] => w
  | v :: vs => (w.wipe vs).emp
theorem wipe_idem (σ : L2.St) (vs : List Nat) : wipe (wipe σ vs) vs = wipe σ vs := wipe_eq (wipe_length _ _) fun i hi => wipe_get hi
/-- a tracked list that no slot and no frozen thing knows may change -/
theorem Wd.side {B : Bs} {F H : Hp} {σ : L2.St} {p : Addr} {o : HO} (w : Wd C B F H σ δ) (hn : F p = none) (hb : B.H p = none) (hP : B.P ≠ some p) (ho : ∀ (i : Nat) (es : List Dat), δ[i]? = some (.own es) → σ[i]? ≠ some (some (.ref p))) : Wd C B F (upd H p o) σ δ := by
  refine ⟨fun a u e => ?_, ⟨w.gr.f, fun a u n e => ?_, fun a e => ?_, w.gr.fr⟩, fun j k e => ?_, w.ap, fun q e => ?_⟩
  · rw [upd_ne (ne_of_none e hn)]; exact w.sub a u e
  · rw [upd_ne (ne_of_none e hb)]; exact w.gr.h a u n e
  · have ne : a ≠ p := fun z => e (by rw [z]; exact hb)
    rw [upd_ne ne]; exact w.gr.th a e
  · obtain ⟨x, e1, ok⟩ := w.sl j k e
    refine ⟨x, e1, ?_⟩
    cases k with
    | emp => trivial
    | val d => exact ok
    | own fs =>
      obtain ⟨q, us, a1, a2, a3, a4, a5⟩ := ok
      have ne : q ≠ p := fun z => ho j fs e (by rw [e1, a1, z])
      exact ⟨q, us, a1, by rw [upd_ne ne]; exact a2, a3, a4, a5⟩
    | pool => exact ok
  · obtain ⟨s, n, vc, a, b⟩ := w.pl q e
    have ne : q ≠ p := fun z => hP (by rw [e, z])
    exact ⟨s, n, vc, a, by rw [upd_ne ne]; exact b⟩
/-- a list comprehension: I by the turn, what is made -/
theorem en_lc {wi : TI} {g : TG} {tt : TT} {vs : List Nat} {P : List Dat → Prop} (h : EvI C wi δ fun ds => ds.length ≤ 100000 ∧ ∃ I : Nat → List Dat → Prop, I 0 [] ∧
    (∀ i d acc, ds[i]? = some d → acc.length ≤ i → I i acc → ∃ δ'', GG C g vs (wipeS δ vs) d δ'' ∧ EvT C tt δ'' fun b => (b = true → Ev C te δ'' fun y => I (i + 1) (acc ++ [y])) ∧ (b = false → I (i + 1) acc)) ∧
    (∀ acc, I ds.length acc → P acc)) : EvN C (tLc wi g tt te vs) δ P := fun B F H σ w Q k => h B F H σ w _ fun J F1 H1 ds pp g1 w1 hw => by
  obtain ⟨hz, I, h0, hs, hd⟩ := pp
  intro D hD
  have hDF := none_of w1.sub hD
  have hDB : B.H D = none := w1.gr.back hD
  have hDP : B.P ≠ some D := fun e => by
    obtain ⟨_, _, vc, _, q⟩ := w1.pl D e
    rw [hD] at q; cases q
  have hDo : ∀ (i : Nat) (ys : List Dat), δ[i]? = some (.own ys) → σ[i]? ≠ some (some (.ref D)) := fun i ys e q => by
    obtain ⟨x, hx, p', vs', e1, e2, _⟩ := w1.sl i _ e
    rw [hx, e1] at q
    cases q
    rw [hD] at e2; cases e2
  refine ⟨fun i m H' => m = ds.length - i ∧ i ≤ ds.length ∧ ∃ F' acc us, Gr B.P F1 (upd H1 D (.lst [])) F' (upd H' D (.lst [])) ∧ Wd C B F' H' σ δ ∧ H' D = some (.lst us) ∧ Dts C F' us acc ∧ F' D = none ∧ acc.length ≤ i ∧ I i acc,
    ⟨ds.length, by simp, Nat.zero_le _, F1, [], [], ?_, w1.newO hD, upd_same, .nil, hDF, Nat.zero_le _, h0⟩, ?_⟩
  · rw [upd_upd]; exact Gr.refl _ _ _
  rintro i m H' ⟨rfl, hi, F', acc, us, gr, w', hus, hacc, hDF', hlen, p⟩
  have sf : Same F1 F' := gr.f
  obtain ⟨go, st, yl⟩ := hw F' H' sf w'.sub
  have gH : Gr B.P F H F' H' := by
    have a := g1
    refine ⟨a.f.trans gr.f, fun b o n e => ?_, fun b e => ?_, fun b e n => ?_⟩
    · have ne : b ≠ D := ne_of_none (a.h b o n e) hD
      have q := gr.h b o n (by rw [upd_ne ne]; exact a.h b o n e)
      rw [upd_ne ne] at q; exact q
    · have ne : b ≠ D := fun z => a.th b e (by rw [z]; exact hD)
      have q := gr.th b (by rw [upd_ne ne]; exact a.th b e)
      rw [upd_ne ne] at q; exact q
    · have ne : b ≠ D := fun z => a.th b e (by rw [z]; exact hD)
      exact gr.fr b (by rw [upd_ne ne]; exact a.th b e) (a.fr b e n)
  by_cases hlt : i < ds.length
  · refine .inr ⟨go i hlt, fun H2 => ∃ F2 acc2 us2, Gr B.P F1 (upd H1 D (.lst [])) F2 (upd H2 D (.lst [])) ∧ Wd C B F2 H2 σ δ ∧ H2 D = some (.lst us2) ∧ Dts C F2 us2 acc2 ∧ F2 D = none ∧ acc2.length ≤ i + 1 ∧ I (i + 1) acc2,
      fun H2 ⟨F2, acc2, us2, a, b, c, d, e, e', f⟩ => ⟨ds.length - (i + 1), by omega, rfl, hlt, F2, acc2, us2, a, b, c, d, e, e', f⟩, fun x H2 yy => ?_⟩
    obtain ⟨F2, d, hd', g2, su2, d2⟩ := yl i x H2 hlt yy
    obtain ⟨δ'', hg, ht⟩ := hs i d acc hd' hlen p
    have w2 := w'.pure g2 su2
    refine hg B F2 H2 (wipe σ vs) (w2.wipe vs) x d2 _ fun σ2 w3 eq le => ⟨(wipe_eq le eq).trans (wipe_idem σ vs), ?_⟩
    have step : ∀ {F3 H3 : Hp}, Gr B.P F2 H2 F3 H3 → Gr B.P F1 (upd H1 D (.lst [])) F3 (upd H3 D (.lst [])) ∧ H3 D = some (.lst us) ∧ F3 D = none ∧ Dts C F3 us acc := fun {F3 H3} g3 => by
      have e2 : H2 D = some (.lst us) := g2.h D _ (by simp) hus
      have n2 : F2 D = none := g2.fr D (by rw [hus]; simp) hDF'
      have e3 := g3.h D _ hDP e2
      have n3 := g3.fr D (by rw [e2]; simp) n2
      refine ⟨gr.trans ⟨g2.f.trans g3.f, fun a o n e => ?_, fun a e => ?_, fun a e n => ?_⟩, e3, n3, (hacc.mono g2.f).mono g3.f⟩
      · by_cases ha : a = D
        · rw [ha, upd_same] at e ⊢; exact e
        · rw [upd_ne ha] at e ⊢; exact g3.h a o n (g2.h a o (by simp) e)
      · by_cases ha : a = D
        · rw [ha, upd_same]; simp
        · rw [upd_ne ha] at e ⊢; exact g3.th a (g2.th a e)
      · by_cases ha : a = D
        · rw [ha]; exact n3
        · rw [upd_ne ha] at e; exact g3.fr a (g2.th a e) (g2.fr a e n)
    have outer : ∀ {F3 H3 : Hp} {σ' : L2.St} {δ' : List Slot}, Gr B.P F2 H2 F3 H3 → Wd C B F3 H3 σ' δ' → Wd C B F3 H3 σ δ := fun {F3 H3 σ' δ'} g3 w3 => w2.go g3 w3.sub w3.pl
    refine ht B F2 H2 σ2 w3 _ fun F3 H3 b pb g3 w4 => ?_
    cases b with
    | true =>
      rw [if_pos rfl]
      refine pb.1 rfl B F3 H3 σ2 w4 _ fun v F4 H4 y hI g4 w5 d4 => ?_
      obtain ⟨a, e3, n3, hacc3⟩ := step (g3.trans g4)
      refine ⟨us, e3, by rw [hacc3.length]; exact Nat.lt_of_le_of_lt hlen (by rw [sizeLine_eq]; omega), F4, acc ++ [y], us ++ [v], by rw [upd_upd]; exact a, (outer (g3.trans g4) w5).side n3 hDB hDP hDo, upd_same, hacc3.snoc d4, n3, by rw [List.length_append]; simp; exact hlen, hI⟩
    | false =>
      rw [if_neg Bool.false_ne_true]
      obtain ⟨a, e3, n3, hacc3⟩ := step g3
      exact ⟨F3, acc, us, a, outer g3 w4, e3, hacc3, n3, by omega, pb.2 rfl⟩
  · have e : i = ds.length := by omega
    subst e
    exact .inl ⟨st, k D us F' H' acc (hd acc p) gH w' hus hacc hDF' (g1.back hD)⟩
theorem et_yes {P : Bool → Prop} (p : P true) : EvT C tYes δ P := fun B F H σ w Q k => k F H _ p (Gr.refl _ _ _) w
/-- .. over coded things, whose test and element are told -/
theorem en_lcP {α : Type} {wi : TI} {g : TG} {tt : TT} {vs : List Nat} {P : List Dat → Prop} (h : EvI C wi δ fun ds => ds.length ≤ 100000 ∧ ∃ (xs : List α) (enc : α → Dat) (fb : α → Bool) (fv : α → Dat), ds = xs.map enc ∧
    (∀ x, x ∈ xs → ∃ δ'', GG C g vs (wipeS δ vs) (enc x) δ'' ∧ EvT C tt δ'' fun b => b = fb x ∧ (b = true → Ev C te δ'' fun y => y = fv x)) ∧ P ((xs.filter fb).map fv)) : EvN C (tLc wi g tt te vs) δ P := by
  refine en_lc fun B F H σ w Q k => h B F H σ w Q fun J F1 H1 ds p => k J F1 H1 ds ?_
  obtain ⟨hz, xs, enc, fb, fv, rfl, hs, pp⟩ := p
  refine ⟨hz, fun i acc => acc = ((xs.take i).filter fb).map fv, by simp, fun i d acc hd _ hI => ?_, fun acc hI => ?_⟩
  · rw [List.getElem?_map] at hd
    cases hx : xs[i]? with
    | none => rw [hx] at hd; cases hd
    | some x =>
      rw [hx] at hd
      cases hd
      have tk : xs.take (i + 1) = xs.take i ++ [x] := by rw [List.take_add_one, hx]; rfl
      obtain ⟨δ'', hg, ht⟩ := hs x (List.mem_of_getElem? hx)
      refine ⟨δ'', hg, ht.mono fun b hb => ⟨fun e => (hb.2 e).mono fun y hy => ?_, fun e => ?_⟩⟩
      · show acc ++ [y] = _
        rw [tk, List.filter_append, List.map_append, hI, List.filter_cons, if_pos (by rw [← hb.1]; exact e), hy]; rfl
      · show acc = _
        rw [tk, List.filter_append, List.map_append, hI, List.filter_cons, if_neg (by rw [← hb.1, e]; decide)]; simp
  · rw [List.length_map] at hI
    have hI' : acc = ((xs.take xs.length).filter fb).map fv := hI
    rw [List.take_length] at hI'
    rw [hI']; exact pp
/-- .. without a test -/
theorem en_lcM {α : Type} {wi : TI} {g : TG} {vs : List Nat} {P : List Dat → Prop} (h : EvI C wi δ fun ds => ds.length ≤ 100000 ∧ ∃ (xs : List α) (enc : α → Dat) (fv : α → Dat), ds = xs.map enc ∧
    (∀ x, x ∈ xs → ∃ δ'', GG C g vs (wipeS δ vs) (enc x) δ'' ∧ Ev C te δ'' fun y => y = fv x) ∧ P (xs.map fv)) : EvN C (tLc wi g tYes te vs) δ P := by
  refine en_lcP (α := α) fun B F H σ w Q k => h B F H σ w Q fun J F1 H1 ds p => k J F1 H1 ds ?_
  obtain ⟨hz, xs, enc, fv, e, hs, pp⟩ := p
  refine ⟨hz, xs, enc, fun _ => true, fv, e, fun x hx => ?_, by rw [show xs.filter (fun _ => true) = xs from List.filter_eq_self.mpr fun _ _ => rfl]; exact pp⟩
  obtain ⟨δ'', hg, he⟩ := hs x hx
  exact ⟨δ'', hg, et_yes ⟨rfl, fun _ => he⟩⟩
/-- .. without a test, the elements told by a relation -/
theorem en_lcR {α β : Type} {wi : TI} {g : TG} {vs : List Nat} {P : List Dat → Prop} (h : EvI C wi δ fun ds => ds.length ≤ 100000 ∧ ∃ (xs : List α) (enc : α → Dat) (eo : β → Dat) (Φ : α → β → Prop), ds = xs.map enc ∧
    (∀ x, x ∈ xs → ∃ δ'', GG C g vs (wipeS δ vs) (enc x) δ'' ∧ Ev C te δ'' fun y => ∃ b, y = eo b ∧ Φ x b) ∧ (∀ ys : List β, ys.length = xs.length → (∀ (i : Nat) x y, xs[i]? = some x → ys[i]? = some y → Φ x y) → P (ys.map eo))) : EvN C (tLc wi g tYes te vs) δ P := by
  refine en_lc fun B F H σ w Q k => h B F H σ w Q fun J F1 H1 ds p => k J F1 H1 ds ?_
  obtain ⟨hz, xs, enc, eo, Φ, rfl, hs, pp⟩ := p
  refine ⟨hz, fun i acc => ∃ ys : List β, acc = ys.map eo ∧ ys.length = (xs.take i).length ∧ ∀ (j : Nat) x y, (xs.take i)[j]? = some x → ys[j]? = some y → Φ x y, ⟨[], rfl, rfl, fun j x y _ e => by simp at e⟩, fun i d acc hd _ hI => ?_, fun acc hI => ?_⟩
  · rw [List.getElem?_map] at hd
    cases hx : xs[i]? with
    | none => rw [hx] at hd; cases hd
    | some x =>
      rw [hx] at hd
      cases hd
      have tk : xs.take (i + 1) = xs.take i ++ [x] := by rw [List.take_add_one, hx]; rfl
      obtain ⟨δ'', hg, he⟩ := hs x (List.mem_of_getElem? hx)
      obtain ⟨ys, rfl, hl, hf⟩ := hI
      refine ⟨δ'', hg, et_yes ⟨fun _ => he.mono fun y hy => ?_, fun e => by cases e⟩⟩
      obtain ⟨b, rfl, hb⟩ := hy
      refine ⟨ys ++ [b], by simp, by rw [tk, List.length_append, List.length_append, hl]; rfl, fun j x' y' e1 e2 => ?_⟩
      rw [tk] at e1
      by_cases hj : j < ys.length
      · rw [List.getElem?_append_left (by omega)] at e1
        rw [List.getElem?_append_left hj] at e2
        exact hf j x' y' e1 e2
      · rw [List.getElem?_append_right (by omega)] at e1
        rw [List.getElem?_append_right (by omega)] at e2
        rw [hl] at e2
        have z : j - (List.take i xs).length = 0 := by
          have := (List.getElem?_eq_some_iff.mp e1).1
          simp only [List.length_singleton] at this
          omega
        rw [z] at e1 e2
        cases e1; cases e2
        exact hb
  · obtain ⟨ys, rfl, hl, hf⟩ := hI
    rw [List.length_map, List.take_length] at hl hf
    exact pp ys hl hf

/-! ### what is walked -/
theorem ei_seq {P : List Dat → Prop} (h : Ev C te δ fun d => ∃ ds, (d = .lst ds ∨ d = .tup ds) ∧ P ds) : EvI C (iSeq K te) δ P := fun B F H σ w R k => h B F H σ w _ fun v F1 H1 d p g1 w1 d1 => by
  obtain ⟨ds, e, p⟩ := p
  rcases e with e | e
  · subst e
    cases d1 with
    | @lst a vs _ e hs =>
      refine ⟨a, rfl, .inl ⟨⟨vs, .inl (.inl (w1.sub _ _ e))⟩, k _ F1 H1 _ p g1 w1 fun F2 H2 sf sh => ?_⟩⟩
      have e2 : SqL K H2 a vs := .inl (.inl (sh _ _ (sf _ _ e)))
      have hl := hs.length
      refine ⟨fun i hi => ⟨vs, vs[i]'(by omega), e2, by simp [show i < vs.length by omega]⟩, ⟨vs, e2, by omega⟩, fun i x H3 hi y => ?_⟩
      obtain ⟨rfl, q⟩ := y
      obtain ⟨d, hd, dx⟩ := (hs.mono sf).getV (q vs e2)
      exact ⟨F2, d, hd, Gr.refl _ _ _, sh, dx⟩
  · subst e
    cases d1 with
    | @tup a vs _ e hs =>
      refine ⟨a, rfl, .inr ⟨⟨vs, .inl (.inl (w1.sub _ _ e))⟩, k _ F1 H1 _ p g1 w1 fun F2 H2 sf sh => ?_⟩⟩
      have e2 : SqT K H2 a vs := .inl (.inl (sh _ _ (sf _ _ e)))
      have hl := hs.length
      refine ⟨fun i hi => ⟨vs, vs[i]'(by omega), e2, by simp [show i < vs.length by omega]⟩, ⟨vs, e2, by omega⟩, fun i x H3 hi y => ?_⟩
      obtain ⟨rfl, q⟩ := y
      obtain ⟨d, hd, dx⟩ := (hs.mono sf).getV (q vs e2)
      exact ⟨F2, d, hd, Gr.refl _ _ _, sh, dx⟩
/-- the numbers below n -/
def nats (n : Nat) : List Dat := (List.range n).map fun i : Nat => Dat.int (i : Int)
theorem nats_len (n : Nat) : (nats n).length = n := by unfold nats; rw [List.length_map, List.length_range]
theorem nats_get {n i : Nat} {d : Dat} (h : (nats n)[i]? = some d) : d = .int (i : Int) ∧ i < n := by
  have hl := (List.getElem?_eq_some_iff.mp h).1
  rw [nats_len] at hl
  unfold nats at h
  rw [List.getElem?_map, List.getElem?_range hl] at h
  exact ⟨(Option.some.inj h).symm, hl⟩
theorem ei_range {ta : TA} {P : List Dat → Prop} (h : EvA C ta δ fun ds => ∃ n : Nat, ds = [.int (n : Int)] ∧ n ≤ 1000000 ∧ P (nats n)) : EvI C (iRng1 ta) δ P := fun B F H σ w R k => h B F H σ w _ fun vs F1 H1 ds p g1 w1 d1 => by
  obtain ⟨n, rfl, hn, p⟩ := p
  cases d1 with
  | cons a b =>
    cases b
    cases a
    refine ⟨n, rfl, by omega, by omega, k _ F1 H1 _ p g1 w1 fun F2 H2 sf sh => ⟨fun i hi => ?_, ?_, fun i x H3 hi y => ?_⟩⟩
    · rw [nats_len] at hi; show i < ((n : Int)).toNat; omega
    · rw [nats_len]; show ((n : Int)).toNat ≤ n; omega
    · obtain ⟨rfl, rfl⟩ := y
      rw [nats_len] at hi
      refine ⟨F2, .int (i : Int), ?_, Gr.refl _ _ _, sh, ?_⟩
      · unfold nats; rw [List.getElem?_map, List.getElem?_range hi]; rfl
      · have e : (0 : Int) + (i : Int) = (i : Int) := Int.zero_add _
        show Dt C F2 (.int ((0 : Int) + (i : Int))) _
        rw [e]; exact .int _
/-- the signs of a text -/
def signs (x : PySem.Str) : List Dat := x.cps.toList.map fun c => Dat.str ⟨#[c]⟩
theorem ei_str {P : List Dat → Prop} (h : Ev C te δ fun d => ∃ x, d = .str x ∧ P (signs x)) : EvI C (iStr te) δ P := fun B F H σ w R k => h B F H σ w _ fun v F1 H1 d p g1 w1 d1 => by
  obtain ⟨x, rfl, p⟩ := p
  cases d1
  refine ⟨x, rfl, k _ F1 H1 _ p g1 w1 fun F2 H2 sf sh => ⟨fun i hi => ?_, ?_, fun i y H3 hi q => ?_⟩⟩
  · unfold signs at hi; rw [List.length_map, Array.length_toList] at hi; exact hi
  · show x.cps.size ≤ _; unfold signs; rw [List.length_map, Array.length_toList]; exact Nat.le_refl _
  · obtain ⟨rfl, c, hc, rfl⟩ := q
    refine ⟨F2, .str ⟨#[c]⟩, ?_, Gr.refl _ _ _, sh, .str _⟩
    unfold signs; rw [List.getElem?_map, Array.getElem?_toList, hc]; rfl
/-- enumerated -/
def enumD (ds : List Dat) : List Dat := ds.zipIdx.map fun p => Dat.tup [.int (p.2 : Int), p.1]
theorem enumD_len (ds : List Dat) : (enumD ds).length = ds.length := by unfold enumD; rw [List.length_map, List.length_zipIdx]
theorem enumD_get {ds : List Dat} {i : Nat} {d : Dat} (h : ds[i]? = some d) : (enumD ds)[i]? = some (.tup [.int (i : Int), d]) := by
  unfold enumD; rw [List.getElem?_map, List.getElem?_zipIdx, h]; simp
theorem enumD_of {ds : List Dat} {i : Nat} {e : Dat} (h : (enumD ds)[i]? = some e) : ∃ d, ds[i]? = some d ∧ e = .tup [.int (i : Int), d] := by
  have hl := (List.getElem?_eq_some_iff.mp h).1
  rw [enumD_len] at hl
  have q := List.getElem?_eq_getElem hl
  rw [enumD_get q] at h
  exact ⟨_, q, (Option.some.inj h).symm⟩
theorem ei_enum {tr : TA} {P : List Dat → Prop} (h : EvA C tr δ fun es => ∃ ds, (es = [.lst ds] ∨ es = [.tup ds]) ∧ P (enumD ds)) : EvI C (iEnumA K tr) δ P := fun B F H σ w R k => h B F H σ w _ fun vs F1 H1 es p g1 w1 d1 => by
  obtain ⟨ds, e, p⟩ := p
  rcases e with e | e
  · subst e
    cases d1 with
    | cons a b =>
      cases b
      cases a with
      | @lst a vs1 _ e hs =>
        refine ⟨a, vs1, rfl, .inl ⟨.inl (.inl (w1.sub _ _ e)), k _ F1 H1 _ p g1 w1 fun F2 H2 sf sh => ?_⟩⟩
        have e2 : SqL K H2 a vs1 := .inl (.inl (sh _ _ (sf _ _ e)))
        have hl := hs.length
        rw [enumD_len]
        refine ⟨fun i hi => ⟨vs1, vs1[i]'(by omega), e2, by simp [show i < vs1.length by omega]⟩, ⟨vs1, e2, by omega⟩, fun i y H3 hi q => ?_⟩
        obtain ⟨T, x, rfl, hT, rfl, hx⟩ := q
        obtain ⟨d, hd, dx⟩ := (hs.mono sf).getV (hx vs1 e2)
        refine ⟨upd F2 T (.tup [.int (i : Nat), x]), _, enumD_get hd, Gr.newF sh hT, same_new sh hT, .tup upd_same (.cons (.int _) (.cons (dx.mono (Gr.newF (P := none) (o := .tup [.int (i : Nat), x]) sh hT).f) .nil))⟩
  · subst e
    cases d1 with
    | cons a b =>
      cases b
      cases a with
      | @tup a vs1 _ e hs =>
        refine ⟨a, vs1, rfl, .inr ⟨w1.sub _ _ e, k _ F1 H1 _ p g1 w1 fun F2 H2 sf sh => ?_⟩⟩
        have e2 : H2 a = some (.tup vs1) := sh _ _ (sf _ _ e)
        have hl := hs.length
        rw [enumD_len]
        refine ⟨fun i hi => ⟨vs1, vs1[i]'(by omega), e2, by simp [show i < vs1.length by omega]⟩, ⟨vs1, e2, by omega⟩, fun i y H3 hi q => ?_⟩
        obtain ⟨T, x, rfl, hT, rfl, hx⟩ := q
        obtain ⟨d, hd, dx⟩ := (hs.mono sf).getV (hx vs1 e2)
        refine ⟨upd F2 T (.tup [.int (i : Nat), x]), _, enumD_get hd, Gr.newF sh hT, same_new sh hT, .tup upd_same (.cons (.int _) (.cons (dx.mono (Gr.newF (P := none) (o := .tup [.int (i : Nat), x]) sh hT).f) .nil))⟩
end
end Dl


namespace Dl
open PySem L2

/-! ### the operators' readings, by name -/
abbrev rAddI : R2 := rI0 fun i j => .int (i + j)
abbrev rSubI : R2 := rI0 fun i j => .int (i - j)
abbrev rMulI : R2 := rI CMul fun i j => .int (i * j)
abbrev rModI : R2 := rI (fun _ j => 0 < j) fun i j => .int (i % j)
abbrev rDivI : R2 := rI CDiv fun i j => .int (i / j)
abbrev rPowI : R2 := rI CPow fun i j => .int (i ^ j.toNat)
abbrev rLtI : R2 := rI0 fun i j => .bl (decide (i < j))
abbrev rLeI : R2 := rI0 fun i j => .bl (decide (i ≤ j))
abbrev rGtI : R2 := rI0 fun i j => .bl (decide (j < i))
abbrev rGeI : R2 := rI0 fun i j => .bl (decide (j ≤ i))
abbrev rAddS : R2 := fun x y H Q => ∃ i j, x = .str i ∧ y = .str j ∧ i.length + j.length ≤ sizeLine ∧ Q (.str (i ++ j)) H
abbrev rIsN : R2 := fun x y H Q => y = .non ∧ Q (.bl (decide (x = .non))) H
abbrev rNotN : R2 := fun x y H Q => y = .non ∧ Q (.bl (!decide (x = .non))) H
abbrev rInSign : R2 := fun x y H Q => ∃ (c : Nat) (z : PySem.Str), x = .str ⟨#[c]⟩ ∧ y = .str z ∧ Q (.bl (decide (c ∈ z.cps.toList))) H
abbrev rLenV (K : PySem.W.Frag) : List V → Hp → VK → Prop := fun xs H Q => ∃ x n, xs = [x] ∧ LenV K x H n ∧ Q (.int n) H
abbrev rInt1 : List V → Hp → VK → Prop := fun xs H Q => (∃ i, xs = [.int i] ∧ Q (.int i) H) ∨ ∃ k, xs = [.bl k] ∧ Q (.int (if k then 1 else 0)) H
abbrev rTupleOf (K : PySem.W.Frag) : List V → Hp → VK → Prop := fun xs H Q => ∃ p ys, xs = [.ref p] ∧ ((SqL K H p ys ∧ ∀ l, H l = none → Q (.ref l) (upd H l (.tup ys))) ∨ (SqT K H p ys ∧ Q (.ref p) H))
abbrev rListOf (K : PySem.W.Frag) : List V → Hp → VK → Prop := fun xs H Q => ∃ p ys, xs = [.ref p] ∧ (SqL K H p ys ∨ SqT K H p ys) ∧ ∀ l, H l = none → Q (.ref l) (upd H l (.lst ys))
abbrev rJoin (K : PySem.W.Frag) : V → List V → Hp → VK → Prop := fun x xs H Q => ∃ a p, ∃ ys : List PySem.Str, x = .str a ∧ xs = [.ref p] ∧ (SqL K H p (ys.map V.str) ∨ SqT K H p (ys.map V.str)) ∧
      (ys.map (·.length)).sum + ys.length * a.length ≤ 16777216 ∧ Q (.str (PySem.Txt.join a ys)) H

section
variable {C CB : Addr} {K : PySem.W.Frag} {δ δ' : List Slot} {te ta tb tc : TE} {d x y z : Dat} {W : WX} {R : Out → Prop} {P : Dat → Prop}
/-! numbers -/
theorem rv_I0 {g : Int → Int → V} {i j : Int} (pp : P z) (h : ∀ F, Dt C F (g i j) z) : RV C (rI0 g) (.int i) (.int j) P := fun F H vx vy sf a b Q k => by
  cases a; cases b
  exact ⟨i, j, rfl, rfl, k _ F H _ pp (Gr.refl _ _ _) sf (h F)⟩
theorem rv_I {c : Int → Int → Prop} {g : Int → Int → V} {i j : Int} (hc : c i j) (pp : P z) (h : ∀ F, Dt C F (g i j) z) : RV C (rI c g) (.int i) (.int j) P := fun F H vx vy sf a b Q k => by
  cases a; cases b
  exact ⟨i, j, rfl, rfl, hc, k _ F H _ pp (Gr.refl _ _ _) sf (h F)⟩
theorem rv_add {i j : Int} (pp : P (.int (i + j))) : RV C rAddI (.int i) (.int j) P := rv_I0 pp fun _ => .int _
theorem rv_sub {i j : Int} (pp : P (.int (i - j))) : RV C rSubI (.int i) (.int j) P := rv_I0 pp fun _ => .int _
theorem rv_mul {i j : Int} (h : CMul i j) (pp : P (.int (i * j))) : RV C rMulI (.int i) (.int j) P := rv_I h pp fun _ => .int _
theorem rv_mod {i j : Int} (h : 0 < j) (pp : P (.int (i % j))) : RV C rModI (.int i) (.int j) P := rv_I h pp fun _ => .int _
theorem rv_div {i j : Int} (h : CDiv i j) (pp : P (.int (i / j))) : RV C rDivI (.int i) (.int j) P := rv_I h pp fun _ => .int _
theorem rv_pow {i j : Int} (h : CPow i j) (pp : P (.int (i ^ j.toNat))) : RV C rPowI (.int i) (.int j) P := rv_I h pp fun _ => .int _
theorem rv_lt {i j : Int} (pp : P (.bl (decide (i < j)))) : RV C rLtI (.int i) (.int j) P := rv_I0 pp fun _ => .bl _
theorem rv_le {i j : Int} (pp : P (.bl (decide (i ≤ j)))) : RV C rLeI (.int i) (.int j) P := rv_I0 pp fun _ => .bl _
theorem rv_gt {i j : Int} (pp : P (.bl (decide (j < i)))) : RV C rGtI (.int i) (.int j) P := rv_I0 pp fun _ => .bl _
theorem rv_ge {i j : Int} (pp : P (.bl (decide (j ≤ i)))) : RV C rGeI (.int i) (.int j) P := rv_I0 pp fun _ => .bl _
/-! == of flat things -/
theorem rv_eqI {i j : Int} (pp : P (.bl (decide (i = j)))) : RV C rEq (.int i) (.int j) P := fun F H vx vy sf a b Q k => by
  cases a; cases b
  refine ⟨rfl, k _ F H _ pp (Gr.refl _ _ _) sf ?_⟩
  have e : decide (V.int i = V.int j) = decide (i = j) := by simp
  rw [e]; exact .bl _
theorem rv_neI {i j : Int} (pp : P (.bl (!decide (i = j)))) : RV C rNe (.int i) (.int j) P := fun F H vx vy sf a b Q k => by
  cases a; cases b
  refine ⟨rfl, k _ F H _ pp (Gr.refl _ _ _) sf ?_⟩
  have e : decide (V.int i = V.int j) = decide (i = j) := by simp
  rw [e]; exact .bl _
theorem rv_eqB {i j : Bool} (pp : P (.bl (i == j))) : RV C rEq (.bl i) (.bl j) P := fun F H vx vy sf a b Q k => by
  cases a; cases b
  refine ⟨rfl, k _ F H _ pp (Gr.refl _ _ _) sf ?_⟩
  rw [dec_bl]; exact .bl _
theorem rv_eqS {i j : PySem.Str} (pp : P (.bl (decide (i = j)))) : RV C rEq (.str i) (.str j) P := fun F H vx vy sf a b Q k => by
  cases a; cases b
  refine ⟨rfl, k _ F H _ pp (Gr.refl _ _ _) sf ?_⟩
  have e : decide (V.str i = V.str j) = decide (i = j) := by simp
  rw [e]; exact .bl _
theorem rv_neS {i j : PySem.Str} (pp : P (.bl (!decide (i = j)))) : RV C rNe (.str i) (.str j) P := fun F H vx vy sf a b Q k => by
  cases a; cases b
  refine ⟨rfl, k _ F H _ pp (Gr.refl _ _ _) sf ?_⟩
  have e : decide (V.str i = V.str j) = decide (i = j) := by simp
  rw [e]; exact .bl _
theorem rv_isN (pp : P (.bl (match x with | .non => true | _ => false))) : RV C rIsN x .non P := fun F H vx vy sf a b Q k => by
  cases b
  refine ⟨rfl, k _ F H _ pp (Gr.refl _ _ _) sf ?_⟩
  cases a <;> first | (rw [decide_eq_true rfl]; exact .bl _) | (rw [decide_eq_false (fun e => nomatch e)]; exact .bl _)
/-! places -/
theorem atI_map {vs : List V} {ds : List Dat} {F : Hp} {k : Int} {d : Dat} (h : Dts C F vs ds) (e : atI ds k = some d) : ∃ v, atI vs k = some v ∧ Dt C F v d := by
  unfold atI at e ⊢
  rw [h.length]
  cases q : ixN ds.length k with
  | none => rw [q] at e; cases e
  | some j =>
    rw [q] at e
    exact h.get (show ds[j]? = some d from e)
theorem rv_ixL {ds : List Dat} {k : Int} (h : atI ds k = some z) (pp : P z) : RV C (rIx K) (.lst ds) (.int k) P := fun F H vx vy sf a b Q q => by
  cases b
  cases a with
  | lst e hs =>
    obtain ⟨v, h1, h2⟩ := atI_map hs h
    exact .inl ⟨_, _, k, v, rfl, rfl, .inl (.inl (sf _ _ e)), h1, q v F H _ pp (Gr.refl _ _ _) sf h2⟩
theorem rv_ixT {ds : List Dat} {k : Int} (h : atI ds k = some z) (pp : P z) : RV C (rIx K) (.tup ds) (.int k) P := fun F H vx vy sf a b Q q => by
  cases b
  cases a with
  | tup e hs =>
    obtain ⟨v, h1, h2⟩ := atI_map hs h
    exact .inr (.inl ⟨_, _, k, v, rfl, rfl, .inl (.inl (sf _ _ e)), h1, q v F H _ pp (Gr.refl _ _ _) sf h2⟩)
theorem rv_ixO {ds : List Dat} {k : Int} (h : atI ds k = some z) (pp : P z) : RVO C (rIx K) ds (.int k) P := fun F H p vs vy sf hp hs b Q q => by
  cases b
  obtain ⟨v, h1, h2⟩ := atI_map hs h
  exact .inl ⟨_, _, k, v, rfl, rfl, .inl (.inl hp), h1, q v F H _ pp (Gr.refl _ _ _) sf h2⟩
theorem rv_ixS {w : PySem.Str} {k : Int} {c : Nat} (hl : w.length ≤ 100000) (h : atI w.cps.toList k = some c) (pp : P (.str ⟨#[c]⟩)) : RV C (rIx K) (.str w) (.int k) P := fun F H vx vy sf a b Q q => by
  cases b; cases a
  exact .inr (.inr ⟨w, k, c, rfl, rfl, Nat.le_trans hl (by decide), h, q _ F H _ pp (Gr.refl _ _ _) sf (.str _)⟩)
/-! + -/
theorem rv_addS {i j : PySem.Str} (h : i.length + j.length ≤ 100000) (pp : P (.str (i ++ j))) : RV C rAddS (.str i) (.str j) P := fun F H vx vy sf a b Q q => by
  cases b; cases a
  exact ⟨i, j, rfl, rfl, Nat.le_trans h (by decide), q _ F H _ pp (Gr.refl _ _ _) sf (.str _)⟩
theorem en_cat {P : List Dat → Prop} (ha : Ev C ta δ fun x => ∃ xs, x = .lst xs ∧ Ev C tb δ fun y => ∃ ys, y = .lst ys ∧ xs.length + ys.length ≤ 100000 ∧ P (xs ++ ys)) : EvN C (tOp rCat ta tb) δ P := fun B F H σ w Q k =>
  ha B F H σ w _ fun v F1 H1 x px g1 w1 d1 => by
    obtain ⟨xs, rfl, px⟩ := px
    refine px B F1 H1 σ w1 _ fun u F2 H2 y py g2 w2 d2 => ?_
    obtain ⟨ys, rfl, hl, p⟩ := py
    have d1' := d1.mono g2.f
    cases d1' with
    | lst e1 h1 =>
      cases d2 with
      | lst e2 h2 =>
        refine ⟨_, _, _, _, rfl, rfl, w2.sub _ _ e1, w2.sub _ _ e2, by rw [h1.length, h2.length]; exact Nat.le_trans hl (by decide), fun q hq => ?_⟩
        exact k q _ F2 _ _ p ((g1.trans g2).trans (Gr.newO hq)) (w2.newO hq) upd_same (h1.append h2) (none_of w2.sub hq) ((g1.trans g2).back hq)
theorem en_catO {i : Nat} {xs : List Dat} {P : List Dat → Prop} (h : δ[i]? = some (.own xs)) (hb : Ev C tb δ fun y => ∃ ys, y = .lst ys ∧ xs.length + ys.length ≤ 100000 ∧ P (xs ++ ys)) : EvN C (tOp rCat (tVar i) tb) δ P := fun B F H σ w Q k => by
  obtain ⟨x, hx, p, vs, e, hp, hv, hn, hb0⟩ := w.sl i _ h
  subst e
  refine ⟨.ref p, hx, hb B F H σ w _ fun u F2 H2 y py g2 w2 d2 => ?_⟩
  obtain ⟨ys, rfl, hl, pp⟩ := py
  cases d2 with
  | lst e2 h2 =>
    have hv2 := hv.mono g2.f
    refine ⟨_, _, _, _, rfl, rfl, g2.h p _ (w.ownNe hp) hp, w2.sub _ _ e2, by rw [hv2.length, h2.length]; exact Nat.le_trans hl (by decide), fun q hq => ?_⟩
    exact k q _ F2 _ _ pp (g2.trans (Gr.newO hq)) (w2.newO hq) upd_same (hv2.append h2) (none_of w2.sub hq) (g2.back hq)
theorem rv_catT {xs ys : List Dat} (hl : xs.length + ys.length ≤ 100000) (pp : P (.tup (xs ++ ys))) : RV C (rCatA K) (.tup xs) (.tup ys) P := fun F H vx vy sf a b Q q => by
  cases a with
  | @tup a1 vs1 _ e1 h1 =>
    cases b with
    | @tup a2 vs2 _ e2 h2 =>
      refine ⟨_, _, _, _, rfl, rfl, .inl (.inl (sf _ _ e1)), .inl (.inl (sf _ _ e2)), by rw [h1.length, h2.length]; exact Nat.le_trans hl (by decide), fun n => ?_, fun _ n => ?_, fun _ _ p hp => ?_⟩
      · subst n
        cases h1
        exact q _ F H _ pp (Gr.refl _ _ _) sf (.tup e2 h2)
      · subst n
        cases h2
        rw [List.append_nil] at pp
        exact q _ F H _ pp (Gr.refl _ _ _) sf (.tup e1 h1)
      · exact q _ _ _ _ pp (Gr.newF sf hp) (same_new sf hp) (.tup upd_same ((h1.append h2).mono (Gr.newF (P := none) (o := .tup (vs1 ++ vs2)) sf hp).f))
/-! in -/
theorem flat_int {vs : List V} {ns : List Int} (e : vs = ns.map V.int) : vs.all flatV = true := by
  subst e; rw [List.all_map]; exact List.all_eq_true.mpr fun _ _ => rfl
theorem inV_int {k : Int} {ns : List Int} : inV (.int k) (ns.map V.int) = decide (k ∈ ns) := by
  unfold inV
  rw [List.any_map, Bool.eq_iff_iff, List.any_eq_true, decide_eq_true_iff]
  constructor
  · rintro ⟨x, h1, h2⟩
    have h2' : (x == k) = true := h2
    rw [beq_iff_eq] at h2'
    exact h2' ▸ h1
  · intro h
    exact ⟨k, h, by show (k == k) = true; simp⟩
theorem inV_str {k : PySem.Str} {ns : List PySem.Str} : inV (.str k) (ns.map V.str) = decide (k ∈ ns) := by
  unfold inV
  rw [List.any_map, Bool.eq_iff_iff, List.any_eq_true, decide_eq_true_iff]
  constructor
  · rintro ⟨x, h1, h2⟩
    have h2' : (x == k) = true := h2
    rw [beq_iff_eq] at h2'
    exact h2' ▸ h1
  · intro h
    exact ⟨k, h, by show (k == k) = true; simp⟩
theorem rv_inI {k : Int} {ns : List Int} (pp : P (.bl (decide (k ∈ ns)))) : RV C (rIn K false) (.int k) (.lst (ns.map .int)) P := fun F H vx vy sf a b Q q => by
  cases a
  cases b with
  | lst e hs =>
    have e2 := hs.ints
    refine ⟨_, _, rfl, .inl (.inl (.inl (sf _ _ e))), rfl, flat_int e2, ?_⟩
    rw [if_neg Bool.false_ne_true, e2, inV_int]
    exact q _ F H _ pp (Gr.refl _ _ _) sf (.bl _)
theorem rv_niI {k : Int} {ns : List Int} (pp : P (.bl (!decide (k ∈ ns)))) : RV C (rIn K true) (.int k) (.lst (ns.map .int)) P := fun F H vx vy sf a b Q q => by
  cases a
  cases b with
  | lst e hs =>
    have e2 := hs.ints
    refine ⟨_, _, rfl, .inl (.inl (.inl (sf _ _ e))), rfl, flat_int e2, ?_⟩
    rw [if_pos rfl, e2, inV_int]
    exact q _ F H _ pp (Gr.refl _ _ _) sf (.bl _)
theorem flat_str {vs : List V} {ns : List PySem.Str} (e : vs = ns.map V.str) : vs.all flatV = true := by
  subst e; rw [List.all_map]; exact List.all_eq_true.mpr fun _ _ => rfl
theorem rv_inST {k : PySem.Str} {ds : List Dat} {ns : List PySem.Str} (hd : ds = ns.map .str) (pp : P (.bl (decide (k ∈ ns)))) : RV C (rIn K false) (.str k) (.tup ds) P := fun F H vx vy sf a b Q q => by
  subst hd
  cases a
  cases b with
  | tup e hs =>
    have e2 := hs.strs
    refine ⟨_, _, rfl, .inr (.inl (.inl (sf _ _ e))), rfl, flat_str e2, ?_⟩
    rw [if_neg Bool.false_ne_true, e2, inV_str]
    exact q _ F H _ pp (Gr.refl _ _ _) sf (.bl _)
theorem rv_niST {k : PySem.Str} {ds : List Dat} {ns : List PySem.Str} (hd : ds = ns.map .str) (pp : P (.bl (!decide (k ∈ ns)))) : RV C (rIn K true) (.str k) (.tup ds) P := fun F H vx vy sf a b Q q => by
  subst hd
  cases a
  cases b with
  | tup e hs =>
    have e2 := hs.strs
    refine ⟨_, _, rfl, .inr (.inl (.inl (sf _ _ e))), rfl, flat_str e2, ?_⟩
    rw [if_pos rfl, e2, inV_str]
    exact q _ F H _ pp (Gr.refl _ _ _) sf (.bl _)
theorem rv_inSP {k : PySem.Str} {ds : List Dat} {ns : List PySem.Str} (hd : ds = ns.map .str) (pp : P (.bl (decide (k ∈ ns)))) : RVP C (rIn K false) (.str k) ds P := fun F H p vs vx sf hp hs a Q q => by
  subst hd
  cases a
  have e2 := hs.strs
  refine ⟨_, _, rfl, .inl (.inl (.inl hp)), rfl, flat_str e2, ?_⟩
  rw [if_neg Bool.false_ne_true, e2, inV_str]
  exact q _ F H _ pp (Gr.refl _ _ _) sf (.bl _)
theorem rv_niSP {k : PySem.Str} {ds : List Dat} {ns : List PySem.Str} (hd : ds = ns.map .str) (pp : P (.bl (!decide (k ∈ ns)))) : RVP C (rIn K true) (.str k) ds P := fun F H p vs vx sf hp hs a Q q => by
  subst hd
  cases a
  have e2 := hs.strs
  refine ⟨_, _, rfl, .inl (.inl (.inl hp)), rfl, flat_str e2, ?_⟩
  rw [if_pos rfl, e2, inV_str]
  exact q _ F H _ pp (Gr.refl _ _ _) sf (.bl _)
theorem rv_inSign {c : Nat} {w : PySem.Str} (pp : P (.bl (decide (c ∈ w.cps.toList)))) : RV C rInSign (.str ⟨#[c]⟩) (.str w) P := fun F H vx vy sf a b Q q => by
  cases a; cases b
  exact ⟨c, w, rfl, rfl, q _ F H _ pp (Gr.refl _ _ _) sf (.bl _)⟩
/-- in a tuple of texts of the written part -/
theorem ev_inK {k : Addr} {ns : List PySem.Str} (hk : ∀ H, SqT K H k (ns.map V.str)) (ha : Ev C ta δ fun x => ∃ w, x = .str w ∧ P (.bl (decide (w ∈ ns)))) : Ev C (tOp (rIn K false) ta (tC (.ref k))) δ P := fun B F H σ w Q q =>
  ha B F H σ w _ fun v F1 H1 x p g1 w1 d1 => by
    obtain ⟨w', rfl, p⟩ := p
    cases d1
    refine ⟨_, _, rfl, .inr (hk H1), rfl, flat_str rfl, ?_⟩
    rw [if_neg Bool.false_ne_true, inV_str]
    exact q _ F1 H1 _ p g1 w1 (.bl _)
/-! deep == -/
mutual
def toPy : Dat → PyData
  | .non => .none
  | .bl b => .bool b
  | .int i => .int i
  | .str x => .str x
  | .lst xs => .list (toPys xs)
  | .tup xs => .tuple (toPys xs)
  | .net3 _ _ _ => .none
  | .obj _ _ _ => .none
def toPys : List Dat → List PyData
  | [] => []
  | d :: ds => toPy d :: toPys ds
end
mutual
def plain : Dat → Bool
  | .lst xs => plains xs
  | .tup xs => plains xs
  | .net3 _ _ _ => false
  | .obj _ _ _ => false
  | _ => true
def plains : List Dat → Bool
  | [] => true
  | d :: ds => plain d && plains ds
end
theorem toPys_map (ds : List Dat) : toPys ds = ds.map toPy := by
  induction ds with
  | nil => rfl
  | cons d ds ih => rw [toPys, List.map_cons, ih]
mutual
theorem Dt.dp {F H : Hp} (sf : Same F H) : ∀ {v : V} {d : Dat}, Dt C F v d → plain d = true → Dp K H v (toPy d)
  | _, _, .non, _ => .non
  | _, _, .bl b, _ => .bl b
  | _, _, .int i, _ => .int i
  | _, _, .str x, _ => .str x
  | _, _, .lst e hs, h => .lst (.inl (.inl (sf _ _ e))) (Dts.dp sf hs h)
  | _, _, .tup e hs, h => .tup (.inl (.inl (sf _ _ e))) (Dts.dp sf hs h)
  | _, _, .net3 _ _ _ _, h => by cases h
  | _, _, .obj _ _ _ _, h => by cases h
theorem Dts.dp {F H : Hp} (sf : Same F H) : ∀ {vs : List V} {ds : List Dat}, Dts C F vs ds → plains ds = true → DpAll K H vs (toPys ds)
  | _, _, .nil, _ => .nil
  | _, _, .cons a b, h => by
    rw [plains, Bool.and_eq_true] at h
    exact .cons (Dt.dp sf a h.1) (Dts.dp sf b h.2)
end
/-- what == asks of data -/
structure Eqd (d : Dat) : Prop where
  p : plain d = true
  s : SeqAt.shaped (toPy d) = true
theorem rv_eqD (hx : Eqd x) (hy : Eqd y) (pp : P (.bl (PyData.eqv (toPy x) (toPy y)))) : RV C (rEqD K) x y P := fun F H vx vy sf a b Q q =>
  ⟨_, _, a.dp sf hx.p, b.dp sf hy.p, hx.s, hy.s, q _ F H _ pp (Gr.refl _ _ _) sf (.bl _)⟩
theorem rv_neD (hx : Eqd x) (hy : Eqd y) (pp : P (.bl (!PyData.eqv (toPy x) (toPy y)))) : RV C (rNeD K) x y P := fun F H vx vy sf a b Q q =>
  ⟨_, _, a.dp sf hx.p, b.dp sf hy.p, hx.s, hy.s, q _ F H _ pp (Gr.refl _ _ _) sf (.bl _)⟩
theorem rv_inD {ds : List Dat} (hx : Eqd x) (hy : Eqd (.lst ds)) (pp : P (.bl (ds.any fun z => PyData.eqv (toPy z) (toPy x)))) : RV C (rInD K) x (.lst ds) P := fun F H vx vy sf a b Q q => by
  refine ⟨_, toPys ds, a.dp sf hx.p, b.dp sf hy.p, hx.s, hy.s, ?_⟩
  rw [toPys_map, List.any_map]
  exact q _ F H _ pp (Gr.refl _ _ _) sf (.bl _)
theorem rv_niD {ds : List Dat} (hx : Eqd x) (hy : Eqd (.lst ds)) (pp : P (.bl (!ds.any fun z => PyData.eqv (toPy z) (toPy x)))) : RV C (rNotInD K) x (.lst ds) P := fun F H vx vy sf a b Q q => by
  refine ⟨_, toPys ds, a.dp sf hx.p, b.dp sf hy.p, hx.s, hy.s, ?_⟩
  rw [toPys_map, List.any_map]
  exact q _ F H _ pp (Gr.refl _ _ _) sf (.bl _)
/-- in a tuple of data -/
def rInTD (K : PySem.W.Frag) : R2 := fun x y H Q => ∃ d ds, Dp K H x d ∧ Dp K H y (.tuple ds) ∧ SeqAt.shaped d = true ∧ SeqAt.shaped (.tuple ds) = true ∧ Q (.bl (ds.any fun z => PyData.eqv z d)) H
theorem op_inTD {X : Cx} (hu : X.A.units + 65 < cLine) : OpR X (compareOp .In) (rInTD X.K) := by
  intro pins s σ H x y v u Q I rx ry h
  obtain ⟨d, ds, hd, he, sd, se, q⟩ := h
  obtain ⟨as, r1⟩ := Dp.reads I d x v hd rx
  obtain ⟨bs, r2⟩ := Dp.reads I (.tuple ds) y u he ry
  exact SeqAt.in_tuple_reads r2 r1 (SeqAt.canLay_of_shaped se) (SeqAt.canLay_of_shaped sd) (PyProof.Rows.room_in_shaped sd hu) ⟨.bl _, H, I, rfl, q⟩
theorem rv_inTD {ds : List Dat} (hx : Eqd x) (hy : Eqd (.tup ds)) (pp : P (.bl (ds.any fun z => PyData.eqv (toPy z) (toPy x)))) : RV C (rInTD K) x (.tup ds) P := fun F H vx vy sf a b Q q => by
  refine ⟨_, toPys ds, a.dp sf hx.p, b.dp sf hy.p, hx.s, hy.s, ?_⟩
  rw [toPys_map, List.any_map]
  exact q _ F H _ pp (Gr.refl _ _ _) sf (.bl _)
/-! built-ins -/
theorem rc_lenL {ds : List Dat} (pp : P (.int (ds.length : Int))) : RC C (rLenV K) [.lst ds] P := fun F H vs sf h Q q => by
  cases h with
  | cons a b =>
    cases b
    cases a with
    | lst e hs => exact ⟨_, _, rfl, .inl ⟨_, .inl (.inl (sf _ _ e)), rfl⟩, q _ F H _ pp (Gr.refl _ _ _) sf (by rw [hs.length]; exact .int _)⟩
theorem rc_lenT {ds : List Dat} (pp : P (.int (ds.length : Int))) : RC C (rLenV K) [.tup ds] P := fun F H vs sf h Q q => by
  cases h with
  | cons a b =>
    cases b
    cases a with
    | tup e hs => exact ⟨_, _, rfl, .inr ⟨_, .inl (.inl (sf _ _ e)), rfl⟩, q _ F H _ pp (Gr.refl _ _ _) sf (by rw [hs.length]; exact .int _)⟩
theorem rc_lenS {w : PySem.Str} (hl : w.length ≤ 100000) (pp : P (.int (w.length : Int))) : RC C (rLenV K) [.str w] P := fun F H vs sf h Q q => by
  cases h with
  | cons a b =>
    cases b
    cases a
    exact ⟨_, _, rfl, ⟨Nat.le_trans hl (by decide), rfl⟩, q _ F H _ pp (Gr.refl _ _ _) sf (.int _)⟩
theorem ev_lenO {i : Nat} {ds : List Dat} (h : δ[i]? = some (.own ds)) (p : P (.int (ds.length : Int))) : Ev C (tCB (rLenV K) (tCons (tVar i) tNil)) δ P := fun B F H σ w Q k => by
  obtain ⟨x, hx, a, vs, e, hp, hv, hn, hb0⟩ := w.sl i _ h
  subst e
  exact ⟨.ref a, hx, _, _, rfl, .inl ⟨_, .inl (.inl hp), rfl⟩, k _ F H _ p (Gr.refl _ _ _) w (by rw [hv.length]; exact .int _)⟩
theorem rc_intI {i : Int} (pp : P (.int i)) : RC C rInt1 [.int i] P := fun F H vs sf h Q q => by
  cases h with
  | cons a b =>
    cases b
    cases a
    exact .inl ⟨i, rfl, q _ F H _ pp (Gr.refl _ _ _) sf (.int _)⟩
theorem rc_intB {k : Bool} (pp : P (.int (if k then 1 else 0))) : RC C rInt1 [.bl k] P := fun F H vs sf h Q q => by
  cases h with
  | cons a b =>
    cases b
    cases a
    exact .inr ⟨k, rfl, q _ F H _ pp (Gr.refl _ _ _) sf (.int _)⟩
theorem rc_tupT {ds : List Dat} (pp : P (.tup ds)) : RC C (rTupleOf K) [.tup ds] P := fun F H vs sf h Q q => by
  cases h with
  | cons a b =>
    cases b
    cases a with
    | tup e hs => exact ⟨_, _, rfl, .inr ⟨.inl (.inl (sf _ _ e)), q _ F H _ pp (Gr.refl _ _ _) sf (.tup e hs)⟩⟩
theorem rc_tupL {ds : List Dat} (pp : P (.tup ds)) : RC C (rTupleOf K) [.lst ds] P := fun F H vs sf h Q q => by
  cases h with
  | cons a b =>
    cases b
    cases a with
    | @lst a1 vs1 _ e hs => exact ⟨_, _, rfl, .inl ⟨.inl (.inl (sf _ _ e)), fun p hp => q _ _ _ _ pp (Gr.newF sf hp) (same_new sf hp) (.tup upd_same (hs.mono (Gr.newF (P := none) (o := .tup vs1) sf hp).f))⟩⟩
theorem en_list {tb : TA} {P : List Dat → Prop} (ha : EvA C tb δ fun es => ∃ ds, (es = [.lst ds] ∨ es = [.tup ds]) ∧ P ds) : EvN C (tCB (rListOf K) tb) δ P := fun B F H σ w Q k => ha B F H σ w _ fun v F1 H1 es p g1 w1 d1 => by
  obtain ⟨ds, e, p⟩ := p
  rcases e with e | e
  · subst e
    cases d1 with
    | cons a b =>
      cases b
      cases a with
      | lst e hs => exact ⟨_, _, rfl, .inl (.inl (.inl (w1.sub _ _ e))), fun a ha => k a _ F1 _ _ p (g1.trans (Gr.newO ha)) (w1.newO ha) upd_same hs (none_of w1.sub ha) (g1.back ha)⟩
  · subst e
    cases d1 with
    | cons a b =>
      cases b
      cases a with
      | tup e hs => exact ⟨_, _, rfl, .inr (.inl (.inl (w1.sub _ _ e))), fun a ha => k a _ F1 _ _ p (g1.trans (Gr.newO ha)) (w1.newO ha) upd_same hs (none_of w1.sub ha) (g1.back ha)⟩
theorem rc_all {bs : List Bool} (pp : P (.bl (bs.all id))) : RC C (rAll K) [.lst (bs.map .bl)] P := fun F H vs sf h Q q => by
  cases h with
  | cons a b =>
    cases b
    cases a with
    | lst e hs =>
      have e2 := hs.bls
      refine ⟨_, bs, rfl, .inl (.inl ?_), q _ F H _ pp (Gr.refl _ _ _) sf (.bl _)⟩
      rw [← e2]; exact sf _ _ e
/-! slices -/
def cutD (ds : List Dat) (lo hi : Option Int) : List Dat := (ds.drop (HT.sIx ds.length 0 lo)).take (HT.sIx ds.length ds.length hi - HT.sIx ds.length 0 lo)
theorem cut_of {F : Hp} {vs : List V} {ds : List Dat} (h : Dts C F vs ds) (lo hi : Option Int) : Dts C F (cutV vs lo hi) (cutD ds lo hi) := by
  unfold cutV cutD
  rw [h.length]
  exact (h.drop _).take _
theorem cutD_whole {ds : List Dat} {lo hi : Option Int} (h : HT.sIx ds.length 0 lo = 0 ∧ HT.sIx ds.length ds.length hi = ds.length) : cutD ds lo hi = ds := by
  unfold cutD
  rw [h.1, h.2, List.drop_zero, Nat.sub_zero, List.take_length]
theorem rs_tup {ds : List Dat} {lo hi : Option Int} (pp : P (.tup (cutD ds lo hi))) : RS C (rSlA K) (.tup ds) lo hi P := fun F H vx sf a Q q => by
  cases a with
  | @tup a1 vs1 _ e hs =>
    refine ⟨_, _, rfl, .inl (.inl (sf _ _ e)), fun h => ?_, fun _ p hp => ?_⟩
    · rw [hs.length] at h
      rw [cutD_whole h] at pp
      exact q _ F H _ pp (Gr.refl _ _ _) sf (.tup e hs)
    · exact q _ _ _ _ pp (Gr.newF sf hp) (same_new sf hp) (.tup upd_same ((cut_of hs lo hi).mono (Gr.newF (P := none) (o := .tup (cutV vs1 lo hi)) sf hp).f))
theorem rs_str {w : PySem.Str} {lo hi : Option Int} (hl : w.length ≤ 100000) (pp : P (.str (cutS w lo hi))) : RS C rSlS (.str w) lo hi P := fun F H vx sf a Q q => by
  cases a
  exact ⟨w, rfl, Nat.le_trans hl (by decide), q _ F H _ pp (Gr.refl _ _ _) sf (.str _)⟩
theorem en_sl {tl th : TO} {P : List Dat → Prop} (h : Ev C te δ fun x => ∃ ds, x = .lst ds ∧ EvO C tl δ fun lo => EvO C th δ fun hi => P (cutD ds lo hi)) : EvN C (tSl (rSlL K) te tl th) δ P := fun B F H σ w Q k =>
  h B F H σ w _ fun v F1 H1 x px g1 w1 d1 => by
    obtain ⟨ds, rfl, px⟩ := px
    refine px B F1 H1 σ w1 _ fun F2 H2 lo p2 g2 w2 => p2 B F2 H2 σ w2 _ fun F3 H3 hi p3 g3 w3 => ?_
    have d3 := (d1.mono g2.f).mono g3.f
    cases d3 with
    | lst e hs =>
      have g := (g1.trans g2).trans g3
      exact ⟨_, _, rfl, .inl (.inl (w3.sub _ _ e)), fun p hp => k p _ F3 _ _ p3 (g.trans (Gr.newO hp)) (w3.newO hp) upd_same (cut_of hs lo hi) (none_of w3.sub hp) (g.back hp)⟩
/-- a slice of a list or a tuple -/
def rSlQ (K : PySem.W.Frag) : V → Option Int → Option Int → Hp → VK → Prop := fun x lo hi H Q => rSlL K x lo hi H Q ∨ rSlA K x lo hi H Q
theorem rs_seqT {ds : List Dat} {lo hi : Option Int} (pp : P (.tup (cutD ds lo hi))) : RS C (rSlQ K) (.tup ds) lo hi P := fun F H vx sf a Q q => .inr (rs_tup pp F H vx sf a Q q)
theorem rs_seqL {ds : List Dat} {lo hi : Option Int} (pp : P (.lst (cutD ds lo hi))) : RS C (rSlQ K) (.lst ds) lo hi P := fun F H vx sf a Q q => .inl (by
  cases a with
  | @lst a1 vs1 _ e hs =>
    exact ⟨_, _, rfl, .inl (.inl (sf _ _ e)), fun b hb => q _ _ _ _ pp (Gr.newF sf hb) (same_new sf hb) (.lst upd_same ((cut_of hs lo hi).mono (Gr.newF (P := none) (o := .lst (cutV vs1 lo hi)) sf hb).f))⟩)
/-! join -/
theorem ev_join (ha : Ev C ta δ fun x => ∃ sep, x = .str sep ∧ Ev C tb δ fun y => ∃ ys : List PySem.Str, y = .lst (ys.map .str) ∧ (ys.map (·.length)).sum + ys.length * sep.length ≤ 100000 ∧ P (.str (PySem.Txt.join sep ys))) :
    Ev C (tM1 (rJoin K) ta tb) δ P := fun B F H σ w Q k => ha B F H σ w _ fun v F1 H1 x px g1 w1 d1 => by
  obtain ⟨sep, rfl, px⟩ := px
  cases d1
  refine ⟨⟨_, rfl⟩, px B F1 H1 σ w1 _ fun u F2 H2 y py g2 w2 d2 => ?_⟩
  obtain ⟨ys, rfl, hl, p⟩ := py
  cases d2 with
  | lst e hs =>
    have e2 := hs.strs
    refine ⟨sep, _, ys, rfl, rfl, .inl (.inl (.inl ?_)), Nat.le_trans hl (by decide), k _ F2 H2 _ p (g1.trans g2) w2 (.str _)⟩
    rw [← e2]; exact w2.sub _ _ e
/-! the net: fields, the law's dict -/
theorem ne_cp : (("channels" : PySem.Str) == "processes") = false := by decide +kernel
theorem ne_rp : (("rules" : PySem.Str) == "processes") = false := by decide +kernel
theorem ne_rc : (("rules" : PySem.Str) == "channels") = false := by decide +kernel
theorem lk_p (x y z : V) : List.lookup ("processes" : PySem.Str) [(("processes" : PySem.Str), x), ("channels", y), ("rules", z)] = some x := by simp [List.lookup]
theorem lk_c (x y z : V) : List.lookup ("channels" : PySem.Str) [(("processes" : PySem.Str), x), ("channels", y), ("rules", z)] = some y := by
  rw [List.lookup_cons, ne_cp]; simp [List.lookup]
theorem lk_r (x y z : V) : List.lookup ("rules" : PySem.Str) [(("processes" : PySem.Str), x), ("channels", y), ("rules", z)] = some z := by
  rw [List.lookup_cons, ne_rp]
  show List.lookup ("rules" : PySem.Str) [(("channels" : PySem.Str), y), ("rules", z)] = some z
  rw [List.lookup_cons, ne_rc]; simp [List.lookup]
theorem ev_fldP (hC : Cls K C) (hN : NoAttr K C "processes") (h : Ev C te δ fun x => ∃ p c r, x = .obj p c r ∧ P p) : Ev C (tFld K te "processes") δ P := fun B F H σ w Q k => h B F H σ w _ fun v F1 H1 x px g1 w1 d1 => by
  obtain ⟨p, c, r, rfl, px⟩ := px
  cases d1 with
  | obj e hp hc hr => exact ⟨_, C, _, _, _, rfl, w1.sub _ _ e, hC, hN, lk_p _ _ _, k _ F1 H1 _ px g1 w1 hp⟩
theorem ev_fldC (hC : Cls K C) (hN : NoAttr K C "channels") (h : Ev C te δ fun x => ∃ p c r, x = .obj p c r ∧ P c) : Ev C (tFld K te "channels") δ P := fun B F H σ w Q k => h B F H σ w _ fun v F1 H1 x px g1 w1 d1 => by
  obtain ⟨p, c, r, rfl, px⟩ := px
  cases d1 with
  | obj e hp hc hr => exact ⟨_, C, _, _, _, rfl, w1.sub _ _ e, hC, hN, lk_c _ _ _, k _ F1 H1 _ px g1 w1 hc⟩
theorem ev_fldR (hC : Cls K C) (hN : NoAttr K C "rules") (h : Ev C te δ fun x => ∃ p c r, x = .obj p c r ∧ P r) : Ev C (tFld K te "rules") δ P := fun B F H σ w Q k => h B F H σ w _ fun v F1 H1 x px g1 w1 d1 => by
  obtain ⟨p, c, r, rfl, px⟩ := px
  cases d1 with
  | obj e hp hc hr => exact ⟨_, C, _, _, _, rfl, w1.sub _ _ e, hC, hN, lk_r _ _ _, k _ F1 H1 _ px g1 w1 hr⟩
end
end Dl


/-! BadStep: made by its own __init__ over super().__init__, through CutError; raised; its field; isinstance of it. -/
namespace PySem
namespace BadX
open PySem.W PySem.Calls PyProof.Rows PySem.HandSPX
/-! ### the text of __init__ -/
def iA : Arguments := { posonlyargs := [], args := [{ arg := "self", annotation := none, pos := ⟨11, 17, 11, 21⟩ }, { arg := "at", annotation := none, pos := ⟨11, 23, 11, 25⟩ }], vararg := none, kwonlyargs := [], kw_defaults := [], kwarg := none, defaults := [] }
def iS1 : Stmt := .Expr (.Call (.Attribute (.Call (.Name "super" ⟨12, 8, 12, 13⟩) [] [] ⟨12, 8, 12, 15⟩) "__init__" ⟨12, 8, 12, 24⟩) [.Constant (.str "no such step") 0 ⟨12, 25, 12, 39⟩] [] ⟨12, 8, 12, 40⟩) ⟨12, 8, 12, 40⟩
def iS2 : Stmt := .Assign [.Attribute (.Name "self" ⟨13, 8, 13, 12⟩) "at" ⟨13, 8, 13, 15⟩] (.Name "at" ⟨13, 18, 13, 20⟩) ⟨13, 8, 13, 20⟩
def iB : List Stmt := [iS1, iS2]
def iS : Scope := { kind := .function, names := [(PySem.Str.ofString "self", .local), (PySem.Str.ofString "at", .local), (PySem.Str.ofString "__class__", .free), (PySem.Str.ofString "super", .globalImplicit)], isGenerator := false, isCoroutine := false, more := [] }
theorem n_super : iS.names.lookup ("super" : Str) = some .globalImplicit := by decide +kernel
theorem n_class : iS.names.lookup ("__class__" : Str) = some .free := by decide +kernel
theorem n_self : iS.names.lookup ("self" : Str) = some .local := by decide +kernel
theorem n_at : iS.names.lookup ("at" : Str) = some .local := by decide +kernel
/-- BadStep's line of bases -/
abbrev bmB (CU : Addr) : List Value := [.ref CU, .type "Exception", .type "BaseException", .type "object"]
/-- what the written part says of BadStep, at C, of CutError, at CU, of __init__, at fI -/
structure BadTxt (K : Frag) (mg : Str → Option Value) (C CU fI : Addr) : Prop where
  gC : mg "BadStep" = some (.ref C)
  gU : mg "CutError" = some (.ref CU)
  cls : ∃ nm q N bs sn sub ab col dd k0 k1 k2 k3 k5, K.lookup C = some (excClassObj nm q C N bs (bmB CU) true sn sub ab col dd k0 k1 k2 k3 k5 "Exception.__new__")
  sa : findIn K (.ref C) "__setattr__" = some (some (.builtin "object.__setattr__"))
  ga : findIn K (.ref C) "__getattribute__" = some (some (.builtin "BaseException.__getattribute__"))
  gg : findIn K (.ref C) "__getattr__" = some none
  noN : findIn K (.ref C) "at" = some none
  iC : findIn K (.ref C) "__init__" = some (some (.ref fI))
  tC : typeIn K (.ref fI) = some (.type "function")
  kC : keepIn K (.ref C) = true
  exC : subIn K (.ref C) (.type "BaseException") = some true
  exE : subIn K (.ref C) (.type "Exception") = some true
  mC : mroIn K C (.ref C) = some true
  tyC : typeIn K (.ref C) = some (.type "type")
  hdC : hasDictIn K C = true
  al : alongIn K "__init__" (bmB CU) = some (some (.builtin "Exception.__init__"))
  op : nsIn K cStatics "thirdparty.any" = some none
  sup : mg "super" = none
  fn : ∃ (oc : Value) (od : Option Addr) (doc pm : Value) (an : Option Addr) (ct : Value) (osl : Array (Option Value)) (cc cda : Addr) (ccl : Value) (cdd : Option Addr) (vs : Array Value) (ccs : Array (Option Value)) (cl : Value) (cld : Option Addr) (csl : Array (Option Value)) (tf : Tok),
    K.lookup fI = some ⟨oc, od, .func (ksFn "__init__" "BadStep.__init__" iA iB iS .none .none doc pm an (.ref cda) ct cc), osl⟩ ∧ codeIn K (.ref cda) "BadStep.__init__" = true ∧
    K.lookup cda = some ⟨ccl, cdd, .fields vs, ccs⟩ ∧ vs[2]? = some (.str "/claim/cut.py" tf) ∧ K.lookup cc = some ⟨cl, cld, .cell (some (.ref C)), csl⟩
theorem one_size (v : Value) : [v].length ≤ sizeLine := by
  rw [sizeLine_eq]
  exact (by decide : 1 ≤ 16777216)
/-- what __init__ leaves of a fresh exception at x -/
structure InitEnd (h h' : Heap) (x C dx t1 : Addr) (v : Value) : Prop where
  keep : ∀ b o, b ≠ x → h.get? b = some o → h'.get? b = some o
  obj : h'.get? x = some { cls := .ref C, dict := some dx, data := .fields #[.ref t1, .none, .none, .none, .bool false, .none] }
  dbig : h.objs.size ≤ dx
  dne : dx ≠ x
  ns : h'.Ns1 dx (fun y => if y = "at" then some v else none)
structure OwnMade (h h' : Heap) (e C d : Addr) (v : Value) : Prop where
  keep : ∀ b o, h.get? b = some o → h'.get? b = some o
  new : h.objs.size ≤ e
  obj : ∃ oe vs, h'.get? e = some oe ∧ oe.cls = .ref C ∧ oe.dict = some d ∧ oe.data = .fields vs ∧ vs[1]? = some .none
  dbig : h.objs.size ≤ d
  dne : d ≠ e
  ns : h'.Ns1 d (fun y => if y = "at" then some v else none)
section
open Builtin Builtin.ObjectAttr
variable {prog : Program} {w : World} {A : Around} {E : Value → Shared → Prop} {R : Result → Shared → Prop} {hp : Heap} {g : Array GenState} {d : Drawn} {t : Nat} {os : OsState}
theorem tail_has {C U : Addr} (X : String) (hX : ESX.exTail.contains (.type X) = true) : (Value.ref C :: bmB U).contains (.type X) = true := by
  rw [List.contains_cons, List.contains_cons, hX, Bool.or_true, Bool.or_true]
theorem mro_has {K : W.Frag} {C U : Addr} {cd : ClassData} (hcd : W.clsIn K C = some cd) (hm : cd.mro = .ref C :: bmB U) {b : Value} (hb : (Value.ref C :: bmB U).contains b = true) : W.mroIn K C b = some true := by
  unfold W.mroIn
  rw [hcd, Option.bind_some, hm, if_neg (show ¬ (List.isEmpty (Value.ref C :: bmB U) = true) from Bool.false_ne_true), hb]
theorem osa_new2 {K : W.Frag} {name : Str} {tk : Tok} {v : Value} {x C U : Addr} {fv : Array Value} {cd : ClassData}
    (X : K.In hp) (hx : hp.get? x = some { cls := .ref C, data := .fields fv }) (hcd : W.clsIn K C = some cd) (hm : cd.mro = .ref C :: bmB U) (hh : cd.hasDict = true) (ha : W.findIn K (.ref C) name = some none)
    (hq : ∀ h' tk' dx, (∀ b o, b ≠ x → hp.get? b = some o → h'.get? b = some o) → hp.objs.size ≤ dx → dx ≠ x → h'.get? x = some { cls := .ref C, dict := some dx, data := .fields fv } →
      h'.Ns1 dx (fun y => if y = name then some v else none) → R (.ok (.ret .none)) ⟨h', g, d, tk', os⟩) :
    codeAny (model prog w) A (.call (.builtin "object.__setattr__") ⟨[.ref x, .str name tk, v], []⟩) R ⟨hp, g, d, t, os⟩ := by
  have I : W.InstAt hp x { cls := .ref C, data := .fields fv } C none := ⟨hx, rfl, rfl, trivial⟩
  have hxs : x ≠ hp.objs.size := Nat.ne_of_lt (Heap.lt_size hx)
  have SF := F.store_object
  have sub : W.Looks (model prog w) hp (isInstance (.ref x) (.type "object")) true := I.type.andThen (W.looks_mroIn X (mro_has hcd hm (tail_has "object" (by decide +kernel))))
  refine codeAny_call_builtin SF.slot.plain SF.entry (@W.check_slot (model prog w) _ _ ⟨hp, g, d, t, os⟩ "object.__setattr__" "object" "__setattr__" (.ref x) [.str name tk, v] [] _ SF.kind SF.split sub (SF.args (.ref x) (.str name tk) v) ?_)
  have hmr : W.Looks (model prog w) hp (mroOf (.ref C)) cd.mro := (W.looks_clsIn X hcd).andThen .now
  have L3 : W.Looks (model prog w) hp (storeTaker? none) none := .now
  have hpass : refuseLoop (.ref x) "__setattr__" cd.mro = pure () := by
    rw [hm, refuseLoop_ref, refuseLoop_ref]
    exact F.store_Exception.passes _
  rw [W.osa_eq, refuse_eq]
  refine wpAny_bind (wpAny_bind (I.type.at (wpAny_bind (hmr.at ?_))))
  rw [hpass]
  refine wpAny_pure (wpAny_bind (I.type.at (wpAny_bind ((W.looks_findIn X ha).at (wpAny_bind (L3.at ?_))))))
  show wpAny _ _ (storeInOwnDict (.ref x) (.ref C) (.str name tk) name v false) _ _ _
  have hcls : W.Looks (model prog w) hp (classData C) cd := W.looks_clsIn X hcd
  obtain ⟨nm, bs, mro, ns, qn, hd, sn, sb, ab, col, del⟩ := cd
  dsimp only at hh
  subst hh
  unfold storeInOwnDict ownDictForStores
  repeat (first | with_reducible refine HandSPX.store_in_new ?_ ?_ | with_reducible refine wpAny_loadPart_at hx ?_ | with_reducible refine hcls.at ?_ | wp_step)
  · exact ⟨_, #[], _, (Heap.get?_update_ne _ _ _ _ hxs.symm).trans (Heap.get?_push_at rfl rfl), rfl, fun e he => absurd he (by simp), fun _ => rfl⟩
  · intro h' tk' hn' hs
    have hx₁ : (hp.push { cls := .type "dict", data := .dict #[] }).get? x = some { cls := .ref C, data := .fields fv } := Heap.get?_push_of_some _ hx
    refine hq h' tk' hp.objs.size (fun b o hb ho => ?_) (Nat.le_refl _) hxs.symm ?_ hn'
    · exact (hs.2 b (Nat.ne_of_lt (Heap.lt_size ho))).trans ((Heap.get?_update_ne _ _ _ _ hb).trans (Heap.get?_push_of_some _ ho))
    · exact (hs.2 x hxs).trans (Heap.get?_update_self _ hx₁ rfl)
end
section
variable {prog : Program} {w : World} {A : Around} {E : Value → Shared → Prop} {R : Result → Shared → Prop} {s : Shared} {K : Frag} {mg mb : Str → Option Value} {C CU fI : Addr}
theorem bad_init (T : BadTxt K mg C CU fI) (hfile : ((prog.main.file : Str) == "/claim/cut.py") = true) (htop : (prog.main.scope.names.lookup ("super" : Str)).isSome = false) {x t0 : Addr} {v : Value}
    (X : K.In s.heap) (hg : s.heap.Ns mainGlobals mg) (hb : s.heap.Ns builtinsNs mb) (hbb : ∀ x : Str, x ≠ "__name__" → mb x = bootBuiltins x) (hlim : s.heap.NoLimit) (hx : s.heap.get? x = some (excO C t0)) (hnx : K.lookup x = none) (hroom : A.depth < recursionLimit)
    (hq : ∀ h' tk dx t1, InitEnd s.heap h' x C dx t1 v → R (.ok (.ret .none)) { s with heap := h', toks := tk }) :
    codeAny (model prog w) A (.call (.ref fI) ⟨[.ref x, v], []⟩) R s := by
  obtain ⟨oc, od, doc, pm, an, ct, osl, cc, cda, ccl, cdd, vs, ccs, cl, cld, csl, tf, ho, hcd, hcode, hvs, hcell⟩ := T.fn
  obtain ⟨nm, q, N, bs, sn, sub, ab, col, dd, k0, k1, k2, k3, k5, hC⟩ := T.cls
  have hcl : clsIn K C = some { name := nm, bases := bs, mro := .ref C :: bmB CU, ns := N, qualname := q, hasDict := true, slotNames := sn, subclasses := sub, abstract := ab, collection := col, hasDel := false } := by unfold clsIn; rw [hC] <;> rfl
  refine ks_codeAny_call_defAt (fd := ksFn "__init__" "BadStep.__init__" iA iB iS .none .none doc pm an (.ref cda) ct cc) (body := iB) (binds := [("self", .ref x), ("at", v)]) hroom (X _ _ ho) rfl hlim (codeRec_of X hcd) rfl
    (BindsTo.of_eq (by first | rfl | with_unfolding_all rfl)) (show ∀ x ∈ iS.names, x.2 ≠ NameKind.cell by decide) (fun y hy => ?_) (fun h₁ hns hk => ?_) rfl rfl rfl
  · have z : y = (("self" : Str), Value.ref x) ∨ y = (("at" : Str), v) := by simpa using hy
    rcases z with rfl | rfl
    · exact n_self
    · exact n_at
  have X₁ : K.In h₁ := X.keeps hk
  have hx₁ := hk _ _ hx
  have hC₁ : h₁.get? C = some (excClassObj nm q C N bs (bmB CU) true sn sub ab col dd k0 k1 k2 k3 k5 "Exception.__new__") := X₁ _ _ hC
  have hCd : ∃ cdD, (excClassObj nm q C N bs (bmB CU) true sn sub ab col dd k0 k1 k2 k3 k5 "Exception.__new__").data = .cls cdD := ⟨_, rfl⟩
  obtain ⟨cdD, hCd⟩ := hCd
  have hxC : x ≠ C := fun z => by
    rw [z, hC₁] at hx₁
    have e := Option.some.inj hx₁
    have e2 := congrArg Obj.data e
    rw [hCd] at e2
    cases e2
  have I₁ : InstAt h₁ x (excO C t0) C none := ⟨hx₁, rfl, rfl, trivial⟩
  refine ks_wpAt_execs_cons (ks_wpAt_Expr_any ?_)
  refine ks_wpAt_MethodCall ?_
  show _root_.PySem.wpAt (model prog w) (A.deeper (ksEnv "BadStep.__init__" iS s.heap.objs.size fI (.ref cda) cc)) (.func iB (ksEnv "BadStep.__init__" iS s.heap.objs.size fI (.ref cda) cc)) (attributeBase (.Call (.Name "super" _) [] [] _) "__init__" (ksEnv "BadStep.__init__" iS s.heap.objs.size fI (.ref cda) cc) _) _ _ _
  have hg₁ := hg.keeps hk
  have hb₁ := hb.keeps hk
  refine ks_wpAt_super_base (env := ksEnv "BadStep.__init__" iS s.heap.objs.size fI (.ref cda) cc) n_super n_class (by decide +kernel) rfl (X₁ _ _ ho) rfl (ar := { arg := "self", annotation := none, pos := ⟨11, 17, 11, 21⟩ }) rfl rfl (X₁ _ _ hcode) rfl hvs hfile htop ?_
  refine ks_loadName_global rfl n_super (loadGlobal_builtin (env := ksEnv "BadStep.__init__" iS s.heap.objs.size fI (.ref cda) cc) hg₁ T.sup hb₁ ((hbb _ (by decide +kernel)).trans (by decide +kernel)) ⟨rfl, ?_⟩)
  refine wpAny_loadName_free (c := cc) rfl n_class rfl ⟨_, X₁ _ _ hcell, rfl⟩ ?_
  refine wpAny_loadName_local (v := .ref x) rfl n_self hns (by first | rfl | with_unfolding_all rfl | kernel_rfl) ?_
  refine ks_wpAny_isType_cls hC₁ hCd ⟨rfl, ?_⟩
  refine ks_wpAny_call_super hC₁ hCd hx₁ rfl (fun c e => by cases e) (looks_mroIn X₁ T.mC) (fun h₂ e₂ k₂ => ?_)
  -- the bound __init__
  have X₂ : K.In h₂ := X₁.keeps k₂
  have hx₂ := k₂ _ _ hx₁
  have I₂ : InstAt h₂ x (excO C t0) C none := ⟨hx₂, rfl, rfl, trivial⟩
  have hCm : Looks (model prog w) h₂ (mroOf (.ref C)) (Value.ref C :: bmB CU) := (looks_clsIn X₂ hcl).andThen .now
  refine ESX.getMethod_super e₂ (looks_opaque X₂ T.op) hCm (ESX.drop_own C (bmB CU)) X₂ T.al hxC (by decide +kernel) (I₂.type.andThen (looks_subIn X₂ T.exE)) ?_
  have hu : (h₂.push (ESX.bw x)).get? h₂.objs.size = some (ESX.bw x) := Heap.get?_push_at rfl rfl
  have k₃ : ∀ b o, h₂.get? b = some o → (h₂.push (ESX.bw x)).get? b = some o := fun b o e => Heap.get?_push_of_some _ e
  show wpAny _ _ (callWith _ (Value.ref h₂.objs.size) [] (backTo _ (starEach _ _)) []) _ _ _
  refine ESX.callWith_bound (x := x) ?_
  show wpAny _ _ (spliced ((false, eval (.Constant (.str "no such step") 0 ⟨12, 25, 12, 39⟩) _) :: [])) _ _ _
  refine Calls.spliced_cons (Calls.Constant_str (Calls.spliced_nil ⟨hu, ?_⟩))
  have X₃ : K.In (h₂.push (ESX.bw x)) := X₂.keeps k₃
  refine ESX.call_bw (X₃ _ _ hC) (k₃ _ _ hx₂) hu (one_size _) (fun h₄ t1 k₄ e₄ => ?_)
  -- self.at = at
  have keep : ∀ b o, b ≠ x → s.heap.get? b = some o → h₄.get? b = some o := fun b o hb e => k₄ b o hb (k₃ b o (k₂ b o (hk b o e)))
  have X₄ : K.In h₄ := fun a o e => keep a o (fun z => by rw [z, hnx] at e; cases e) (X a o e)
  have z : s.heap.objs.size < h₁.objs.size := hns.lt
  have hxL : s.heap.objs.size ≠ x := Nat.ne_of_gt (Heap.lt_size hx)
  have hns₄ : h₄.Ns s.heap.objs.size (fun y => (([("self", Value.ref x), ("at", v)] : List (Str × Value))).reverse.lookup y) := by
    obtain ⟨o, es, ep, ho', r⟩ := hns
    exact ⟨o, es, ep, k₄ _ _ hxL (k₃ _ _ (k₂ _ _ ho')), r⟩
  show _root_.PySem.wpAt _ _ _ (execs [iS2] _) _ _ _
  refine wpAt_of_wpAny (wpAny_execs_cons (plainObj_wpAny_Assign_Attribute ?_))
  refine wpAny_Name (wpAny_loadName_local (v := v) rfl n_at hns₄ (by first | rfl | with_unfolding_all rfl | kernel_rfl) ?_) (by decide)
  refine wpAny_Name (wpAny_loadName_local (v := .ref x) rfl n_self hns₄ (by first | rfl | with_unfolding_all rfl | kernel_rfl) ?_) (by decide)
  refine set_plain X₄ (ox := excO C t1) (od := none) ⟨e₄, rfl, rfl, trivial⟩ T.sa ?_
  refine osa_new2 X₄ e₄ hcl rfl rfl T.noN (fun h₅ tk₅ dx k₅ dn dne hx₅ hn₅ => ?_)
  exact wpAny_execs_nil (hq h₅ _ dx t1 ⟨fun b o hb e => k₅ b o hb (keep b o hb e), hx₅, Nat.le_of_lt (Nat.lt_of_lt_of_le hns₄.lt dn), dne, hn₅⟩)
theorem bad_made (T : BadTxt K mg C CU fI) (hfile : ((prog.main.file : Str) == "/claim/cut.py") = true) (htop : (prog.main.scope.names.lookup ("super" : Str)).isSome = false) {v : Value}
    (X : K.In s.heap) (hg : s.heap.Ns mainGlobals mg) (hb : s.heap.Ns builtinsNs mb) (hbb : ∀ x : Str, x ≠ "__name__" → mb x = bootBuiltins x) (hlim : s.heap.NoLimit) (hroom : A.depth + 1 < recursionLimit)
    (hq : ∀ h' tk e d, OwnMade s.heap h' e C d v → R (.ok (.ret (.ref e))) { s with heap := h', toks := tk }) :
    codeAny (model prog w) A (.call (.ref C) ⟨[v], []⟩) R s := by
  obtain ⟨nm, q, N, bs, sn, sub, ab, col, dd, k0, k1, k2, k3, k5, hC⟩ := T.cls
  obtain ⟨hp, g, dr, tk, os⟩ := s
  have k : ∀ b o, hp.get? b = some o → ((hp.push (kdv_tup [v])).push (excO C hp.objs.size)).get? b = some o := fun b o e => Heap.get?_push_of_some _ (Heap.get?_push_of_some _ e)
  have hget : ((hp.push (kdv_tup [v])).push (excO C hp.objs.size)).get? (hp.objs.size + 1) = some (excO C hp.objs.size) := by heap_get
  have hnx : K.lookup (hp.objs.size + 1) = none := by
    cases e : K.lookup (hp.objs.size + 1) with
    | none => rfl
    | some o =>
      have z : hp.get? (hp.objs.size + 1) = some o := X _ _ e
      exact absurd (Nat.lt_of_succ_lt (Heap.lt_size z)) (Nat.lt_irrefl _)
  refine call_own F.excBase_Exception (fun X => ?_) (X _ _ hC) (looks_findIn X T.iC) (fun self => bind_fn X self T.tC) (one_size v) ?_
  · simp [bmB]
  refine bad_init (s := ⟨(hp.push (kdv_tup [v])).push (excO C hp.objs.size), g, dr, tk, os⟩) T hfile htop (X.keeps k) (hg.keeps k) (hb.keeps k) hbb (hlim.keeps k) hget hnx ?_ fun h' tk' dx t1 ⟨k', hx, dn, dne, hns⟩ => ?_
  · show A.depth + 1 < recursionLimit
    exact hroom
  · have old : ∀ b o, hp.get? b = some o → h'.get? b = some o := fun b o e => k' b o (Nat.ne_of_lt (Nat.lt_succ_of_lt (Heap.lt_size e))) (k b o e)
    have z : hp.objs.size + 1 + 1 ≤ dx := by
      first
        | (simpa only [Heap.size_push] using dn)
        | exact dn
        | (have q := dn; rw [Heap.size_push, Heap.size_push] at q; exact q)
    exact ⟨rfl, hq h' tk' (hp.objs.size + 1) dx ⟨old, Nat.le_succ _, ⟨_, _, hx, rfl, rfl, rfl, rfl⟩, Nat.le_trans (Nat.le_trans (Nat.le_succ _) (Nat.le_succ _)) z, dne, hns⟩⟩
end
end BadX
end PySem
namespace L2
open PySem PySem.Spec PyProof.Rows
theorem relO_bad {v : V} {v' : Value} (r : RelV v v') (f : Str) : RelO (List.lookup f [(("at" : Str), v)]) (if f = "at" then some v' else none) := by
  by_cases hw : f = "at"
  · subst hw
    rw [if_pos rfl]
    have q : List.lookup ("at" : Str) [(("at" : Str), v)] = some v := by simp [List.lookup]
    rw [q]
    exact r
  · rw [if_neg hw]
    have qw : (f == ("at" : Str)) = false := by simpa using hw
    have q2 : List.lookup f [(("at" : Str), v)] = none := by simp [List.lookup, qw]
    rw [q2]
    trivial
section
variable {X : Cx} {C CU fI : Addr}
/-- BadStep(e) -/
def tMkBad (C : Addr) (ta : TA) : St → Hp → XK → Prop := fun σ H Q => ta σ H fun vs H1 => ∃ v, vs = [v] ∧ ∀ d, H1 d = none → Q (.ref C) (some d) (upd H1 d (.xd [(("at" : Str), v)]))
theorem pmk_bad {a : Expr} {ta : TA} {p pos : Pos} {k : Nat} (T : PySem.BadX.BadTxt X.K X.mg C CU fI) (hfile : ((X.prog.main.file : Str) == "/claim/cut.py") = true) (htop : (X.prog.main.scope.names.lookup ("super" : Str)).isSome = false) (hr : Room k X.A) (ha : PA X [a] ta) (hg : Gl X "BadStep" := by rfl)
    (he : starEach (a :: []) X.env = (false, eval a X.env) :: starEach [] X.env := by rfl) (hpl : (backTo pos (starEach [] X.env)).any (·.1) = false := by rfl) :
    PMk X (.Call (.Name "BadStep" p) [a] [] pos) (tMkBad C ta) := by
  intro pins s σ H Q I h
  refine wpAny_Call_Name_kw (ld_glob I hg T.gC ?_)
  refine PySem.W.callWith_K (h₀ := X.base) I.ok.mod.kin T.kC (thn (ha.run pos pins s σ H _ I h) fun us s1 hh => ?_) he hpl
  obtain ⟨vs, H1, I1, r1, v, ev, q1⟩ := hh
  subst ev
  refine ⟨I1.kIn, ?_⟩
  cases r1 with
  | cons rv rn =>
    rename_i v' us'
    cases rn
    show wpAny _ _ (call (.ref C) [v']) _ _ _
    have hlim := I1.nolimit
    have hgl := I1.ok.mod.glob.keeps I1.bk
    obtain ⟨mb, hbl, hbb⟩ := I1.ok.mod.blt
    have hbl := hbl.keeps I1.bk
    have KI := I1.kIn
    obtain ⟨hp, g, dr, tk, os⟩ := s1
    refine wpAny_call (PySem.BadX.bad_made T hfile htop KI hgl hbl hbb hlim (by have := hr.dp; omega) fun h' tk' e d M => ?_)
    show MkP X pins σ Q (.ref e) ⟨h', g, dr, tk', os⟩
    obtain ⟨oe, fv, hoe, hc, hd, hdat, h1⟩ := M.obj
    have hns := M.ns
    obtain ⟨G', g1, g2⟩ := restrict h' fun b => decide (b ≠ e)
    have gk : ∀ b, b ≠ e → G'.get? b = h'.get? b := fun b hb => g1 b (decide_eq_true hb)
    have ge : G'.get? e = none := g2 e (by simp)
    have old : ∀ b o, hp.get? b = some o → G'.get? b = some o := fun b o q => (gk b (Nat.ne_of_lt (Nat.lt_of_lt_of_le (Heap.lt_size q) M.new))).trans (M.keep b o q)
    have ob : ObjOk X.prog X.w (upd H1 d (.xd [(("at" : Str), v)])) G' d (.xd [(("at" : Str), v)]) :=
      ⟨_, hns.at (fun o q => (gk d M.dne).trans q), fun f => relO_bad rv f⟩
    have J : Inv X pins σ (upd H1 d (.xd [(("at" : Str), v)])) ⟨G', g, dr, tk', os⟩ := I1.laid (t' := tk') old M.dbig ob
    refine ⟨e, oe, fv, ⟨G', g, dr, tk', os⟩, _, .ref C, some d, rfl, J, fun b o q => ?_, ge, hoe, ⟨hc, hd⟩, hdat, h1, ?_, rfl, I1.bare, raises_own T.exC T.tyC, q1 d (I1.hok.fresh M.dbig)⟩
    · by_cases hb : b = e
      · have q' : G'.get? b = some o := q
        rw [hb, ge] at q'; cases q'
      · exact (gk b hb).symm.trans q
    · rw [upd_ne (Ne.symm M.dne)]
      exact I1.hok.fresh M.new
/-- raise BadStep(e) -/
def tRaiseBad (C : Addr) (W : WX) (ta : TA) : TS := fun _ σ H => tMkBad C ta σ H fun cls d H' => W cls d σ H'
theorem ps_raiseBad {a : Expr} {ta : TA} {W : WX} {p pos pos2 : Pos} {k : Nat} (hc : X.calm = true) (T : PySem.BadX.BadTxt X.K X.mg C CU fI) (hfile : ((X.prog.main.file : Str) == "/claim/cut.py") = true) (htop : (X.prog.main.scope.names.lookup ("super" : Str)).isSome = false) (hr : Room k X.A) (tk : Takes X W) (ha : PA X [a] ta) (hg : Gl X "BadStep" := by rfl)
    (he : starEach (a :: []) X.env = (false, eval a X.env) :: starEach [] X.env := by rfl) (hpl : (backTo pos (starEach [] X.env)).any (·.1) = false := by rfl) :
    PS X (.Raise (some (.Call (.Name "BadStep" p) [a] [] pos)) none pos2) (tRaiseBad C W ta) := ps_raise hc tk (pmk_bad T hfile htop hr ha hg he hpl)
end
end L2


namespace Dl
open PySem L2 PyProof.Rows

section
variable {C CB : Addr} {K : PySem.W.Frag} {δ δ' : List Slot} {te ta tb tc : TE} {d x y z : Dat} {W : WX} {R : Out → Prop} {P : Dat → Prop}
/-! the law's dict of a net -/
abbrev kP : Key := Sum.inr ("processes" : PySem.Str)
abbrev kC : Key := Sum.inr ("channels" : PySem.Str)
abbrev kR : Key := Sum.inr ("rules" : PySem.Str)
theorem kv_p : ∀ x y z : V, valV ([(kP, x), (kC, y), (kR, z)] : List (Key × V)) (kP) = some x := fun x y z => valV_pos rfl
theorem nk_pc : ¬ kP = kC := fun e => by
  have := Sum.inr.inj e
  exact absurd this (by decide +kernel)
theorem nk_pr : ¬ kP = kR := fun e => by
  have := Sum.inr.inj e
  exact absurd this (by decide +kernel)
theorem nk_cr : ¬ kC = kR := fun e => by
  have := Sum.inr.inj e
  exact absurd this (by decide +kernel)
theorem kv_c : ∀ x y z : V, valV ([(kP, x), (kC, y), (kR, z)] : List (Key × V)) (kC) = some y := fun x y z => (valV_neg nk_pc).trans (valV_pos rfl)
theorem kv_r : ∀ x y z : V, valV ([(kP, x), (kC, y), (kR, z)] : List (Key × V)) (kR) = some z := fun x y z => (valV_neg nk_pr).trans ((valV_neg nk_cr).trans (valV_pos rfl))
theorem ev_getP (h : Ev C te δ fun x => ∃ p c r, x = .net3 p c r ∧ P p) : Ev C (tDGet te (tC (.str "processes"))) δ P := fun B F H σ w Q k => h B F H σ w _ fun v F1 H1 x px g1 w1 d1 => by
  obtain ⟨p, c, r, rfl, px⟩ := px
  cases d1 with
  | net3 e hp hc hr => exact ⟨_, _, rfl, .inl ⟨_, kP, .inl (w1.sub _ _ e), rfl, (kv_p _ _ _).symm⟩, k _ F1 H1 _ px g1 w1 hp⟩
theorem ev_getC (h : Ev C te δ fun x => ∃ p c r, x = .net3 p c r ∧ P c) : Ev C (tDGet te (tC (.str "channels"))) δ P := fun B F H σ w Q k => h B F H σ w _ fun v F1 H1 x px g1 w1 d1 => by
  obtain ⟨p, c, r, rfl, px⟩ := px
  cases d1 with
  | net3 e hp hc hr => exact ⟨_, _, rfl, .inl ⟨_, kC, .inl (w1.sub _ _ e), rfl, (kv_c _ _ _).symm⟩, k _ F1 H1 _ px g1 w1 hc⟩
theorem ev_getR (h : Ev C te δ fun x => ∃ p c r, x = .net3 p c r ∧ P r) : Ev C (tDGet te (tC (.str "rules"))) δ P := fun B F H σ w Q k => h B F H σ w _ fun v F1 H1 x px g1 w1 d1 => by
  obtain ⟨p, c, r, rfl, px⟩ := px
  cases d1 with
  | net3 e hp hc hr => exact ⟨_, _, rfl, .inl ⟨_, kR, .inl (w1.sub _ _ e), rfl, (kv_r _ _ _).symm⟩, k _ F1 H1 _ px g1 w1 hr⟩
theorem ev_net3 (hp : Ev C ta δ fun p => Ev C tb δ fun c => Ev C tc δ fun r => P (.net3 p c r)) :
    Ev C (tDisp [(tC (.str "processes"), ta), (tC (.str "channels"), tb), (tC (.str "rules"), tc)]) δ P := fun B F H σ w Q k => by
  intro a ha
  have w0 := w.newO (o := .dK []) ha
  have g0 : Gr B.P F H F (upd H a (.dK [])) := Gr.newO ha
  have hP : B.P ≠ some a := fun e => by
    obtain ⟨_, _, vc, _, q⟩ := w.pl a e
    rw [ha] at q; cases q
  refine hp B F _ σ w0 _ fun v1 F1 H1 p p1 g1 w1 d1 => ?_
  refine p1 B F1 H1 σ w1 _ fun v2 F2 H2 c p2 g2 w2 d2 => ?_
  refine p2 B F2 H2 σ w2 _ fun v3 F3 H3 r p3 g3 w3 d3 => ?_
  have gg := (g1.trans g2).trans g3
  have e3 : H3 a = some (.dK []) := gg.h a _ hP upd_same
  have n3 : F3 a = none := gg.fr a (by rw [upd_same]; simp) (none_of w.sub ha)
  have merged : mergeK [] ([(kP, v1), (kC, v2), (kR, v3)] : List (Key × V)) = [(kP, v1), (kC, v2), (kR, v3)] := by
    have e1 : putK ([] : List (Key × V)) kP v1 = [(kP, v1)] := by rw [putK_new v1 valV_nil]; rfl
    have e2 : putK ([(kP, v1)] : List (Key × V)) kC v2 = [(kP, v1), (kC, v2)] := by rw [putK_new v2 ((valV_neg nk_pc).trans valV_nil)]; rfl
    have e3 : putK ([(kP, v1), (kC, v2)] : List (Key × V)) kR v3 = [(kP, v1), (kC, v2), (kR, v3)] := by rw [putK_new v3 ((valV_neg nk_pr).trans ((valV_neg nk_cr).trans valV_nil))]; rfl
    show putK (putK (putK ([] : List (Key × V)) kP v1) kC v2) kR v3 = _
    rw [e1, e2, e3]
  refine ⟨e3, [(kP, v1), (kC, v2), (kR, v3)], rfl, by show 3 ≤ 15; decide, ?_⟩
  rw [merged]
  -- the dict becomes a frozen thing
  have hb : B.H a = none := w.gr.back ha
  have ho : ∀ (i : Nat) (es : List Dat), δ[i]? = some (.own es) → σ[i]? ≠ some (some (.ref a)) := fun i es e q => by
    obtain ⟨x, hx, p', vs', e1, e2, _⟩ := w.sl i _ e
    rw [hx, e1] at q
    cases q
    rw [ha] at e2; cases e2
  have o3 : HO := .dK [(kP, v1), (kC, v2), (kR, v3)]
  have w4 := w3.side (o := .dK [(kP, v1), (kC, v2), (kR, v3)]) n3 hb hP ho
  have fs : Same F3 (upd F3 a (.dK [(kP, v1), (kC, v2), (kR, v3)])) := fun b u e => by
    rw [upd_ne (ne_of_none e n3)]; exact e
  have d123 : Dt C (upd F3 a (.dK [(kP, v1), (kC, v2), (kR, v3)])) (.ref a) (.net3 p c r) :=
    .net3 upd_same (((d1.mono g2.f).mono g3.f).mono fs) ((d2.mono g3.f).mono fs) (d3.mono fs)
  have gH : Gr B.P F H (upd F3 a (.dK [(kP, v1), (kC, v2), (kR, v3)])) (upd H3 a (.dK [(kP, v1), (kC, v2), (kR, v3)])) := by
    have g := g0.trans gg
    refine ⟨g.f.trans fs, fun b u n e => ?_, fun b e => ?_, fun b e z => ?_⟩
    · rw [upd_ne (ne_of_none e ha)]; exact g.h b u n e
    · have ne : b ≠ a := fun q => e (by rw [q]; exact ha)
      rw [upd_ne ne]; exact g.th b e
    · have ne : b ≠ a := fun q => e (by rw [q]; exact ha)
      rw [upd_ne ne]; exact g.fr b e z
  refine k _ _ _ _ p3 gH ?_ d123
  refine w.go gH (fun b u e => ?_) fun q e => ?_
  · by_cases h : b = a
    · rw [h, upd_same] at e ⊢; exact e
    · rw [upd_ne h] at e ⊢; exact w3.sub b u e
  · obtain ⟨s, n, vc, dv, eq⟩ := w3.pl q e
    have ne : q ≠ a := fun z => hP (by rw [e, z])
    exact ⟨s, by rw [upd_ne ne]; exact n, vc, dv.mono fs, by rw [upd_ne ne]; exact eq⟩
/-! isinstance -/
/-- the name of a datum's type -/
def tyN : Dat → Option String
  | .non => some "NoneType"
  | .bl _ => some "bool"
  | .int _ => some "int"
  | .str _ => some "str"
  | .lst _ => some "list"
  | .tup _ => some "tuple"
  | .net3 _ _ _ => some "dict"
  | .obj _ _ _ => none
theorem tyX_of {F H : Hp} (sf : Same F H) {v : V} {T : String} (h : Dt C F v d) (e : tyN d = some T) : TyX K H v (.type T) := by
  cases h with
  | non => cases e; exact .base .non
  | bl b => cases e; exact .base (.bl b)
  | int i => cases e; exact .base (.int i)
  | str x => cases e; exact .base (.str x)
  | lst h hs => cases e; exact .base (.lst (sf _ _ h))
  | tup h hs => cases e; exact .base (.tup (sf _ _ h))
  | net3 h a b c => cases e; exact .base (.dK (sf _ _ h))
  | obj h a b c => cases e
theorem ev_isi {U : String} (h : Ev C te δ fun d => ∃ T b, tyN d = some T ∧ kitB T U = some b ∧ P (.bl b)) : Ev C (tCB (rIsi K) (tCons te (tCons (tC (.ty U)) tNil))) δ P := fun B F H σ w Q k => h B F H σ w _ fun v F1 H1 d p g1 w1 d1 => by
  obtain ⟨T, b, e, hb, p⟩ := p
  exact ⟨v, .ty U, .type T, .type U, b, rfl, .ty U, tyX_of w1.sub d1 e, kit_ty hb, k _ F1 H1 _ p g1 w1 (.bl b)⟩
theorem ev_isi2 {U U2 : String} (h : Ev C te δ fun d => ∃ T b1 b2, tyN d = some T ∧ kitB T U = some b1 ∧ kitB T U2 = some b2 ∧ P (.bl (b1 || b2))) :
    Ev C (tCB (rIsiT K) (tCons te (tCons (tTup (tCons (tC (.ty U)) (tCons (tC (.ty U2)) tNil))) tNil))) δ P := fun B F H σ w Q k => h B F H σ w _ fun v F1 H1 d p g1 w1 d1 => by
  obtain ⟨T, b1, b2, e, hb1, hb2, pp⟩ := p
  refine ⟨by show 2 ≤ sizeLine; decide, fun p hp => ?_⟩
  have w2 := w1.newF (o := .tup [.ty U, .ty U2]) hp
  have g2 : Gr none F1 H1 (upd F1 p (.tup [.ty U, .ty U2])) (upd H1 p (.tup [.ty U, .ty U2])) := Gr.newF w1.sub hp
  refine ⟨v, p, [.ty U, .ty U2], .type T, [.type U, .type U2], b1 || b2, rfl, upd_same, .cons (.ty U) (.cons (.ty U2) .nil), tyX_of w2.sub (d1.mono g2.f) e, ?_, k _ _ _ _ pp (g1.trans g2.any) w2 (.bl _)⟩
  refine kitAny_cons (kit_ty hb1) (fun q => ?_) fun q => by rw [q]; rfl
  subst q
  exact kitAny_cons (kit_ty hb2) (fun q => by subst q; exact kitAny_nil) fun q => by rw [q]; rfl
/-! tuple * k -/
theorem rv_repT {ds : List Dat} {k : Nat} (hn : ds ≠ []) (hk : k ≤ 1000) (hl : ds.length ≤ 1000) (pp : P (.tup (List.replicate k ds).flatten)) : RV C (rRepA K) (.tup ds) (.int (k : Int)) P := fun F H vx vy sf a b Q q => by
  cases b
  cases a with
  | @tup a1 vs1 _ e hs =>
    have rep : ∀ n : Nat, Dts C F (List.replicate n vs1).flatten (List.replicate n ds).flatten := fun n => by
      induction n with
      | zero => exact .nil
      | succ n ih =>
        rw [List.replicate_succ, List.flatten_cons, List.replicate_succ, List.flatten_cons]
        exact hs.append ih
    refine ⟨_, k, _, rfl, rfl, sf _ _ e, fun z => hn ?_, hk, by rw [hs.length]; exact hl, fun z => ?_, fun z p hp => ?_⟩
    · subst z
      cases hs
      rfl
    · subst z
      have e1 : (List.replicate 1 ds).flatten = ds := by simp
      rw [e1] at pp
      exact q _ F H _ pp (Gr.refl _ _ _) sf (.tup e hs)
    · exact q _ _ _ _ pp (Gr.newF sf hp) (same_new sf hp) (.tup upd_same ((rep k).mono (Gr.newF (P := none) (o := .tup (List.replicate k vs1).flatten) sf hp).f))

/-! ### promises and calls -/
/-- a def that leaves the pool: pre, of the arguments and what is to follow -/
def spP (C : Addr) (pre : List Dat → (Dat → Prop) → Prop) : Sp := fun vs H Q _ => ∃ F ds P, Same F H ∧ Dts C F vs ds ∧ pre ds P ∧ ∀ r v F' H', P r → Gr none F H F' H' → Same F' H' → Dt C F' v r → Q v H'
/-- a def whose first argument is the pool -/
def spS (C : Addr) (pre : List Dat → (Dat → Prop) → Prop) : Sp := fun vs H Q _ => ∃ p ws F ds P, vs = .ref p :: ws ∧ Same F H ∧ (∃ s, PoolAt C F H p s) ∧ Dts C F ws ds ∧ pre ds P ∧
  ∀ r v F' H', P r → Gr (some p) F H F' H' → Same F' H' → (∃ s, PoolAt C F' H' p s) → Dt C F' v r → Q v H'
theorem ev_call {pre : List Dat → (Dat → Prop) → Prop} {E : XK} {tr : TA} (h : EvA C tr δ fun ds => pre ds P) : Ev C (tCall (spP C pre) [] E tr) δ P := fun B F H σ w Q k => h B F H σ w _ fun vs F1 H1 ds p g1 w1 d1 => by
  refine ⟨F1, ds, P, w1.sub, by rw [List.append_nil]; exact d1, p, fun r v F2 H2 pr g2 su d2 => k v F2 H2 r pr (g1.trans g2.any) (w1.pure g2 su) d2⟩
theorem ev_callS {pre : List Dat → (Dat → Prop) → Prop} {E : XK} {tr : TA} {i : Nat} (hi : δ[i]? = some .pool) (h : EvA C tr δ fun ds => pre ds P) : Ev C (tCall (spS C pre) [] E (tCons (tVar i) tr)) δ P := fun B F H σ w Q k => by
  obtain ⟨x, hx, p, e, hP⟩ := w.sl i _ hi
  subst e
  refine ⟨.ref p, hx, h B F H σ w _ fun vs F1 H1 ds pp g1 w1 d1 => ?_⟩
  refine ⟨p, vs, F1, ds, P, by rw [List.append_nil], w1.sub, w1.pl p hP, d1, pp, fun r v F2 H2 pr g2 su pa d2 => ?_⟩
  have g2' : Gr B.P F1 H1 F2 H2 := by rw [hP]; exact g2
  exact k v F2 H2 r pr (g1.trans g2') (w1.go g2' su fun q e => by
    rw [hP] at e
    cases e
    exact pa) d2
/-- keywords in the defs' own order -/
theorem ev_callK {pre : List Dat → (Dat → Prop) → Prop} {E : XK} {tr tk : TA} {gV : List V → List V → List V} (hg : ∀ zs, gV [] zs = zs) (h : EvA C tr δ fun es => es = [] ∧ EvA C tk δ fun ds => pre ds P) : Ev C (tCallK (spP C pre) gV E tr tk) δ P := fun B F H σ w Q k => h B F H σ w _ fun vs F1 H1 es pp g1 w1 d1 => by
  obtain ⟨rfl, hk⟩ := pp
  cases d1
  refine hk B F1 H1 σ w1 _ fun zs F2 H2 ds p g2 w2 d2 => ?_
  refine ⟨F2, ds, P, w2.sub, by rw [hg]; exact d2, p, fun r v F3 H3 pr g3 su d3 => k v F3 H3 r pr ((g1.trans g2).trans g3.any) (w2.pure g3 su) d3⟩

/-! ### where a def begins -/
theorem start_get {N : List PySem.Str} {vs : List V} {i : Nat} {v : V} (h : vs[i]? = some v) : (L2.start N vs)[i]? = some (some v) := by
  unfold L2.start
  have hl := (List.getElem?_eq_some_iff.mp h).1
  rw [List.getElem?_append_left (by rw [List.length_map]; exact hl), List.getElem?_map, h]
  rfl
/-- the slots of a def: its arguments, then nothing -/
def slots (ds : List Dat) (n : Nat) : List Slot := ds.map .val ++ List.replicate n .emp
theorem wd_start {P : Option Addr} {F H : Hp} {N : List PySem.Str} {vs : List V} {ds : List Dat} {n : Nat} (sf : Same F H) (hv : Dts C F vs ds) (hn : vs.length + n = N.length) (pl : ∀ p, P = some p → ∃ s, PoolAt C F H p s) :
    Wd C ⟨P, F, H⟩ F H (L2.start N vs) (slots ds n) := by
  have hl := hv.length
  refine ⟨sf, Gr.refl _ _ _, fun i k e => ?_, fun i j di dj p e1 e2 _ _ => ?_, pl⟩
  · unfold slots at e
    by_cases hi : i < ds.length
    · rw [List.getElem?_append_left (by rw [List.length_map]; exact hi), List.getElem?_map] at e
      obtain ⟨d, hd⟩ : ∃ d, ds[i]? = some d := ⟨_, List.getElem?_eq_getElem hi⟩
      rw [hd] at e
      cases e
      obtain ⟨v, h1, h2⟩ := hv.get hd
      exact ⟨some v, start_get h1, v, rfl, h2⟩
    · have hi' : i < ds.length + n := by
        have := (List.getElem?_eq_some_iff.mp e).1
        rw [List.length_append, List.length_map, List.length_replicate] at this
        exact this
      rw [List.getElem?_append_right (by rw [List.length_map]; omega), List.getElem?_replicate] at e
      split at e
      · cases e
        unfold L2.start
        refine ⟨none, ?_, trivial⟩
        rw [List.getElem?_append_right (by rw [List.length_map]; omega), List.getElem?_replicate, if_pos (by rw [List.length_map]; omega)]
      · cases e
  · unfold slots at e1
    by_cases hi : i < ds.length
    · rw [List.getElem?_append_left (by rw [List.length_map]; exact hi), List.getElem?_map] at e1
      obtain ⟨d, hd⟩ : ∃ d, ds[i]? = some d := ⟨_, List.getElem?_eq_getElem hi⟩
      rw [hd] at e1
      cases e1
    · rw [List.getElem?_append_right (by rw [List.length_map]; omega), List.getElem?_replicate] at e1
      split at e1 <;> cases e1
theorem wd_startS {F H : Hp} {N : List PySem.Str} {p : Addr} {vs : List V} {ds : List Dat} {n : Nat} (sf : Same F H) (hv : Dts C F vs ds) (hn : vs.length + 1 + n = N.length) (pl : ∃ s, PoolAt C F H p s) :
    Wd C ⟨some p, F, H⟩ F H (L2.start N (.ref p :: vs)) (.pool :: slots ds n) := by
  have w : Wd C ⟨some p, F, H⟩ F H (L2.start N.tail vs) (slots ds n) := wd_start sf hv (by
    rw [List.length_tail]; omega) (fun q e => by cases e; exact pl)
  have e : L2.start N (.ref p :: vs) = some (.ref p) :: L2.start N.tail vs := by
    unfold L2.start
    rw [List.map_cons, List.cons_append, List.length_cons, List.length_tail]
    congr 3
    omega
  rw [e]
  refine ⟨w.sub, w.gr, fun i k h => ?_, fun i j di dj q e1 e2 e3 e4 => ?_, w.pl⟩
  · cases i with
    | zero =>
      cases h
      exact ⟨_, rfl, p, rfl, rfl⟩
    | succ i => exact w.sl i k h
  · cases i with
    | zero => cases e1
    | succ i =>
      cases j with
      | zero => cases e2
      | succ j => rw [w.ap i j di dj q e1 e2 e3 e4]
end
/-- what a def that returns gives -/
def RetP (P : Dat → Prop) : Out → Prop
  | .rt r => P r
  | .nx _ => P .non
  | _ => False
section
variable {C CB : Addr} {K : PySem.W.Frag} {P : Program} {w : World} {mg : PySem.Str → Option Value} {base : Heap}
/-- a def that leaves the pool -/
theorem okP {x qual : PySem.Str} {st : Stmt} {f : Addr} {fd : FuncData} {N ps : List PySem.Str} {k : Nat} {pre : List Dat → (Dat → Prop) → Prop} {t : TS} (F : Fun K x qual st f fd) (S : FnScope N ps (defScope st)) (n : Nat) (hn : ps.length + n = N.length)
    (hpre : ∀ ds Q, pre ds Q → ds.length = ps.length)
    (hd : ∀ (cdv : Value) (A : Around) (outer : List Env) (s : Shared) (H : Hp) (E : XK), Room k (A.deeper (envOfC qual (defScope st) s.heap.objs.size f cdv)) → PSs (cxOf CX0 P w K mg base N qual (defScope st) f cdv A outer s H E).nox (defBody st) t)
    (he : ∀ ds Q, pre ds Q → Ex C CB noX t (slots ds n) (RetP Q)) : FnOk P w K mg base CX0 (k + 1) f fd ps (spP C pre) := by
  refine F.ok S (fun vs H Q E h => ?_) (fun cdv A outer s H vs Q E hr h => ?_)
  · obtain ⟨F', ds, r, sf, hv, hp, _⟩ := h
    rw [hv.length, hpre ds r hp]
  · obtain ⟨F', ds, Q', sf, hv, hp, q⟩ := h
    refine ⟨t, hd cdv A outer s H E hr, ?_⟩
    refine he ds Q' hp ⟨none, F', H⟩ F' H _ (wd_start sf hv (by rw [hv.length, hpre ds Q' hp]; exact hn) (fun p e => by cases e)) _ ⟨fun δ e F1 H1 σ w1 => q _ .non F1 H1 e w1.gr w1.sub .non, fun δ e => False.elim e, fun δ e => False.elim e, fun d e v F1 H1 σ δ w1 hd => q d v F1 H1 e w1.gr w1.sub hd, fun n e => False.elim e⟩
/-- a def whose first argument is the pool -/
theorem okS {x qual : PySem.Str} {st : Stmt} {f : Addr} {fd : FuncData} {N ps : List PySem.Str} {k : Nat} {pre : List Dat → (Dat → Prop) → Prop} {t : TS} (F : Fun K x qual st f fd) (S : FnScope N ps (defScope st)) (n : Nat) (hn : ps.length + n = N.length)
    (hpre : ∀ ds Q, pre ds Q → ds.length + 1 = ps.length)
    (hd : ∀ (cdv : Value) (A : Around) (outer : List Env) (s : Shared) (H : Hp) (E : XK), Room k (A.deeper (envOfC qual (defScope st) s.heap.objs.size f cdv)) → PSs (cxOf CX0 P w K mg base N qual (defScope st) f cdv A outer s H E).nox (defBody st) t)
    (he : ∀ ds Q, pre ds Q → Ex C CB noX t (.pool :: slots ds n) (RetP Q)) : FnOk P w K mg base CX0 (k + 1) f fd ps (spS C pre) := by
  refine F.ok S (fun vs H Q E h => ?_) (fun cdv A outer s H vs Q E hr h => ?_)
  · obtain ⟨p, ws, F', ds, Q', rfl, sf, pl, hv, hp, _⟩ := h
    rw [List.length_cons, hv.length, hpre ds Q' hp]
  · obtain ⟨p, ws, F', ds, Q', rfl, sf, pl, hv, hp, q⟩ := h
    refine ⟨t, hd cdv A outer _ H E hr, ?_⟩
    refine he ds Q' hp ⟨some p, F', H⟩ F' H _ (wd_startS sf hv (by rw [hv.length, hpre ds Q' hp]; exact hn) pl) _ ⟨fun δ e F1 H1 σ w1 => q _ .non F1 H1 e w1.gr w1.sub (w1.pl p rfl) .non, fun δ e => False.elim e, fun δ e => False.elim e, fun d e v F1 H1 σ δ w1 hd => q d v F1 H1 e w1.gr w1.sub (w1.pl p rfl) hd, fun n e => False.elim e⟩
end
end Dl


/-! What the defs are promised to do, on coded data. -/
namespace Dl
open PySem L2

/-! ### == -/
structure Shp (n : Nat) (d : Dat) : Prop where
  p : plain d = true
  c : (toPy d).canLay0 = true
  d : (toPy d).depth ≤ n
theorem Shp.eqd {n : Nat} {d : Dat} (h : Shp n d) (hn : n ≤ 64) : Eqd d := ⟨h.p, by
  unfold SeqAt.shaped
  rw [h.c, Bool.true_and]
  exact decide_eq_true (Nat.le_trans h.d hn)⟩
theorem Shp.mono {n m : Nat} {d : Dat} (h : Shp n d) (hn : n ≤ m) : Shp m d := ⟨h.p, h.c, Nat.le_trans h.d hn⟩
theorem shp_int (i : Int) : Shp 0 (.int i) := ⟨rfl, by simp [toPy, PyData.canLay0], by simp [toPy, PyData.depth]⟩
theorem shp_str {i : PySem.Str} (h : PyData.strOk i = true) : Shp 0 (.str i) := ⟨rfl, by simp [toPy, PyData.canLay0, h], by simp [toPy, PyData.depth]⟩
theorem shp_non : Shp 0 .non := ⟨rfl, by simp [toPy, PyData.canLay0], by simp [toPy, PyData.depth]⟩
theorem shps {n : Nat} : ∀ {xs : List Dat}, (∀ x, x ∈ xs → Shp n x) → plains xs = true ∧ PyData.canLayAll0 (toPys xs) = true ∧ PyData.depthAll (toPys xs) ≤ n
  | [], _ => ⟨rfl, by simp [toPys, PyData.canLayAll0], by simp [toPys, PyData.depthAll]⟩
  | x :: xs, h => by
    obtain ⟨a, b, c⟩ := shps (xs := xs) fun y hy => h y (List.mem_cons_of_mem _ hy)
    have hx := h x List.mem_cons_self
    refine ⟨by rw [plains, hx.p, a]; rfl, by rw [toPys, PyData.canLayAll0, hx.c, b]; rfl, ?_⟩
    rw [toPys, PyData.depthAll]
    exact Nat.max_le.mpr ⟨hx.d, c⟩
theorem shp_tup {n : Nat} {xs : List Dat} (h : ∀ x, x ∈ xs → Shp n x) : Shp (n + 1) (.tup xs) := by
  obtain ⟨a, b, c⟩ := shps h
  exact ⟨by rw [plain]; exact a, by rw [toPy, PyData.canLay0]; exact b, by rw [toPy, PyData.depth]; omega⟩
theorem shp_lst {n : Nat} {xs : List Dat} (h : ∀ x, x ∈ xs → Shp n x) : Shp (n + 1) (.lst xs) := by
  obtain ⟨a, b, c⟩ := shps h
  exact ⟨by rw [plain]; exact a, by rw [toPy, PyData.canLay0]; exact b, by rw [toPy, PyData.depth]; omega⟩
theorem Shp.refl {n : Nat} {d : Dat} (h : Shp n d) : PyData.eqv (toPy d) (toPy d) = true := PySem.SeqAt.eqv_refl _ h.c

/-! ### nets -/
def letters : PySem.Str := "abcdefghijklmnopqrstuvwxyz"
structure Chan where
  name : PySem.Str
  giver : Nat
  taker : Nat
  kind : Nat
inductive Act where
  | doo | send (c t : Nat) | take (c t : Nat)
structure Rul where
  proc : Nat
  state : Nat
  act : Act
  thn : Nat
structure NetM where
  procs : List (PySem.Str × Nat)
  chans : List Chan
  rules : List Rul
def kindS : Nat → PySem.Str
  | 0 => "order"
  | 1 => "loose"
  | 2 => "order lossy"
  | _ => "loose lossy"
def kinds4 : List PySem.Str := ["order", "loose", "order lossy", "loose lossy"]
abbrev encP (p : PySem.Str × Nat) : Dat := .tup [.str p.1, .int (p.2 : Int)]
abbrev encC (c : Chan) : Dat := .tup [.str c.name, .int (c.giver : Int), .int (c.taker : Int), .str (kindS c.kind)]
def encA : Act → Dat
  | .doo => .tup [.str "do"]
  | .send c t => .tup [.str "send", .int (c : Int), .int (t : Int)]
  | .take c t => .tup [.str "take", .int (c : Int), .int (t : Int)]
abbrev encR (r : Rul) : Dat := .tup [.int (r.proc : Int), .int (r.state : Int), encA r.act, .int (r.thn : Int)]
abbrev NetM.obj (N : NetM) : Dat := .obj (.tup (N.procs.map encP)) (.tup (N.chans.map encC)) (.tup (N.rules.map encR))
abbrev NetM.dict (N : NetM) : Dat := .net3 (.lst (N.procs.map encP)) (.lst (N.chans.map encC)) (.lst (N.rules.map encR))
structure NameOk (x : PySem.Str) : Prop where
  lo : 1 ≤ x.length
  hi : x.length ≤ 6
  al : ∀ c, c ∈ x.cps.toList → c ∈ letters.cps.toList
structure ChanOk (np : Nat) (c : Chan) : Prop where
  nm : NameOk c.name
  g : c.giver < np
  t : c.taker < np
  ne : c.giver ≠ c.taker
  k : c.kind < 4
def ActOk (cs : List Chan) (p : Nat) : Act → Prop
  | .doo => True
  | .send c t => t < 10 ∧ ∃ h, cs[c]? = some h ∧ h.giver = p
  | .take c t => t < 10 ∧ ∃ h, cs[c]? = some h ∧ h.taker = p
structure RuleOk (ps : List (PySem.Str × Nat)) (cs : List Chan) (r : Rul) : Prop where
  p : ∃ p, ps[r.proc]? = some p ∧ r.state < p.2 ∧ r.thn < p.2
  a : ActOk cs r.proc r.act
structure NetM.Ok (N : NetM) : Prop where
  p1 : 1 ≤ N.procs.length
  p5 : N.procs.length ≤ 5
  po : ∀ p, p ∈ N.procs → NameOk p.1 ∧ 1 ≤ p.2 ∧ p.2 ≤ 8
  pd : (N.procs.map (·.1)).Nodup
  c8 : N.chans.length ≤ 8
  co : ∀ c, c ∈ N.chans → ChanOk N.procs.length c
  cd : (N.chans.map (·.name)).Nodup
  r40 : N.rules.length ≤ 23
  ro : ∀ r, r ∈ N.rules → RuleOk N.procs N.chans r

/-! ### worlds -/
structure Wld where
  states : List Nat
  sent : List Nat
  present : List (List (Nat × Nat))
abbrev encN (n : Nat) : Dat := .int (n : Int)
abbrev encK (p : Nat × Nat) : Dat := .tup [.int (p.1 : Int), .int (p.2 : Int)]
abbrev Wld.enc (w : Wld) : Dat := .tup [.tup (w.states.map encN), .tup (w.sent.map encN), .tup (w.present.map fun row => .tup (row.map encK))]
abbrev Wld.encL (w : Wld) : Dat := .tup [.lst (w.states.map encN), .lst (w.sent.map encN), .lst (w.present.map fun row => .lst (row.map encK))]
def NetM.start (N : NetM) : Wld := ⟨List.replicate N.procs.length 0, List.replicate N.chans.length 0, List.replicate N.chans.length []⟩
inductive Deed where
  | act (r : Nat) | take (r k : Nat) | lose (c k : Nat)
def Deed.ds : Deed → List Dat
  | .act r => [.str "act", .int (r : Int)]
  | .take r k => [.str "take", .int (r : Int), .int (k : Int)]
  | .lose c k => [.str "lose", .int (c : Int), .int (k : Int)]
abbrev Deed.enc (d : Deed) : Dat := .tup d.ds
structure WldOk (N : NetM) (b : Nat) (w : Wld) : Prop where
  s : w.states.length = N.procs.length
  t : w.sent.length = N.chans.length
  p : w.present.length = N.chans.length
  tb : ∀ k, k ∈ w.sent → k ≤ b
  pb : ∀ r, r ∈ w.present → r.length ≤ b
def Act.isTake : Act → Bool
  | .take _ _ => true
  | _ => false
def lossy (k : Nat) : Bool := decide (2 ≤ k)
def ordered (k : Nat) : Bool := k == 0 || k == 2
def row (w : Wld) (c : Nat) : List (Nat × Nat) := w.present.getD c []
def chanK (N : NetM) (c : Nat) : Nat := match N.chans[c]? with | some h => h.kind | none => 0
def opens (N : NetM) (w : Wld) (c : Nat) : List (Nat × Nat) := if ordered (chanK N c) = true then (row w c).take 1 else row w c
/-- the deed fits the net -/
def Fit (N : NetM) : Deed → Prop
  | .act r => ∃ u, N.rules[r]? = some u ∧ u.act.isTake = false
  | .take r _ => ∃ u, N.rules[r]? = some u ∧ u.act.isTake = true
  | .lose c _ => ∃ h, N.chans[c]? = some h ∧ lossy h.kind = true
def canDo (N : NetM) (w : Wld) : Deed → Bool
  | .act r => match N.rules[r]? with
    | some u => w.states.getD u.proc 0 == u.state
    | none => false
  | .take r k => match N.rules[r]? with
    | some u => w.states.getD u.proc 0 == u.state && (match u.act with
      | .take c t => decide ((k, t) ∈ opens N w c)
      | _ => false)
    | none => false
  | .lose c k => decide (k ∈ (opens N w c).map (·.1))
def without (w : Wld) (c k : Nat) : List (List (Nat × Nat)) := w.present.set c ((row w c).filter fun p => p.1 != k)
def doRule (w : Wld) (u : Rul) (k : Nat) : Wld :=
  match u.act with
  | .doo => ⟨w.states.set u.proc u.thn, w.sent, w.present⟩
  | .send c t => ⟨w.states.set u.proc u.thn, w.sent.set c (w.sent.getD c 0 + 1), w.present.set c (row w c ++ [(w.sent.getD c 0, t)])⟩
  | .take c _ => ⟨w.states.set u.proc u.thn, w.sent, without w c k⟩
def step (N : NetM) (w : Wld) : Deed → Wld
  | .act r => match N.rules[r]? with
    | some u => doRule w u 0
    | none => w
  | .take r k => match N.rules[r]? with
    | some u => doRule w u k
    | none => w
  | .lose c k => ⟨w.states, w.sent, without w c k⟩
/-- what can be read as a deed: the parts -/
def natPart : Dat → Option Nat
  | .int (.ofNat n) => some n
  | _ => none
def natParts : List Dat → Option (List Nat)
  | [] => some []
  | d :: ds => match natPart d, natParts ds with
    | some n, some ns => some (n :: ns)
    | _, _ => none
def deedOf (N : NetM) (x : PySem.Str) (ns : List Nat) : Option Deed :=
  if x = "lose" then (match ns with
    | [c, k] => if lossy (chanK N c) = true ∧ c < N.chans.length then some (.lose c k) else none
    | _ => none)
  else if x = "act" then (match ns with
    | [r] => match N.rules[r]? with
      | some u => if u.act.isTake = false then some (.act r) else none
      | none => none
    | _ => none)
  else if x = "take" then (match ns with
    | [r, k] => match N.rules[r]? with
      | some u => if u.act.isTake = true then some (.take r k) else none
      | none => none
    | _ => none)
  else none
def deedParts (N : NetM) : List Dat → Option Deed
  | .str x :: d :: ds => match natParts (d :: ds) with
    | some ns => deedOf N x ns
    | none => none
  | _ => none
def asDeed (N : NetM) : Dat → Option Deed
  | .lst ds => deedParts N ds
  | .tup ds => deedParts N ds
  | _ => none
/-- what may be handed in as a deed -/
def flatD : Dat → Bool
  | .non => true
  | .int _ => true
  | .str _ => true
  | _ => false
def RawOk : Dat → Prop
  | .lst ds => ds.length ≤ 1000 ∧ ∀ d, d ∈ ds → flatD d = true
  | .tup ds => ds.length ≤ 1000 ∧ ∀ d, d ∈ ds → flatD d = true
  | d => flatD d = true
def play (N : NetM) : Nat → Wld → List Dat → Except Nat (List Wld)
  | _, _, [] => .ok []
  | at_, w, d :: ds => match asDeed N d with
    | none => .error at_
    | some e => if at_ = 60 ∨ canDo N w e = false then .error at_ else
      match play N (at_ + 1) (step N w e) ds with
      | .ok ws => .ok (step N w e :: ws)
      | .error n => .error n

/-! ### the promises -/
abbrev Pre := List Dat → (Dat → Prop) → Prop
def wholeB : Dat → Bool
  | .int _ => true
  | _ => false
def pre_is_whole : Pre := fun ds P => ∃ v, ds = [v] ∧ (tyN v).isSome = true ∧ P (.bl (wholeB v))
def pre_is_below : Pre := fun ds P => ∃ i n : Int, ds = [.int i, .int n] ∧ P (.bl (decide (0 ≤ i ∧ i < n)))
def pre_is_name : Pre := fun ds P => ∃ x, ds = [.str x] ∧ NameOk x ∧ P (.bl true)
def pre_is_process : Pre := fun ds P => ∃ p es, ds = [encP p, .tup (List.map encP es)] ∧ es.length ≤ 1000 ∧ NameOk p.1 ∧ 1 ≤ p.2 ∧ p.2 ≤ 8 ∧ (∀ q, q ∈ es → q.1 ≠ p.1) ∧ (∀ q, q ∈ es → PyData.strOk q.1 = true) ∧ P (.bl true)
def pre_is_channel : Pre := fun ds P => ∃ c ps es, ds = [encC c, .tup (List.map encP ps), .tup (List.map encC es)] ∧ es.length ≤ 1000 ∧ ChanOk ps.length c ∧ (∀ q, q ∈ es → q.name ≠ c.name) ∧ (∀ q, q ∈ es → PyData.strOk q.name = true) ∧ P (.bl true)
def pre_is_act : Pre := fun ds P => ∃ a p cs, ds = [encA a, .int ((p : Nat) : Int), .tup (List.map encC cs)] ∧ ActOk cs p a ∧ P (.bl true)
def pre_is_rule : Pre := fun ds P => ∃ r ps cs, ds = [encR r, .tup (List.map encP ps), .tup (List.map encC cs)] ∧ RuleOk ps cs r ∧ P (.bl true)
/-- frozen to a depth -/
def frz : Nat → Dat → Dat
  | n + 1, .lst ds => .tup (ds.map (frz n))
  | n + 1, .tup ds => .tup (ds.map (frz n))
  | _, d => d
def frzOk : Nat → Dat → Prop
  | 0, _ => True
  | n + 1, .lst ds => ds.length ≤ 1000 ∧ ∀ d, d ∈ ds → frzOk n d
  | n + 1, .tup ds => ds.length ≤ 1000 ∧ ∀ d, d ∈ ds → frzOk n d
  | _ + 1, d => (tyN d).isSome = true
def pre__frozen (m : Nat) : Pre := fun ds P => ∃ v n, ds = [v, .int ((n : Nat) : Int)] ∧ n ≤ m ∧ frzOk n v ∧ P (frz n v)
def pre__rows : Pre := fun ds P => ∃ v lo hi rs, ds = [v, .int ((lo : Nat) : Int), .int ((hi : Nat) : Int)] ∧ frzOk 3 v ∧ frz 3 v = .tup (List.map Dat.tup rs) ∧ rs.length ≤ 1000 ∧ lo ≤ rs.length ∧ rs.length ≤ hi ∧ P (.tup (List.map Dat.tup rs))
def pre_start : Pre := fun ds P => ∃ N : NetM, ds = [N.obj] ∧ N.Ok ∧ P N.start.enc
def pre_is_lossy : Pre := fun ds P => ∃ (N : NetM) (c : Nat), ds = [N.obj, .int (c : Int)] ∧ N.Ok ∧ c < N.chans.length ∧ P (.bl (lossy (chanK N c)))
def pre_is_ordered : Pre := fun ds P => ∃ (N : NetM) (c : Nat), ds = [N.obj, .int (c : Int)] ∧ N.Ok ∧ c < N.chans.length ∧ P (.bl (ordered (chanK N c)))
def optD : Option Deed → Dat
  | none => .non
  | some d => d.enc
def pre_as_deed : Pre := fun ds P => ∃ (N : NetM) (d : Dat), ds = [N.obj, d] ∧ N.Ok ∧ RawOk d ∧ P (optD (asDeed N d))
def pre_open_messages_of : Pre := fun ds P => ∃ (N : NetM) (b : Nat) (w : Wld) (c : Nat), ds = [N.obj, w.enc, .int (c : Int)] ∧ N.Ok ∧ WldOk N b w ∧ b ≤ 1000 ∧ c < N.chans.length ∧ P (.tup ((opens N w c).map encK))
def pre_can_do : Pre := fun ds P => ∃ (N : NetM) (b : Nat) (w : Wld) (d : Deed), ds = [N.obj, w.enc, d.enc] ∧ N.Ok ∧ WldOk N b w ∧ b ≤ 1000 ∧ Fit N d ∧ P (.bl (canDo N w d))
def pre__with_part : Pre := fun ds P => ∃ (xs : List Dat) (i : Nat) (d : Dat), ds = [.tup xs, .int (i : Int), d] ∧ i < xs.length ∧ xs.length ≤ 1000 ∧ P (.tup (xs.set i d))
def pre__without_message : Pre := fun ds P => ∃ (pr : List (List (Nat × Nat))) (c k : Nat), ds = [.tup (pr.map fun row => .tup (row.map encK)), .int (c : Int), .int (k : Int)] ∧ c < pr.length ∧ pr.length ≤ 1000 ∧ (∀ r, r ∈ pr → r.length ≤ 1000) ∧
  P (.tup ((pr.set c ((pr.getD c []).filter fun p => p.1 != k)).map fun row => .tup (row.map encK)))
def pre_behind : Pre := fun ds P => ∃ (N : NetM) (b : Nat) (w : Wld) (d : Deed), ds = [N.obj, w.enc, d.enc] ∧ N.Ok ∧ WldOk N b w ∧ b ≤ 1000 ∧ Fit N d ∧ P (step N w d).enc
/-- played: what it tells, or where it stops -/
def pre_played : List Dat → (Dat → Prop) → (Int → Prop) → Prop := fun ds P X => ∃ (N : NetM) (d : Dat), ds = [N.obj, d] ∧ N.Ok ∧
  ((((tyN d).isSome = true ∧ (∀ es, d ≠ .lst es) ∧ (∀ es, d ≠ .tup es)) ∧ X 0) ∨ ∃ es, (d = .lst es ∨ d = .tup es) ∧ es.length ≤ 70 ∧ (∀ e, e ∈ es → RawOk e) ∧
    (match play N 0 N.start es with
    | .ok ws => P (.tup ((N.start :: ws).map Wld.enc))
    | .error n => X (n : Int)))

/-! the law's -/
def pre__law_mixed : Pre := fun ds P => ∃ (n t : Int) (m : Nat), ds = [.int n, .int t, .int (m : Int)] ∧ 0 < m ∧ ∀ i : Nat, i < m → P (.int (i : Int))
def pre__law_take : Pre := fun ds P => ∃ (m : Nat), ds = [.int (m : Int)] ∧ 0 < m ∧ m < 1000000 ∧ ∀ i : Nat, i < m → P (.int (i : Int))
def pre__law_names : Pre := fun ds P => ∃ (m : Nat), ds = [.int (m : Int)] ∧ m ≤ 8 ∧ ∀ xs : List PySem.Str, xs.length = m → (∀ x, x ∈ xs → NameOk x) → xs.Nodup → P (.lst (xs.map .str))
def pre__law_rule : Pre := fun ds P => ∃ ps cs, ds = [.lst (List.map encP ps), .lst (List.map encC cs)] ∧ 0 < ps.length ∧ ps.length ≤ 1000 ∧ cs.length ≤ 1000 ∧ (∀ p, p ∈ ps → 1 ≤ p.2 ∧ p.2 ≤ 8) ∧ (∀ c, c ∈ cs → ChanOk ps.length c) ∧ ∀ r, RuleOk ps cs r → P (encR r)
def pre__law_net : Pre := fun ds P => ds = [] ∧ ∀ N : NetM, N.Ok → P N.dict
def pre__law_made : Pre := fun ds P => ∃ N : NetM, ds = [N.dict] ∧ N.Ok ∧ P N.obj
def pre__law_start : Pre := fun ds P => ∃ N : NetM, ds = [N.dict] ∧ N.Ok ∧ P N.start.encL
def pre__law_told : Pre := fun ds P => ∃ w : Wld, ds = [w.encL] ∧ w.present.length ≤ 1000 ∧ P w.enc
def pre__law_first : Pre := fun ds P => ∃ (N : NetM) (b : Nat) (w : Wld) (c : Nat), ds = [N.dict, w.encL, .int (c : Int)] ∧ N.Ok ∧ WldOk N b w ∧ b ≤ 1000 ∧ c < N.chans.length ∧ P (.lst ((opens N w c).map encK))
def possR (N : NetM) (w : Wld) (r : Nat) (u : Rul) : List Deed :=
  if w.states.getD u.proc 0 = u.state then (match u.act with
    | .take c t => ((opens N w c).filter fun p => p.2 == t).map fun p => .take r p.1
    | _ => [.act r]) else []
def possC (N : NetM) (w : Wld) (c : Nat) (h : Chan) : List Deed := if lossy h.kind = true then (opens N w c).map fun p => .lose c p.1 else []
def possible (N : NetM) (w : Wld) : List Deed := (N.rules.zipIdx.flatMap fun p => possR N w p.2 p.1) ++ (N.chans.zipIdx.flatMap fun p => possC N w p.2 p.1)
def pre__law_possible : Pre := fun ds P => ∃ (N : NetM) (b : Nat) (w : Wld), ds = [N.dict, w.encL] ∧ N.Ok ∧ WldOk N b w ∧ b ≤ 1000 ∧ P (.lst ((possible N w).map Deed.enc))
def pre__law_done : Pre := fun ds P => ∃ (N : NetM) (b : Nat) (w : Wld) (d : Deed), ds = [N.dict, w.encL, d.enc] ∧ N.Ok ∧ WldOk N b w ∧ b ≤ 1000 ∧ Fit N d ∧ P (step N w d).encL
def legal (N : NetM) : Wld → List Deed → Prop
  | _, [] => True
  | w, d :: ds => d ∈ possible N w ∧ legal N (step N w d) ds
def runW (N : NetM) : Wld → List Deed → List Wld
  | w, [] => [w]
  | w, d :: ds => w :: runW N (step N w d) ds
def pre__law_run : Pre := fun ds P => ∃ (N : NetM) (m : Nat), ds = [N.dict, .int (m : Int)] ∧ N.Ok ∧ m ≤ 60 ∧ ∀ es : List Deed, es.length ≤ m → legal N N.start es → P (.tup [.lst (es.map Deed.enc), .lst ((runW N N.start es).map Wld.encL)])
def pre__law_near : Pre := fun ds P => ∃ (N : NetM) (b : Nat) (w : Wld), ds = [N.dict, w.encL] ∧ N.Ok ∧ WldOk N b w ∧ b ≤ 1000 ∧ ∀ x, RawOk x → (∀ es, x ≠ .lst es) → (∀ d, d ∈ possible N w → x ≠ d.enc) → P x
/-- what the law may be due -/
inductive Due : Nat → Dat → Prop
  | int (n : Nat) (i : Int) : Due n (.int i)
  | str (n : Nat) (x : PySem.Str) : Due n (.str x)
  | tup (n : Nat) (xs : List Dat) (hl : xs.length ≤ 1000) (h : ∀ x, x ∈ xs → Due n x) : Due (n + 1) (.tup xs)
def pre__law_same (n : Nat) : Pre := fun ds P => ∃ d, ds = [d, d] ∧ Due n d ∧ P (.bl true)
def pre__law_asked : Pre := fun ds P => ∃ d e, ds = [d, e] ∧ pre_played [d, e] (fun r => P (.tup [.str "told", r])) (fun n => P (.tup [.str "step", .int n]))
def pre__law_agrees : Pre := fun ds P => ∃ N : NetM, ds = [N.dict, N.obj] ∧ N.Ok ∧ P (.bl true)
def longN (xs : List PySem.Str) : NetM := ⟨xs.map fun x => (x, 1), [], (List.range xs.length).map fun p => ⟨p, 0, .doo, 0⟩⟩
def pre__law_long : Pre := fun ds P => ds = [] ∧ ∀ (xs : List PySem.Str) (rs : List Nat), (longN xs).Ok → rs.length = 60 → (∀ r, r ∈ rs → r < xs.length) → P (.tup [(longN xs).dict, .lst (rs.map fun r => (Deed.act r).enc)])
def pre__law_sixty : Pre := fun ds P => ds = [] ∧ P (.bl true)
end Dl


namespace L2
open PySem PySem.Spec PyProof.Rows
/-- isinstance(e, c), e the exception that the suite holds, with a dict of its own -/
def rIsE2 (K : PySem.W.Frag) (D a dd : Addr) : List V → Hp → VK → Prop := fun xs H Q => ∃ (c : V) (cv : Value) (b : Bool) (fs : List (Str × V)), xs = [.ref a, c] ∧ (∀ u, RelV c u → u = cv) ∧ H dd = some (.xd fs) ∧ PySem.W.kitOne K (.ref D) cv = some b ∧ Q (.bl b) H
theorem call_isE2 {X : Cx} {a D dd : Addr} {oe : Obj} {pn : List (Addr × Obj)} (C : ExcC X.K D) (hz : Zc (.ref D) (some dd) oe) (hf : ∃ vs, oe.data = .fields vs) : CallR (X.suite a ((a, oe) :: pn)) (.builtin "isinstance") (rIsE2 X.K D a dd) := by
  intro pins s σ H xs us Q I r h
  obtain ⟨c, cv, b, fs, rfl, hcv, hdd, e, q⟩ := h
  cases r with
  | cons rx rr =>
    cases rr with
    | cons rt rr =>
      cases rr
      cases rx
      have ec := hcv _ rt
      subst ec
      obtain ⟨hget, _⟩ := I.pin (a, oe) (List.mem_append.mpr (.inl List.mem_cons_self))
      obtain ⟨vs, hv⟩ := hf
      have hx : ObjOk X.prog X.w H s.heap dd (.xd fs) := I.hok dd _ hdd
      obtain ⟨mA, ⟨od, es, ep, ho, hr⟩, hl⟩ := hx
      have J : PySem.W.InstAt s.heap a oe D (some od) := by
        obtain ⟨oc, od', oda, osl⟩ := oe
        obtain ⟨h1, h2⟩ := hz
        dsimp only at h1 h2 hv
        subst h1 h2 hv
        exact ⟨hget, rfl, rfl, ho⟩
      have hcl : (PySem.W.clsIn X.K D).isSome = true := by
        obtain ⟨cd, hc, _⟩ := PySem.W.any_some C.hd
        rw [hc]; rfl
      exact PySem.W.kia_one (PySem.W.kitx_exc hcl C.hg C.hk C.hs C.ha C.hn C.ht C.hm) I.kIn J e (fun z => nomatch z) fun tk => ⟨.bl b, H, I.kept (t' := tk) fun _ _ z => z, rfl, q⟩
end L2


/-! What the readings ask of the module. -/
namespace Dl
open PySem L2 PyProof.Rows
def topS (i : Nat) : Stmt := PySem.Challenge.pw_cutweave_k06_whole_played_runs.main.body.getD i (.Pass ⟨0, 0, 0, 0⟩)
/-- the globals that are no defs -/
structure Bt (K : PySem.W.Frag) (mg : PySem.Str → Option Value) (C kinds : Addr) : Prop where
  b_len : mg "len" = none
  b_tuple : mg "tuple" = none
  b_list : mg "list" = none
  b_range : mg "range" = none
  b_int : mg "int" = none
  b_isinstance : mg "isinstance" = none
  b_all : mg "all" = none
  b_enumerate : mg "enumerate" = none
  b_str : mg "str" = none
  b_bool : mg "bool" = none
  cMOST_LETTERS : ∃ u, mg "MOST_LETTERS" = some (.int 6 u)
  cMOST_PROCESSES : ∃ u, mg "MOST_PROCESSES" = some (.int 5 u)
  cMOST_STATES : ∃ u, mg "MOST_STATES" = some (.int 8 u)
  cMOST_CHANNELS : ∃ u, mg "MOST_CHANNELS" = some (.int 8 u)
  cMOST_RULES : ∃ u, mg "MOST_RULES" = some (.int 40 u)
  cTOKENS : ∃ u, mg "TOKENS" = some (.int 10 u)
  cMOST_DEEDS : ∃ u, mg "MOST_DEEDS" = some (.int 60 u)
  cLETTERS : ∃ u, mg "LETTERS" = some (.str letters u)
  cKINDS : mg "KINDS" = some (.ref kinds)
  kinds : ∀ H : Hp, SqT K H kinds (kinds4.map V.str)
  gNet : mg "Net" = some (.ref C)
structure Cal (K : PySem.W.Frag) (mg : PySem.Str → Option Value) (x : PySem.Str) (f : Addr) (fd : FuncData) (ps : List PySem.Str) : Prop where
  gl : mg x = some (.ref f)
  kp : PySem.W.keepIn K (.ref f) = true
  bd : Binds K fd ps []
theorem sl_seq {X : Cx} : SlR X (rSlQ X.K) := SlR.or sl_list sl_tupA
theorem gc {mg : PySem.Str → Option Value} {x : PySem.Str} {n : Int} (h : ∃ u, mg x = some (.int n u)) {X : Cx} (e : X.mg = mg) {pos : Pos} (hg : Gl X x) (hd : (x == ("__debug__" : PySem.Str)) = false := by decide) : PE X (.Name x pos) (tC (.int n)) := by
  obtain ⟨u, h⟩ := h
  exact pe_glob hg (by rw [e]; exact h) ⟨u, rfl⟩ hd
theorem gs {mg : PySem.Str → Option Value} {x : PySem.Str} {n : PySem.Str} (h : ∃ u, mg x = some (.str n u)) {X : Cx} (e : X.mg = mg) {pos : Pos} (hg : Gl X x) (hd : (x == ("__debug__" : PySem.Str)) = false := by decide) : PE X (.Name x pos) (tC (.str n)) := by
  obtain ⟨u, h⟩ := h
  exact pe_glob hg (by rw [e]; exact h) ⟨u, rfl⟩ hd
end Dl
namespace Dl
open PySem L2 PyProof.Rows
theorem hu65 {k : Nat} {A : Around} (r : Room k A) : A.units + 65 < cLine := by have := r.un; omega
def preF : Nat → Pre
  | 0 => fun _ _ => False
  | m + 1 => pre__frozen m
def preS : Nat → Pre
  | 0 => fun _ _ => False
  | m + 1 => pre__law_same m
end Dl


namespace Dl
open PySem L2
section
variable {C CB : Addr} {K : PySem.W.Frag} {W : WX} {R : Out → Prop} {δ : List Slot}
theorem isB_mk {P : Bool → Prop} {b : Bool} (p : P b) : isB P (.bl b) := ⟨b, rfl, p⟩
theorem br_t {b : Bool} {A B : Prop} (h : b = true) (a : A) : (b = true → A) ∧ (b = false → B) := ⟨fun _ => a, fun e => by rw [h] at e; cases e⟩
theorem br_f {b : Bool} {A B : Prop} (h : b = false) (a : B) : (b = true → A) ∧ (b = false → B) := ⟨fun e => (by rw [h] at e; cases e), fun _ => a⟩
theorem br_2 {b : Bool} {A B : Prop} (a : b = true → A) (c : b = false → B) : (b = true → A) ∧ (b = false → B) := ⟨a, c⟩
theorem kb_ii : kitB "int" "int" = some true := by decide +kernel
theorem kb_is : kitB "int" "str" = some false := by decide +kernel
theorem kb_ib : kitB "int" "bool" = some false := by decide +kernel
theorem kb_il : kitB "int" "list" = some false := by decide +kernel
theorem kb_it : kitB "int" "tuple" = some false := by decide +kernel
theorem kb_si : kitB "str" "int" = some false := by decide +kernel
theorem kb_ss : kitB "str" "str" = some true := by decide +kernel
theorem kb_sb : kitB "str" "bool" = some false := by decide +kernel
theorem kb_sl : kitB "str" "list" = some false := by decide +kernel
theorem kb_st : kitB "str" "tuple" = some false := by decide +kernel
theorem kb_bi : kitB "bool" "int" = some true := by decide +kernel
theorem kb_bb : kitB "bool" "bool" = some true := by decide +kernel
theorem kb_bs : kitB "bool" "str" = some false := by decide +kernel
theorem kb_bl : kitB "bool" "list" = some false := by decide +kernel
theorem kb_bt : kitB "bool" "tuple" = some false := by decide +kernel
theorem kb_ll : kitB "list" "list" = some true := by decide +kernel
theorem kb_lt : kitB "list" "tuple" = some false := by decide +kernel
theorem kb_li : kitB "list" "int" = some false := by decide +kernel
theorem kb_ls : kitB "list" "str" = some false := by decide +kernel
theorem kb_lb : kitB "list" "bool" = some false := by decide +kernel
theorem kb_tt : kitB "tuple" "tuple" = some true := by decide +kernel
theorem kb_tl : kitB "tuple" "list" = some false := by decide +kernel
theorem kb_ti : kitB "tuple" "int" = some false := by decide +kernel
theorem kb_ts : kitB "tuple" "str" = some false := by decide +kernel
theorem kb_tb : kitB "tuple" "bool" = some false := by decide +kernel
theorem kb_ni : kitB "NoneType" "int" = some false := by decide +kernel
theorem kb_ns : kitB "NoneType" "str" = some false := by decide +kernel
theorem kb_nb : kitB "NoneType" "bool" = some false := by decide +kernel
theorem kb_nl : kitB "NoneType" "list" = some false := by decide +kernel
theorem kb_nt : kitB "NoneType" "tuple" = some false := by decide +kernel
theorem kb_dl : kitB "dict" "list" = some false := by decide +kernel
theorem kb_dt : kitB "dict" "tuple" = some false := by decide +kernel
theorem kb_di : kitB "dict" "int" = some false := by decide +kernel
theorem isi1 {d : Dat} {U : String} {P : Bool → Prop} {T : String} {b : Bool} (e : tyN d = some T) (h : kitB T U = some b) (p : P b) : ∃ T b, tyN d = some T ∧ kitB T U = some b ∧ isB P (.bl b) := ⟨T, b, e, h, isB_mk p⟩
theorem isi2 {d : Dat} {U V : String} {P : Bool → Prop} {T : String} {b c : Bool} (e : tyN d = some T) (h : kitB T U = some b) (h2 : kitB T V = some c) (p : P (b || c)) : ∃ T b1 b2, tyN d = some T ∧ kitB T U = some b1 ∧ kitB T V = some b2 ∧ isB P (.bl (b1 || b2)) := ⟨T, b, c, e, h, h2, isB_mk p⟩
theorem mk_o {x y z : Dat} {P : Dat → Dat → Dat → Prop} (p : P x y z) : ∃ p c r, Dat.obj x y z = .obj p c r ∧ P p c r := ⟨x, y, z, rfl, p⟩
theorem mk_n {x y z : Dat} {P : Dat → Dat → Dat → Prop} (p : P x y z) : ∃ p c r, Dat.net3 x y z = .net3 p c r ∧ P p c r := ⟨x, y, z, rfl, p⟩
theorem mk_i {n : Int} {P : Int → Prop} (p : P n) : ∃ m, Dat.int n = .int m ∧ P m := ⟨n, rfl, p⟩
theorem mk_s {n : PySem.Str} {P : PySem.Str → Prop} (p : P n) : ∃ m, Dat.str n = .str m ∧ P m := ⟨n, rfl, p⟩
theorem mk_l {n : List Dat} {P : List Dat → Prop} (p : P n) : ∃ m, Dat.lst n = .lst m ∧ P m := ⟨n, rfl, p⟩
theorem mk_b {b : Bool} {P : Bool → Prop} (p : P b) : ∃ k, Dat.bl b = .bl k ∧ P k := ⟨b, rfl, p⟩
theorem mk_sl {n : List Dat} {P : List Dat → Prop} (p : P n) : ∃ ds, (Dat.lst n = .lst ds ∨ Dat.lst n = .tup ds) ∧ P ds := ⟨n, .inl rfl, p⟩
theorem mk_st {n : List Dat} {P : List Dat → Prop} (p : P n) : ∃ ds, (Dat.tup n = .lst ds ∨ Dat.tup n = .tup ds) ∧ P ds := ⟨n, .inr rfl, p⟩
theorem mk_al {n : List Dat} {P : List Dat → Prop} (p : P n) : ∃ ds, ([Dat.lst n] = [Dat.lst ds] ∨ [Dat.lst n] = [Dat.tup ds]) ∧ P ds := ⟨n, .inl rfl, p⟩
theorem mk_at {n : List Dat} {P : List Dat → Prop} (p : P n) : ∃ ds, ([Dat.tup n] = [Dat.lst ds] ∨ [Dat.tup n] = [Dat.tup ds]) ∧ P ds := ⟨n, .inr rfl, p⟩
theorem mk_r {n : Nat} {P : Nat → Prop} (h : n ≤ 1000000) (p : P n) : ∃ m : Nat, [Dat.int (n : Int)] = [.int (m : Int)] ∧ m ≤ 1000000 ∧ P m := ⟨n, rfl, h, p⟩
theorem ex_norm {t : TS} {δ' : List Slot} (e : δ = δ') (h : Ex C CB W t δ' R) : Ex C CB W t δ R := e ▸ h
theorem ev_norm {t : TE} {P : Dat → Prop} {δ' : List Slot} (e : δ = δ') (h : Ev C t δ' P) : Ev C t δ P := e ▸ h
theorem and_len {α : Type} {ds : List α} {P : Prop} (h : ds.length ≤ 100000) (p : P) : ds.length ≤ 100000 ∧ P := ⟨h, p⟩
theorem ixnat {ds : List Dat} {i : Nat} {d : Dat} (h : ds[i]? = some d) : atI ds (i : Int) = some d := by
  unfold atI
  rw [ixN_nat (List.getElem?_eq_some_iff.mp h).1]
  exact h
theorem ixmap {α : Type} {f : α → Dat} {xs : List α} {i : Nat} {x : α} (h : xs[i]? = some x) : atI (xs.map f) (i : Int) = some (f x) := ixnat (by rw [List.getElem?_map, h]; rfl)
theorem ixlast {ds : List Dat} {d : Dat} (h : ds.getLast? = some d) : atI ds (-1) = some d := by
  rw [List.getLast?_eq_getElem?] at h
  have hl := (List.getElem?_eq_some_iff.mp h).1
  unfold atI ixN
  rw [if_neg (by decide), if_pos (by omega)]
  show ds[(-1 + (ds.length : Int)).toNat]? = some d
  rw [show (-1 + (ds.length : Int)).toNat = ds.length - 1 by omega]
  exact h
theorem cut_to {ds : List Dat} {n : Nat} : cutD ds none (some (n : Int)) = ds.take n := by
  unfold cutD
  rw [HT.sIx_nat]
  show (ds.drop 0).take (min n ds.length - 0) = _
  rw [List.drop_zero, Nat.sub_zero]
  rcases Nat.le_total n ds.length with h | h
  · rw [Nat.min_eq_left h]
  · rw [Nat.min_eq_right h, List.take_of_length_le (Nat.le_refl _), List.take_of_length_le h]
theorem cut_from {ds : List Dat} {n : Nat} : cutD ds (some (n : Int)) none = ds.drop n := by
  unfold cutD
  rw [HT.sIx_nat]
  show (ds.drop (min n ds.length)).take (ds.length - min n ds.length) = _
  rcases Nat.le_total n ds.length with h | h
  · rw [Nat.min_eq_left h, List.take_of_length_le (by rw [List.length_drop]; omega)]
  · rw [Nat.min_eq_right h, List.drop_of_length_le (Nat.le_refl _), List.drop_of_length_le h, List.take_nil]
end
end Dl


namespace Dl
open PySem L2 PyProof.Rows
section
variable {P : Program} {w : World} {K : PySem.W.Frag} {mg : PySem.Str → Option Value} {base : Heap} {C CB CU fI kinds : Addr}
/-! ### is_whole: 0 value -/
abbrev s_is_whole : Stmt := topS 13
abbrev n_is_whole : List PySem.Str := ["value"]
theorem sc_is_whole : FnScope n_is_whole ["value"] (defScope s_is_whole) := ⟨rfl, rfl, rfl, by decide +kernel, rfl, by decide +kernel, by decide +kernel⟩
def t_is_whole (K : PySem.W.Frag) (C CB kinds : Addr) : TS := (tRet (tAndV (tCB (rIsi K) (tCons (tVar 0) (tCons (tC (.ty "int")) tNil))) (tNotV (tCB (rIsi K) (tCons (tVar 0) (tCons (tC (.ty "bool")) tNil))))))
theorem d_is_whole (T : Bt K mg C kinds) {f : Addr} {cdv : Value} {A : Around} {outer : List Env} {s : Shared} {H : Hp} {E : XK} (hr : Room 0 (A.deeper (envOfC "is_whole" (defScope s_is_whole) s.heap.objs.size f cdv))) :
  PSs (cxOf CX0 P w K mg base n_is_whole "is_whole" (defScope s_is_whole) f cdv A outer s H E).nox (defBody s_is_whole) (t_is_whole K C CB kinds ) :=
  (pss_one (ps_ret (pe_and (pe_callB call_isi (by rfl) T.b_isinstance (by decide +kernel) (pa_cons (pv 0) (pa_cons (pe_bltn (v := .ty "int") rfl T.b_int (by decide +kernel) rfl) pa_nil))) (pe_one (pe_not (pe_callB call_isi (by rfl) T.b_isinstance (by decide +kernel) (pa_cons (pv 0) (pa_cons (pe_bltn (v := .ty "bool") rfl T.b_bool (by decide +kernel) rfl) pa_nil))))))))

/-! ### is_below: 0 value, 1 top -/
abbrev s_is_below : Stmt := topS 14
abbrev n_is_below : List PySem.Str := ["value", "top"]
theorem sc_is_below : FnScope n_is_below ["value", "top"] (defScope s_is_below) := ⟨rfl, rfl, rfl, by decide +kernel, rfl, by decide +kernel, by decide +kernel⟩
def t_is_below (K : PySem.W.Frag) (C CB kinds : Addr) : TS := (tRet (tAndV (tCall (spP C pre_is_whole) [] E0 (tCons (tVar 0) tNil)) (tChain rLeI rLtI (tC (.int 0)) (tVar 0) (tVar 1))))
theorem d_is_below (T : Bt K mg C kinds) {f_is_whole : Addr} {fd_is_whole : FuncData} (c_is_whole : Cal K mg "is_whole" f_is_whole fd_is_whole ["value"]) (G_is_whole : FnOk P w K mg base CX0 1 f_is_whole fd_is_whole ["value"] (spP C pre_is_whole)) {f : Addr} {cdv : Value} {A : Around} {outer : List Env} {s : Shared} {H : Hp} {E : XK} (hr : Room 1 (A.deeper (envOfC "is_below" (defScope s_is_below) s.heap.objs.size f cdv))) :
  PSs (cxOf CX0 P w K mg base n_is_below "is_below" (defScope s_is_below) f cdv A outer s H E).nox (defBody s_is_below) (t_is_below K C CB kinds ) :=
  (pss_one (ps_ret (pe_and (pe_call G_is_whole (hr.mono (by decide)) rfl c_is_whole.gl c_is_whole.kp c_is_whole.bd .nil pass0 (pa_cons (pv 0) pa_nil)) (pe_one (pe_chain op_le op_lt pe_int (pv 0) (pv 1))))))

/-! ### is_name: 0 value, 1 sign -/
abbrev s_is_name : Stmt := topS 15
abbrev n_is_name : List PySem.Str := ["value", "sign"]
theorem sc_is_name : FnScope n_is_name ["value"] (defScope s_is_name) := ⟨rfl, rfl, rfl, by decide +kernel, rfl, by decide +kernel, by decide +kernel⟩
def t_is_name (K : PySem.W.Frag) (C CB kinds : Addr) : TS := (tSeq (tIfS (tOr (tNot (tB (tCB (rIsi K) (tCons (tVar 0) (tCons (tC (.ty "str")) tNil))))) (tNot (tTest (tChain rLeI rLeI (tC (.int 1)) (tCB (rLenV K) (tCons (tVar 0) tNil)) (tC (.int 6)))))) (tRet (tC (.bl false))) tNext)
    (tRet (tCB (rAll K) (tCons (tLc (iStr (tVar 0)) (gName 1) tYes (tOp rInSign (tVar 1) (tC (.str letters))) [1]) tNil))))
theorem d_is_name (T : Bt K mg C kinds) {f : Addr} {cdv : Value} {A : Around} {outer : List Env} {s : Shared} {H : Hp} {E : XK} (hr : Room 0 (A.deeper (envOfC "is_name" (defScope s_is_name) s.heap.objs.size f cdv))) :
  PSs (cxOf CX0 P w K mg base n_is_name "is_name" (defScope s_is_name) f cdv A outer s H E).nox (defBody s_is_name) (t_is_name K C CB kinds ) :=
  (pss_cons (ps_if (PW.pt (pw_or (pt_not (pt_val (pe_callB call_isi (by rfl) T.b_isinstance (by decide +kernel) (pa_cons (pv 0) (pa_cons (pe_bltn (v := .ty "str") rfl T.b_str (by decide +kernel) rfl) pa_nil))))) (pw_or1 (pt_not (pt_chain op_le op_le pe_int (pe_callB call_len (by rfl) T.b_len (by decide +kernel) (pa_cons (pv 0) pa_nil)) (gc T.cMOST_LETTERS rfl rfl)))))) (pss_one (ps_ret pe_bl)) pss_nil)
    (pss_one (ps_ret (pe_callB (cr_all rfl) (by rfl) T.b_all (by decide +kernel) (pa_cons (pe_lc (own := [("sign", 1)]) (g := (gName 1)) (tt := tYes) (te := (tOp rInSign (tVar 1) (tC (.str letters)))) rfl sc_is_name.nd (pi_str (pv 0)) (blkOk_by (own := [("sign", 1)]) (N := n_is_name) (sc := defScope s_is_name) (by decide +kernel)) (fun _ _ _ _ _ => (pg_name (i := 1) sc_is_name.nd rfl (by first | exact Or.inl rfl | exact Or.inr rfl))) (fun _ _ _ _ _ => pts_nil) (fun _ _ _ _ _ => (pe_cmpR op_in_sign (pv 1) (gs T.cLETTERS rfl rfl) (by rfl)))) pa_nil)))))

/-! ### is_process: 0 value, 1 elder, 2 one -/
abbrev s_is_process : Stmt := topS 16
abbrev n_is_process : List PySem.Str := ["value", "elder", "one"]
theorem sc_is_process : FnScope n_is_process ["value", "elder"] (defScope s_is_process) := ⟨rfl, rfl, rfl, by decide +kernel, rfl, by decide +kernel, by decide +kernel⟩
def t_is_process (K : PySem.W.Frag) (C CB kinds : Addr) : TS := (tSeq (tIfS (tOr (tTest (tOp rNe (tCB (rLenV K) (tCons (tVar 0) tNil)) (tC (.int 2)))) (tOr (tNot (tB (tCall (spP C pre_is_name) [] E0 (tCons (tOp (rIx K) (tVar 0) (tC (.int 0))) tNil)))) (tNot (tB (tCall (spP C pre_is_whole) [] E0 (tCons (tOp (rIx K) (tVar 0) (tC (.int 1))) tNil)))))) (tRet (tC (.bl false))) tNext)
    (tRet (tAndV (tChain rLeI rLeI (tC (.int 1)) (tOp (rIx K) (tVar 0) (tC (.int 1))) (tC (.int 8))) (tOp (rNotInD K) (tSl (rSlA K) (tVar 0) tNoPart (tPart (tC (.int 1)))) (tLc (iSeq K (tVar 1)) (gName 2) tYes (tSl (rSlA K) (tVar 2) tNoPart (tPart (tC (.int 1)))) [2])))))
theorem d_is_process (T : Bt K mg C kinds) {f_is_name : Addr} {fd_is_name : FuncData} (c_is_name : Cal K mg "is_name" f_is_name fd_is_name ["value"]) (G_is_name : FnOk P w K mg base CX0 1 f_is_name fd_is_name ["value"] (spP C pre_is_name)) {f_is_whole : Addr} {fd_is_whole : FuncData} (c_is_whole : Cal K mg "is_whole" f_is_whole fd_is_whole ["value"]) (G_is_whole : FnOk P w K mg base CX0 1 f_is_whole fd_is_whole ["value"] (spP C pre_is_whole)) {f : Addr} {cdv : Value} {A : Around} {outer : List Env} {s : Shared} {H : Hp} {E : XK} (hr : Room 1 (A.deeper (envOfC "is_process" (defScope s_is_process) s.heap.objs.size f cdv))) :
  PSs (cxOf CX0 P w K mg base n_is_process "is_process" (defScope s_is_process) f cdv A outer s H E).nox (defBody s_is_process) (t_is_process K C CB kinds ) :=
  (pss_cons (ps_if (PW.pt (pw_or (pt_cmpR op_ne (pe_callB call_len (by rfl) T.b_len (by decide +kernel) (pa_cons (pv 0) pa_nil)) pe_int (nomark _)) (pw_or (pt_not (pt_val (pe_call G_is_name (hr.mono (by decide)) rfl c_is_name.gl c_is_name.kp c_is_name.bd .nil pass0 (pa_cons (pe_ix ix_seq (pv 0) pe_int (fun _ _ => rfl)) pa_nil)))) (pw_or1 (pt_not (pt_val (pe_call G_is_whole (hr.mono (by decide)) rfl c_is_whole.gl c_is_whole.kp c_is_whole.bd .nil pass0 (pa_cons (pe_ix ix_seq (pv 0) pe_int (fun _ _ => rfl)) pa_nil)))))))) (pss_one (ps_ret pe_bl)) pss_nil)
    (pss_one (ps_ret (pe_and (pe_chain op_le op_le pe_int (pe_ix ix_seq (pv 0) pe_int (fun _ _ => rfl)) (gc T.cMOST_STATES rfl rfl)) (pe_one (pe_cmpR (op_notInD (hu65 hr)) (pe_slice sl_tupA (pv 0) po_none (po_some pe_int)) (pe_lc (own := [("one", 2)]) (g := (gName 2)) (tt := tYes) (te := (tSl (rSlA K) (tVar 2) tNoPart (tPart (tC (.int 1))))) rfl sc_is_process.nd (pi_seq (pv 1)) (blkOk_by (own := [("one", 2)]) (N := n_is_process) (sc := defScope s_is_process) (by decide +kernel)) (fun _ _ _ _ _ => (pg_name (i := 2) sc_is_process.nd rfl (by first | exact Or.inl rfl | exact Or.inr rfl))) (fun _ _ _ _ _ => pts_nil) (fun _ _ _ _ _ => (pe_slice sl_tupA (pv 2) po_none (po_some pe_int)))) (by rfl)))))))

/-! ### is_channel: 0 value, 1 processes, 2 elder, 3 one -/
abbrev s_is_channel : Stmt := topS 17
abbrev n_is_channel : List PySem.Str := ["value", "processes", "elder", "one"]
theorem sc_is_channel : FnScope n_is_channel ["value", "processes", "elder"] (defScope s_is_channel) := ⟨rfl, rfl, rfl, by decide +kernel, rfl, by decide +kernel, by decide +kernel⟩
def t_is_channel (K : PySem.W.Frag) (C CB kinds : Addr) : TS := (tSeq (tIfS (tOr (tTest (tOp rNe (tCB (rLenV K) (tCons (tVar 0) tNil)) (tC (.int 4)))) (tOr (tNot (tB (tCall (spP C pre_is_name) [] E0 (tCons (tOp (rIx K) (tVar 0) (tC (.int 0))) tNil)))) (tTest (tOp (rInD K) (tSl (rSlA K) (tVar 0) tNoPart (tPart (tC (.int 1)))) (tLc (iSeq K (tVar 2)) (gName 3) tYes (tSl (rSlA K) (tVar 3) tNoPart (tPart (tC (.int 1)))) [3]))))) (tRet (tC (.bl false))) tNext)
    (tSeq (tIfS (tOr (tNot (tB (tCall (spP C pre_is_below) [] E0 (tCons (tOp (rIx K) (tVar 0) (tC (.int 1))) (tCons (tCB (rLenV K) (tCons (tVar 1) tNil)) tNil))))) (tOr (tNot (tB (tCall (spP C pre_is_below) [] E0 (tCons (tOp (rIx K) (tVar 0) (tC (.int 2))) (tCons (tCB (rLenV K) (tCons (tVar 1) tNil)) tNil))))) (tTest (tOp rEq (tOp (rIx K) (tVar 0) (tC (.int 1))) (tOp (rIx K) (tVar 0) (tC (.int 2))))))) (tRet (tC (.bl false))) tNext)
    (tRet (tAndV (tCB (rIsi K) (tCons (tOp (rIx K) (tVar 0) (tC (.int 3))) (tCons (tC (.ty "str")) tNil))) (tOp (rIn K false) (tOp (rIx K) (tVar 0) (tC (.int 3))) (tC (.ref kinds)))))))
theorem d_is_channel (T : Bt K mg C kinds) {f_is_name : Addr} {fd_is_name : FuncData} (c_is_name : Cal K mg "is_name" f_is_name fd_is_name ["value"]) (G_is_name : FnOk P w K mg base CX0 1 f_is_name fd_is_name ["value"] (spP C pre_is_name)) {f_is_below : Addr} {fd_is_below : FuncData} (c_is_below : Cal K mg "is_below" f_is_below fd_is_below ["value", "top"]) (G_is_below : FnOk P w K mg base CX0 2 f_is_below fd_is_below ["value", "top"] (spP C pre_is_below)) {f : Addr} {cdv : Value} {A : Around} {outer : List Env} {s : Shared} {H : Hp} {E : XK} (hr : Room 2 (A.deeper (envOfC "is_channel" (defScope s_is_channel) s.heap.objs.size f cdv))) :
  PSs (cxOf CX0 P w K mg base n_is_channel "is_channel" (defScope s_is_channel) f cdv A outer s H E).nox (defBody s_is_channel) (t_is_channel K C CB kinds ) :=
  (pss_cons (ps_if (PW.pt (pw_or (pt_cmpR op_ne (pe_callB call_len (by rfl) T.b_len (by decide +kernel) (pa_cons (pv 0) pa_nil)) pe_int (nomark _)) (pw_or (pt_not (pt_val (pe_call G_is_name (hr.mono (by decide)) rfl c_is_name.gl c_is_name.kp c_is_name.bd .nil pass0 (pa_cons (pe_ix ix_seq (pv 0) pe_int (fun _ _ => rfl)) pa_nil)))) (pw_or1 (pt_cmpR (op_inD (hu65 hr)) (pe_slice sl_tupA (pv 0) po_none (po_some pe_int)) (pe_lc (own := [("one", 3)]) (g := (gName 3)) (tt := tYes) (te := (tSl (rSlA K) (tVar 3) tNoPart (tPart (tC (.int 1))))) rfl sc_is_channel.nd (pi_seq (pv 2)) (blkOk_by (own := [("one", 3)]) (N := n_is_channel) (sc := defScope s_is_channel) (by decide +kernel)) (fun _ _ _ _ _ => (pg_name (i := 3) sc_is_channel.nd rfl (by first | exact Or.inl rfl | exact Or.inr rfl))) (fun _ _ _ _ _ => pts_nil) (fun _ _ _ _ _ => (pe_slice sl_tupA (pv 3) po_none (po_some pe_int)))) (by rfl)))))) (pss_one (ps_ret pe_bl)) pss_nil)
    (pss_cons (ps_if (PW.pt (pw_or (pt_not (pt_val (pe_call G_is_below (hr.mono (by decide)) rfl c_is_below.gl c_is_below.kp c_is_below.bd .nil pass0 (pa_cons (pe_ix ix_seq (pv 0) pe_int (fun _ _ => rfl)) (pa_cons (pe_callB call_len (by rfl) T.b_len (by decide +kernel) (pa_cons (pv 1) pa_nil)) pa_nil))))) (pw_or (pt_not (pt_val (pe_call G_is_below (hr.mono (by decide)) rfl c_is_below.gl c_is_below.kp c_is_below.bd .nil pass0 (pa_cons (pe_ix ix_seq (pv 0) pe_int (fun _ _ => rfl)) (pa_cons (pe_callB call_len (by rfl) T.b_len (by decide +kernel) (pa_cons (pv 1) pa_nil)) pa_nil))))) (pw_or1 (pt_cmpR op_eq (pe_ix ix_seq (pv 0) pe_int (fun _ _ => rfl)) (pe_ix ix_seq (pv 0) pe_int (fun _ _ => rfl)) (nomark _)))))) (pss_one (ps_ret pe_bl)) pss_nil)
    (pss_one (ps_ret (pe_and (pe_callB call_isi (by rfl) T.b_isinstance (by decide +kernel) (pa_cons (pe_ix ix_seq (pv 0) pe_int (fun _ _ => rfl)) (pa_cons (pe_bltn (v := .ty "str") rfl T.b_str (by decide +kernel) rfl) pa_nil))) (pe_one (pe_cmpR op_in_seq (pe_ix ix_seq (pv 0) pe_int (fun _ _ => rfl)) (pe_glob rfl T.cKINDS rfl) (by rfl))))))))

/-! ### is_act: 0 act, 1 process, 2 channels -/
abbrev s_is_act : Stmt := topS 18
abbrev n_is_act : List PySem.Str := ["act", "process", "channels"]
theorem sc_is_act : FnScope n_is_act ["act", "process", "channels"] (defScope s_is_act) := ⟨rfl, rfl, rfl, by decide +kernel, rfl, by decide +kernel, by decide +kernel⟩
def t_is_act (K : PySem.W.Frag) (C CB kinds : Addr) : TS := (tSeq (tIfS (tOr (tNot (tB (tCB (rIsi K) (tCons (tVar 0) (tCons (tC (.ty "tuple")) tNil))))) (tOr (tTest (tOp rEq (tCB (rLenV K) (tCons (tVar 0) tNil)) (tC (.int 0)))) (tNot (tB (tCB (rIsi K) (tCons (tOp (rIx K) (tVar 0) (tC (.int 0))) (tCons (tC (.ty "str")) tNil))))))) (tRet (tC (.bl false))) tNext)
    (tSeq (tIfS (tTest (tOp rEq (tOp (rIx K) (tVar 0) (tC (.int 0))) (tC (.str "do")))) (tRet (tOp rEq (tCB (rLenV K) (tCons (tVar 0) tNil)) (tC (.int 1)))) tNext)
    (tSeq (tIfS (tOr (tTest (tOp (rIn K true) (tOp (rIx K) (tVar 0) (tC (.int 0))) (tTup (tCons (tC (.str "send")) (tCons (tC (.str "take")) tNil))))) (tTest (tOp rNe (tCB (rLenV K) (tCons (tVar 0) tNil)) (tC (.int 3))))) (tRet (tC (.bl false))) tNext)
    (tSeq (tIfS (tOr (tNot (tB (tCall (spP C pre_is_below) [] E0 (tCons (tOp (rIx K) (tVar 0) (tC (.int 1))) (tCons (tCB (rLenV K) (tCons (tVar 2) tNil)) tNil))))) (tNot (tB (tCall (spP C pre_is_below) [] E0 (tCons (tOp (rIx K) (tVar 0) (tC (.int 2))) (tCons (tC (.int 10)) tNil)))))) (tRet (tC (.bl false))) tNext)
    (tRet (tOp rEq (tOp (rIx K) (tOp (rIx K) (tVar 2) (tOp (rIx K) (tVar 0) (tC (.int 1)))) (tIf (tTest (tOp rEq (tOp (rIx K) (tVar 0) (tC (.int 0))) (tC (.str "send")))) (tC (.int 1)) (tC (.int 2)))) (tVar 1)))))))
theorem d_is_act (T : Bt K mg C kinds) {f_is_below : Addr} {fd_is_below : FuncData} (c_is_below : Cal K mg "is_below" f_is_below fd_is_below ["value", "top"]) (G_is_below : FnOk P w K mg base CX0 2 f_is_below fd_is_below ["value", "top"] (spP C pre_is_below)) {f : Addr} {cdv : Value} {A : Around} {outer : List Env} {s : Shared} {H : Hp} {E : XK} (hr : Room 2 (A.deeper (envOfC "is_act" (defScope s_is_act) s.heap.objs.size f cdv))) :
  PSs (cxOf CX0 P w K mg base n_is_act "is_act" (defScope s_is_act) f cdv A outer s H E).nox (defBody s_is_act) (t_is_act K C CB kinds ) :=
  (pss_cons (ps_if (PW.pt (pw_or (pt_not (pt_val (pe_callB call_isi (by rfl) T.b_isinstance (by decide +kernel) (pa_cons (pv 0) (pa_cons (pe_bltn (v := .ty "tuple") rfl T.b_tuple (by decide +kernel) rfl) pa_nil))))) (pw_or (pt_cmpR op_eq (pe_callB call_len (by rfl) T.b_len (by decide +kernel) (pa_cons (pv 0) pa_nil)) pe_int (nomark _)) (pw_or1 (pt_not (pt_val (pe_callB call_isi (by rfl) T.b_isinstance (by decide +kernel) (pa_cons (pe_ix ix_seq (pv 0) pe_int (fun _ _ => rfl)) (pa_cons (pe_bltn (v := .ty "str") rfl T.b_str (by decide +kernel) rfl) pa_nil))))))))) (pss_one (ps_ret pe_bl)) pss_nil)
    (pss_cons (ps_if (pt_cmpR op_eq (pe_ix ix_seq (pv 0) pe_int (fun _ _ => rfl)) pe_str (nomark _)) (pss_one (ps_ret (pe_cmpR op_eq (pe_callB call_len (by rfl) T.b_len (by decide +kernel) (pa_cons (pv 0) pa_nil)) pe_int (nomark _)))) pss_nil)
    (pss_cons (ps_if (PW.pt (pw_or (pt_cmpR op_notIn_seq (pe_ix ix_seq (pv 0) pe_int (fun _ _ => rfl)) (pe_tup (pa_cons pe_str (pa_cons pe_str pa_nil))) (by rfl)) (pw_or1 (pt_cmpR op_ne (pe_callB call_len (by rfl) T.b_len (by decide +kernel) (pa_cons (pv 0) pa_nil)) pe_int (nomark _))))) (pss_one (ps_ret pe_bl)) pss_nil)
    (pss_cons (ps_if (PW.pt (pw_or (pt_not (pt_val (pe_call G_is_below (hr.mono (by decide)) rfl c_is_below.gl c_is_below.kp c_is_below.bd .nil pass0 (pa_cons (pe_ix ix_seq (pv 0) pe_int (fun _ _ => rfl)) (pa_cons (pe_callB call_len (by rfl) T.b_len (by decide +kernel) (pa_cons (pv 2) pa_nil)) pa_nil))))) (pw_or1 (pt_not (pt_val (pe_call G_is_below (hr.mono (by decide)) rfl c_is_below.gl c_is_below.kp c_is_below.bd .nil pass0 (pa_cons (pe_ix ix_seq (pv 0) pe_int (fun _ _ => rfl)) (pa_cons (gc T.cTOKENS rfl rfl) pa_nil)))))))) (pss_one (ps_ret pe_bl)) pss_nil)
    (pss_one (ps_ret (pe_cmpR op_eq (pe_ix ix_seq (pe_ix ix_seq (pv 2) (pe_ix ix_seq (pv 0) pe_int (fun _ _ => rfl)) (fun _ _ => rfl)) (pe_ifExp (pt_cmpR op_eq (pe_ix ix_seq (pv 0) pe_int (fun _ _ => rfl)) pe_str (nomark _)) pe_int pe_int) (fun _ _ => rfl)) (pv 1) (nomark _))))))))

/-! ### is_rule: 0 value, 1 processes, 2 channels, 3 states -/
abbrev s_is_rule : Stmt := topS 19
abbrev n_is_rule : List PySem.Str := ["value", "processes", "channels", "states"]
theorem sc_is_rule : FnScope n_is_rule ["value", "processes", "channels"] (defScope s_is_rule) := ⟨rfl, rfl, rfl, by decide +kernel, rfl, by decide +kernel, by decide +kernel⟩
def t_is_rule (K : PySem.W.Frag) (C CB kinds : Addr) : TS := (tSeq (tIfS (tOr (tTest (tOp rNe (tCB (rLenV K) (tCons (tVar 0) tNil)) (tC (.int 4)))) (tNot (tB (tCall (spP C pre_is_below) [] E0 (tCons (tOp (rIx K) (tVar 0) (tC (.int 0))) (tCons (tCB (rLenV K) (tCons (tVar 1) tNil)) tNil)))))) (tRet (tC (.bl false))) tNext)
    (tSeq (tAsg (tOp (rIx K) (tOp (rIx K) (tVar 1) (tOp (rIx K) (tVar 0) (tC (.int 0)))) (tC (.int 1))) (gName 3))
    (tRet (tAndV (tCall (spP C pre_is_below) [] E0 (tCons (tOp (rIx K) (tVar 0) (tC (.int 1))) (tCons (tVar 3) tNil))) (tAndV (tCall (spP C pre_is_below) [] E0 (tCons (tOp (rIx K) (tVar 0) (tC (.int 3))) (tCons (tVar 3) tNil))) (tCall (spP C pre_is_act) [] E0 (tCons (tOp (rIx K) (tVar 0) (tC (.int 2))) (tCons (tOp (rIx K) (tVar 0) (tC (.int 0))) (tCons (tVar 2) tNil)))))))))
theorem d_is_rule (T : Bt K mg C kinds) {f_is_below : Addr} {fd_is_below : FuncData} (c_is_below : Cal K mg "is_below" f_is_below fd_is_below ["value", "top"]) (G_is_below : FnOk P w K mg base CX0 2 f_is_below fd_is_below ["value", "top"] (spP C pre_is_below)) {f_is_act : Addr} {fd_is_act : FuncData} (c_is_act : Cal K mg "is_act" f_is_act fd_is_act ["act", "process", "channels"]) (G_is_act : FnOk P w K mg base CX0 3 f_is_act fd_is_act ["act", "process", "channels"] (spP C pre_is_act)) {f : Addr} {cdv : Value} {A : Around} {outer : List Env} {s : Shared} {H : Hp} {E : XK} (hr : Room 3 (A.deeper (envOfC "is_rule" (defScope s_is_rule) s.heap.objs.size f cdv))) :
  PSs (cxOf CX0 P w K mg base n_is_rule "is_rule" (defScope s_is_rule) f cdv A outer s H E).nox (defBody s_is_rule) (t_is_rule K C CB kinds ) :=
  (pss_cons (ps_if (PW.pt (pw_or (pt_cmpR op_ne (pe_callB call_len (by rfl) T.b_len (by decide +kernel) (pa_cons (pv 0) pa_nil)) pe_int (nomark _)) (pw_or1 (pt_not (pt_val (pe_call G_is_below (hr.mono (by decide)) rfl c_is_below.gl c_is_below.kp c_is_below.bd .nil pass0 (pa_cons (pe_ix ix_seq (pv 0) pe_int (fun _ _ => rfl)) (pa_cons (pe_callB call_len (by rfl) T.b_len (by decide +kernel) (pa_cons (pv 1) pa_nil)) pa_nil)))))))) (pss_one (ps_ret pe_bl)) pss_nil)
    (pss_cons (ps_set (i := 3) sc_is_rule.nd rfl (by first | exact Or.inl rfl | exact Or.inr rfl) (pe_ix ix_seq (pe_ix ix_seq (pv 1) (pe_ix ix_seq (pv 0) pe_int (fun _ _ => rfl)) (fun _ _ => rfl)) pe_int (fun _ _ => rfl)))
    (pss_one (ps_ret (pe_and (pe_call G_is_below (hr.mono (by decide)) rfl c_is_below.gl c_is_below.kp c_is_below.bd .nil pass0 (pa_cons (pe_ix ix_seq (pv 0) pe_int (fun _ _ => rfl)) (pa_cons (pv 3) pa_nil))) (pe_and (pe_call G_is_below (hr.mono (by decide)) rfl c_is_below.gl c_is_below.kp c_is_below.bd .nil pass0 (pa_cons (pe_ix ix_seq (pv 0) pe_int (fun _ _ => rfl)) (pa_cons (pv 3) pa_nil))) (pe_one (pe_call G_is_act (hr.mono (by decide)) rfl c_is_act.gl c_is_act.kp c_is_act.bd .nil pass0 (pa_cons (pe_ix ix_seq (pv 0) pe_int (fun _ _ => rfl)) (pa_cons (pe_ix ix_seq (pv 0) pe_int (fun _ _ => rfl)) (pa_cons (pv 2) pa_nil)))))))))))

/-! ### _frozen: 0 value, 1 depth, 2 part -/
abbrev s__frozen : Stmt := topS 20
abbrev n__frozen : List PySem.Str := ["value", "depth", "part"]
theorem sc__frozen : FnScope n__frozen ["value", "depth"] (defScope s__frozen) := ⟨rfl, rfl, rfl, by decide +kernel, rfl, by decide +kernel, by decide +kernel⟩
def t__frozen (K : PySem.W.Frag) (C CB kinds : Addr) (m : Nat) : TS := (tSeq (tIfS (tAnd (tTest (tOp rGtI (tVar 1) (tC (.int 0)))) (tB (tCB (rIsiT K) (tCons (tVar 0) (tCons (tTup (tCons (tC (.ty "list")) (tCons (tC (.ty "tuple")) tNil))) tNil))))) (tRet (tCB (rTupleOf K) (tCons (tLc (iSeq K (tVar 0)) (gName 2) tYes (tCall (spP C (preF m)) [] E0 (tCons (tVar 2) (tCons (tOp rSubI (tVar 1) (tC (.int 1))) tNil))) [2]) tNil))) tNext)
    (tRet (tVar 0)))
theorem d__frozen (T : Bt K mg C kinds) (m : Nat) {f__frozen : Addr} {fd__frozen : FuncData} (c__frozen : Cal K mg "_frozen" f__frozen fd__frozen ["value", "depth"]) (G__frozen : FnOk P w K mg base CX0 m f__frozen fd__frozen ["value", "depth"] (spP C (preF m))) {f : Addr} {cdv : Value} {A : Around} {outer : List Env} {s : Shared} {H : Hp} {E : XK} (hr : Room m (A.deeper (envOfC "_frozen" (defScope s__frozen) s.heap.objs.size f cdv))) :
  PSs (cxOf CX0 P w K mg base n__frozen "_frozen" (defScope s__frozen) f cdv A outer s H E).nox (defBody s__frozen) (t__frozen K C CB kinds m ) :=
  (pss_cons (ps_if (PW.pt (pw_and (pt_cmpR op_gt (pv 1) pe_int (nomark _)) (pw_and1 (pt_val (pe_callB call_isiT (by rfl) T.b_isinstance (by decide +kernel) (pa_cons (pv 0) (pa_cons (pe_tup (pa_cons (pe_bltn (v := .ty "list") rfl T.b_list (by decide +kernel) rfl) (pa_cons (pe_bltn (v := .ty "tuple") rfl T.b_tuple (by decide +kernel) rfl) pa_nil))) pa_nil))))))) (pss_one (ps_ret (pe_callTy call_tuple_of (by rfl) T.b_tuple (by decide +kernel) (pa_cons (pe_lc (own := [("part", 2)]) (g := (gName 2)) (tt := tYes) (te := (tCall (spP C (preF m)) [] E0 (tCons (tVar 2) (tCons (tOp rSubI (tVar 1) (tC (.int 1))) tNil)))) rfl sc__frozen.nd (pi_seq (pv 0)) (blkOk_by (own := [("part", 2)]) (N := n__frozen) (sc := defScope s__frozen) (by decide +kernel)) (fun _ _ _ _ _ => (pg_name (i := 2) sc__frozen.nd rfl (by first | exact Or.inl rfl | exact Or.inr rfl))) (fun _ _ _ _ _ => pts_nil) (fun _ _ _ _ _ => (pe_call G__frozen (hr.mono (Nat.le_refl _)) rfl c__frozen.gl c__frozen.kp c__frozen.bd .nil pass0 (pa_cons (pv 2) (pa_cons (pe_op op_sub (pv 1) pe_int) pa_nil))))) pa_nil)))) pss_nil)
    (pss_one (ps_ret (pv 0))))

/-! ### _rows: 0 value, 1 least, 2 most, 3 rows, 4 row -/
abbrev s__rows : Stmt := topS 21
abbrev n__rows : List PySem.Str := ["value", "least", "most", "rows", "row"]
theorem sc__rows : FnScope n__rows ["value", "least", "most"] (defScope s__rows) := ⟨rfl, rfl, rfl, by decide +kernel, rfl, by decide +kernel, by decide +kernel⟩
def t__rows (K : PySem.W.Frag) (C CB kinds : Addr) : TS := (tSeq (tAsg (tCall (spP C (preF 4)) [] E0 (tCons (tVar 0) (tCons (tC (.int 3)) tNil))) (gName 3))
    (tSeq (tIfS (tOr (tNot (tB (tCB (rIsi K) (tCons (tVar 3) (tCons (tC (.ty "tuple")) tNil))))) (tNot (tTest (tChain rLeI rLeI (tVar 1) (tCB (rLenV K) (tCons (tVar 3) tNil)) (tVar 2))))) (tRet (tC .non)) tNext)
    (tRet (tIf (tB (tCB (rAll K) (tCons (tLc (iSeq K (tVar 3)) (gName 4) tYes (tCB (rIsi K) (tCons (tVar 4) (tCons (tC (.ty "tuple")) tNil))) [4]) tNil))) (tVar 3) (tC .non)))))
theorem d__rows (T : Bt K mg C kinds) {f__frozen : Addr} {fd__frozen : FuncData} (c__frozen : Cal K mg "_frozen" f__frozen fd__frozen ["value", "depth"]) (G__frozen : FnOk P w K mg base CX0 4 f__frozen fd__frozen ["value", "depth"] (spP C (preF 4))) {f : Addr} {cdv : Value} {A : Around} {outer : List Env} {s : Shared} {H : Hp} {E : XK} (hr : Room 4 (A.deeper (envOfC "_rows" (defScope s__rows) s.heap.objs.size f cdv))) :
  PSs (cxOf CX0 P w K mg base n__rows "_rows" (defScope s__rows) f cdv A outer s H E).nox (defBody s__rows) (t__rows K C CB kinds ) :=
  (pss_cons (ps_set (i := 3) sc__rows.nd rfl (by first | exact Or.inl rfl | exact Or.inr rfl) (pe_call G__frozen (hr.mono (by decide)) rfl c__frozen.gl c__frozen.kp c__frozen.bd .nil pass0 (pa_cons (pv 0) (pa_cons pe_int pa_nil))))
    (pss_cons (ps_if (PW.pt (pw_or (pt_not (pt_val (pe_callB call_isi (by rfl) T.b_isinstance (by decide +kernel) (pa_cons (pv 3) (pa_cons (pe_bltn (v := .ty "tuple") rfl T.b_tuple (by decide +kernel) rfl) pa_nil))))) (pw_or1 (pt_not (pt_chain op_le op_le (pv 1) (pe_callB call_len (by rfl) T.b_len (by decide +kernel) (pa_cons (pv 3) pa_nil)) (pv 2)))))) (pss_one (ps_ret pe_non)) pss_nil)
    (pss_one (ps_ret (pe_ifExp (pt_val (pe_callB (cr_all rfl) (by rfl) T.b_all (by decide +kernel) (pa_cons (pe_lc (own := [("row", 4)]) (g := (gName 4)) (tt := tYes) (te := (tCB (rIsi K) (tCons (tVar 4) (tCons (tC (.ty "tuple")) tNil)))) rfl sc__rows.nd (pi_seq (pv 3)) (blkOk_by (own := [("row", 4)]) (N := n__rows) (sc := defScope s__rows) (by decide +kernel)) (fun _ _ _ _ _ => (pg_name (i := 4) sc__rows.nd rfl (by first | exact Or.inl rfl | exact Or.inr rfl))) (fun _ _ _ _ _ => pts_nil) (fun _ _ _ _ _ => (pe_callB call_isi (by rfl) T.b_isinstance (by decide +kernel) (pa_cons (pv 4) (pa_cons (pe_bltn (v := .ty "tuple") rfl T.b_tuple (by decide +kernel) rfl) pa_nil))))) pa_nil))) (pv 3) pe_non)))))

/-! ### start: 0 net, 1 channels -/
abbrev s_start : Stmt := topS 24
abbrev n_start : List PySem.Str := ["net", "channels"]
theorem sc_start : FnScope n_start ["net"] (defScope s_start) := ⟨rfl, rfl, rfl, by decide +kernel, rfl, by decide +kernel, by decide +kernel⟩
def t_start (K : PySem.W.Frag) (C CB kinds : Addr) : TS := (tSeq (tAsg (tCB (rLenV K) (tCons (tFld K (tVar 0) "channels") tNil)) (gName 1))
    (tRet (tTup (tCons (tOp (rRepA K) (tTup (tCons (tC (.int 0)) tNil)) (tCB (rLenV K) (tCons (tFld K (tVar 0) "processes") tNil))) (tCons (tOp (rRepA K) (tTup (tCons (tC (.int 0)) tNil)) (tVar 1)) (tCons (tOp (rRepA K) (tTup (tCons (tTup tNil) tNil)) (tVar 1)) tNil))))))
theorem d_start (T : Bt K mg C kinds) {f : Addr} {cdv : Value} {A : Around} {outer : List Env} {s : Shared} {H : Hp} {E : XK} (hr : Room 0 (A.deeper (envOfC "start" (defScope s_start) s.heap.objs.size f cdv))) :
  PSs (cxOf CX0 P w K mg base n_start "start" (defScope s_start) f cdv A outer s H E).nox (defBody s_start) (t_start K C CB kinds ) :=
  (pss_cons (ps_set (i := 1) sc_start.nd rfl (by first | exact Or.inl rfl | exact Or.inr rfl) (pe_callB call_len (by rfl) T.b_len (by decide +kernel) (pa_cons (pe_fld (pv 0) rfl) pa_nil)))
    (pss_one (ps_ret (pe_tup (pa_cons (pe_op op_repA (pe_tup (pa_cons pe_int pa_nil)) (pe_callB call_len (by rfl) T.b_len (by decide +kernel) (pa_cons (pe_fld (pv 0) rfl) pa_nil))) (pa_cons (pe_op op_repA (pe_tup (pa_cons pe_int pa_nil)) (pv 1)) (pa_cons (pe_op op_repA (pe_tup (pa_cons (pe_tup pa_nil) pa_nil)) (pv 1)) pa_nil)))))))

/-! ### is_lossy: 0 net, 1 channel -/
abbrev s_is_lossy : Stmt := topS 25
abbrev n_is_lossy : List PySem.Str := ["net", "channel"]
theorem sc_is_lossy : FnScope n_is_lossy ["net", "channel"] (defScope s_is_lossy) := ⟨rfl, rfl, rfl, by decide +kernel, rfl, by decide +kernel, by decide +kernel⟩
def t_is_lossy (K : PySem.W.Frag) (C CB kinds : Addr) : TS := (tRet (tOp (rIn K false) (tOp (rIx K) (tOp (rIx K) (tFld K (tVar 0) "channels") (tVar 1)) (tC (.int 3))) (tTup (tCons (tC (.str "order lossy")) (tCons (tC (.str "loose lossy")) tNil)))))
theorem d_is_lossy (T : Bt K mg C kinds) {f : Addr} {cdv : Value} {A : Around} {outer : List Env} {s : Shared} {H : Hp} {E : XK} (hr : Room 0 (A.deeper (envOfC "is_lossy" (defScope s_is_lossy) s.heap.objs.size f cdv))) :
  PSs (cxOf CX0 P w K mg base n_is_lossy "is_lossy" (defScope s_is_lossy) f cdv A outer s H E).nox (defBody s_is_lossy) (t_is_lossy K C CB kinds ) :=
  (pss_one (ps_ret (pe_cmpR op_in_seq (pe_ix ix_seq (pe_ix ix_seq (pe_fld (pv 0) rfl) (pv 1) (fun _ _ => rfl)) pe_int (fun _ _ => rfl)) (pe_tup (pa_cons pe_str (pa_cons pe_str pa_nil))) (by rfl))))

/-! ### is_ordered: 0 net, 1 channel -/
abbrev s_is_ordered : Stmt := topS 26
abbrev n_is_ordered : List PySem.Str := ["net", "channel"]
theorem sc_is_ordered : FnScope n_is_ordered ["net", "channel"] (defScope s_is_ordered) := ⟨rfl, rfl, rfl, by decide +kernel, rfl, by decide +kernel, by decide +kernel⟩
def t_is_ordered (K : PySem.W.Frag) (C CB kinds : Addr) : TS := (tRet (tOp (rIn K false) (tOp (rIx K) (tOp (rIx K) (tFld K (tVar 0) "channels") (tVar 1)) (tC (.int 3))) (tTup (tCons (tC (.str "order")) (tCons (tC (.str "order lossy")) tNil)))))
theorem d_is_ordered (T : Bt K mg C kinds) {f : Addr} {cdv : Value} {A : Around} {outer : List Env} {s : Shared} {H : Hp} {E : XK} (hr : Room 0 (A.deeper (envOfC "is_ordered" (defScope s_is_ordered) s.heap.objs.size f cdv))) :
  PSs (cxOf CX0 P w K mg base n_is_ordered "is_ordered" (defScope s_is_ordered) f cdv A outer s H E).nox (defBody s_is_ordered) (t_is_ordered K C CB kinds ) :=
  (pss_one (ps_ret (pe_cmpR op_in_seq (pe_ix ix_seq (pe_ix ix_seq (pe_fld (pv 0) rfl) (pv 1) (fun _ _ => rfl)) pe_int (fun _ _ => rfl)) (pe_tup (pa_cons pe_str (pa_cons pe_str pa_nil))) (by rfl))))

/-! ### as_deed: 0 net, 1 deed, 2 part, 3 fits, 4 is_take -/
abbrev s_as_deed : Stmt := topS 27
abbrev n_as_deed : List PySem.Str := ["net", "deed", "part", "fits", "is_take"]
theorem sc_as_deed : FnScope n_as_deed ["net", "deed"] (defScope s_as_deed) := ⟨rfl, rfl, rfl, by decide +kernel, rfl, by decide +kernel, by decide +kernel⟩
def t_as_deed (K : PySem.W.Frag) (C CB kinds : Addr) : TS := (tSeq (tIfS (tOr (tNot (tB (tCB (rIsiT K) (tCons (tVar 1) (tCons (tTup (tCons (tC (.ty "list")) (tCons (tC (.ty "tuple")) tNil))) tNil))))) (tOr (tTest (tOp rLtI (tCB (rLenV K) (tCons (tVar 1) tNil)) (tC (.int 2)))) (tNot (tB (tCB (rIsi K) (tCons (tOp (rIx K) (tVar 1) (tC (.int 0))) (tCons (tC (.ty "str")) tNil))))))) (tRet (tC .non)) tNext)
    (tSeq (tIfS (tNot (tB (tCB (rAll K) (tCons (tLc (iSeq K (tSl (rSlQ K) (tVar 1) (tPart (tC (.int 1))) tNoPart)) (gName 2) tYes (tAndV (tCall (spP C pre_is_whole) [] E0 (tCons (tVar 2) tNil)) (tOp rGeI (tVar 2) (tC (.int 0)))) [2]) tNil)))) (tRet (tC .non)) tNext)
    (tSeq (tIfS (tTest (tOp rEq (tOp (rIx K) (tVar 1) (tC (.int 0))) (tC (.str "lose")))) (tSeq (tAsg (tAndV (tOp rEq (tCB (rLenV K) (tCons (tVar 1) tNil)) (tC (.int 3))) (tAndV (tCall (spP C pre_is_below) [] E0 (tCons (tOp (rIx K) (tVar 1) (tC (.int 1))) (tCons (tCB (rLenV K) (tCons (tFld K (tVar 0) "channels") tNil)) tNil))) (tCall (spP C pre_is_lossy) [] E0 (tCons (tVar 0) (tCons (tOp (rIx K) (tVar 1) (tC (.int 1))) tNil))))) (gName 3))
    (tRet (tIf (tB (tVar 3)) (tCB (rTupleOf K) (tCons (tVar 1) tNil)) (tC .non)))) tNext)
    (tSeq (tIfS (tOr (tTest (tOp (rIn K true) (tOp (rIx K) (tVar 1) (tC (.int 0))) (tTup (tCons (tC (.str "act")) (tCons (tC (.str "take")) tNil))))) (tNot (tB (tCall (spP C pre_is_below) [] E0 (tCons (tOp (rIx K) (tVar 1) (tC (.int 1))) (tCons (tCB (rLenV K) (tCons (tFld K (tVar 0) "rules") tNil)) tNil)))))) (tRet (tC .non)) tNext)
    (tSeq (tAsg (tOp rEq (tOp (rIx K) (tOp (rIx K) (tOp (rIx K) (tFld K (tVar 0) "rules") (tOp (rIx K) (tVar 1) (tC (.int 1)))) (tC (.int 2))) (tC (.int 0))) (tC (.str "take"))) (gName 4))
    (tSeq (tAsg (tAndV (tOp rEq (tVar 4) (tOp rEq (tOp (rIx K) (tVar 1) (tC (.int 0))) (tC (.str "take")))) (tOp rEq (tCB (rLenV K) (tCons (tVar 1) tNil)) (tIf (tB (tVar 4)) (tC (.int 3)) (tC (.int 2))))) (gName 3))
    (tRet (tIf (tB (tVar 3)) (tCB (rTupleOf K) (tCons (tVar 1) tNil)) (tC .non)))))))))
theorem d_as_deed (T : Bt K mg C kinds) {f_is_whole : Addr} {fd_is_whole : FuncData} (c_is_whole : Cal K mg "is_whole" f_is_whole fd_is_whole ["value"]) (G_is_whole : FnOk P w K mg base CX0 1 f_is_whole fd_is_whole ["value"] (spP C pre_is_whole)) {f_is_below : Addr} {fd_is_below : FuncData} (c_is_below : Cal K mg "is_below" f_is_below fd_is_below ["value", "top"]) (G_is_below : FnOk P w K mg base CX0 2 f_is_below fd_is_below ["value", "top"] (spP C pre_is_below)) {f_is_lossy : Addr} {fd_is_lossy : FuncData} (c_is_lossy : Cal K mg "is_lossy" f_is_lossy fd_is_lossy ["net", "channel"]) (G_is_lossy : FnOk P w K mg base CX0 1 f_is_lossy fd_is_lossy ["net", "channel"] (spP C pre_is_lossy)) {f : Addr} {cdv : Value} {A : Around} {outer : List Env} {s : Shared} {H : Hp} {E : XK} (hr : Room 2 (A.deeper (envOfC "as_deed" (defScope s_as_deed) s.heap.objs.size f cdv))) :
  PSs (cxOf CX0 P w K mg base n_as_deed "as_deed" (defScope s_as_deed) f cdv A outer s H E).nox (defBody s_as_deed) (t_as_deed K C CB kinds ) :=
  (pss_cons (ps_if (PW.pt (pw_or (pt_not (pt_val (pe_callB call_isiT (by rfl) T.b_isinstance (by decide +kernel) (pa_cons (pv 1) (pa_cons (pe_tup (pa_cons (pe_bltn (v := .ty "list") rfl T.b_list (by decide +kernel) rfl) (pa_cons (pe_bltn (v := .ty "tuple") rfl T.b_tuple (by decide +kernel) rfl) pa_nil))) pa_nil))))) (pw_or (pt_cmpR op_lt (pe_callB call_len (by rfl) T.b_len (by decide +kernel) (pa_cons (pv 1) pa_nil)) pe_int (nomark _)) (pw_or1 (pt_not (pt_val (pe_callB call_isi (by rfl) T.b_isinstance (by decide +kernel) (pa_cons (pe_ix ix_seq (pv 1) pe_int (fun _ _ => rfl)) (pa_cons (pe_bltn (v := .ty "str") rfl T.b_str (by decide +kernel) rfl) pa_nil))))))))) (pss_one (ps_ret pe_non)) pss_nil)
    (pss_cons (ps_if (pt_not (pt_val (pe_callB (cr_all rfl) (by rfl) T.b_all (by decide +kernel) (pa_cons (pe_lc (own := [("part", 2)]) (g := (gName 2)) (tt := tYes) (te := (tAndV (tCall (spP C pre_is_whole) [] E0 (tCons (tVar 2) tNil)) (tOp rGeI (tVar 2) (tC (.int 0))))) rfl sc_as_deed.nd (pi_seq (pe_slice sl_seq (pv 1) (po_some pe_int) po_none)) (blkOk_by (own := [("part", 2)]) (N := n_as_deed) (sc := defScope s_as_deed) (by decide +kernel)) (fun _ _ _ _ _ => (pg_name (i := 2) sc_as_deed.nd rfl (by first | exact Or.inl rfl | exact Or.inr rfl))) (fun _ _ _ _ _ => pts_nil) (fun _ _ _ _ _ => (pe_and (pe_call G_is_whole (hr.mono (by decide)) rfl c_is_whole.gl c_is_whole.kp c_is_whole.bd .nil pass0 (pa_cons (pv 2) pa_nil)) (pe_one (pe_cmpR op_ge (pv 2) pe_int (nomark _)))))) pa_nil)))) (pss_one (ps_ret pe_non)) pss_nil)
    (pss_cons (ps_if (pt_cmpR op_eq (pe_ix ix_seq (pv 1) pe_int (fun _ _ => rfl)) pe_str (nomark _)) (pss_cons (ps_set (i := 3) sc_as_deed.nd rfl (by first | exact Or.inl rfl | exact Or.inr rfl) (pe_and (pe_cmpR op_eq (pe_callB call_len (by rfl) T.b_len (by decide +kernel) (pa_cons (pv 1) pa_nil)) pe_int (nomark _)) (pe_and (pe_call G_is_below (hr.mono (by decide)) rfl c_is_below.gl c_is_below.kp c_is_below.bd .nil pass0 (pa_cons (pe_ix ix_seq (pv 1) pe_int (fun _ _ => rfl)) (pa_cons (pe_callB call_len (by rfl) T.b_len (by decide +kernel) (pa_cons (pe_fld (pv 0) rfl) pa_nil)) pa_nil))) (pe_one (pe_call G_is_lossy (hr.mono (by decide)) rfl c_is_lossy.gl c_is_lossy.kp c_is_lossy.bd .nil pass0 (pa_cons (pv 0) (pa_cons (pe_ix ix_seq (pv 1) pe_int (fun _ _ => rfl)) pa_nil)))))))
    (pss_one (ps_ret (pe_ifExp (pt_val (pv 3)) (pe_callTy call_tuple_of (by rfl) T.b_tuple (by decide +kernel) (pa_cons (pv 1) pa_nil)) pe_non)))) pss_nil)
    (pss_cons (ps_if (PW.pt (pw_or (pt_cmpR op_notIn_seq (pe_ix ix_seq (pv 1) pe_int (fun _ _ => rfl)) (pe_tup (pa_cons pe_str (pa_cons pe_str pa_nil))) (by rfl)) (pw_or1 (pt_not (pt_val (pe_call G_is_below (hr.mono (by decide)) rfl c_is_below.gl c_is_below.kp c_is_below.bd .nil pass0 (pa_cons (pe_ix ix_seq (pv 1) pe_int (fun _ _ => rfl)) (pa_cons (pe_callB call_len (by rfl) T.b_len (by decide +kernel) (pa_cons (pe_fld (pv 0) rfl) pa_nil)) pa_nil)))))))) (pss_one (ps_ret pe_non)) pss_nil)
    (pss_cons (ps_set (i := 4) sc_as_deed.nd rfl (by first | exact Or.inl rfl | exact Or.inr rfl) (pe_cmpR op_eq (pe_ix ix_seq (pe_ix ix_seq (pe_ix ix_seq (pe_fld (pv 0) rfl) (pe_ix ix_seq (pv 1) pe_int (fun _ _ => rfl)) (fun _ _ => rfl)) pe_int (fun _ _ => rfl)) pe_int (fun _ _ => rfl)) pe_str (nomark _)))
    (pss_cons (ps_set (i := 3) sc_as_deed.nd rfl (by first | exact Or.inl rfl | exact Or.inr rfl) (pe_and (pe_cmpR op_eq (pv 4) (pe_cmpR op_eq (pe_ix ix_seq (pv 1) pe_int (fun _ _ => rfl)) pe_str (nomark _)) (nomark _)) (pe_one (pe_cmpR op_eq (pe_callB call_len (by rfl) T.b_len (by decide +kernel) (pa_cons (pv 1) pa_nil)) (pe_ifExp (pt_val (pv 4)) pe_int pe_int) (nomark _)))))
    (pss_one (ps_ret (pe_ifExp (pt_val (pv 3)) (pe_callTy call_tuple_of (by rfl) T.b_tuple (by decide +kernel) (pa_cons (pv 1) pa_nil)) pe_non)))))))))

/-! ### open_messages_of: 0 net, 1 world, 2 channel, 3 present, 4 pair -/
abbrev s_open_messages_of : Stmt := topS 28
abbrev n_open_messages_of : List PySem.Str := ["net", "world", "channel", "present", "pair"]
theorem sc_open_messages_of : FnScope n_open_messages_of ["net", "world", "channel"] (defScope s_open_messages_of) := ⟨rfl, rfl, rfl, by decide +kernel, rfl, by decide +kernel, by decide +kernel⟩
def t_open_messages_of (K : PySem.W.Frag) (C CB kinds : Addr) : TS := (tSeq (tAsg (tCB (rTupleOf K) (tCons (tLc (iSeq K (tOp (rIx K) (tOp (rIx K) (tVar 1) (tC (.int 2))) (tVar 2))) (gName 4) tYes (tCB (rTupleOf K) (tCons (tVar 4) tNil)) [4]) tNil)) (gName 3))
    (tRet (tIf (tB (tCall (spP C pre_is_ordered) [] E0 (tCons (tVar 0) (tCons (tVar 2) tNil)))) (tSl (rSlA K) (tVar 3) tNoPart (tPart (tC (.int 1)))) (tVar 3))))
theorem d_open_messages_of (T : Bt K mg C kinds) {f_is_ordered : Addr} {fd_is_ordered : FuncData} (c_is_ordered : Cal K mg "is_ordered" f_is_ordered fd_is_ordered ["net", "channel"]) (G_is_ordered : FnOk P w K mg base CX0 1 f_is_ordered fd_is_ordered ["net", "channel"] (spP C pre_is_ordered)) {f : Addr} {cdv : Value} {A : Around} {outer : List Env} {s : Shared} {H : Hp} {E : XK} (hr : Room 1 (A.deeper (envOfC "open_messages_of" (defScope s_open_messages_of) s.heap.objs.size f cdv))) :
  PSs (cxOf CX0 P w K mg base n_open_messages_of "open_messages_of" (defScope s_open_messages_of) f cdv A outer s H E).nox (defBody s_open_messages_of) (t_open_messages_of K C CB kinds ) :=
  (pss_cons (ps_set (i := 3) sc_open_messages_of.nd rfl (by first | exact Or.inl rfl | exact Or.inr rfl) (pe_callTy call_tuple_of (by rfl) T.b_tuple (by decide +kernel) (pa_cons (pe_lc (own := [("pair", 4)]) (g := (gName 4)) (tt := tYes) (te := (tCB (rTupleOf K) (tCons (tVar 4) tNil))) rfl sc_open_messages_of.nd (pi_seq (pe_ix ix_seq (pe_ix ix_seq (pv 1) pe_int (fun _ _ => rfl)) (pv 2) (fun _ _ => rfl))) (blkOk_by (own := [("pair", 4)]) (N := n_open_messages_of) (sc := defScope s_open_messages_of) (by decide +kernel)) (fun _ _ _ _ _ => (pg_name (i := 4) sc_open_messages_of.nd rfl (by first | exact Or.inl rfl | exact Or.inr rfl))) (fun _ _ _ _ _ => pts_nil) (fun _ _ _ _ _ => (pe_callTy call_tuple_of (by rfl) T.b_tuple (by decide +kernel) (pa_cons (pv 4) pa_nil)))) pa_nil)))
    (pss_one (ps_ret (pe_ifExp (pt_val (pe_call G_is_ordered (hr.mono (by decide)) rfl c_is_ordered.gl c_is_ordered.kp c_is_ordered.bd .nil pass0 (pa_cons (pv 0) (pa_cons (pv 2) pa_nil)))) (pe_slice sl_tupA (pv 3) po_none (po_some pe_int)) (pv 3)))))

/-! ### can_do: 0 net, 1 world, 2 deed, 3 k, 4 _, 5 process, 6 state, 7 act -/
abbrev s_can_do : Stmt := topS 29
abbrev n_can_do : List PySem.Str := ["net", "world", "deed", "k", "_", "process", "state", "act"]
theorem sc_can_do : FnScope n_can_do ["net", "world", "deed"] (defScope s_can_do) := ⟨rfl, rfl, rfl, by decide +kernel, rfl, by decide +kernel, by decide +kernel⟩
def t_can_do (K : PySem.W.Frag) (C CB kinds : Addr) : TS := (tSeq (tIfS (tTest (tOp rEq (tOp (rIx K) (tVar 2) (tC (.int 0))) (tC (.str "lose")))) (tRet (tOp (rIn K false) (tOp (rIx K) (tVar 2) (tC (.int 2))) (tLc (iSeq K (tCall (spP C pre_open_messages_of) [] E0 (tCons (tVar 0) (tCons (tVar 1) (tCons (tOp (rIx K) (tVar 2) (tC (.int 1))) tNil))))) (gTup K 2 (gCons (gName 3) (gCons (gName 4) gNil))) tYes (tVar 3) [3, 4]))) tNext)
    (tSeq (tAsg (tOp (rIx K) (tFld K (tVar 0) "rules") (tOp (rIx K) (tVar 2) (tC (.int 1)))) (gTup K 4 (gCons (gName 5) (gCons (gName 6) (gCons (gName 7) (gCons (gName 4) gNil))))))
    (tSeq (tIfS (tTest (tOp rNe (tOp (rIx K) (tOp (rIx K) (tVar 1) (tC (.int 0))) (tVar 5)) (tVar 6))) (tRet (tC (.bl false))) tNext)
    (tRet (tOrV (tOp rEq (tOp (rIx K) (tVar 2) (tC (.int 0))) (tC (.str "act"))) (tOp (rInTD K) (tTup (tCons (tOp (rIx K) (tVar 2) (tC (.int 2))) (tCons (tOp (rIx K) (tVar 7) (tC (.int 2))) tNil))) (tCall (spP C pre_open_messages_of) [] E0 (tCons (tVar 0) (tCons (tVar 1) (tCons (tOp (rIx K) (tVar 7) (tC (.int 1))) tNil))))))))))
theorem d_can_do (T : Bt K mg C kinds) {f_open_messages_of : Addr} {fd_open_messages_of : FuncData} (c_open_messages_of : Cal K mg "open_messages_of" f_open_messages_of fd_open_messages_of ["net", "world", "channel"]) (G_open_messages_of : FnOk P w K mg base CX0 2 f_open_messages_of fd_open_messages_of ["net", "world", "channel"] (spP C pre_open_messages_of)) {f : Addr} {cdv : Value} {A : Around} {outer : List Env} {s : Shared} {H : Hp} {E : XK} (hr : Room 2 (A.deeper (envOfC "can_do" (defScope s_can_do) s.heap.objs.size f cdv))) :
  PSs (cxOf CX0 P w K mg base n_can_do "can_do" (defScope s_can_do) f cdv A outer s H E).nox (defBody s_can_do) (t_can_do K C CB kinds ) :=
  (pss_cons (ps_if (pt_cmpR op_eq (pe_ix ix_seq (pv 2) pe_int (fun _ _ => rfl)) pe_str (nomark _)) (pss_one (ps_ret (pe_cmpR op_in_seq (pe_ix ix_seq (pv 2) pe_int (fun _ _ => rfl)) (pe_lc (own := [("k", 3), ("_", 4)]) (g := (gTup K 2 (gCons (gName 3) (gCons (gName 4) gNil)))) (tt := tYes) (te := (tVar 3)) rfl sc_can_do.nd (pi_seq (pe_call G_open_messages_of (hr.mono (by decide)) rfl c_open_messages_of.gl c_open_messages_of.kp c_open_messages_of.bd .nil pass0 (pa_cons (pv 0) (pa_cons (pv 1) (pa_cons (pe_ix ix_seq (pv 2) pe_int (fun _ _ => rfl)) pa_nil))))) (blkOk_by (own := [("k", 3), ("_", 4)]) (N := n_can_do) (sc := defScope s_can_do) (by decide +kernel)) (fun _ _ _ _ _ => (pg_tup rfl (pgs_cons (pg_name (i := 3) sc_can_do.nd rfl (by first | exact Or.inl rfl | exact Or.inr rfl)) (pgs_cons (pg_name (i := 4) sc_can_do.nd rfl (by first | exact Or.inl rfl | exact Or.inr rfl)) pgs_nil)))) (fun _ _ _ _ _ => pts_nil) (fun _ _ _ _ _ => (pv 3))) (by rfl)))) pss_nil)
    (pss_cons (ps_asg (pe_ix ix_seq (pe_fld (pv 0) rfl) (pe_ix ix_seq (pv 2) pe_int (fun _ _ => rfl)) (fun _ _ => rfl)) (pg_tup rfl (pgs_cons (pg_name (i := 5) sc_can_do.nd rfl (by first | exact Or.inl rfl | exact Or.inr rfl)) (pgs_cons (pg_name (i := 6) sc_can_do.nd rfl (by first | exact Or.inl rfl | exact Or.inr rfl)) (pgs_cons (pg_name (i := 7) sc_can_do.nd rfl (by first | exact Or.inl rfl | exact Or.inr rfl)) (pgs_cons (pg_name (i := 4) sc_can_do.nd rfl (by first | exact Or.inl rfl | exact Or.inr rfl)) pgs_nil))))))
    (pss_cons (ps_if (pt_cmpR op_ne (pe_ix ix_seq (pe_ix ix_seq (pv 1) pe_int (fun _ _ => rfl)) (pv 5) (fun _ _ => rfl)) (pv 6) (nomark _)) (pss_one (ps_ret pe_bl)) pss_nil)
    (pss_one (ps_ret (pe_or (pe_cmpR op_eq (pe_ix ix_seq (pv 2) pe_int (fun _ _ => rfl)) pe_str (nomark _)) (pe_one (pe_cmpR (op_inTD (hu65 hr)) (pe_tup (pa_cons (pe_ix ix_seq (pv 2) pe_int (fun _ _ => rfl)) (pa_cons (pe_ix ix_seq (pv 7) pe_int (fun _ _ => rfl)) pa_nil))) (pe_call G_open_messages_of (hr.mono (by decide)) rfl c_open_messages_of.gl c_open_messages_of.kp c_open_messages_of.bd .nil pass0 (pa_cons (pv 0) (pa_cons (pv 1) (pa_cons (pe_ix ix_seq (pv 7) pe_int (fun _ _ => rfl)) pa_nil)))) (by rfl)))))))))

/-! ### _with_part: 0 row, 1 at, 2 part -/
abbrev s__with_part : Stmt := topS 30
abbrev n__with_part : List PySem.Str := ["row", "at", "part"]
theorem sc__with_part : FnScope n__with_part ["row", "at", "part"] (defScope s__with_part) := ⟨rfl, rfl, rfl, by decide +kernel, rfl, by decide +kernel, by decide +kernel⟩
def t__with_part (K : PySem.W.Frag) (C CB kinds : Addr) : TS := (tRet (tOp (rCatA K) (tOp (rCatA K) (tCB (rTupleOf K) (tCons (tSl (rSlA K) (tVar 0) tNoPart (tPart (tVar 1))) tNil)) (tTup (tCons (tVar 2) tNil))) (tCB (rTupleOf K) (tCons (tSl (rSlA K) (tVar 0) (tPart (tOp rAddI (tVar 1) (tC (.int 1)))) tNoPart) tNil))))
theorem d__with_part (T : Bt K mg C kinds) {f : Addr} {cdv : Value} {A : Around} {outer : List Env} {s : Shared} {H : Hp} {E : XK} (hr : Room 0 (A.deeper (envOfC "_with_part" (defScope s__with_part) s.heap.objs.size f cdv))) :
  PSs (cxOf CX0 P w K mg base n__with_part "_with_part" (defScope s__with_part) f cdv A outer s H E).nox (defBody s__with_part) (t__with_part K C CB kinds ) :=
  (pss_one (ps_ret (pe_op op_catA (pe_op op_catA (pe_callTy call_tuple_of (by rfl) T.b_tuple (by decide +kernel) (pa_cons (pe_slice sl_tupA (pv 0) po_none (po_some (pv 1))) pa_nil)) (pe_tup (pa_cons (pv 2) pa_nil))) (pe_callTy call_tuple_of (by rfl) T.b_tuple (by decide +kernel) (pa_cons (pe_slice sl_tupA (pv 0) (po_some (pe_op op_add (pv 1) pe_int)) po_none) pa_nil)))))

/-! ### _without_message: 0 present, 1 channel, 2 k, 3 left, 4 pair -/
abbrev s__without_message : Stmt := topS 31
abbrev n__without_message : List PySem.Str := ["present", "channel", "k", "left", "pair"]
theorem sc__without_message : FnScope n__without_message ["present", "channel", "k"] (defScope s__without_message) := ⟨rfl, rfl, rfl, by decide +kernel, rfl, by decide +kernel, by decide +kernel⟩
def t__without_message (K : PySem.W.Frag) (C CB kinds : Addr) : TS := (tSeq (tAsg (tCB (rTupleOf K) (tCons (tLc (iSeq K (tOp (rIx K) (tVar 0) (tVar 1))) (gName 4) (tTest (tOp rNe (tOp (rIx K) (tVar 4) (tC (.int 0))) (tVar 2))) (tCB (rTupleOf K) (tCons (tVar 4) tNil)) [4]) tNil)) (gName 3))
    (tRet (tCall (spP C pre__with_part) [] E0 (tCons (tVar 0) (tCons (tVar 1) (tCons (tVar 3) tNil))))))
theorem d__without_message (T : Bt K mg C kinds) {f__with_part : Addr} {fd__with_part : FuncData} (c__with_part : Cal K mg "_with_part" f__with_part fd__with_part ["row", "at", "part"]) (G__with_part : FnOk P w K mg base CX0 1 f__with_part fd__with_part ["row", "at", "part"] (spP C pre__with_part)) {f : Addr} {cdv : Value} {A : Around} {outer : List Env} {s : Shared} {H : Hp} {E : XK} (hr : Room 1 (A.deeper (envOfC "_without_message" (defScope s__without_message) s.heap.objs.size f cdv))) :
  PSs (cxOf CX0 P w K mg base n__without_message "_without_message" (defScope s__without_message) f cdv A outer s H E).nox (defBody s__without_message) (t__without_message K C CB kinds ) :=
  (pss_cons (ps_set (i := 3) sc__without_message.nd rfl (by first | exact Or.inl rfl | exact Or.inr rfl) (pe_callTy call_tuple_of (by rfl) T.b_tuple (by decide +kernel) (pa_cons (pe_lc (own := [("pair", 4)]) (g := (gName 4)) (tt := (tTest (tOp rNe (tOp (rIx K) (tVar 4) (tC (.int 0))) (tVar 2)))) (te := (tCB (rTupleOf K) (tCons (tVar 4) tNil))) rfl sc__without_message.nd (pi_seq (pe_ix ix_seq (pv 0) (pv 1) (fun _ _ => rfl))) (blkOk_by (own := [("pair", 4)]) (N := n__without_message) (sc := defScope s__without_message) (by decide +kernel)) (fun _ _ _ _ _ => (pg_name (i := 4) sc__without_message.nd rfl (by first | exact Or.inl rfl | exact Or.inr rfl))) (fun _ _ _ _ _ => pts_one (pt_cmpR op_ne (pe_ix ix_seq (pv 4) pe_int (fun _ _ => rfl)) (pv 2) (nomark _))) (fun _ _ _ _ _ => (pe_callTy call_tuple_of (by rfl) T.b_tuple (by decide +kernel) (pa_cons (pv 4) pa_nil)))) pa_nil)))
    (pss_one (ps_ret (pe_call G__with_part (hr.mono (by decide)) rfl c__with_part.gl c__with_part.kp c__with_part.bd .nil pass0 (pa_cons (pv 0) (pa_cons (pv 1) (pa_cons (pv 3) pa_nil)))))))

/-! ### behind: 0 net, 1 world, 2 deed, 3 states, 4 sent, 5 present, 6 pair, 7 row, 8 process, 9 _, 10 act, 11 then, 12 k -/
abbrev s_behind : Stmt := topS 32
abbrev n_behind : List PySem.Str := ["net", "world", "deed", "states", "sent", "present", "pair", "row", "process", "_", "act", "then", "k"]
theorem sc_behind : FnScope n_behind ["net", "world", "deed"] (defScope s_behind) := ⟨rfl, rfl, rfl, by decide +kernel, rfl, by decide +kernel, by decide +kernel⟩
def t_behind (K : PySem.W.Frag) (C CB kinds : Addr) : TS := (tSeq (tAsg (tCB (rTupleOf K) (tCons (tOp (rIx K) (tVar 1) (tC (.int 0))) tNil)) (gName 3))
    (tSeq (tAsg (tCB (rTupleOf K) (tCons (tOp (rIx K) (tVar 1) (tC (.int 1))) tNil)) (gName 4))
    (tSeq (tAsg (tCB (rTupleOf K) (tCons (tLc (iSeq K (tOp (rIx K) (tVar 1) (tC (.int 2)))) (gName 7) tYes (tCB (rTupleOf K) (tCons (tLc (iSeq K (tVar 7)) (gName 6) tYes (tCB (rTupleOf K) (tCons (tVar 6) tNil)) [6]) tNil)) [7]) tNil)) (gName 5))
    (tSeq (tIfS (tTest (tOp rEq (tOp (rIx K) (tVar 2) (tC (.int 0))) (tC (.str "lose")))) (tRet (tTup (tCons (tVar 3) (tCons (tVar 4) (tCons (tCall (spP C pre__without_message) [] E0 (tCons (tVar 5) (tCons (tOp (rIx K) (tVar 2) (tC (.int 1))) (tCons (tOp (rIx K) (tVar 2) (tC (.int 2))) tNil)))) tNil))))) tNext)
    (tSeq (tAsg (tOp (rIx K) (tFld K (tVar 0) "rules") (tOp (rIx K) (tVar 2) (tC (.int 1)))) (gTup K 4 (gCons (gName 8) (gCons (gName 9) (gCons (gName 10) (gCons (gName 11) gNil))))))
    (tSeq (tAsg (tCall (spP C pre__with_part) [] E0 (tCons (tVar 3) (tCons (tVar 8) (tCons (tVar 11) tNil)))) (gName 3))
    (tSeq (tIfS (tTest (tOp rEq (tOp (rIx K) (tVar 10) (tC (.int 0))) (tC (.str "take")))) (tRet (tTup (tCons (tVar 3) (tCons (tVar 4) (tCons (tCall (spP C pre__without_message) [] E0 (tCons (tVar 5) (tCons (tOp (rIx K) (tVar 10) (tC (.int 1))) (tCons (tOp (rIx K) (tVar 2) (tC (.int 2))) tNil)))) tNil))))) tNext)
    (tSeq (tIfS (tTest (tOp rEq (tOp (rIx K) (tVar 10) (tC (.int 0))) (tC (.str "send")))) (tSeq (tAsg (tOp (rIx K) (tVar 4) (tOp (rIx K) (tVar 10) (tC (.int 1)))) (gName 12))
    (tSeq (tAsg (tCall (spP C pre__with_part) [] E0 (tCons (tVar 5) (tCons (tOp (rIx K) (tVar 10) (tC (.int 1))) (tCons (tOp (rCatA K) (tOp (rIx K) (tVar 5) (tOp (rIx K) (tVar 10) (tC (.int 1)))) (tTup (tCons (tTup (tCons (tVar 12) (tCons (tOp (rIx K) (tVar 10) (tC (.int 2))) tNil))) tNil))) tNil)))) (gName 5))
    (tAsg (tCall (spP C pre__with_part) [] E0 (tCons (tVar 4) (tCons (tOp (rIx K) (tVar 10) (tC (.int 1))) (tCons (tOp rAddI (tVar 12) (tC (.int 1))) tNil)))) (gName 4)))) tNext)
    (tRet (tTup (tCons (tVar 3) (tCons (tVar 4) (tCons (tVar 5) tNil)))))))))))))
theorem d_behind (T : Bt K mg C kinds) {f__without_message : Addr} {fd__without_message : FuncData} (c__without_message : Cal K mg "_without_message" f__without_message fd__without_message ["present", "channel", "k"]) (G__without_message : FnOk P w K mg base CX0 2 f__without_message fd__without_message ["present", "channel", "k"] (spP C pre__without_message)) {f__with_part : Addr} {fd__with_part : FuncData} (c__with_part : Cal K mg "_with_part" f__with_part fd__with_part ["row", "at", "part"]) (G__with_part : FnOk P w K mg base CX0 1 f__with_part fd__with_part ["row", "at", "part"] (spP C pre__with_part)) {f : Addr} {cdv : Value} {A : Around} {outer : List Env} {s : Shared} {H : Hp} {E : XK} (hr : Room 2 (A.deeper (envOfC "behind" (defScope s_behind) s.heap.objs.size f cdv))) :
  PSs (cxOf CX0 P w K mg base n_behind "behind" (defScope s_behind) f cdv A outer s H E).nox (defBody s_behind) (t_behind K C CB kinds ) :=
  (pss_cons (ps_set (i := 3) sc_behind.nd rfl (by first | exact Or.inl rfl | exact Or.inr rfl) (pe_callTy call_tuple_of (by rfl) T.b_tuple (by decide +kernel) (pa_cons (pe_ix ix_seq (pv 1) pe_int (fun _ _ => rfl)) pa_nil)))
    (pss_cons (ps_set (i := 4) sc_behind.nd rfl (by first | exact Or.inl rfl | exact Or.inr rfl) (pe_callTy call_tuple_of (by rfl) T.b_tuple (by decide +kernel) (pa_cons (pe_ix ix_seq (pv 1) pe_int (fun _ _ => rfl)) pa_nil)))
    (pss_cons (ps_set (i := 5) sc_behind.nd rfl (by first | exact Or.inl rfl | exact Or.inr rfl) (pe_callTy call_tuple_of (by rfl) T.b_tuple (by decide +kernel) (pa_cons (pe_lc (own := [("row", 7)]) (g := (gName 7)) (tt := tYes) (te := (tCB (rTupleOf K) (tCons (tLc (iSeq K (tVar 7)) (gName 6) tYes (tCB (rTupleOf K) (tCons (tVar 6) tNil)) [6]) tNil))) rfl sc_behind.nd (pi_seq (pe_ix ix_seq (pv 1) pe_int (fun _ _ => rfl))) (blkOk_by (own := [("row", 7)]) (N := n_behind) (sc := defScope s_behind) (by decide +kernel)) (fun _ _ _ _ _ => (pg_name (i := 7) sc_behind.nd rfl (by first | exact Or.inl rfl | exact Or.inr rfl))) (fun _ _ _ _ _ => pts_nil) (fun _ _ _ _ _ => (pe_callTy call_tuple_of (by rfl) T.b_tuple (by decide +kernel) (pa_cons (pe_lc (own := [("pair", 6)]) (g := (gName 6)) (tt := tYes) (te := (tCB (rTupleOf K) (tCons (tVar 6) tNil))) rfl sc_behind.nd (pi_seq (pv 7)) (blkOk_by (own := [("pair", 6)]) (N := n_behind) (sc := { kind := .function, names := [(".0", .local), ("row", .local), ("tuple", .globalImplicit)], isGenerator := false, isCoroutine := false }) (by decide +kernel)) (fun _ _ _ _ _ => (pg_name (i := 6) sc_behind.nd rfl (by first | exact Or.inl rfl | exact Or.inr rfl))) (fun _ _ _ _ _ => pts_nil) (fun _ _ _ _ _ => (pe_callTy call_tuple_of (by rfl) T.b_tuple (by decide +kernel) (pa_cons (pv 6) pa_nil)))) pa_nil)))) pa_nil)))
    (pss_cons (ps_if (pt_cmpR op_eq (pe_ix ix_seq (pv 2) pe_int (fun _ _ => rfl)) pe_str (nomark _)) (pss_one (ps_ret (pe_tup (pa_cons (pv 3) (pa_cons (pv 4) (pa_cons (pe_call G__without_message (hr.mono (by decide)) rfl c__without_message.gl c__without_message.kp c__without_message.bd .nil pass0 (pa_cons (pv 5) (pa_cons (pe_ix ix_seq (pv 2) pe_int (fun _ _ => rfl)) (pa_cons (pe_ix ix_seq (pv 2) pe_int (fun _ _ => rfl)) pa_nil)))) pa_nil)))))) pss_nil)
    (pss_cons (ps_asg (pe_ix ix_seq (pe_fld (pv 0) rfl) (pe_ix ix_seq (pv 2) pe_int (fun _ _ => rfl)) (fun _ _ => rfl)) (pg_tup rfl (pgs_cons (pg_name (i := 8) sc_behind.nd rfl (by first | exact Or.inl rfl | exact Or.inr rfl)) (pgs_cons (pg_name (i := 9) sc_behind.nd rfl (by first | exact Or.inl rfl | exact Or.inr rfl)) (pgs_cons (pg_name (i := 10) sc_behind.nd rfl (by first | exact Or.inl rfl | exact Or.inr rfl)) (pgs_cons (pg_name (i := 11) sc_behind.nd rfl (by first | exact Or.inl rfl | exact Or.inr rfl)) pgs_nil))))))
    (pss_cons (ps_set (i := 3) sc_behind.nd rfl (by first | exact Or.inl rfl | exact Or.inr rfl) (pe_call G__with_part (hr.mono (by decide)) rfl c__with_part.gl c__with_part.kp c__with_part.bd .nil pass0 (pa_cons (pv 3) (pa_cons (pv 8) (pa_cons (pv 11) pa_nil)))))
    (pss_cons (ps_if (pt_cmpR op_eq (pe_ix ix_seq (pv 10) pe_int (fun _ _ => rfl)) pe_str (nomark _)) (pss_one (ps_ret (pe_tup (pa_cons (pv 3) (pa_cons (pv 4) (pa_cons (pe_call G__without_message (hr.mono (by decide)) rfl c__without_message.gl c__without_message.kp c__without_message.bd .nil pass0 (pa_cons (pv 5) (pa_cons (pe_ix ix_seq (pv 10) pe_int (fun _ _ => rfl)) (pa_cons (pe_ix ix_seq (pv 2) pe_int (fun _ _ => rfl)) pa_nil)))) pa_nil)))))) pss_nil)
    (pss_cons (ps_if (pt_cmpR op_eq (pe_ix ix_seq (pv 10) pe_int (fun _ _ => rfl)) pe_str (nomark _)) (pss_cons (ps_set (i := 12) sc_behind.nd rfl (by first | exact Or.inl rfl | exact Or.inr rfl) (pe_ix ix_seq (pv 4) (pe_ix ix_seq (pv 10) pe_int (fun _ _ => rfl)) (fun _ _ => rfl)))
    (pss_cons (ps_set (i := 5) sc_behind.nd rfl (by first | exact Or.inl rfl | exact Or.inr rfl) (pe_call G__with_part (hr.mono (by decide)) rfl c__with_part.gl c__with_part.kp c__with_part.bd .nil pass0 (pa_cons (pv 5) (pa_cons (pe_ix ix_seq (pv 10) pe_int (fun _ _ => rfl)) (pa_cons (pe_op op_catA (pe_ix ix_seq (pv 5) (pe_ix ix_seq (pv 10) pe_int (fun _ _ => rfl)) (fun _ _ => rfl)) (pe_tup (pa_cons (pe_tup (pa_cons (pv 12) (pa_cons (pe_ix ix_seq (pv 10) pe_int (fun _ _ => rfl)) pa_nil))) pa_nil))) pa_nil)))))
    (pss_one (ps_set (i := 4) sc_behind.nd rfl (by first | exact Or.inl rfl | exact Or.inr rfl) (pe_call G__with_part (hr.mono (by decide)) rfl c__with_part.gl c__with_part.kp c__with_part.bd .nil pass0 (pa_cons (pv 4) (pa_cons (pe_ix ix_seq (pv 10) pe_int (fun _ _ => rfl)) (pa_cons (pe_op op_add (pv 12) pe_int) pa_nil)))))))) pss_nil)
    (pss_one (ps_ret (pe_tup (pa_cons (pv 3) (pa_cons (pv 4) (pa_cons (pv 5) pa_nil))))))))))))))

end
end Dl


namespace Dl
open PySem L2
section
variable {C CB kinds : Addr} {K : PySem.W.Frag} {W : WX} {R : Out → Prop} {δ : List Slot}
local macro_rules | `(tactic| walk_at "ev") => `(tactic| first
  | (with_reducible refine ex_seq ?_) | (with_reducible refine ex_if ?_) | (with_reducible refine ex_ret ?_) | (with_reducible refine ex_nx ?_)
  | (with_reducible refine ev_int ?_) | (with_reducible refine ev_str ?_) | (with_reducible refine ev_bl ?_) | (with_reducible refine ev_non ?_)
  | ((with_reducible refine ev_var (d := ?dd) ?hv ?_); (case hv => exact rfl))
  | (with_reducible refine ea_nil ?_) | (with_reducible refine ea_cons ?_) | (with_reducible refine ev_call ?_)
  | (with_reducible refine et_test ?_) | (with_reducible refine et_B ?_) | (with_reducible refine et_and ?_) | (with_reducible refine et_or ?_) | (with_reducible refine et_not ?_) | (with_reducible refine et_yes ?_)
  | (with_reducible refine ev_andV ?_) | (with_reducible refine ev_orV ?_) | (with_reducible refine ev_notV ?_) | (with_reducible refine ev_if ?_) | (with_reducible refine ev_chain ?_)
  | (with_reducible refine ev_isi ?_) | (with_reducible refine ev_isi2 ?_) | (with_reducible refine ev_tup ?_) | (with_reducible refine ev_sl ?_) | (with_reducible refine eo_none ?_) | (with_reducible refine eo_some ?_)
  | (with_reducible refine isB_mk ?_)
  | (with_reducible refine rv_add ?_) | (with_reducible refine rv_sub ?_) | (with_reducible refine rv_lt ?_) | (with_reducible refine rv_le ?_) | (with_reducible refine rv_gt ?_) | (with_reducible refine rv_ge ?_)
  | (with_reducible refine rv_eqI ?_) | (with_reducible refine rv_neI ?_) | (with_reducible refine rv_eqS ?_) | (with_reducible refine rv_neS ?_) | (with_reducible refine rv_eqB ?_) | (with_reducible refine rv_isN ?_)
  | (with_reducible refine rc_lenL ?_) | (with_reducible refine rc_lenT ?_) | (with_reducible refine rc_intI ?_) | (with_reducible refine rc_intB ?_) | (with_reducible refine rc_tupT ?_) | (with_reducible refine rc_tupL ?_)
  | (with_reducible refine ev_getP ?_) | (with_reducible refine ev_getC ?_) | (with_reducible refine ev_getR ?_)
  | ((with_reducible refine rv_ixT (z := ?zz) ?hi ?_); (case hi => exact rfl)) | ((with_reducible refine rv_ixL (z := ?zz) ?hi ?_); (case hi => exact rfl))
  | (with_reducible refine ev_cb ?_) | (with_reducible refine ev_op ?_)
  | (with_reducible refine ei_seq ?_) | (with_reducible refine ei_enum ?_) | (with_reducible refine ei_range ?_) | (with_reducible refine ei_str ?_)
  | (with_reducible refine mk_o ?_) | (with_reducible refine mk_n ?_) | (with_reducible refine mk_i ?_) | (with_reducible refine mk_s ?_) | (with_reducible refine mk_l ?_) | (with_reducible refine mk_b ?_)
  | (with_reducible refine mk_sl ?_) | (with_reducible refine mk_st ?_) | (with_reducible refine mk_al ?_) | (with_reducible refine mk_at ?_)
  | ((with_reducible refine and_len ?ll ?_); (case ll => exact Nat.le_of_ble_eq_true rfl)) | (refine br_t rfl ?_) | (refine br_f rfl ?_))
local macro_rules | `(tactic| walk_at "isi") => `(tactic| first | refine isi1 rfl kb_ii ?_ | refine isi1 rfl kb_is ?_ | refine isi1 rfl kb_ib ?_ | refine isi1 rfl kb_il ?_ | refine isi1 rfl kb_it ?_ | refine isi1 rfl kb_si ?_ | refine isi1 rfl kb_ss ?_ | refine isi1 rfl kb_sb ?_ | refine isi1 rfl kb_sl ?_ | refine isi1 rfl kb_st ?_ | refine isi1 rfl kb_ll ?_ | refine isi1 rfl kb_lt ?_ | refine isi1 rfl kb_li ?_ | refine isi1 rfl kb_ls ?_ | refine isi1 rfl kb_lb ?_ | refine isi1 rfl kb_tt ?_ | refine isi1 rfl kb_tl ?_ | refine isi1 rfl kb_ti ?_ | refine isi1 rfl kb_ts ?_ | refine isi1 rfl kb_tb ?_ | refine isi1 rfl kb_ni ?_ | refine isi1 rfl kb_ns ?_ | refine isi1 rfl kb_nb ?_ | refine isi1 rfl kb_nl ?_ | refine isi1 rfl kb_nt ?_)
local macro_rules | `(tactic| walk_at "go") => `(tactic| repeat (walk_at "ev"))
theorem x_is_whole : ∀ ds Q, pre_is_whole ds Q → Ex C CB noX (t_is_whole K C CB kinds) (slots ds 0) (RetP Q) := by
  rintro ds Q ⟨v, rfl, hv, p⟩
  unfold t_is_whole
  walk_at "go"
  cases v with
  | non => refine isi1 rfl kb_ni ?_; exact (br_f rfl p)
  | bl b => refine isi1 rfl kb_bi (br_t rfl ?_); walk_at "go"; refine isi1 rfl kb_bb ?_; exact p
  | int i => refine isi1 rfl kb_ii (br_t rfl ?_); walk_at "go"; refine isi1 rfl kb_ib ?_; exact p
  | str x => refine isi1 rfl kb_si ?_; exact (br_f rfl p)
  | lst x => refine isi1 rfl kb_li ?_; exact (br_f rfl p)
  | tup x => refine isi1 rfl kb_ti ?_; exact (br_f rfl p)
  | net3 x y z => refine isi1 rfl kb_di ?_; exact (br_f rfl p)
  | obj x y z => cases hv
theorem x_is_below : ∀ ds Q, pre_is_below ds Q → Ex C CB noX (t_is_below K C CB kinds) (slots ds 0) (RetP Q) := by
  rintro ds Q ⟨i, n, rfl, p⟩
  unfold t_is_below
  walk_at "go"
  refine ⟨_, rfl, rfl, isB_mk (br_t rfl ?_)⟩
  walk_at "go"
  refine ⟨fun h => ?_, fun h => ?_⟩
  · walk_at "go"
    have h0 : 0 ≤ i := of_decide_eq_true h
    have e : decide (0 ≤ i ∧ i < n) = decide (i < n) := by simp [h0]
    rw [e] at p
    exact p
  · have h0 : ¬ 0 ≤ i := of_decide_eq_false h
    have e : decide (0 ≤ i ∧ i < n) = false := by simp [h0]
    rw [e] at p
    exact p
theorem signs_len {x : PySem.Str} : (signs x).length = x.length := by
  unfold signs; rw [List.length_map, Array.length_toList]; rfl
theorem all_true {α : Type} (xs : List α) : ((xs.map fun _ => true).all id) = true := by
  rw [List.all_map]; exact List.all_eq_true.mpr fun _ _ => rfl
theorem x_is_name : ∀ ds Q, pre_is_name ds Q → Ex C CB noX (t_is_name K C CB kinds) (slots ds 1) (RetP Q) := by
  rintro ds Q ⟨x, rfl, hn, p⟩
  unfold t_is_name
  have h1 := hn.lo
  have h2 := hn.hi
  walk_at "go"
  refine isi1 rfl kb_ss (br_f rfl ?_)
  walk_at "go"
  refine rc_lenS (by omega) ?_
  walk_at "go"
  refine ⟨fun _ => ?_, fun h => ?_⟩
  · walk_at "go"
    refine br_f (by simp; omega) ?_
    walk_at "go"
    refine EvN.ev (en_lcM (α := Nat) ?_)
    walk_at "go"
    refine ⟨by rw [signs_len]; omega, x.cps.toList, fun c => .str ⟨#[c]⟩, fun c => .bl true, rfl, fun c hc => ⟨_, gg_name (by simp), ?_⟩, ?_⟩
    · walk_at "go"
      refine rv_inSign ?_
      rw [decide_eq_true (hn.al c hc)]
    · walk_at "go"
      rw [show (x.cps.toList.map fun _ => Dat.bl true) = (x.cps.toList.map fun _ => true).map Dat.bl by rw [List.map_map]; rfl]
      refine rc_all ?_
      rw [all_true]
      exact p
  · exact absurd (of_decide_eq_false h) (by omega)
theorem hdS {x : PySem.Str} (h : PyData.strOk x = true) : Eqd (.tup [.str x]) := (shp_tup (n := 0) (xs := [.str x]) (by intro y hy; rw [List.mem_singleton] at hy; subst hy; exact shp_str h)).eqd (by decide)
theorem letters_ok : ∀ c, c ∈ letters.cps.toList → c < 0x110000 := by decide +kernel
theorem NameOk.str {x : PySem.Str} (h : NameOk x) : PyData.strOk x = true := by
  unfold PyData.strOk
  rw [Array.all_eq_true']
  intro c hc
  exact decide_eq_true (letters_ok c (h.al c (Array.mem_toList_iff.mpr hc)))
theorem eqv_hd {x y : PySem.Str} : PyData.eqv (toPy (.tup [.str x])) (toPy (.tup [.str y])) = (x == y) := by
  simp [toPy, toPys, PyData.eqv, PyData.eqvAll]
theorem not_any {α : Type} {xs : List α} {f : α → Bool} (h : ∀ x, x ∈ xs → f x = false) : xs.any f = false := by
  rw [List.any_eq_false]; intro x hx; rw [h x hx]; decide
theorem cut_1 {x : Dat} {xs : List Dat} : cutD (x :: xs) none (some 1) = [x] := by
  have := cut_to (ds := x :: xs) (n := 1)
  exact this
/-- the names of a block's elders -/
theorem heads_ok {α : Type} {f : α → Dat} {g : α → PySem.Str} {es : List α} (hs : ∀ x, x ∈ es → PyData.strOk (g x) = true) : Eqd (.lst (es.map fun q => .tup [.str (g q)])) := (shp_lst (n := 1) (by
  intro y hy
  obtain ⟨q, hq, rfl⟩ := List.mem_map.mp hy
  exact shp_tup (n := 0) (by intro z hz; rw [List.mem_singleton] at hz; subst hz; exact shp_str (hs q hq)))).eqd (by decide)
theorem x_is_process : ∀ ds Q, pre_is_process ds Q → Ex C CB noX (t_is_process K C CB kinds) (slots ds 1) (RetP Q) := by
  rintro ds Q ⟨a, es, rfl, hl, hn, h1, h8, hd, hs, p⟩
  unfold t_is_process
  walk_at "go"
  refine ⟨_, rfl, hn, isB_mk ?_⟩
  walk_at "go"
  refine ⟨_, rfl, rfl, isB_mk ?_⟩
  walk_at "go"
  refine br_t (decide_eq_true (by omega)) ?_
  walk_at "go"
  refine br_t (decide_eq_true (by omega)) ?_
  walk_at "go"
  refine rs_tup ?_
  rw [cut_1]
  refine EvN.ev (en_lcM (α := PySem.Str × Nat) ?_)
  walk_at "go"
  refine ⟨by rw [List.length_map]; omega, es, encP, fun q => .tup [.str q.1], rfl, fun c hc => ⟨_, gg_name (by simp), ?_⟩, ?_⟩
  · walk_at "go"
    refine rs_tup ?_
    rw [cut_1]
  · refine rv_niD (hdS hn.str) (heads_ok (f := encP) hs) ?_
    rw [List.any_map, not_any]
    · exact p
    · intro q hq
      show PyData.eqv (toPy (.tup [.str q.1])) (toPy (.tup [.str a.1])) = false
      rw [eqv_hd, beq_eq_false_iff_ne]
      exact hd q hq
theorem atI2 {xs : List Dat} {a b c : Dat} : atI (a :: b :: c :: xs) 2 = some c := ixnat (i := 2) rfl
theorem kinds_mem {k : Nat} (h : k < 4) : kindS k ∈ kinds4 := by
  match k, h with
  | 0, _ => decide
  | 1, _ => decide
  | 2, _ => decide
  | 3, _ => decide
theorem any_ne {α : Type} {es : List α} {g : α → PySem.Str} {x : PySem.Str} (h : ∀ q, q ∈ es → g q ≠ x) : ((es.map fun q => Dat.tup [.str (g q)]).any fun z => PyData.eqv (toPy z) (toPy (.tup [.str x]))) = false := by
  rw [List.any_map, not_any]
  intro q hq
  show PyData.eqv (toPy (.tup [.str (g q)])) (toPy (.tup [.str x])) = false
  rw [eqv_hd, beq_eq_false_iff_ne]
  exact h q hq
theorem dec_nat {n m : Nat} (h : n < m) : decide (0 ≤ (n : Int) ∧ (n : Int) < (m : Int)) = true := decide_eq_true (by omega)
theorem x_is_channel (hk : ∀ H : Hp, SqT K H kinds (kinds4.map V.str)) : ∀ ds Q, pre_is_channel ds Q → Ex C CB noX (t_is_channel K C CB kinds) (slots ds 1) (RetP Q) := by
  rintro ds Q ⟨c, ps, es, rfl, hl, hc, hd, hs, p⟩
  unfold t_is_channel
  walk_at "go"
  refine ⟨_, rfl, hc.nm, isB_mk ?_⟩
  walk_at "go"
  refine rs_tup ?_
  rw [cut_1]
  refine EvN.ev (en_lcM (α := Chan) ?_)
  walk_at "go"
  refine ⟨by rw [List.length_map]; omega, es, encC, fun q => .tup [.str q.name], rfl, fun c hc => ⟨_, gg_name (by simp), ?_⟩, ?_⟩
  · walk_at "go"
    refine rs_tup ?_
    rw [cut_1]
  refine rv_inD (hdS hc.nm.str) (heads_ok (f := encC) hs) ?_
  rw [any_ne hd]
  walk_at "go"
  refine ⟨_, _, rfl, isB_mk ?_⟩
  rw [List.length_map, dec_nat hc.g]
  walk_at "go"
  refine ⟨_, _, rfl, isB_mk ?_⟩
  rw [List.length_map, dec_nat hc.t]
  walk_at "go"
  refine br_f (decide_eq_false (by have := hc.ne; omega)) ?_
  walk_at "go"
  walk_at "isi"
  refine br_t rfl (ev_inK hk ?_)
  walk_at "go"
  rw [decide_eq_true (kinds_mem hc.k)]
  exact p
theorem m_send : (!decide (("send" : PySem.Str) ∈ (["send", "take"] : List PySem.Str))) = false := by decide +kernel
theorem m_take : (!decide (("take" : PySem.Str) ∈ (["send", "take"] : List PySem.Str))) = false := by decide +kernel
theorem x_is_act : ∀ ds Q, pre_is_act ds Q → Ex C CB noX (t_is_act K C CB kinds) (slots ds 0) (RetP Q) := by
  rintro ds Q ⟨a, pr, cs, rfl, ha, p⟩
  unfold t_is_act
  cases a with
  | doo =>
    rw [show encA .doo = .tup [.str "do"] from rfl]
    walk_at "go"
    walk_at "isi"
    walk_at "go"
    walk_at "isi"
    walk_at "go"
    exact p
  | send c t =>
    obtain ⟨ht, h, hc, hg⟩ := ha
    have hl : c < cs.length := (List.getElem?_eq_some_iff.mp hc).1
    rw [show encA (.send c t) = .tup [.str "send", .int (c : Int), .int (t : Int)] from rfl]
    walk_at "go"
    walk_at "isi"
    walk_at "go"
    walk_at "isi"
    walk_at "go"
    refine rv_niST (ns := ["send", "take"]) rfl ?_
    rw [m_send]
    walk_at "go"
    refine ⟨_, _, rfl, isB_mk ?_⟩
    rw [List.length_map, dec_nat hl]
    walk_at "go"
    refine ⟨_, _, rfl, isB_mk ?_⟩
    rw [show decide (0 ≤ (t : Int) ∧ (t : Int) < 10) = true from dec_nat (m := 10) ht]
    walk_at "go"
    refine rv_ixT (ixmap hc) ?_
    walk_at "go"
    rw [hg, decide_eq_true rfl]
    exact p
  | take c t =>
    obtain ⟨ht, h, hc, hg⟩ := ha
    have hl : c < cs.length := (List.getElem?_eq_some_iff.mp hc).1
    rw [show encA (.take c t) = .tup [.str "take", .int (c : Int), .int (t : Int)] from rfl]
    walk_at "go"
    walk_at "isi"
    walk_at "go"
    walk_at "isi"
    walk_at "go"
    refine rv_niST (ns := ["send", "take"]) rfl ?_
    rw [m_take]
    walk_at "go"
    refine ⟨_, _, rfl, isB_mk ?_⟩
    rw [List.length_map, dec_nat hl]
    walk_at "go"
    refine ⟨_, _, rfl, isB_mk ?_⟩
    rw [show decide (0 ≤ (t : Int) ∧ (t : Int) < 10) = true from dec_nat (m := 10) ht]
    walk_at "go"
    refine rv_ixT (ixmap hc) ?_
    walk_at "go"
    rw [hg, decide_eq_true rfl]
    exact p
theorem x_is_rule : ∀ ds Q, pre_is_rule ds Q → Ex C CB noX (t_is_rule K C CB kinds) (slots ds 1) (RetP Q) := by
  rintro ds Q ⟨r, ps, cs, rfl, ⟨⟨q, hq, h1, h2⟩, ha⟩, p⟩
  unfold t_is_rule
  have hl : r.proc < ps.length := (List.getElem?_eq_some_iff.mp hq).1
  walk_at "go"
  refine ⟨_, _, rfl, isB_mk ?_⟩
  rw [List.length_map, dec_nat hl]
  walk_at "go"
  refine ex_asg ?_
  walk_at "go"
  refine rv_ixT (ixmap hq) ?_
  walk_at "go"
  refine ⟨_, _, rfl, isB_mk ?_⟩
  rw [dec_nat h1]
  walk_at "go"
  refine ⟨_, _, rfl, isB_mk ?_⟩
  rw [dec_nat h2]
  walk_at "go"
  exact ⟨_, _, _, rfl, ha, p⟩
theorem frz_t {n : Nat} {ds : List Dat} : frz (n + 1) (.tup ds) = .tup (ds.map (frz n)) := rfl
theorem x__frozen (m : Nat) : ∀ ds Q, preF (m + 1) ds Q → Ex C CB noX (t__frozen K C CB kinds m) (slots ds 1) (RetP Q) := by
  rintro ds Q ⟨v, n, rfl, hm, hv, p⟩
  unfold t__frozen
  walk_at "go"
  cases n with
  | zero =>
    refine br_f (by simp) ?_
    walk_at "go"
    exact p
  | succ n =>
    refine br_t (by simp) ?_
    walk_at "go"
    obtain ⟨m, rfl⟩ : ∃ k, m = k + 1 := ⟨m - 1, by omega⟩
    have key : ∀ xs : List Dat, xs.length ≤ 1000 → (∀ d, d ∈ xs → frzOk n d) → v = .lst xs ∨ v = .tup xs → Q (.tup (xs.map (frz n))) → Ex C CB noX
              (tRet (tCB (rTupleOf K) (tCons (tLc (iSeq K (tVar 0)) (gName 2) tYes (tCall (spP C (preF (m + 1))) [] E0 (tCons (tVar 2) (tCons (tOp rSubI (tVar 1) (tC (.int 1))) tNil))) [2]) tNil))) (slots [v, .int ((n + 1 : Nat) : Int)] 1) (fun o =>
            match o with
            | Out.nx δ' => Ex C CB noX (tRet (tVar 0)) δ' (RetP Q)
            | o => RetP Q o) := by
      intro xs hl hx hv p
      walk_at "go"
      refine EvN.ev (en_lcM (α := Dat) ?_)
      walk_at "go"
      refine ⟨xs, hv, by omega, xs, id, frz n, by simp, fun d hd => ⟨_, gg_name (by simp), ?_⟩, ?_⟩
      · walk_at "go"
        rw [show (((n + 1 : Nat) : Int) - 1) = (n : Int) by omega]
        exact ⟨_, _, rfl, by omega, hx d hd, rfl⟩
      · walk_at "go"
        exact p
    cases v with
    | lst xs => exact isi2 rfl kb_ll kb_lt (br_t rfl (key xs hv.1 hv.2 (.inl rfl) p))
    | tup xs => exact isi2 rfl kb_tl kb_tt (br_t rfl (key xs hv.1 hv.2 (.inr rfl) p))
    | non => exact isi2 rfl kb_nl kb_nt (br_f rfl (by walk_at "go"; exact p))
    | bl x => exact isi2 rfl kb_bl kb_bt (br_f rfl (by walk_at "go"; exact p))
    | int x => exact isi2 rfl kb_il kb_it (br_f rfl (by walk_at "go"; exact p))
    | str x => exact isi2 rfl kb_sl kb_st (br_f rfl (by walk_at "go"; exact p))
    | net3 x y z => exact isi2 rfl kb_dl kb_dt (br_f rfl (by walk_at "go"; exact p))
    | obj x y z => cases hv
theorem x__rows : ∀ ds Q, pre__rows ds Q → Ex C CB noX (t__rows K C CB kinds) (slots ds 2) (RetP Q) := by
  rintro ds Q ⟨v, lo, hi, rs, rfl, hv, hf, hl, h1, h2, p⟩
  unfold t__rows
  walk_at "go"
  refine ex_asg ?_
  walk_at "go"
  refine ⟨v, 3, rfl, Nat.le_refl 3, hv, ?_⟩
  rw [hf]
  walk_at "go"
  walk_at "isi"
  walk_at "go"
  rw [List.length_map]
  refine br_t (decide_eq_true (by omega)) ?_
  walk_at "go"
  rw [show (!decide ((rs.length : Int) ≤ (hi : Int))) = false by simp; omega]
  walk_at "go"
  refine EvN.ev (en_lcM (α := List Dat) ?_)
  walk_at "go"
  refine ⟨by rw [List.length_map]; omega, rs, .tup, fun _ => .bl true, rfl, fun d hd => ⟨_, gg_name (by simp), ?_⟩, ?_⟩
  · walk_at "go"
    exact ⟨_, _, rfl, kb_tt, rfl⟩
  · walk_at "go"
    rw [show (rs.map fun _ => Dat.bl true) = (rs.map fun _ => true).map Dat.bl by rw [List.map_map]; rfl]
    refine rc_all ?_
    rw [all_true]
    walk_at "go"
    exact p
end
end Dl


namespace Dl
open PySem L2
section
variable {C CB kinds : Addr} {K : PySem.W.Frag} {W : WX} {R : Out → Prop} {δ : List Slot}
local macro_rules | `(tactic| walk_at "ev") => `(tactic| first
  | (with_reducible refine ex_seq ?_) | (with_reducible refine ex_if ?_) | (with_reducible refine ex_ret ?_) | (with_reducible refine ex_nx ?_)
  | (with_reducible refine ev_int ?_) | (with_reducible refine ev_str ?_) | (with_reducible refine ev_bl ?_) | (with_reducible refine ev_non ?_)
  | ((with_reducible refine ev_var (d := ?dd) ?hv ?_); (case hv => exact rfl))
  | (with_reducible refine ea_nil ?_) | (with_reducible refine ea_cons ?_) | (with_reducible refine ev_call ?_)
  | (with_reducible refine et_test ?_) | (with_reducible refine et_B ?_) | (with_reducible refine et_and ?_) | (with_reducible refine et_or ?_) | (with_reducible refine et_not ?_) | (with_reducible refine et_yes ?_)
  | (with_reducible refine ev_andV ?_) | (with_reducible refine ev_orV ?_) | (with_reducible refine ev_notV ?_) | (with_reducible refine ev_if ?_) | (with_reducible refine ev_chain ?_)
  | (with_reducible refine ev_isi ?_) | (with_reducible refine ev_isi2 ?_) | (with_reducible refine ev_tup ?_) | (with_reducible refine ev_sl ?_) | (with_reducible refine eo_none ?_) | (with_reducible refine eo_some ?_)
  | (with_reducible refine isB_mk ?_)
  | (with_reducible refine rv_add ?_) | (with_reducible refine rv_sub ?_) | (with_reducible refine rv_lt ?_) | (with_reducible refine rv_le ?_) | (with_reducible refine rv_gt ?_) | (with_reducible refine rv_ge ?_)
  | (with_reducible refine rv_eqI ?_) | (with_reducible refine rv_neI ?_) | (with_reducible refine rv_eqS ?_) | (with_reducible refine rv_neS ?_) | (with_reducible refine rv_eqB ?_) | (with_reducible refine rv_isN ?_)
  | (with_reducible refine rc_lenL ?_) | (with_reducible refine rc_lenT ?_) | (with_reducible refine rc_intI ?_) | (with_reducible refine rc_intB ?_) | (with_reducible refine rc_tupT ?_) | (with_reducible refine rc_tupL ?_)
  | (with_reducible refine ev_getP ?_) | (with_reducible refine ev_getC ?_) | (with_reducible refine ev_getR ?_)
  | ((with_reducible refine rv_ixT (z := ?zz) ?hi ?_); (case hi => exact rfl)) | ((with_reducible refine rv_ixL (z := ?zz) ?hi ?_); (case hi => exact rfl))
  | (with_reducible refine ev_cb ?_) | (with_reducible refine ev_op ?_)
  | (with_reducible refine ei_seq ?_) | (with_reducible refine ei_enum ?_) | (with_reducible refine ei_range ?_) | (with_reducible refine ei_str ?_)
  | (with_reducible refine mk_o ?_) | (with_reducible refine mk_n ?_) | (with_reducible refine mk_i ?_) | (with_reducible refine mk_s ?_) | (with_reducible refine mk_l ?_) | (with_reducible refine mk_b ?_)
  | (with_reducible refine mk_sl ?_) | (with_reducible refine mk_st ?_) | (with_reducible refine mk_al ?_) | (with_reducible refine mk_at ?_)
  | ((with_reducible refine and_len ?ll ?_); (case ll => exact Nat.le_of_ble_eq_true rfl)) | (refine br_t rfl ?_) | (refine br_f rfl ?_))
local macro_rules | `(tactic| walk_at "isi") => `(tactic| first | refine isi1 rfl kb_ii ?_ | refine isi1 rfl kb_is ?_ | refine isi1 rfl kb_ib ?_ | refine isi1 rfl kb_il ?_ | refine isi1 rfl kb_it ?_ | refine isi1 rfl kb_si ?_ | refine isi1 rfl kb_ss ?_ | refine isi1 rfl kb_sb ?_ | refine isi1 rfl kb_sl ?_ | refine isi1 rfl kb_st ?_ | refine isi1 rfl kb_ll ?_ | refine isi1 rfl kb_lt ?_ | refine isi1 rfl kb_li ?_ | refine isi1 rfl kb_ls ?_ | refine isi1 rfl kb_lb ?_ | refine isi1 rfl kb_tt ?_ | refine isi1 rfl kb_tl ?_ | refine isi1 rfl kb_ti ?_ | refine isi1 rfl kb_ts ?_ | refine isi1 rfl kb_tb ?_ | refine isi1 rfl kb_ni ?_ | refine isi1 rfl kb_ns ?_ | refine isi1 rfl kb_nb ?_ | refine isi1 rfl kb_nl ?_ | refine isi1 rfl kb_nt ?_)
local macro_rules | `(tactic| walk_at "go") => `(tactic| repeat (walk_at "ev"))
/-- the class Net, as the fields ask -/
structure NetC (K : PySem.W.Frag) (C : Addr) : Prop where
  c : Cls K C
  p : NoAttr K C "processes"
  h : NoAttr K C "channels"
  r : NoAttr K C "rules"
theorem rep_flat {α : Type} (n : Nat) (x : α) : (List.replicate n [x]).flatten = List.replicate n x := by
  induction n with
  | zero => rfl
  | succ n ih => rw [List.replicate_succ, List.flatten_cons, ih]; rfl
theorem x_start (n : NetC K C) : ∀ ds Q, pre_start ds Q → Ex C CB noX (t_start K C CB kinds) (slots ds 1) (RetP Q) := by
  rintro ds Q ⟨N, rfl, hN, p⟩
  unfold t_start
  have h5 := hN.p5
  have h8 := hN.c8
  walk_at "go"
  refine ex_asg ?_
  walk_at "go"
  refine ev_fldC n.c n.h ?_
  walk_at "go"
  refine ev_fldP n.c n.p ?_
  walk_at "go"
  simp only [List.length_map]
  refine rv_repT (List.cons_ne_nil _ _) (by omega) (Nat.le_of_ble_eq_true rfl) ?_
  walk_at "go"
  refine rv_repT (List.cons_ne_nil _ _) (by omega) (Nat.le_of_ble_eq_true rfl) ?_
  walk_at "go"
  refine rv_repT (List.cons_ne_nil _ _) (by omega) (Nat.le_of_ble_eq_true rfl) ?_
  walk_at "go"
  rw [rep_flat, rep_flat, rep_flat]
  unfold Wld.enc NetM.start at p
  simp only [List.map_replicate] at p
  exact p
theorem chan_of {N : NetM} {c : Nat} {h : Chan} (e : N.chans[c]? = some h) : chanK N c = h.kind := by unfold chanK; rw [e]
theorem chan_ex {N : NetM} {c : Nat} (h : c < N.chans.length) : ∃ h, N.chans[c]? = some h := ⟨_, List.getElem?_eq_getElem h⟩
theorem lossy_mem {k : Nat} (h : k < 4) : decide (kindS k ∈ (["order lossy", "loose lossy"] : List PySem.Str)) = lossy k := by
  match k, h with
  | 0, _ => decide +kernel
  | 1, _ => decide +kernel
  | 2, _ => decide +kernel
  | 3, _ => decide +kernel
theorem ordered_mem {k : Nat} (h : k < 4) : decide (kindS k ∈ (["order", "order lossy"] : List PySem.Str)) = ordered k := by
  match k, h with
  | 0, _ => decide +kernel
  | 1, _ => decide +kernel
  | 2, _ => decide +kernel
  | 3, _ => decide +kernel
theorem x_is_lossy (n : NetC K C) : ∀ ds Q, pre_is_lossy ds Q → Ex C CB noX (t_is_lossy K C CB kinds) (slots ds 0) (RetP Q) := by
  rintro ds Q ⟨N, c, rfl, hN, hc, p⟩
  unfold t_is_lossy
  obtain ⟨h, e⟩ := chan_ex hc
  rw [chan_of e] at p
  walk_at "go"
  refine ev_fldC n.c n.h ?_
  walk_at "go"
  refine rv_ixT (ixmap e) ?_
  walk_at "go"
  refine rv_inST (ns := ["order lossy", "loose lossy"]) rfl ?_
  rw [lossy_mem (hN.co h (List.mem_of_getElem? e)).k]
  exact p
theorem x_is_ordered (n : NetC K C) : ∀ ds Q, pre_is_ordered ds Q → Ex C CB noX (t_is_ordered K C CB kinds) (slots ds 0) (RetP Q) := by
  rintro ds Q ⟨N, c, rfl, hN, hc, p⟩
  unfold t_is_ordered
  obtain ⟨h, e⟩ := chan_ex hc
  rw [chan_of e] at p
  walk_at "go"
  refine ev_fldC n.c n.h ?_
  walk_at "go"
  refine rv_ixT (ixmap e) ?_
  walk_at "go"
  refine rv_inST (ns := ["order", "order lossy"]) rfl ?_
  rw [ordered_mem (hN.co h (List.mem_of_getElem? e)).k]
  exact p
theorem row_ex {w : Wld} {c : Nat} (h : c < w.present.length) : w.present[c]? = some (row w c) := by
  unfold row
  rw [List.getD_eq_getElem?_getD, List.getElem?_eq_getElem h]; rfl
theorem opens_len {N : NetM} {b : Nat} {w : Wld} {c : Nat} (hw : WldOk N b w) (hc : c < N.chans.length) : (row w c).length ≤ b := hw.pb _ (List.mem_of_getElem? (row_ex (by rw [hw.p]; exact hc)))
theorem opens_le {N : NetM} {b : Nat} {w : Wld} {c : Nat} (hw : WldOk N b w) (hc : c < N.chans.length) : (opens N w c).length ≤ b := by
  have := opens_len hw hc
  unfold opens
  split
  · rw [List.length_take]; omega
  · exact this
theorem x_open_messages_of (n : NetC K C) : ∀ ds Q, pre_open_messages_of ds Q → Ex C CB noX (t_open_messages_of K C CB kinds) (slots ds 2) (RetP Q) := by
  rintro ds Q ⟨N, b, w, c, rfl, hN, hw, hb, hc, p⟩
  unfold t_open_messages_of
  have hr := row_ex (w := w) (c := c) (by rw [hw.p]; exact hc)
  have hl := opens_len hw hc
  walk_at "go"
  refine ex_asg ?_
  walk_at "go"
  refine EvN.ev (en_lcM (α := Nat × Nat) ?_)
  walk_at "go"
  refine rv_ixT (ixmap hr) ?_
  walk_at "go"
  refine ⟨by rw [List.length_map]; omega, row w c, encK, encK, rfl, fun q hq => ⟨_, gg_name (by simp), ?_⟩, ?_⟩
  · walk_at "go"
    rfl
  walk_at "go"
  refine ⟨N, c, rfl, hN, hc, isB_mk ?_⟩
  unfold opens at p
  refine ⟨fun e => ?_, fun e => ?_⟩
  · walk_at "go"
    refine rs_tup ?_
    rw [if_pos e] at p
    rw [show (1 : Int) = ((1 : Nat) : Int) from rfl, cut_to, ← List.map_take]
    exact p
  · walk_at "go"
    rw [if_neg (by rw [e]; decide)] at p
    exact p
theorem cut_len {ds : List Dat} {lo hi : Option Int} : (cutD ds lo hi).length ≤ ds.length := by
  unfold cutD
  rw [List.length_take, List.length_drop]
  omega
theorem x__with_part : ∀ ds Q, pre__with_part ds Q → Ex C CB noX (t__with_part K C CB kinds) (slots ds 0) (RetP Q) := by
  rintro ds Q ⟨xs, i, d, rfl, hi, hl, p⟩
  unfold t__with_part
  have h1 := cut_len (ds := xs) (lo := none) (hi := some (i : Int))
  have h2 := cut_len (ds := xs) (lo := some ((i : Int) + 1)) (hi := none)
  walk_at "go"
  refine rs_tup ?_
  walk_at "go"
  refine rv_catT (by rw [List.length_singleton]; omega) ?_
  walk_at "go"
  refine rs_tup ?_
  walk_at "go"
  refine rv_catT (by rw [List.length_append, List.length_singleton]; omega) ?_
  rw [cut_to, show ((i : Int) + 1) = ((i + 1 : Nat) : Int) by omega, cut_from, List.append_assoc]
  rw [List.set_eq_take_append_cons_drop, if_pos hi] at p
  exact p
theorem rowget {pr : List (List (Nat × Nat))} {c : Nat} (h : c < pr.length) : pr[c]? = some (pr.getD c []) := by
  rw [List.getD_eq_getElem?_getD, List.getElem?_eq_getElem h]; rfl
theorem ne_dec {a b : Nat} : (!decide ((a : Int) = (b : Int))) = (a != b) := by
  by_cases h : a = b
  · subst h; simp
  · have : ¬ (a : Int) = (b : Int) := by omega
    simp [this, h]
theorem x__without_message : ∀ ds Q, pre__without_message ds Q → Ex C CB noX (t__without_message K C CB kinds) (slots ds 2) (RetP Q) := by
  rintro ds Q ⟨pr, c, k, rfl, hc, hl, hr, p⟩
  unfold t__without_message
  have e := rowget hc
  have hrl := hr _ (List.mem_of_getElem? e)
  walk_at "go"
  refine ex_asg ?_
  walk_at "go"
  refine EvN.ev (en_lcP (α := Nat × Nat) ?_)
  walk_at "go"
  refine rv_ixT (ixmap e) ?_
  walk_at "go"
  refine ⟨by rw [List.length_map]; omega, pr.getD c [], encK, fun q => q.1 != k, encK, rfl, fun q hq => ⟨_, gg_name (by simp), ?_⟩, ?_⟩
  · walk_at "go"
    refine ⟨ne_dec, fun _ => ?_⟩
    walk_at "go"
    rfl
  walk_at "go"
  refine ⟨_, c, _, rfl, by rw [List.length_map]; exact hc, by rw [List.length_map]; exact hl, ?_⟩
  rw [List.map_set] at p
  exact p
theorem rule_ex {N : NetM} {d : Deed} {r : Nat} (h : r < N.rules.length) : ∃ u, N.rules[r]? = some u := ⟨_, List.getElem?_eq_getElem h⟩
theorem proc_lt {ps : List (PySem.Str × Nat)} {cs : List Chan} {r : Rul} (h : RuleOk ps cs r) : r.proc < ps.length := by
  obtain ⟨q, hq, _⟩ := h.p
  exact (List.getElem?_eq_some_iff.mp hq).1
theorem st_ex {w : Wld} {i : Nat} (h : i < w.states.length) : w.states[i]? = some (w.states.getD i 0) := by
  rw [List.getD_eq_getElem?_getD, List.getElem?_eq_getElem h]; rfl
theorem eq_dec {a b : Nat} : decide ((a : Int) = (b : Int)) = (a == b) := by
  by_cases h : a = b
  · subst h; simp
  · have : ¬ (a : Int) = (b : Int) := by omega
    simp [this, h]
theorem eqvK {a b c d : Nat} : PyData.eqv (toPy (encK (a, b))) (toPy (encK (c, d))) = decide ((a, b) = (c, d)) := by
  rw [Bool.eq_iff_iff]
  simp [toPy, toPys, PyData.eqv, PyData.eqvAll, encK]
  omega
theorem shpK (q : Nat × Nat) : Shp 1 (encK q) := shp_tup (n := 0) (by
  intro y hy
  rcases List.mem_cons.mp hy with e | hy
  · subst e; exact shp_int _
  · rw [List.mem_singleton] at hy; subst hy; exact shp_int _)
theorem any_mem {q : Nat × Nat} {xs : List (Nat × Nat)} : ((xs.map encK).any fun z => PyData.eqv (toPy z) (toPy (encK q))) = decide (q ∈ xs) := by
  rw [List.any_map]
  induction xs with
  | nil => rfl
  | cons x xs ih =>
    rw [List.any_cons, ih]
    show (PyData.eqv (toPy (encK x)) (toPy (encK q)) || _) = _
    rw [eqvK]
    by_cases h : x = q
    · subst h; simp
    · have h' : q ≠ x := fun z => h z.symm
      simp [h, h']
theorem mem_ints {k : Nat} {xs : List Nat} : decide ((k : Int) ∈ xs.map fun n : Nat => (n : Int)) = decide (k ∈ xs) := by
  congr 1
  simp only [List.mem_map]
  refine propext ⟨fun ⟨a, h, e⟩ => ?_, fun h => ⟨k, h, rfl⟩⟩
  have : a = k := by omega
  exact this ▸ h
theorem canDo_act {N : NetM} {w : Wld} {r : Nat} {u : Rul} (h : N.rules[r]? = some u) : canDo N w (.act r) = (w.states.getD u.proc 0 == u.state) := by
  simp only [canDo, h]
theorem canDo_take {N : NetM} {w : Wld} {r k up us c t un : Nat} (h : N.rules[r]? = some ⟨up, us, .take c t, un⟩) : canDo N w (.take r k) = (w.states.getD up 0 == us && decide ((k, t) ∈ opens N w c)) := by
  simp only [canDo, h]
theorem x_can_do (n : NetC K C) : ∀ ds Q, pre_can_do ds Q → Ex C CB noX (t_can_do K C CB kinds) (slots ds 5) (RetP Q) := by
  rintro ds Q ⟨N, b, w, d, rfl, hN, hw, hb, hf, p⟩
  unfold t_can_do
  cases d with
  | lose c k =>
    obtain ⟨h, hc, hlo⟩ := hf
    have hl : c < N.chans.length := (List.getElem?_eq_some_iff.mp hc).1
    rw [show (Deed.lose c k).enc = .tup [.str "lose", .int (c : Int), .int (k : Int)] from rfl]
    walk_at "go"
    refine EvN.ev (en_lcM (α := Nat × Nat) ?_)
    walk_at "go"
    refine ⟨N, b, w, c, rfl, hN, hw, hb, hl, ?_⟩
    walk_at "go"
    refine ⟨by rw [List.length_map]; have := opens_le hw hl; omega, opens N w c, encK, fun q => .int (q.1 : Int), rfl, fun q hq => ⟨_, gg_tup (ggs_cons (gg_name (by simp)) (ggs_cons (gg_name (by simp)) ggs_nil)) rfl, ?_⟩, ?_⟩
    · walk_at "go"
      rfl
    rw [show ((opens N w c).map fun q => Dat.int (q.1 : Int)) = (((opens N w c).map (·.1)).map fun n : Nat => (n : Int)).map Dat.int by rw [List.map_map, List.map_map]; rfl]
    refine rv_inI ?_
    rw [mem_ints]
    exact p
  | act r =>
    obtain ⟨u, hu, ht⟩ := hf
    have hp := proc_lt (hN.ro u (List.mem_of_getElem? hu))
    have hs := st_ex (w := w) (i := u.proc) (by rw [hw.s]; exact hp)
    rw [show (Deed.act r).enc = .tup [.str "act", .int (r : Int)] from rfl]
    walk_at "go"
    refine ex_asgG (vs := [5, 6, 7, 4]) ?_
    walk_at "go"
    refine ev_fldR n.c n.r ?_
    walk_at "go"
    refine rv_ixT (ixmap hu) ?_
    refine ⟨_, gg_tup (vs := [5, 6, 7, 4]) (ggs_cons (gg_name (by simp)) (ggs_cons (gg_name (by simp)) (ggs_cons (gg_name (by simp)) (ggs_cons (gg_name (by simp)) ggs_nil)))) rfl, ?_⟩
    walk_at "go"
    refine rv_ixT (ixmap hs) ?_
    walk_at "go"
    rw [canDo_act hu] at p
    rw [ne_dec]
    refine ⟨fun e => ?_, fun e => ?_⟩
    · walk_at "go"
      rw [show (w.states.getD u.proc 0 == u.state) = false by simpa using e] at p
      exact p
    · walk_at "go"
      rw [show (w.states.getD u.proc 0 == u.state) = true by simpa using e] at p
      exact p
  | take r k =>
    obtain ⟨u, hu, ht⟩ := hf
    have ro := hN.ro u (List.mem_of_getElem? hu)
    have hp := proc_lt ro
    have hs := st_ex (w := w) (i := u.proc) (by rw [hw.s]; exact hp)
    obtain ⟨up, us, ua, un⟩ := u
    cases ua with
    | doo => cases ht
    | send c t => cases ht
    | take c t =>
      obtain ⟨h10, h, hc, hg⟩ := ro.a
      have hl : c < N.chans.length := (List.getElem?_eq_some_iff.mp hc).1
      rw [show (Deed.take r k).enc = .tup [.str "take", .int (r : Int), .int (k : Int)] from rfl]
      walk_at "go"
      refine ex_asgG (vs := [5, 6, 7, 4]) ?_
      walk_at "go"
      refine ev_fldR n.c n.r ?_
      walk_at "go"
      refine rv_ixT (ixmap hu) ?_
      refine ⟨_, gg_tup (vs := [5, 6, 7, 4]) (ggs_cons (gg_name (by simp)) (ggs_cons (gg_name (by simp)) (ggs_cons (gg_name (by simp)) (ggs_cons (gg_name (by simp)) ggs_nil)))) rfl, ?_⟩
      walk_at "go"
      refine rv_ixT (ixmap hs) ?_
      walk_at "go"
      rw [canDo_take hu] at p
      rw [ne_dec]
      refine ⟨fun e => ?_, fun e => ?_⟩
      · walk_at "go"
        rw [show (w.states.getD up 0 == us) = false by simpa using e] at p
        exact p
      · walk_at "go"
        rw [show (w.states.getD up 0 == us) = true by simpa using e, Bool.true_and] at p
        rw [show encA (.take c t) = .tup [.str "take", .int (c : Int), .int (t : Int)] from rfl]
        walk_at "go"
        refine ⟨N, b, w, c, rfl, hN, hw, hb, hl, ?_⟩
        refine rv_inTD ((shpK (k, t)).eqd (by decide)) ((shp_tup (n := 1) ?_).eqd (by decide)) ?_
        · intro y hy
          obtain ⟨q, _, rfl⟩ := List.mem_map.mp hy
          exact shpK q
        · rw [any_mem (q := (k, t))]
          exact p
theorem sent_ex {w : Wld} {i : Nat} (h : i < w.sent.length) : w.sent[i]? = some (w.sent.getD i 0) := by
  rw [List.getD_eq_getElem?_getD, List.getElem?_eq_getElem h]; rfl
theorem step_act {N : NetM} {w : Wld} {r : Nat} {u : Rul} (h : N.rules[r]? = some u) : step N w (.act r) = doRule w u 0 := by simp only [step, h]
theorem step_take {N : NetM} {w : Wld} {r k : Nat} {u : Rul} (h : N.rules[r]? = some u) : step N w (.take r k) = doRule w u k := by simp only [step, h]
theorem map_setN {xs : List Nat} {i a : Nat} : (xs.map encN).set i (.int (a : Int)) = (xs.set i a).map encN := by rw [List.map_set]
theorem x_behind (n : NetC K C) : ∀ ds Q, pre_behind ds Q → Ex C CB noX (t_behind K C CB kinds) (slots ds 10) (RetP Q) := by
  rintro ds Q ⟨N, b, w, d, rfl, hN, hw, hb, hf, p⟩
  unfold t_behind
  have h5 := hN.p5
  have h8 := hN.c8
  have hpl := hw.p
  walk_at "go"
  refine ex_asg ?_
  walk_at "go"
  refine ex_asg ?_
  walk_at "go"
  refine ex_asg ?_
  walk_at "go"
  refine EvN.ev (en_lcM (α := List (Nat × Nat)) ?_)
  walk_at "go"
  refine ⟨by rw [List.length_map]; omega, w.present, fun row => .tup (row.map encK), fun row => .tup (row.map encK), rfl, fun q hq => ⟨_, gg_name (by simp), ?_⟩, ?_⟩
  · have hql := hw.pb q hq
    walk_at "go"
    refine EvN.ev (en_lcM (α := Nat × Nat) ?_)
    walk_at "go"
    refine ⟨by rw [List.length_map]; omega, q, encK, encK, rfl, fun q hq => ⟨_, gg_name (by simp), ?_⟩, ?_⟩
    · walk_at "go"
      rfl
    walk_at "go"
    rfl
  have hpb : ∀ r, r ∈ w.present → r.length ≤ 1000 := fun r hr => by have := hw.pb r hr; omega
  cases d with
  | lose c k =>
    obtain ⟨h, hc, hlo⟩ := hf
    have hl : c < N.chans.length := (List.getElem?_eq_some_iff.mp hc).1
    rw [show (Deed.lose c k).enc = .tup [.str "lose", .int (c : Int), .int (k : Int)] from rfl]
    walk_at "go"
    refine ⟨_, c, _, rfl, by omega, by omega, hpb, ?_⟩
    walk_at "go"
    exact p
  | act r =>
    obtain ⟨u, hu, ht⟩ := hf
    have ro := hN.ro u (List.mem_of_getElem? hu)
    have hp := proc_lt ro
    rw [step_act hu] at p
    rw [show (Deed.act r).enc = .tup [.str "act", .int (r : Int)] from rfl]
    walk_at "go"
    refine ex_asgG (vs := [8, 9, 10, 11]) ?_
    walk_at "go"
    refine ev_fldR n.c n.r ?_
    walk_at "go"
    refine rv_ixT (ixmap hu) ?_
    refine ⟨_, gg_tup (vs := [8, 9, 10, 11]) (ggs_cons (gg_name (by simp)) (ggs_cons (gg_name (by simp)) (ggs_cons (gg_name (by simp)) (ggs_cons (gg_name (by simp)) ggs_nil)))) rfl, ?_⟩
    walk_at "go"
    refine ex_asg ?_
    walk_at "go"
    refine ⟨_, u.proc, _, rfl, by rw [List.length_map, hw.s]; exact hp, by rw [List.length_map, hw.s]; omega, ?_⟩
    obtain ⟨up, us, ua, un⟩ := u
    cases ua with
    | doo =>
      rw [show encA .doo = .tup [.str "do"] from rfl]
      walk_at "go"
      rw [map_setN]
      exact p
    | send c t =>
      obtain ⟨h10, h, hc, hg⟩ := ro.a
      have hl : c < N.chans.length := (List.getElem?_eq_some_iff.mp hc).1
      have hsx := sent_ex (w := w) (i := c) (by rw [hw.t]; exact hl)
      have hrx := row_ex (w := w) (c := c) (by omega)
      have hrl := hpb _ (List.mem_of_getElem? hrx)
      rw [show encA (.send c t) = .tup [.str "send", .int (c : Int), .int (t : Int)] from rfl]
      walk_at "go"
      refine ex_asg ?_
      walk_at "go"
      refine rv_ixT (ixmap hsx) ?_
      walk_at "go"
      refine ex_asg ?_
      walk_at "go"
      refine rv_ixT (ixmap hrx) ?_
      walk_at "go"
      refine rv_catT (by rw [List.length_map, List.length_singleton]; omega) ?_
      walk_at "go"
      refine ⟨_, c, _, rfl, by rw [List.length_map]; omega, by rw [List.length_map]; omega, ?_⟩
      walk_at "go"
      refine ex_asg ?_
      walk_at "go"
      refine ⟨_, c, _, rfl, by rw [List.length_map, hw.t]; omega, by rw [List.length_map, hw.t]; omega, ?_⟩
      walk_at "go"
      have e1 : ((w.present.map fun row => Dat.tup (row.map encK)).set c (.tup ((row w c).map encK ++ [Dat.tup [encN (w.sent.getD c 0), .int (t : Int)]]))) = (w.present.set c (row w c ++ [(w.sent.getD c 0, t)])).map fun row => Dat.tup (row.map encK) := by
        rw [List.map_set, List.map_append]; rfl
      rw [e1, show ((w.sent.getD c 0 : Int) + 1) = ((w.sent.getD c 0 + 1 : Nat) : Int) by omega, map_setN, map_setN]
      exact p
    | take c t => cases ht
  | take r k =>
    obtain ⟨u, hu, ht⟩ := hf
    have ro := hN.ro u (List.mem_of_getElem? hu)
    have hp := proc_lt ro
    rw [step_take hu] at p
    rw [show (Deed.take r k).enc = .tup [.str "take", .int (r : Int), .int (k : Int)] from rfl]
    walk_at "go"
    refine ex_asgG (vs := [8, 9, 10, 11]) ?_
    walk_at "go"
    refine ev_fldR n.c n.r ?_
    walk_at "go"
    refine rv_ixT (ixmap hu) ?_
    refine ⟨_, gg_tup (vs := [8, 9, 10, 11]) (ggs_cons (gg_name (by simp)) (ggs_cons (gg_name (by simp)) (ggs_cons (gg_name (by simp)) (ggs_cons (gg_name (by simp)) ggs_nil)))) rfl, ?_⟩
    walk_at "go"
    refine ex_asg ?_
    walk_at "go"
    refine ⟨_, u.proc, _, rfl, by rw [List.length_map, hw.s]; exact hp, by rw [List.length_map, hw.s]; omega, ?_⟩
    obtain ⟨up, us, ua, un⟩ := u
    cases ua with
    | doo => cases ht
    | send c t => cases ht
    | take c t =>
      obtain ⟨h10, h, hc, hg⟩ := ro.a
      have hl : c < N.chans.length := (List.getElem?_eq_some_iff.mp hc).1
      rw [show encA (.take c t) = .tup [.str "take", .int (c : Int), .int (t : Int)] from rfl]
      walk_at "go"
      refine ⟨_, c, _, rfl, by omega, by omega, hpb, ?_⟩
      walk_at "go"
      rw [map_setN]
      exact p
end
end Dl


namespace Dl
open PySem L2
section
variable {C CB kinds : Addr} {K : PySem.W.Frag} {W : WX} {R : Out → Prop} {δ : List Slot}
local macro_rules | `(tactic| walk_at "ev") => `(tactic| first
  | (with_reducible refine ex_seq ?_) | (with_reducible refine ex_if ?_) | (with_reducible refine ex_ret ?_) | (with_reducible refine ex_nx ?_)
  | (with_reducible refine ev_int ?_) | (with_reducible refine ev_str ?_) | (with_reducible refine ev_bl ?_) | (with_reducible refine ev_non ?_)
  | ((with_reducible refine ev_var (d := ?dd) ?hv ?_); (case hv => exact rfl))
  | (with_reducible refine ea_nil ?_) | (with_reducible refine ea_cons ?_) | (with_reducible refine ev_call ?_)
  | (with_reducible refine et_test ?_) | (with_reducible refine et_B ?_) | (with_reducible refine et_and ?_) | (with_reducible refine et_or ?_) | (with_reducible refine et_not ?_) | (with_reducible refine et_yes ?_)
  | (with_reducible refine ev_andV ?_) | (with_reducible refine ev_orV ?_) | (with_reducible refine ev_notV ?_) | (with_reducible refine ev_if ?_) | (with_reducible refine ev_chain ?_)
  | (with_reducible refine ev_isi ?_) | (with_reducible refine ev_isi2 ?_) | (with_reducible refine ev_tup ?_) | (with_reducible refine ev_sl ?_) | (with_reducible refine eo_none ?_) | (with_reducible refine eo_some ?_)
  | (with_reducible refine isB_mk ?_)
  | (with_reducible refine rv_add ?_) | (with_reducible refine rv_sub ?_) | (with_reducible refine rv_lt ?_) | (with_reducible refine rv_le ?_) | (with_reducible refine rv_gt ?_) | (with_reducible refine rv_ge ?_)
  | (with_reducible refine rv_eqI ?_) | (with_reducible refine rv_neI ?_) | (with_reducible refine rv_eqS ?_) | (with_reducible refine rv_neS ?_) | (with_reducible refine rv_eqB ?_) | (with_reducible refine rv_isN ?_)
  | (with_reducible refine rc_lenL ?_) | (with_reducible refine rc_lenT ?_) | (with_reducible refine rc_intI ?_) | (with_reducible refine rc_intB ?_) | (with_reducible refine rc_tupT ?_) | (with_reducible refine rc_tupL ?_)
  | (with_reducible refine ev_getP ?_) | (with_reducible refine ev_getC ?_) | (with_reducible refine ev_getR ?_)
  | ((with_reducible refine rv_ixT (z := ?zz) ?hi ?_); (case hi => exact rfl)) | ((with_reducible refine rv_ixL (z := ?zz) ?hi ?_); (case hi => exact rfl))
  | (with_reducible refine ev_cb ?_) | (with_reducible refine ev_op ?_)
  | (with_reducible refine ei_seq ?_) | (with_reducible refine ei_enum ?_) | (with_reducible refine ei_range ?_) | (with_reducible refine ei_str ?_)
  | (with_reducible refine mk_o ?_) | (with_reducible refine mk_n ?_) | (with_reducible refine mk_i ?_) | (with_reducible refine mk_s ?_) | (with_reducible refine mk_l ?_) | (with_reducible refine mk_b ?_)
  | (with_reducible refine mk_sl ?_) | (with_reducible refine mk_st ?_) | (with_reducible refine mk_al ?_) | (with_reducible refine mk_at ?_)
  | ((with_reducible refine and_len ?ll ?_); (case ll => exact Nat.le_of_ble_eq_true rfl)) | (refine br_t rfl ?_) | (refine br_f rfl ?_))
local macro_rules | `(tactic| walk_at "isi") => `(tactic| first | refine isi1 rfl kb_ii ?_ | refine isi1 rfl kb_is ?_ | refine isi1 rfl kb_ib ?_ | refine isi1 rfl kb_il ?_ | refine isi1 rfl kb_it ?_ | refine isi1 rfl kb_si ?_ | refine isi1 rfl kb_ss ?_ | refine isi1 rfl kb_sb ?_ | refine isi1 rfl kb_sl ?_ | refine isi1 rfl kb_st ?_ | refine isi1 rfl kb_ll ?_ | refine isi1 rfl kb_lt ?_ | refine isi1 rfl kb_li ?_ | refine isi1 rfl kb_ls ?_ | refine isi1 rfl kb_lb ?_ | refine isi1 rfl kb_tt ?_ | refine isi1 rfl kb_tl ?_ | refine isi1 rfl kb_ti ?_ | refine isi1 rfl kb_ts ?_ | refine isi1 rfl kb_tb ?_ | refine isi1 rfl kb_ni ?_ | refine isi1 rfl kb_ns ?_ | refine isi1 rfl kb_nb ?_ | refine isi1 rfl kb_nl ?_ | refine isi1 rfl kb_nt ?_)
local macro_rules | `(tactic| walk_at "go") => `(tactic| repeat (walk_at "ev"))
theorem ix0 {x : Dat} {xs : List Dat} : atI (x :: xs) 0 = some x := ixnat (i := 0) rfl
theorem ix1 {x y : Dat} {xs : List Dat} : atI (x :: y :: xs) 1 = some y := ixnat (i := 1) rfl
def Sq (d : Dat) (ds : List Dat) : Prop := d = .lst ds ∨ d = .tup ds
theorem rv_ixQ {d z : Dat} {ds : List Dat} {k : Int} {P : Dat → Prop} (hd : Sq d ds) (h : atI ds k = some z) (p : P z) : RV C (rIx K) d (.int k) P := by
  rcases hd with rfl | rfl
  · exact rv_ixL h p
  · exact rv_ixT h p
theorem rc_lenQ {d : Dat} {ds : List Dat} {P : Dat → Prop} (hd : Sq d ds) (p : P (.int (ds.length : Int))) : RC C (rLenV K) [d] P := by
  rcases hd with rfl | rfl
  · exact rc_lenL p
  · exact rc_lenT p
theorem rc_tupQ {d : Dat} {ds : List Dat} {P : Dat → Prop} (hd : Sq d ds) (p : P (.tup ds)) : RC C (rTupleOf K) [d] P := by
  rcases hd with rfl | rfl
  · exact rc_tupL p
  · exact rc_tupT p
theorem rs_Q {d : Dat} {ds : List Dat} {P : Dat → Prop} {lo hi : Option Int} (hd : Sq d ds) (p : ∀ e, Sq e (cutD ds lo hi) → P e) : RS C (rSlQ K) d lo hi P := by
  rcases hd with rfl | rfl
  · exact rs_seqL (p _ (.inl rfl))
  · exact rs_seqT (p _ (.inr rfl))
theorem tyQ {d : Dat} {ds : List Dat} (hd : Sq d ds) {P : Bool → Prop} (p : P true) : ∃ T b1 b2, tyN d = some T ∧ kitB T "list" = some b1 ∧ kitB T "tuple" = some b2 ∧ isB P (.bl (b1 || b2)) := by
  rcases hd with rfl | rfl
  · exact isi2 rfl kb_ll kb_lt p
  · exact isi2 rfl kb_tl kb_tt p
theorem asD_Q {N : NetM} {d : Dat} {ds : List Dat} (hd : Sq d ds) : asDeed N d = deedParts N ds := by
  rcases hd with rfl | rfl <;> rfl
theorem flat_ty {d : Dat} (h : flatD d = true) : (tyN d).isSome = true := by
  cases d <;> first | rfl | cases h
theorem natParts_cons {d : Dat} {ds : List Dat} : natParts (d :: ds) = (match natPart d, natParts ds with
    | some n, some ns => some (n :: ns)
    | _, _ => none) := rfl
theorem natParts_all : ∀ {ds : List Dat}, (ds.map fun d => (natPart d).isSome).all id = (natParts ds).isSome
  | [] => rfl
  | d :: ds => by
    have ih := natParts_all (ds := ds)
    rw [List.map_cons, List.all_cons, ih]
    rw [natParts_cons]
    cases h1 : natPart d <;> cases h2 : natParts ds <;> simp
theorem natPart_of {d : Dat} {n : Nat} (h : natPart d = some n) : d = encN n := by
  cases d with
  | int i =>
    cases i with
    | ofNat m => cases h; rfl
    | negSucc m => cases h
  | _ => cases h
theorem natParts_of : ∀ {ds : List Dat} {ns : List Nat}, natParts ds = some ns → ds = ns.map encN
  | [], ns, h => by cases h; rfl
  | d :: ds, ns, h => by
    rw [natParts_cons] at h
    cases h1 : natPart d with
    | none => simp [h1] at h
    | some n =>
      cases h2 : natParts ds with
      | none => simp [h1, h2] at h
      | some ms =>
        simp [h1, h2] at h
        subst h
        rw [natPart_of h1, natParts_of h2]; rfl
theorem natPart_int {i : Int} : (natPart (.int i)).isSome = decide (0 ≤ i) := by
  cases i with
  | ofNat m => simp [natPart]
  | negSucc m =>
    have : ¬ (0 : Int) ≤ Int.negSucc m := by omega
    simp [natPart, this]
def actS : Act → PySem.Str
  | .doo => "do"
  | .send _ _ => "send"
  | .take _ _ => "take"
theorem rv_act0 {a : Act} {P : Dat → Prop} (p : P (.str (actS a))) : RV C (rIx K) (encA a) (.int 0) P := by
  cases a with
  | doo => exact rv_ixT ix0 p
  | send c t => exact rv_ixT ix0 p
  | take c t => exact rv_ixT ix0 p
theorem actS_take {a : Act} : decide (actS a = "take") = a.isTake := by
  cases a with
  | doo => exact (by decide +kernel : decide (("do" : PySem.Str) = "take") = false)
  | send c t => exact (by decide +kernel : decide (("send" : PySem.Str) = "take") = false)
  | take c t => exact (by decide +kernel : decide (("take" : PySem.Str) = "take") = true)
theorem act_lose : ¬ ("act" : PySem.Str) = "lose" := by decide +kernel
theorem take_lose : ¬ ("take" : PySem.Str) = "lose" := by decide +kernel
theorem take_act : ¬ ("take" : PySem.Str) = "act" := by decide +kernel
theorem act_take : ¬ ("act" : PySem.Str) = "take" := by decide +kernel
theorem deedOf_act {N : NetM} {ns : List Nat} : deedOf N "act" ns = (match ns with
    | [r] => match N.rules[r]? with
      | some u => if u.act.isTake = false then some (.act r) else none
      | none => none
    | _ => none) := by unfold deedOf; rw [if_neg act_lose, if_pos rfl] <;> rfl
theorem deedOf_take {N : NetM} {ns : List Nat} : deedOf N "take" ns = (match ns with
    | [r, k] => match N.rules[r]? with
      | some u => if u.act.isTake = true then some (.take r k) else none
      | none => none
    | _ => none) := by unfold deedOf; rw [if_neg take_lose, if_neg take_act, if_pos rfl] <;> rfl
theorem deedOf_yes {N : NetM} {s : PySem.Str} {n1 : Nat} {ns1 : List Nat} {u : Rul} (hs : s = "act" ∨ s = "take") (hu : N.rules[n1]? = some u) (h1 : u.act.isTake = decide (s = "take")) (h2 : ns1.length = (if u.act.isTake = true then 1 else 0)) :
    ∃ D : Deed, deedOf N s (n1 :: ns1) = some D ∧ D.ds = .str s :: encN n1 :: ns1.map encN := by
  rcases hs with rfl | rfl
  · rw [decide_eq_false act_take] at h1
    rw [h1, if_neg (by decide)] at h2
    cases ns1 with
    | cons a b => simp at h2
    | nil => exact ⟨.act n1, by rw [deedOf_act]; simp [hu, h1], rfl⟩
  · rw [decide_eq_true rfl] at h1
    rw [h1, if_pos rfl] at h2
    match ns1, h2 with
    | [k], _ => exact ⟨.take n1 k, by rw [deedOf_take]; simp [hu, h1], rfl⟩
theorem deedOf_no {N : NetM} {s : PySem.Str} {n1 : Nat} {ns1 : List Nat} {u : Rul} (hs : s = "act" ∨ s = "take") (hu : N.rules[n1]? = some u) (h : (u.act.isTake == decide (s = "take") && decide (ns1.length = (if u.act.isTake = true then 1 else 0))) = false) : deedOf N s (n1 :: ns1) = none := by
  rcases hs with rfl | rfl
  · rw [decide_eq_false act_take] at h
    rw [deedOf_act]
    cases ns1 with
    | cons a b => rfl
    | nil =>
      simp only [hu]
      cases hb : u.act.isTake with
      | true => rfl
      | false => rw [hb] at h; simp at h
  · rw [decide_eq_true rfl] at h
    rw [deedOf_take]
    match ns1 with
    | [] => rfl
    | a :: b :: c => rfl
    | [k] =>
      simp only [hu]
      cases hb : u.act.isTake with
      | false => rfl
      | true => rw [hb] at h; simp at h
theorem deedOf_out {N : NetM} {s : PySem.Str} {n1 : Nat} {ns1 : List Nat} (hs : s = "act" ∨ s = "take") (hu : N.rules[n1]? = none) : deedOf N s (n1 :: ns1) = none := by
  rcases hs with rfl | rfl
  · rw [deedOf_act]
    cases ns1 with
    | cons a b => rfl
    | nil => simp only [hu]
  · rw [deedOf_take]
    match ns1 with
    | [] => rfl
    | a :: b :: c => rfl
    | [k] => simp only [hu]
theorem deedOf_other {N : NetM} {s : PySem.Str} {ns : List Nat} (h : s ≠ "lose") (hs : ¬ (s = "act" ∨ s = "take")) : deedOf N s ns = none := by
  unfold deedOf
  rw [if_neg h, if_neg (fun z => hs (.inl z)), if_neg (fun z => hs (.inr z))]
theorem x_as_deed (n : NetC K C) : ∀ ds Q, pre_as_deed ds Q → Ex C CB noX (t_as_deed K C CB kinds) (slots ds 3) (RetP Q) := by
  rintro ds Q ⟨N, d, rfl, hN, hd, p⟩
  unfold t_as_deed
  have key : ∀ ds, Sq d ds → ds.length ≤ 1000 → (∀ x, x ∈ ds → flatD x = true) → Ex C CB noX (t_as_deed K C CB kinds) (slots [N.obj, d] 3) (RetP Q) := by
    intro ds hq hl hf
    rw [asD_Q hq] at p
    unfold t_as_deed
    walk_at "go"
    refine tyQ hq ?_
    walk_at "go"
    refine rc_lenQ hq ?_
    walk_at "go"
    match ds, hq, hl, hf, p with
    | [], hq, hl, hf, p =>
      walk_at "go"
      exact p
    | [x], hq, hl, hf, p =>
      walk_at "go"
      have p' : Q .non := by cases x <;> exact p
      exact p'
    | x :: y :: rest, hq, hl, hf, p =>
      have hx := hf x List.mem_cons_self
      refine br_f (decide_eq_false (by simp; omega)) ?_
      walk_at "go"
      refine rv_ixQ hq ix0 ?_
      walk_at "go"
      cases x with
      | bl i => cases hx
      | net3 x y z => cases hx
      | obj x y z => cases hx
      | lst i => cases hx
      | tup i => cases hx
      | non =>
        refine isi1 rfl kb_ns ?_
        walk_at "go"
        exact p
      | int i =>
        refine isi1 rfl kb_is ?_
        walk_at "go"
        exact p
      | str s =>
        refine isi1 rfl kb_ss ?_
        walk_at "go"
        refine EvN.ev (en_lcM (α := Dat) ?_)
        walk_at "go"
        refine rs_Q hq fun e he => ?_
        rw [show (1 : Int) = ((1 : Nat) : Int) from rfl, cut_from] at he
        have he' : Sq e (y :: rest) := he
        refine ⟨y :: rest, he', by have := hl; simp at this ⊢; omega, y :: rest, fun d => d, fun d => .bl (natPart d).isSome, by simp, fun q hq => ⟨_, gg_name (by simp), ?_⟩, ?_⟩
        · have hfq := hf q (List.mem_cons_of_mem _ hq)
          walk_at "go"
          refine ⟨q, rfl, flat_ty hfq, isB_mk ?_⟩
          cases q with
          | bl i => cases hfq
          | net3 x y z => cases hfq
          | obj x y z => cases hfq
          | lst i => cases hfq
          | tup i => cases hfq
          | non => exact br_f rfl rfl
          | str i => exact br_f rfl rfl
          | int i =>
            refine br_t rfl ?_
            walk_at "go"
            show _ = Dat.bl (natPart (.int i)).isSome
            rw [natPart_int]
        walk_at "go"
        rw [show ((y :: rest).map fun d => Dat.bl (natPart d).isSome) = ((y :: rest).map fun d => (natPart d).isSome).map Dat.bl by rw [List.map_map]; rfl]
        refine rc_all ?_
        rw [natParts_all]
        walk_at "go"
        have dp : deedParts N (.str s :: y :: rest) = (match natParts (y :: rest) with
          | some ns => deedOf N s ns
          | none => none) := rfl
        rw [dp] at p
        cases hns : natParts (y :: rest) with
        | none =>
          rw [hns] at p
          walk_at "go"
          exact p
        | some ns =>
          rw [hns] at p
          replace p : Q (optD (deedOf N s ns)) := p
          walk_at "go"
          have er := natParts_of hns
          obtain ⟨n1, ns1, rfl⟩ : ∃ a b, ns = a :: b := by
            cases ns with
            | nil => cases er
            | cons a b => exact ⟨a, b, rfl⟩
          rw [List.map_cons] at er
          cases er
          have h8 := hN.c8
          refine rv_ixQ hq ix0 ?_
          walk_at "go"
          refine ⟨fun e1 => ?_, fun e1 => ?_⟩
          · have e2 : s = "lose" := of_decide_eq_true e1
            subst e2
            have q : ∀ ns, deedOf N "lose" ns = (match ns with
              | [c, k] => if lossy (chanK N c) = true ∧ c < N.chans.length then some (.lose c k) else none
              | _ => none) := fun ns => by unfold deedOf; rw [if_pos rfl] <;> rfl
            simp only [q] at p
            walk_at "go"
            refine ex_asg ?_
            walk_at "go"
            refine rc_lenQ hq ?_
            walk_at "go"
            match ns1, p, hq, hl with
            | [], p, hq, hl =>
              walk_at "go"
              exact p
            | k :: k2 :: r, p, hq, hl =>
              refine br_f (decide_eq_false (by simp; omega)) ?_
              walk_at "go"
              exact p
            | [k], p, hq, hl =>
              walk_at "go"
              refine rv_ixQ hq ix1 ?_
              walk_at "go"
              refine ev_fldC n.c n.h ?_
              walk_at "go"
              refine ⟨n1, _, rfl, isB_mk ?_⟩
              rw [List.length_map]
              by_cases hc : n1 < N.chans.length
              · rw [dec_nat hc]
                walk_at "go"
                refine rv_ixQ hq ix1 ?_
                walk_at "go"
                refine ⟨N, n1, rfl, hN, hc, ?_⟩
                walk_at "go"
                by_cases hlo : lossy (chanK N n1) = true
                · replace p : Q (optD (if lossy (chanK N n1) = true ∧ n1 < N.chans.length then some (.lose n1 k) else none)) := p
                  rw [if_pos ⟨hlo, hc⟩] at p
                  refine br_t hlo ?_
                  walk_at "go"
                  refine rc_tupQ hq ?_
                  exact p
                · replace p : Q (optD (if lossy (chanK N n1) = true ∧ n1 < N.chans.length then some (.lose n1 k) else none)) := p
                  rw [if_neg (fun z => hlo z.1)] at p
                  refine br_f (by simpa using hlo) ?_
                  walk_at "go"
                  exact p
              · replace p : Q (optD (if lossy (chanK N n1) = true ∧ n1 < N.chans.length then some (.lose n1 k) else none)) := p
                rw [if_neg (fun z => hc z.2)] at p
                rw [show decide (0 ≤ (n1 : Int) ∧ (n1 : Int) < (N.chans.length : Int)) = false from decide_eq_false (by omega)]
                walk_at "go"
                exact p
          · have e2 : s ≠ "lose" := of_decide_eq_false e1
            walk_at "go"
            refine rv_ixQ hq ix0 ?_
            walk_at "go"
            refine rv_niST (ns := ["act", "take"]) rfl ?_
            by_cases hs : s = "act" ∨ s = "take"
            · rw [show (!decide (s ∈ (["act", "take"] : List PySem.Str))) = false by rw [decide_eq_true (by simpa using hs)]; rfl]
              walk_at "go"
              refine rv_ixQ hq ix1 ?_
              walk_at "go"
              refine ev_fldR n.c n.r ?_
              walk_at "go"
              refine ⟨n1, _, rfl, isB_mk ?_⟩
              rw [List.length_map]
              by_cases hc : n1 < N.rules.length
              · rw [dec_nat hc]
                have hu := List.getElem?_eq_getElem hc
                generalize N.rules[n1] = u at hu
                walk_at "go"
                refine ex_asg ?_
                walk_at "go"
                refine ev_fldR n.c n.r ?_
                walk_at "go"
                refine rv_ixQ hq ix1 ?_
                walk_at "go"
                refine rv_ixT (ixmap hu) ?_
                walk_at "go"
                refine rv_act0 ?_
                walk_at "go"
                rw [actS_take]
                refine ex_asg ?_
                walk_at "go"
                refine rv_ixQ hq ix0 ?_
                walk_at "go"
                have fin : ∀ b, b = (u.act.isTake == decide (s = "take") && decide (ns1.length = (if u.act.isTake = true then 1 else 0))) → (b = true → Q (.tup (.str s :: encN n1 :: ns1.map encN))) ∧ (b = false → Q .non) := by
                  intro b hb
                  refine ⟨fun h => ?_, fun h => ?_⟩
                  · subst h
                    have hb' := hb.symm
                    rw [Bool.and_eq_true, beq_iff_eq, decide_eq_true_iff] at hb'
                    obtain ⟨D, h1, h2⟩ := deedOf_yes hs hu hb'.1 hb'.2
                    rw [h1] at p
                    rw [show (Dat.str s :: encN n1 :: ns1.map encN) = D.ds from h2.symm]
                    exact p
                  · subst h
                    rw [deedOf_no hs hu hb.symm] at p
                    exact p
                have fin2 : ∀ b, b = (u.act.isTake == decide (s = "take") && decide (ns1.length = (if u.act.isTake = true then 1 else 0))) → ∀ (δ : List Slot), δ[1]? = some (.val d) → (b = true → Ev C (tCB (rTupleOf K) (tCons (tVar 1) tNil)) δ fun d => RetP Q (Out.rt d)) ∧ (b = false → Ev C (tC .non) δ fun d => RetP Q (Out.rt d)) := by
                  intro b hb δ hδ
                  refine ⟨fun h => ?_, fun h => ?_⟩
                  · walk_at "go"
                    refine ev_var hδ ?_
                    walk_at "go"
                    exact rc_tupQ hq ((fin b hb).1 h)
                  · walk_at "go"
                    exact (fin b hb).2 h
                refine ⟨fun e3 => ?_, fun e3 => ?_⟩
                · walk_at "go"
                  refine rc_lenQ hq ?_
                  walk_at "go"
                  refine ⟨fun e4 => ?_, fun e4 => ?_⟩
                  · walk_at "go"
                    refine fin2 _ ?_ _ rfl
                    rw [e3, e4, Bool.true_and, if_pos rfl]
                    refine decide_eq_decide.mpr ?_
                    rw [List.length_cons, List.length_cons, List.length_map]
                    omega
                  · walk_at "go"
                    refine fin2 _ ?_ _ rfl
                    rw [e3, e4, Bool.true_and, if_neg (by decide)]
                    refine decide_eq_decide.mpr ?_
                    rw [List.length_cons, List.length_cons, List.length_map]
                    omega
                · walk_at "go"
                  exact (fin false (by rw [e3]; rfl)).2 rfl
              · rw [show decide (0 ≤ (n1 : Int) ∧ (n1 : Int) < (N.rules.length : Int)) = false from decide_eq_false (by omega)]
                walk_at "go"
                rw [deedOf_out hs (List.getElem?_eq_none (by omega))] at p
                exact p
            · rw [show (!decide (s ∈ (["act", "take"] : List PySem.Str))) = true by rw [decide_eq_false (by simpa using hs)]; rfl]
              walk_at "go"
              rw [deedOf_other e2 hs] at p
              exact p
  cases d with
  | lst ds => exact key ds (.inl rfl) hd.1 hd.2
  | tup ds => exact key ds (.inr rfl) hd.1 hd.2
  | non => walk_at "go"; refine isi2 rfl kb_nl kb_nt ?_; walk_at "go"; exact p
  | int i => walk_at "go"; refine isi2 rfl kb_il kb_it ?_; walk_at "go"; exact p
  | str i => walk_at "go"; refine isi2 rfl kb_sl kb_st ?_; walk_at "go"; exact p
  | bl i => cases hd
  | net3 x y z => cases hd
  | obj x y z => cases hd
end
end Dl


namespace Dl
open PySem L2 PyProof.Rows
section
variable {P : Program} {w : World} {K : PySem.W.Frag} {mg : PySem.Str → Option Value} {base : Heap} {C CB CU fI kinds : Addr}
/-! ### _law_mixed: 0 _law_number, 1 _law_turn, 2 _law_many, 3 _law_prime, 4 _law_once, 5 _law_twice -/
abbrev s__law_mixed : Stmt := topS 37
abbrev n__law_mixed : List PySem.Str := ["_law_number", "_law_turn", "_law_many", "_law_prime", "_law_once", "_law_twice"]
theorem sc__law_mixed : FnScope n__law_mixed ["_law_number", "_law_turn", "_law_many"] (defScope s__law_mixed) := ⟨rfl, rfl, rfl, by decide +kernel, rfl, by decide +kernel, by decide +kernel⟩
def t__law_mixed (K : PySem.W.Frag) (C CB kinds : Addr) : TS := (tSeq (tAsg (tC (.int 2305843009213693951)) (gName 3))
    (tSeq (tAsg (tOp rModI (tCB rInt1 (tCons (tOp rAddI (tOp rAddI (tOp rMulI (tVar 0) (tC (.int 48271))) (tOp rMulI (tVar 1) (tC (.int 1000000000039)))) (tC (.int 12345678910111213))) tNil)) (tVar 3)) (gName 4))
    (tSeq (tAsg (tOp rModI (tOp rMulI (tCB rInt1 (tCons (tOp rAddI (tOp rMulI (tVar 4) (tVar 4)) (tVar 1)) tNil)) (tC (.int 7046029254386353))) (tVar 3)) (gName 5))
    (tRet (tOp rModI (tOp rDivI (tVar 5) (tC (.int 8))) (tVar 2))))))
theorem d__law_mixed (T : Bt K mg C kinds) {f : Addr} {cdv : Value} {A : Around} {outer : List Env} {s : Shared} {H : Hp} {E : XK} (hr : Room 0 (A.deeper (envOfC "_law_mixed" (defScope s__law_mixed) s.heap.objs.size f cdv))) :
  PSs (cxOf CX0 P w K mg base n__law_mixed "_law_mixed" (defScope s__law_mixed) f cdv A outer s H E).nox (defBody s__law_mixed) (t__law_mixed K C CB kinds ) :=
  (pss_cons (ps_set (i := 3) sc__law_mixed.nd rfl (by first | exact Or.inl rfl | exact Or.inr rfl) pe_int)
    (pss_cons (ps_set (i := 4) sc__law_mixed.nd rfl (by first | exact Or.inl rfl | exact Or.inr rfl) (pe_op op_mod (pe_callTy call_int1 (by rfl) T.b_int (by decide +kernel) (pa_cons (pe_op op_add (pe_op op_add (pe_op op_mul (pv 0) pe_int) (pe_op op_mul (pv 1) pe_int)) pe_int) pa_nil)) (pv 3)))
    (pss_cons (ps_set (i := 5) sc__law_mixed.nd rfl (by first | exact Or.inl rfl | exact Or.inr rfl) (pe_op op_mod (pe_op op_mul (pe_callTy call_int1 (by rfl) T.b_int (by decide +kernel) (pa_cons (pe_op op_add (pe_op op_mul (pv 4) (pv 4)) (pv 1)) pa_nil)) pe_int) (pv 3)))
    (pss_one (ps_ret (pe_op op_mod (pe_op op_fdiv (pv 5) pe_int) (pv 2)))))))

/-! ### _law_names: 0 _law_pool_here, 1 _law_many, 2 _law_letters, 3 _law_names_here, 4 _law_k, 5 _law_size, 6 _law_name, 7 _law_j, 8 _law_others, 9 _law_letter, 10 _law_other -/
abbrev s__law_names : Stmt := topS 40
abbrev n__law_names : List PySem.Str := ["_law_pool_here", "_law_many", "_law_letters", "_law_names_here", "_law_k", "_law_size", "_law_name", "_law_j", "_law_others", "_law_letter", "_law_other"]
theorem sc__law_names : FnScope n__law_names ["_law_pool_here", "_law_many"] (defScope s__law_names) := ⟨rfl, rfl, rfl, by decide +kernel, rfl, by decide +kernel, by decide +kernel⟩
def t__law_names (K : PySem.W.Frag) (C CB kinds : Addr) : TS := (tSeq (tAsg (tC (.str "abcdefghijklmnopqrstuvwxyz")) (gName 2))
    (tSeq (tAsg (tLst tNil) (gName 3))
    (tSeq (tFor (iRng1 (tCons (tVar 1) tNil)) (gName 4) (tSeq (tAsg (tOp (rIx K) (tLst (tCons (tC (.int 1)) (tCons (tC (.int 1)) (tCons (tC (.int 2)) (tCons (tOp rAddI (tC (.int 1)) (tCall (spS C pre__law_take) [] E0 (tCons (tVar 0) (tCons (tC (.int 6)) tNil)))) tNil))))) (tCall (spS C pre__law_take) [] E0 (tCons (tVar 0) (tCons (tC (.int 4)) tNil)))) (gName 5))
    (tSeq (tAsg (tM1 (rJoin K) (tC (.str "")) (tLc (iRng1 (tCons (tVar 5) tNil)) (gName 7) tYes (tOp (rIx K) (tVar 2) (tCall (spS C pre__law_take) [] E0 (tCons (tVar 0) (tCons (tC (.int 26)) tNil)))) [7])) (gName 6))
    (tSeq (tIfS (tTest (tOp (rIn K false) (tVar 6) (tVar 3))) (tSeq (tAsg (tLc (iStr (tC (.str "abcdefgh"))) (gName 9) tYes (tOp rAddS (tC (.str "qqqqq")) (tVar 9)) [9]) (gName 8))
    (tAsg (tOp (rIx K) (tLc (iSeq K (tVar 8)) (gName 10) (tTest (tOp (rIn K true) (tVar 10) (tVar 3))) (tVar 10) [10]) (tC (.int 0))) (gName 6))) tNext)
    (tDrop (tBM K "list" rAppend (tVar 3) (tCons (tVar 6) tNil)))))))
    (tRet (tVar 3)))))
theorem d__law_names (T : Bt K mg C kinds) {f__law_take : Addr} {fd__law_take : FuncData} (c__law_take : Cal K mg "_law_take" f__law_take fd__law_take ["_law_pool_here", "_law_many"]) (G__law_take : FnOk P w K mg base CX0 2 f__law_take fd__law_take ["_law_pool_here", "_law_many"] (spS C pre__law_take)) {f : Addr} {cdv : Value} {A : Around} {outer : List Env} {s : Shared} {H : Hp} {E : XK} (hr : Room 2 (A.deeper (envOfC "_law_names" (defScope s__law_names) s.heap.objs.size f cdv))) :
  PSs (cxOf CX0 P w K mg base n__law_names "_law_names" (defScope s__law_names) f cdv A outer s H E).nox (defBody s__law_names) (t__law_names K C CB kinds ) :=
  (pss_cons (ps_set (i := 2) sc__law_names.nd rfl (by first | exact Or.inl rfl | exact Or.inr rfl) pe_str)
    (pss_cons (ps_set (i := 3) sc__law_names.nd rfl (by first | exact Or.inl rfl | exact Or.inr rfl) (pe_lst pa_nil))
    (pss_cons (ps_for PassesOwn.never rfl (pi_range1 rfl T.b_range (pa_cons (pv 1) pa_nil)) (pg_name (i := 4) sc__law_names.nd rfl (by first | exact Or.inl rfl | exact Or.inr rfl)) (pss_cons (ps_set (i := 5) sc__law_names.nd rfl (by first | exact Or.inl rfl | exact Or.inr rfl) (pe_ix ix_seq (pe_lst (pa_cons pe_int (pa_cons pe_int (pa_cons pe_int (pa_cons (pe_op op_add pe_int (pe_call G__law_take (hr.mono (by decide)) rfl c__law_take.gl c__law_take.kp c__law_take.bd .nil pass0 (pa_cons (pv 0) (pa_cons pe_int pa_nil)))) pa_nil))))) (pe_call G__law_take (hr.mono (by decide)) rfl c__law_take.gl c__law_take.kp c__law_take.bd .nil pass0 (pa_cons (pv 0) (pa_cons pe_int pa_nil))) (fun _ _ => rfl)))
    (pss_cons (ps_set (i := 6) sc__law_names.nd rfl (by first | exact Or.inl rfl | exact Or.inr rfl) (pe_join pe_str (pe_lc (own := [("_law_j", 7)]) (g := (gName 7)) (tt := tYes) (te := (tOp (rIx K) (tVar 2) (tCall (spS C pre__law_take) [] E0 (tCons (tVar 0) (tCons (tC (.int 26)) tNil))))) rfl sc__law_names.nd (pi_range1 rfl T.b_range (pa_cons (pv 5) pa_nil)) (blkOk_by (own := [("_law_j", 7)]) (N := n__law_names) (sc := defScope s__law_names) (by decide +kernel)) (fun _ _ _ _ _ => (pg_name (i := 7) sc__law_names.nd rfl (by first | exact Or.inl rfl | exact Or.inr rfl))) (fun _ _ _ _ _ => pts_nil) (fun _ _ _ _ _ => (pe_ix ix_seq (pv 2) (pe_call G__law_take (hr.mono (by decide)) rfl c__law_take.gl c__law_take.kp c__law_take.bd .nil pass0 (pa_cons (pv 0) (pa_cons pe_int pa_nil))) (fun _ _ => rfl))))))
    (pss_cons (ps_if (pt_cmpR op_in_seq (pv 6) (pv 3) (by rfl)) (pss_cons (ps_setLc (i := 8) (own := [("_law_letter", 9)]) (g := (gName 9)) (tt := tYes) (te := (tOp rAddS (tC (.str "qqqqq")) (tVar 9))) rfl sc__law_names.nd rfl rfl (sw_true rfl rfl rfl (by decide +kernel)) (pi_str pe_str) (blkOk_by (own := [("_law_letter", 9)]) (N := n__law_names) (sc := defScope s__law_names) (by decide +kernel)) (fun _ _ _ _ _ => (pg_name (i := 9) sc__law_names.nd rfl (by first | exact Or.inl rfl | exact Or.inr rfl))) (fun _ _ _ _ _ => pts_nil) (fun _ _ _ _ _ => (pe_op op_add_str pe_str (pv 9))))
    (pss_one (ps_set (i := 6) sc__law_names.nd rfl (by first | exact Or.inl rfl | exact Or.inr rfl) (pe_ix ix_seq (pe_lc (own := [("_law_other", 10)]) (g := (gName 10)) (tt := (tTest (tOp (rIn K true) (tVar 10) (tVar 3)))) (te := (tVar 10)) rfl sc__law_names.nd (pi_seq (pv 8)) (blkOk_by (own := [("_law_other", 10)]) (N := n__law_names) (sc := defScope s__law_names) (by decide +kernel)) (fun _ _ _ _ _ => (pg_name (i := 10) sc__law_names.nd rfl (by first | exact Or.inl rfl | exact Or.inr rfl))) (fun _ _ _ _ _ => pts_one (pt_cmpR op_notIn_seq (pv 10) (pv 3) (by rfl))) (fun _ _ _ _ _ => (pv 10))) pe_int (fun _ _ => rfl))))) pss_nil)
    (pss_one (ps_expr (pe_bm PySem.F.plainAttrs_list PySem.F.slot_list_append PySem.F.type_list_append mt_append (pv 3) (pa_cons (pv 6) pa_nil))))))))
    (pss_one (ps_ret (pv 3))))))

/-! ### _law_rule: 0 _law_pool_here, 1 _law_processes, 2 _law_channels, 3 _law_way, 4 _law_token, 5 _law_process, 6 _law_act, 7 _law_c, 8 _law_states -/
abbrev s__law_rule : Stmt := topS 41
abbrev n__law_rule : List PySem.Str := ["_law_pool_here", "_law_processes", "_law_channels", "_law_way", "_law_token", "_law_process", "_law_act", "_law_c", "_law_states"]
theorem sc__law_rule : FnScope n__law_rule ["_law_pool_here", "_law_processes", "_law_channels"] (defScope s__law_rule) := ⟨rfl, rfl, rfl, by decide +kernel, rfl, by decide +kernel, by decide +kernel⟩
def t__law_rule (K : PySem.W.Frag) (C CB kinds : Addr) : TS := (tSeq (tAsg (tCall (spS C pre__law_take) [] E0 (tCons (tVar 0) (tCons (tC (.int 6)) tNil))) (gName 3))
    (tSeq (tAsg (tOp (rIx K) (tLst (tCons (tC (.int 0)) (tCons (tC (.int 0)) (tCons (tC (.int 1)) (tCons (tCall (spS C pre__law_take) [] E0 (tCons (tVar 0) (tCons (tC (.int 10)) tNil))) tNil))))) (tCall (spS C pre__law_take) [] E0 (tCons (tVar 0) (tCons (tC (.int 4)) tNil)))) (gName 4))
    (tSeq (tAsg (tCall (spS C pre__law_take) [] E0 (tCons (tVar 0) (tCons (tCB (rLenV K) (tCons (tVar 1) tNil)) tNil))) (gName 5))
    (tSeq (tAsg (tTup (tCons (tC (.str "do")) tNil)) (gName 6))
    (tSeq (tIfS (tAnd (tTest (tOp rGtI (tVar 3) (tC (.int 0)))) (tTest (tOp rGtI (tCB (rLenV K) (tCons (tVar 2) tNil)) (tC (.int 0))))) (tSeq (tAsg (tCall (spS C pre__law_take) [] E0 (tCons (tVar 0) (tCons (tCB (rLenV K) (tCons (tVar 2) tNil)) tNil))) (gName 7))
    (tSeq (tAsg (tOp (rIx K) (tOp (rIx K) (tVar 2) (tVar 7)) (tOp rAddI (tC (.int 1)) (tCB rInt1 (tCons (tOp rGtI (tVar 3) (tC (.int 2))) tNil)))) (gName 5))
    (tAsg (tTup (tCons (tOp (rIx K) (tLst (tCons (tC (.str "send")) (tCons (tC (.str "take")) tNil))) (tCB rInt1 (tCons (tOp rGtI (tVar 3) (tC (.int 2))) tNil))) (tCons (tVar 7) (tCons (tVar 4) tNil)))) (gName 6)))) tNext)
    (tSeq (tAsg (tOp (rIx K) (tOp (rIx K) (tVar 1) (tVar 5)) (tC (.int 1))) (gName 8))
    (tRet (tTup (tCons (tVar 5) (tCons (tCall (spS C pre__law_take) [] E0 (tCons (tVar 0) (tCons (tVar 8) tNil))) (tCons (tVar 6) (tCons (tCall (spS C pre__law_take) [] E0 (tCons (tVar 0) (tCons (tVar 8) tNil))) tNil))))))))))))
theorem d__law_rule (T : Bt K mg C kinds) {f__law_take : Addr} {fd__law_take : FuncData} (c__law_take : Cal K mg "_law_take" f__law_take fd__law_take ["_law_pool_here", "_law_many"]) (G__law_take : FnOk P w K mg base CX0 2 f__law_take fd__law_take ["_law_pool_here", "_law_many"] (spS C pre__law_take)) {f : Addr} {cdv : Value} {A : Around} {outer : List Env} {s : Shared} {H : Hp} {E : XK} (hr : Room 2 (A.deeper (envOfC "_law_rule" (defScope s__law_rule) s.heap.objs.size f cdv))) :
  PSs (cxOf CX0 P w K mg base n__law_rule "_law_rule" (defScope s__law_rule) f cdv A outer s H E).nox (defBody s__law_rule) (t__law_rule K C CB kinds ) :=
  (pss_cons (ps_set (i := 3) sc__law_rule.nd rfl (by first | exact Or.inl rfl | exact Or.inr rfl) (pe_call G__law_take (hr.mono (by decide)) rfl c__law_take.gl c__law_take.kp c__law_take.bd .nil pass0 (pa_cons (pv 0) (pa_cons pe_int pa_nil))))
    (pss_cons (ps_set (i := 4) sc__law_rule.nd rfl (by first | exact Or.inl rfl | exact Or.inr rfl) (pe_ix ix_seq (pe_lst (pa_cons pe_int (pa_cons pe_int (pa_cons pe_int (pa_cons (pe_call G__law_take (hr.mono (by decide)) rfl c__law_take.gl c__law_take.kp c__law_take.bd .nil pass0 (pa_cons (pv 0) (pa_cons pe_int pa_nil))) pa_nil))))) (pe_call G__law_take (hr.mono (by decide)) rfl c__law_take.gl c__law_take.kp c__law_take.bd .nil pass0 (pa_cons (pv 0) (pa_cons pe_int pa_nil))) (fun _ _ => rfl)))
    (pss_cons (ps_set (i := 5) sc__law_rule.nd rfl (by first | exact Or.inl rfl | exact Or.inr rfl) (pe_call G__law_take (hr.mono (by decide)) rfl c__law_take.gl c__law_take.kp c__law_take.bd .nil pass0 (pa_cons (pv 0) (pa_cons (pe_callB call_len (by rfl) T.b_len (by decide +kernel) (pa_cons (pv 1) pa_nil)) pa_nil))))
    (pss_cons (ps_set (i := 6) sc__law_rule.nd rfl (by first | exact Or.inl rfl | exact Or.inr rfl) (pe_tup (pa_cons pe_str pa_nil)))
    (pss_cons (ps_if (PW.pt (pw_and (pt_cmpR op_gt (pv 3) pe_int (nomark _)) (pw_and1 (pt_cmpR op_gt (pe_callB call_len (by rfl) T.b_len (by decide +kernel) (pa_cons (pv 2) pa_nil)) pe_int (nomark _))))) (pss_cons (ps_set (i := 7) sc__law_rule.nd rfl (by first | exact Or.inl rfl | exact Or.inr rfl) (pe_call G__law_take (hr.mono (by decide)) rfl c__law_take.gl c__law_take.kp c__law_take.bd .nil pass0 (pa_cons (pv 0) (pa_cons (pe_callB call_len (by rfl) T.b_len (by decide +kernel) (pa_cons (pv 2) pa_nil)) pa_nil))))
    (pss_cons (ps_set (i := 5) sc__law_rule.nd rfl (by first | exact Or.inl rfl | exact Or.inr rfl) (pe_ix ix_seq (pe_ix ix_seq (pv 2) (pv 7) (fun _ _ => rfl)) (pe_op op_add pe_int (pe_callTy call_int1 (by rfl) T.b_int (by decide +kernel) (pa_cons (pe_cmpR op_gt (pv 3) pe_int (nomark _)) pa_nil))) (fun _ _ => rfl)))
    (pss_one (ps_set (i := 6) sc__law_rule.nd rfl (by first | exact Or.inl rfl | exact Or.inr rfl) (pe_tup (pa_cons (pe_ix ix_seq (pe_lst (pa_cons pe_str (pa_cons pe_str pa_nil))) (pe_callTy call_int1 (by rfl) T.b_int (by decide +kernel) (pa_cons (pe_cmpR op_gt (pv 3) pe_int (nomark _)) pa_nil)) (fun _ _ => rfl)) (pa_cons (pv 7) (pa_cons (pv 4) pa_nil)))))))) pss_nil)
    (pss_cons (ps_set (i := 8) sc__law_rule.nd rfl (by first | exact Or.inl rfl | exact Or.inr rfl) (pe_ix ix_seq (pe_ix ix_seq (pv 1) (pv 5) (fun _ _ => rfl)) pe_int (fun _ _ => rfl)))
    (pss_one (ps_ret (pe_tup (pa_cons (pv 5) (pa_cons (pe_call G__law_take (hr.mono (by decide)) rfl c__law_take.gl c__law_take.kp c__law_take.bd .nil pass0 (pa_cons (pv 0) (pa_cons (pv 8) pa_nil))) (pa_cons (pv 6) (pa_cons (pe_call G__law_take (hr.mono (by decide)) rfl c__law_take.gl c__law_take.kp c__law_take.bd .nil pass0 (pa_cons (pv 0) (pa_cons (pv 8) pa_nil))) pa_nil)))))))))))))

/-! ### _law_net: 0 _law_pool_here, 1 _law_many, 2 _law_processes, 3 _law_name, 4 _law_kinds, 5 _law_channels, 6 _law_giver, 7 _law_taker, 8 _law_rules, 9 _law_c, 10 _law_states, 11 _law_k -/
abbrev s__law_net : Stmt := topS 42
abbrev n__law_net : List PySem.Str := ["_law_pool_here", "_law_many", "_law_processes", "_law_name", "_law_kinds", "_law_channels", "_law_giver", "_law_taker", "_law_rules", "_law_c", "_law_states", "_law_k"]
theorem sc__law_net : FnScope n__law_net ["_law_pool_here"] (defScope s__law_net) := ⟨rfl, rfl, rfl, by decide +kernel, rfl, by decide +kernel, by decide +kernel⟩
def t__law_net (K : PySem.W.Frag) (C CB kinds : Addr) : TS := (tSeq (tAsg (tOp (rIx K) (tLst (tCons (tC (.int 2)) (tCons (tC (.int 3)) (tCons (tC (.int 2)) (tCons (tC (.int 3)) (tCons (tC (.int 1)) (tCons (tOp rAddI (tC (.int 2)) (tCall (spS C pre__law_take) [] E0 (tCons (tVar 0) (tCons (tC (.int 4)) tNil)))) tNil))))))) (tCall (spS C pre__law_take) [] E0 (tCons (tVar 0) (tCons (tC (.int 6)) tNil)))) (gName 1))
    (tSeq (tAsg (tLc (iSeq K (tCall (spS C pre__law_names) [] E0 (tCons (tVar 0) (tCons (tVar 1) tNil)))) (gName 3) tYes (tTup (tCons (tVar 3) (tCons (tOp (rIx K) (tLst (tCons (tC (.int 1)) (tCons (tC (.int 2)) (tCons (tC (.int 3)) (tCons (tC (.int 2)) (tCons (tOp rAddI (tC (.int 1)) (tCall (spS C pre__law_take) [] E0 (tCons (tVar 0) (tCons (tC (.int 8)) tNil)))) tNil)))))) (tCall (spS C pre__law_take) [] E0 (tCons (tVar 0) (tCons (tC (.int 5)) tNil)))) tNil))) [3]) (gName 2))
    (tSeq (tAsg (tLst (tCons (tC (.str "order")) (tCons (tC (.str "loose")) (tCons (tC (.str "order lossy")) (tCons (tC (.str "loose lossy")) tNil))))) (gName 4))
    (tSeq (tAsg (tLst tNil) (gName 5))
    (tSeq (tFor (iSeq K (tCall (spS C pre__law_names) [] E0 (tCons (tVar 0) (tCons (tOp rMulI (tOp (rIx K) (tLst (tCons (tC (.int 1)) (tCons (tC (.int 2)) (tCons (tC (.int 3)) (tCons (tCall (spS C pre__law_take) [] E0 (tCons (tVar 0) (tCons (tC (.int 9)) tNil))) tNil))))) (tCall (spS C pre__law_take) [] E0 (tCons (tVar 0) (tCons (tC (.int 4)) tNil)))) (tCB rInt1 (tCons (tOp rGtI (tVar 1) (tC (.int 1))) tNil))) tNil)))) (gName 3) (tSeq (tAsg (tCall (spS C pre__law_take) [] E0 (tCons (tVar 0) (tCons (tVar 1) tNil))) (gName 6))
    (tSeq (tAsg (tOp rModI (tCB rInt1 (tCons (tOp rAddI (tOp rAddI (tVar 6) (tC (.int 1))) (tCall (spS C pre__law_take) [] E0 (tCons (tVar 0) (tCons (tOp rSubI (tVar 1) (tC (.int 1))) tNil)))) tNil)) (tVar 1)) (gName 7))
    (tDrop (tBM K "list" rAppend (tVar 5) (tCons (tTup (tCons (tVar 3) (tCons (tVar 6) (tCons (tVar 7) (tCons (tOp (rIx K) (tVar 4) (tCall (spS C pre__law_take) [] E0 (tCons (tVar 0) (tCons (tC (.int 4)) tNil)))) tNil))))) tNil))))))
    (tSeq (tAsg (tLst tNil) (gName 8))
    (tSeq (tFor (iRng1 (tCons (tCB (rLenV K) (tCons (tVar 5) tNil)) tNil)) (gName 9) (tSeq (tAsg (tOp (rIx K) (tOp (rIx K) (tVar 2) (tOp (rIx K) (tOp (rIx K) (tVar 5) (tVar 9)) (tC (.int 1)))) (tC (.int 1))) (gName 10))
    (tDrop (tBM K "list" rAppend (tVar 8) (tCons (tTup (tCons (tOp (rIx K) (tOp (rIx K) (tVar 5) (tVar 9)) (tC (.int 1))) (tCons (tC (.int 0)) (tCons (tTup (tCons (tC (.str "send")) (tCons (tVar 9) (tCons (tC (.int 0)) tNil)))) (tCons (tCall (spS C pre__law_take) [] E0 (tCons (tVar 0) (tCons (tVar 10) tNil))) tNil))))) tNil)))))
    (tSeq (tFor (iRng1 (tCons (tOp rAddI (tC (.int 4)) (tCall (spS C pre__law_take) [] E0 (tCons (tVar 0) (tCons (tC (.int 12)) tNil)))) tNil)) (gName 11) (tDrop (tBM K "list" rAppend (tVar 8) (tCons (tCall (spS C pre__law_rule) [] E0 (tCons (tVar 0) (tCons (tVar 2) (tCons (tVar 5) tNil)))) tNil))))
    (tRet (tDisp [((tC (.str "processes")), (tVar 2)), ((tC (.str "channels")), (tVar 5)), ((tC (.str "rules")), (tVar 8))]))))))))))
theorem d__law_net (T : Bt K mg C kinds) {f__law_take : Addr} {fd__law_take : FuncData} (c__law_take : Cal K mg "_law_take" f__law_take fd__law_take ["_law_pool_here", "_law_many"]) (G__law_take : FnOk P w K mg base CX0 2 f__law_take fd__law_take ["_law_pool_here", "_law_many"] (spS C pre__law_take)) {f__law_names : Addr} {fd__law_names : FuncData} (c__law_names : Cal K mg "_law_names" f__law_names fd__law_names ["_law_pool_here", "_law_many"]) (G__law_names : FnOk P w K mg base CX0 3 f__law_names fd__law_names ["_law_pool_here", "_law_many"] (spS C pre__law_names)) {f__law_rule : Addr} {fd__law_rule : FuncData} (c__law_rule : Cal K mg "_law_rule" f__law_rule fd__law_rule ["_law_pool_here", "_law_processes", "_law_channels"]) (G__law_rule : FnOk P w K mg base CX0 3 f__law_rule fd__law_rule ["_law_pool_here", "_law_processes", "_law_channels"] (spS C pre__law_rule)) {f : Addr} {cdv : Value} {A : Around} {outer : List Env} {s : Shared} {H : Hp} {E : XK} (hr : Room 3 (A.deeper (envOfC "_law_net" (defScope s__law_net) s.heap.objs.size f cdv))) :
  PSs (cxOf CX0 P w K mg base n__law_net "_law_net" (defScope s__law_net) f cdv A outer s H E).nox (defBody s__law_net) (t__law_net K C CB kinds ) :=
  (pss_cons (ps_set (i := 1) sc__law_net.nd rfl (by first | exact Or.inl rfl | exact Or.inr rfl) (pe_ix ix_seq (pe_lst (pa_cons pe_int (pa_cons pe_int (pa_cons pe_int (pa_cons pe_int (pa_cons pe_int (pa_cons (pe_op op_add pe_int (pe_call G__law_take (hr.mono (by decide)) rfl c__law_take.gl c__law_take.kp c__law_take.bd .nil pass0 (pa_cons (pv 0) (pa_cons pe_int pa_nil)))) pa_nil))))))) (pe_call G__law_take (hr.mono (by decide)) rfl c__law_take.gl c__law_take.kp c__law_take.bd .nil pass0 (pa_cons (pv 0) (pa_cons pe_int pa_nil))) (fun _ _ => rfl)))
    (pss_cons (ps_setLc (i := 2) (own := [("_law_name", 3)]) (g := (gName 3)) (tt := tYes) (te := (tTup (tCons (tVar 3) (tCons (tOp (rIx K) (tLst (tCons (tC (.int 1)) (tCons (tC (.int 2)) (tCons (tC (.int 3)) (tCons (tC (.int 2)) (tCons (tOp rAddI (tC (.int 1)) (tCall (spS C pre__law_take) [] E0 (tCons (tVar 0) (tCons (tC (.int 8)) tNil)))) tNil)))))) (tCall (spS C pre__law_take) [] E0 (tCons (tVar 0) (tCons (tC (.int 5)) tNil)))) tNil)))) rfl sc__law_net.nd rfl rfl (sw_true rfl rfl rfl (by decide +kernel)) (pi_seq (pe_call G__law_names (hr.mono (by decide)) rfl c__law_names.gl c__law_names.kp c__law_names.bd .nil pass0 (pa_cons (pv 0) (pa_cons (pv 1) pa_nil)))) (blkOk_by (own := [("_law_name", 3)]) (N := n__law_net) (sc := defScope s__law_net) (by decide +kernel)) (fun _ _ _ _ _ => (pg_name (i := 3) sc__law_net.nd rfl (by first | exact Or.inl rfl | exact Or.inr rfl))) (fun _ _ _ _ _ => pts_nil) (fun _ _ _ _ _ => (pe_tup (pa_cons (pv 3) (pa_cons (pe_ix ix_seq (pe_lst (pa_cons pe_int (pa_cons pe_int (pa_cons pe_int (pa_cons pe_int (pa_cons (pe_op op_add pe_int (pe_call G__law_take (hr.mono (by decide)) rfl c__law_take.gl c__law_take.kp c__law_take.bd .nil pass0 (pa_cons (pv 0) (pa_cons pe_int pa_nil)))) pa_nil)))))) (pe_call G__law_take (hr.mono (by decide)) rfl c__law_take.gl c__law_take.kp c__law_take.bd .nil pass0 (pa_cons (pv 0) (pa_cons pe_int pa_nil))) (fun _ _ => rfl)) pa_nil)))))
    (pss_cons (ps_set (i := 4) sc__law_net.nd rfl (by first | exact Or.inl rfl | exact Or.inr rfl) (pe_lst (pa_cons pe_str (pa_cons pe_str (pa_cons pe_str (pa_cons pe_str pa_nil))))))
    (pss_cons (ps_set (i := 5) sc__law_net.nd rfl (by first | exact Or.inl rfl | exact Or.inr rfl) (pe_lst pa_nil))
    (pss_cons (ps_for PassesOwn.never rfl (pi_seq (pe_call G__law_names (hr.mono (by decide)) rfl c__law_names.gl c__law_names.kp c__law_names.bd .nil pass0 (pa_cons (pv 0) (pa_cons (pe_op op_mul (pe_ix ix_seq (pe_lst (pa_cons pe_int (pa_cons pe_int (pa_cons pe_int (pa_cons (pe_call G__law_take (hr.mono (by decide)) rfl c__law_take.gl c__law_take.kp c__law_take.bd .nil pass0 (pa_cons (pv 0) (pa_cons pe_int pa_nil))) pa_nil))))) (pe_call G__law_take (hr.mono (by decide)) rfl c__law_take.gl c__law_take.kp c__law_take.bd .nil pass0 (pa_cons (pv 0) (pa_cons pe_int pa_nil))) (fun _ _ => rfl)) (pe_callTy call_int1 (by rfl) T.b_int (by decide +kernel) (pa_cons (pe_cmpR op_gt (pv 1) pe_int (nomark _)) pa_nil))) pa_nil)))) (pg_name (i := 3) sc__law_net.nd rfl (by first | exact Or.inl rfl | exact Or.inr rfl)) (pss_cons (ps_set (i := 6) sc__law_net.nd rfl (by first | exact Or.inl rfl | exact Or.inr rfl) (pe_call G__law_take (hr.mono (by decide)) rfl c__law_take.gl c__law_take.kp c__law_take.bd .nil pass0 (pa_cons (pv 0) (pa_cons (pv 1) pa_nil))))
    (pss_cons (ps_set (i := 7) sc__law_net.nd rfl (by first | exact Or.inl rfl | exact Or.inr rfl) (pe_op op_mod (pe_callTy call_int1 (by rfl) T.b_int (by decide +kernel) (pa_cons (pe_op op_add (pe_op op_add (pv 6) pe_int) (pe_call G__law_take (hr.mono (by decide)) rfl c__law_take.gl c__law_take.kp c__law_take.bd .nil pass0 (pa_cons (pv 0) (pa_cons (pe_op op_sub (pv 1) pe_int) pa_nil)))) pa_nil)) (pv 1)))
    (pss_one (ps_expr (pe_bm PySem.F.plainAttrs_list PySem.F.slot_list_append PySem.F.type_list_append mt_append (pv 5) (pa_cons (pe_tup (pa_cons (pv 3) (pa_cons (pv 6) (pa_cons (pv 7) (pa_cons (pe_ix ix_seq (pv 4) (pe_call G__law_take (hr.mono (by decide)) rfl c__law_take.gl c__law_take.kp c__law_take.bd .nil pass0 (pa_cons (pv 0) (pa_cons pe_int pa_nil))) (fun _ _ => rfl)) pa_nil))))) pa_nil)))))))
    (pss_cons (ps_set (i := 8) sc__law_net.nd rfl (by first | exact Or.inl rfl | exact Or.inr rfl) (pe_lst pa_nil))
    (pss_cons (ps_for PassesOwn.never rfl (pi_range1 rfl T.b_range (pa_cons (pe_callB call_len (by rfl) T.b_len (by decide +kernel) (pa_cons (pv 5) pa_nil)) pa_nil)) (pg_name (i := 9) sc__law_net.nd rfl (by first | exact Or.inl rfl | exact Or.inr rfl)) (pss_cons (ps_set (i := 10) sc__law_net.nd rfl (by first | exact Or.inl rfl | exact Or.inr rfl) (pe_ix ix_seq (pe_ix ix_seq (pv 2) (pe_ix ix_seq (pe_ix ix_seq (pv 5) (pv 9) (fun _ _ => rfl)) pe_int (fun _ _ => rfl)) (fun _ _ => rfl)) pe_int (fun _ _ => rfl)))
    (pss_one (ps_expr (pe_bm PySem.F.plainAttrs_list PySem.F.slot_list_append PySem.F.type_list_append mt_append (pv 8) (pa_cons (pe_tup (pa_cons (pe_ix ix_seq (pe_ix ix_seq (pv 5) (pv 9) (fun _ _ => rfl)) pe_int (fun _ _ => rfl)) (pa_cons pe_int (pa_cons (pe_tup (pa_cons pe_str (pa_cons (pv 9) (pa_cons pe_int pa_nil)))) (pa_cons (pe_call G__law_take (hr.mono (by decide)) rfl c__law_take.gl c__law_take.kp c__law_take.bd .nil pass0 (pa_cons (pv 0) (pa_cons (pv 10) pa_nil))) pa_nil))))) pa_nil))))))
    (pss_cons (ps_for PassesOwn.never rfl (pi_range1 rfl T.b_range (pa_cons (pe_op op_add pe_int (pe_call G__law_take (hr.mono (by decide)) rfl c__law_take.gl c__law_take.kp c__law_take.bd .nil pass0 (pa_cons (pv 0) (pa_cons pe_int pa_nil)))) pa_nil)) (pg_name (i := 11) sc__law_net.nd rfl (by first | exact Or.inl rfl | exact Or.inr rfl)) (pss_one (ps_expr (pe_bm PySem.F.plainAttrs_list PySem.F.slot_list_append PySem.F.type_list_append mt_append (pv 8) (pa_cons (pe_call G__law_rule (hr.mono (by decide)) rfl c__law_rule.gl c__law_rule.kp c__law_rule.bd .nil pass0 (pa_cons (pv 0) (pa_cons (pv 2) (pa_cons (pv 5) pa_nil)))) pa_nil)))))
    (pss_one (ps_ret (pe_disp (pps_cons pe_str (pv 2) (pps_cons pe_str (pv 5) (pps_cons pe_str (pv 8) pps_nil))) (by rfl) (by rfl) (fun z => by cases z) (by decide))))))))))))

/-! ### _law_start: 0 _law_net_here, 1 _law_process, 2 _law_c -/
abbrev s__law_start : Stmt := topS 44
abbrev n__law_start : List PySem.Str := ["_law_net_here", "_law_process", "_law_c"]
theorem sc__law_start : FnScope n__law_start ["_law_net_here"] (defScope s__law_start) := ⟨rfl, rfl, rfl, by decide +kernel, rfl, by decide +kernel, by decide +kernel⟩
def t__law_start (K : PySem.W.Frag) (C CB kinds : Addr) : TS := (tRet (tTup (tCons (tLc (iSeq K (tDGet (tVar 0) (tC (.str "processes")))) (gName 1) tYes (tC (.int 0)) [1]) (tCons (tLc (iSeq K (tDGet (tVar 0) (tC (.str "channels")))) (gName 2) tYes (tC (.int 0)) [2]) (tCons (tLc (iSeq K (tDGet (tVar 0) (tC (.str "channels")))) (gName 2) tYes (tLst tNil) [2]) tNil)))))
theorem d__law_start (T : Bt K mg C kinds) {f : Addr} {cdv : Value} {A : Around} {outer : List Env} {s : Shared} {H : Hp} {E : XK} (hr : Room 0 (A.deeper (envOfC "_law_start" (defScope s__law_start) s.heap.objs.size f cdv))) :
  PSs (cxOf CX0 P w K mg base n__law_start "_law_start" (defScope s__law_start) f cdv A outer s H E).nox (defBody s__law_start) (t__law_start K C CB kinds ) :=
  (pss_one (ps_ret (pe_tup (pa_cons (pe_lc (own := [("_law_process", 1)]) (g := (gName 1)) (tt := tYes) (te := (tC (.int 0))) rfl sc__law_start.nd (pi_seq (pe_dget (hu_of hr) (pv 0) pe_str (fun _ _ => rfl))) (blkOk_by (own := [("_law_process", 1)]) (N := n__law_start) (sc := defScope s__law_start) (by decide +kernel)) (fun _ _ _ _ _ => (pg_name (i := 1) sc__law_start.nd rfl (by first | exact Or.inl rfl | exact Or.inr rfl))) (fun _ _ _ _ _ => pts_nil) (fun _ _ _ _ _ => pe_int)) (pa_cons (pe_lc (own := [("_law_c", 2)]) (g := (gName 2)) (tt := tYes) (te := (tC (.int 0))) rfl sc__law_start.nd (pi_seq (pe_dget (hu_of hr) (pv 0) pe_str (fun _ _ => rfl))) (blkOk_by (own := [("_law_c", 2)]) (N := n__law_start) (sc := defScope s__law_start) (by decide +kernel)) (fun _ _ _ _ _ => (pg_name (i := 2) sc__law_start.nd rfl (by first | exact Or.inl rfl | exact Or.inr rfl))) (fun _ _ _ _ _ => pts_nil) (fun _ _ _ _ _ => pe_int)) (pa_cons (pe_lc (own := [("_law_c", 2)]) (g := (gName 2)) (tt := tYes) (te := (tLst tNil)) rfl sc__law_start.nd (pi_seq (pe_dget (hu_of hr) (pv 0) pe_str (fun _ _ => rfl))) (blkOk_by (own := [("_law_c", 2)]) (N := n__law_start) (sc := defScope s__law_start) (by decide +kernel)) (fun _ _ _ _ _ => (pg_name (i := 2) sc__law_start.nd rfl (by first | exact Or.inl rfl | exact Or.inr rfl))) (fun _ _ _ _ _ => pts_nil) (fun _ _ _ _ _ => (pe_lst pa_nil))) pa_nil))))))

/-! ### _law_told: 0 _law_world, 1 _law_row -/
abbrev s__law_told : Stmt := topS 45
abbrev n__law_told : List PySem.Str := ["_law_world", "_law_row"]
theorem sc__law_told : FnScope n__law_told ["_law_world"] (defScope s__law_told) := ⟨rfl, rfl, rfl, by decide +kernel, rfl, by decide +kernel, by decide +kernel⟩
def t__law_told (K : PySem.W.Frag) (C CB kinds : Addr) : TS := (tRet (tTup (tCons (tCB (rTupleOf K) (tCons (tOp (rIx K) (tVar 0) (tC (.int 0))) tNil)) (tCons (tCB (rTupleOf K) (tCons (tOp (rIx K) (tVar 0) (tC (.int 1))) tNil)) (tCons (tCB (rTupleOf K) (tCons (tLc (iSeq K (tOp (rIx K) (tVar 0) (tC (.int 2)))) (gName 1) tYes (tCB (rTupleOf K) (tCons (tVar 1) tNil)) [1]) tNil)) tNil)))))
theorem d__law_told (T : Bt K mg C kinds) {f : Addr} {cdv : Value} {A : Around} {outer : List Env} {s : Shared} {H : Hp} {E : XK} (hr : Room 0 (A.deeper (envOfC "_law_told" (defScope s__law_told) s.heap.objs.size f cdv))) :
  PSs (cxOf CX0 P w K mg base n__law_told "_law_told" (defScope s__law_told) f cdv A outer s H E).nox (defBody s__law_told) (t__law_told K C CB kinds ) :=
  (pss_one (ps_ret (pe_tup (pa_cons (pe_callTy call_tuple_of (by rfl) T.b_tuple (by decide +kernel) (pa_cons (pe_ix ix_seq (pv 0) pe_int (fun _ _ => rfl)) pa_nil)) (pa_cons (pe_callTy call_tuple_of (by rfl) T.b_tuple (by decide +kernel) (pa_cons (pe_ix ix_seq (pv 0) pe_int (fun _ _ => rfl)) pa_nil)) (pa_cons (pe_callTy call_tuple_of (by rfl) T.b_tuple (by decide +kernel) (pa_cons (pe_lc (own := [("_law_row", 1)]) (g := (gName 1)) (tt := tYes) (te := (tCB (rTupleOf K) (tCons (tVar 1) tNil))) rfl sc__law_told.nd (pi_seq (pe_ix ix_seq (pv 0) pe_int (fun _ _ => rfl))) (blkOk_by (own := [("_law_row", 1)]) (N := n__law_told) (sc := defScope s__law_told) (by decide +kernel)) (fun _ _ _ _ _ => (pg_name (i := 1) sc__law_told.nd rfl (by first | exact Or.inl rfl | exact Or.inr rfl))) (fun _ _ _ _ _ => pts_nil) (fun _ _ _ _ _ => (pe_callTy call_tuple_of (by rfl) T.b_tuple (by decide +kernel) (pa_cons (pv 1) pa_nil)))) pa_nil)) pa_nil))))))

/-! ### _law_first: 0 _law_net_here, 1 _law_world, 2 _law_c -/
abbrev s__law_first : Stmt := topS 46
abbrev n__law_first : List PySem.Str := ["_law_net_here", "_law_world", "_law_c"]
theorem sc__law_first : FnScope n__law_first ["_law_net_here", "_law_world", "_law_c"] (defScope s__law_first) := ⟨rfl, rfl, rfl, by decide +kernel, rfl, by decide +kernel, by decide +kernel⟩
def t__law_first (K : PySem.W.Frag) (C CB kinds : Addr) : TS := (tSeq (tIfS (tTest (tOp rEq (tSl rSlS (tOp (rIx K) (tOp (rIx K) (tDGet (tVar 0) (tC (.str "channels"))) (tVar 2)) (tC (.int 3))) tNoPart (tPart (tC (.int 5)))) (tC (.str "order")))) (tRet (tSl (rSlL K) (tOp (rIx K) (tOp (rIx K) (tVar 1) (tC (.int 2))) (tVar 2)) tNoPart (tPart (tC (.int 1))))) tNext)
    (tRet (tOp (rIx K) (tOp (rIx K) (tVar 1) (tC (.int 2))) (tVar 2))))
theorem d__law_first (T : Bt K mg C kinds) {f : Addr} {cdv : Value} {A : Around} {outer : List Env} {s : Shared} {H : Hp} {E : XK} (hr : Room 0 (A.deeper (envOfC "_law_first" (defScope s__law_first) s.heap.objs.size f cdv))) :
  PSs (cxOf CX0 P w K mg base n__law_first "_law_first" (defScope s__law_first) f cdv A outer s H E).nox (defBody s__law_first) (t__law_first K C CB kinds ) :=
  (pss_cons (ps_if (pt_cmpR op_eq (pe_slice sl_str (pe_ix ix_seq (pe_ix ix_seq (pe_dget (hu_of hr) (pv 0) pe_str (fun _ _ => rfl)) (pv 2) (fun _ _ => rfl)) pe_int (fun _ _ => rfl)) po_none (po_some pe_int)) pe_str (nomark _)) (pss_one (ps_ret (pe_slice sl_list (pe_ix ix_seq (pe_ix ix_seq (pv 1) pe_int (fun _ _ => rfl)) (pv 2) (fun _ _ => rfl)) po_none (po_some pe_int)))) pss_nil)
    (pss_one (ps_ret (pe_ix ix_seq (pe_ix ix_seq (pv 1) pe_int (fun _ _ => rfl)) (pv 2) (fun _ _ => rfl)))))

/-! ### _law_possible: 0 _law_net_here, 1 _law_world, 2 _law_found, 3 _law_r, 4 _law_process, 5 _law_state, 6 _law_act, 7 _law_then, 8 _law_one, 9 _law_c -/
abbrev s__law_possible : Stmt := topS 47
abbrev n__law_possible : List PySem.Str := ["_law_net_here", "_law_world", "_law_found", "_law_r", "_law_process", "_law_state", "_law_act", "_law_then", "_law_one", "_law_c"]
theorem sc__law_possible : FnScope n__law_possible ["_law_net_here", "_law_world"] (defScope s__law_possible) := ⟨rfl, rfl, rfl, by decide +kernel, rfl, by decide +kernel, by decide +kernel⟩
def t__law_possible (K : PySem.W.Frag) (C CB kinds : Addr) : TS := (tSeq (tAsg (tLst tNil) (gName 2))
    (tSeq (tFor (iRng1 (tCons (tCB (rLenV K) (tCons (tDGet (tVar 0) (tC (.str "rules"))) tNil)) tNil)) (gName 3) (tSeq (tAsg (tOp (rIx K) (tDGet (tVar 0) (tC (.str "rules"))) (tVar 3)) (gTup K 4 (gCons (gName 4) (gCons (gName 5) (gCons (gName 6) (gCons (gName 7) gNil))))))
    (tIfS (tAnd (tTest (tOp rEq (tOp (rIx K) (tOp (rIx K) (tVar 1) (tC (.int 0))) (tVar 4)) (tVar 5))) (tTest (tOp rNe (tOp (rIx K) (tVar 6) (tC (.int 0))) (tC (.str "take"))))) (tDrop (tBM K "list" rAppend (tVar 2) (tCons (tTup (tCons (tC (.str "act")) (tCons (tVar 3) tNil))) tNil))) (tIfS (tTest (tOp rEq (tOp (rIx K) (tOp (rIx K) (tVar 1) (tC (.int 0))) (tVar 4)) (tVar 5))) (tAsg (tOp rCat (tVar 2) (tLc (iSeq K (tCall (spP C pre__law_first) [] E0 (tCons (tVar 0) (tCons (tVar 1) (tCons (tOp (rIx K) (tVar 6) (tC (.int 1))) tNil))))) (gName 8) (tTest (tOp rEq (tOp (rIx K) (tVar 8) (tC (.int 1))) (tOp (rIx K) (tVar 6) (tC (.int 2))))) (tTup (tCons (tC (.str "take")) (tCons (tVar 3) (tCons (tOp (rIx K) (tVar 8) (tC (.int 0))) tNil)))) [8])) (gName 2)) tNext))))
    (tSeq (tFor (iRng1 (tCons (tCB (rLenV K) (tCons (tDGet (tVar 0) (tC (.str "channels"))) tNil)) tNil)) (gName 9) (tIfS (tTest (tOp rEq (tSl rSlS (tOp (rIx K) (tOp (rIx K) (tDGet (tVar 0) (tC (.str "channels"))) (tVar 9)) (tC (.int 3))) (tPart (tUn (rU fun i => .int (-i)) (tC (.int 5)))) tNoPart) (tC (.str "lossy")))) (tAsg (tOp rCat (tVar 2) (tLc (iSeq K (tCall (spP C pre__law_first) [] E0 (tCons (tVar 0) (tCons (tVar 1) (tCons (tVar 9) tNil))))) (gName 8) tYes (tTup (tCons (tC (.str "lose")) (tCons (tVar 9) (tCons (tOp (rIx K) (tVar 8) (tC (.int 0))) tNil)))) [8])) (gName 2)) tNext))
    (tRet (tVar 2)))))
theorem d__law_possible (T : Bt K mg C kinds) {f__law_first : Addr} {fd__law_first : FuncData} (c__law_first : Cal K mg "_law_first" f__law_first fd__law_first ["_law_net_here", "_law_world", "_law_c"]) (G__law_first : FnOk P w K mg base CX0 1 f__law_first fd__law_first ["_law_net_here", "_law_world", "_law_c"] (spP C pre__law_first)) {f : Addr} {cdv : Value} {A : Around} {outer : List Env} {s : Shared} {H : Hp} {E : XK} (hr : Room 1 (A.deeper (envOfC "_law_possible" (defScope s__law_possible) s.heap.objs.size f cdv))) :
  PSs (cxOf CX0 P w K mg base n__law_possible "_law_possible" (defScope s__law_possible) f cdv A outer s H E).nox (defBody s__law_possible) (t__law_possible K C CB kinds ) :=
  (pss_cons (ps_set (i := 2) sc__law_possible.nd rfl (by first | exact Or.inl rfl | exact Or.inr rfl) (pe_lst pa_nil))
    (pss_cons (ps_for PassesOwn.never rfl (pi_range1 rfl T.b_range (pa_cons (pe_callB call_len (by rfl) T.b_len (by decide +kernel) (pa_cons (pe_dget (hu_of hr) (pv 0) pe_str (fun _ _ => rfl)) pa_nil)) pa_nil)) (pg_name (i := 3) sc__law_possible.nd rfl (by first | exact Or.inl rfl | exact Or.inr rfl)) (pss_cons (ps_asg (pe_ix ix_seq (pe_dget (hu_of hr) (pv 0) pe_str (fun _ _ => rfl)) (pv 3) (fun _ _ => rfl)) (pg_tup rfl (pgs_cons (pg_name (i := 4) sc__law_possible.nd rfl (by first | exact Or.inl rfl | exact Or.inr rfl)) (pgs_cons (pg_name (i := 5) sc__law_possible.nd rfl (by first | exact Or.inl rfl | exact Or.inr rfl)) (pgs_cons (pg_name (i := 6) sc__law_possible.nd rfl (by first | exact Or.inl rfl | exact Or.inr rfl)) (pgs_cons (pg_name (i := 7) sc__law_possible.nd rfl (by first | exact Or.inl rfl | exact Or.inr rfl)) pgs_nil))))))
    (pss_one (ps_if (PW.pt (pw_and (pt_cmpR op_eq (pe_ix ix_seq (pe_ix ix_seq (pv 1) pe_int (fun _ _ => rfl)) (pv 4) (fun _ _ => rfl)) (pv 5) (nomark _)) (pw_and1 (pt_cmpR op_ne (pe_ix ix_seq (pv 6) pe_int (fun _ _ => rfl)) pe_str (nomark _))))) (pss_one (ps_expr (pe_bm PySem.F.plainAttrs_list PySem.F.slot_list_append PySem.F.type_list_append mt_append (pv 2) (pa_cons (pe_tup (pa_cons pe_str (pa_cons (pv 3) pa_nil))) pa_nil)))) (pss_one (ps_if (pt_cmpR op_eq (pe_ix ix_seq (pe_ix ix_seq (pv 1) pe_int (fun _ _ => rfl)) (pv 4) (fun _ _ => rfl)) (pv 5) (nomark _)) (pss_one (ps_set (i := 2) sc__law_possible.nd rfl (by first | exact Or.inl rfl | exact Or.inr rfl) (pe_op op_cat (pv 2) (pe_lc (own := [("_law_one", 8)]) (g := (gName 8)) (tt := (tTest (tOp rEq (tOp (rIx K) (tVar 8) (tC (.int 1))) (tOp (rIx K) (tVar 6) (tC (.int 2)))))) (te := (tTup (tCons (tC (.str "take")) (tCons (tVar 3) (tCons (tOp (rIx K) (tVar 8) (tC (.int 0))) tNil))))) rfl sc__law_possible.nd (pi_seq (pe_call G__law_first (hr.mono (by decide)) rfl c__law_first.gl c__law_first.kp c__law_first.bd .nil pass0 (pa_cons (pv 0) (pa_cons (pv 1) (pa_cons (pe_ix ix_seq (pv 6) pe_int (fun _ _ => rfl)) pa_nil))))) (blkOk_by (own := [("_law_one", 8)]) (N := n__law_possible) (sc := defScope s__law_possible) (by decide +kernel)) (fun _ _ _ _ _ => (pg_name (i := 8) sc__law_possible.nd rfl (by first | exact Or.inl rfl | exact Or.inr rfl))) (fun _ _ _ _ _ => pts_one (pt_cmpR op_eq (pe_ix ix_seq (pv 8) pe_int (fun _ _ => rfl)) (pe_ix ix_seq (pv 6) pe_int (fun _ _ => rfl)) (nomark _))) (fun _ _ _ _ _ => (pe_tup (pa_cons pe_str (pa_cons (pv 3) (pa_cons (pe_ix ix_seq (pv 8) pe_int (fun _ _ => rfl)) pa_nil))))))))) pss_nil))))))
    (pss_cons (ps_for PassesOwn.never rfl (pi_range1 rfl T.b_range (pa_cons (pe_callB call_len (by rfl) T.b_len (by decide +kernel) (pa_cons (pe_dget (hu_of hr) (pv 0) pe_str (fun _ _ => rfl)) pa_nil)) pa_nil)) (pg_name (i := 9) sc__law_possible.nd rfl (by first | exact Or.inl rfl | exact Or.inr rfl)) (pss_one (ps_if (pt_cmpR op_eq (pe_slice sl_str (pe_ix ix_seq (pe_ix ix_seq (pe_dget (hu_of hr) (pv 0) pe_str (fun _ _ => rfl)) (pv 9) (fun _ _ => rfl)) pe_int (fun _ _ => rfl)) (po_some (pe_un un_neg pe_int)) po_none) pe_str (nomark _)) (pss_one (ps_set (i := 2) sc__law_possible.nd rfl (by first | exact Or.inl rfl | exact Or.inr rfl) (pe_op op_cat (pv 2) (pe_lc (own := [("_law_one", 8)]) (g := (gName 8)) (tt := tYes) (te := (tTup (tCons (tC (.str "lose")) (tCons (tVar 9) (tCons (tOp (rIx K) (tVar 8) (tC (.int 0))) tNil))))) rfl sc__law_possible.nd (pi_seq (pe_call G__law_first (hr.mono (by decide)) rfl c__law_first.gl c__law_first.kp c__law_first.bd .nil pass0 (pa_cons (pv 0) (pa_cons (pv 1) (pa_cons (pv 9) pa_nil))))) (blkOk_by (own := [("_law_one", 8)]) (N := n__law_possible) (sc := defScope s__law_possible) (by decide +kernel)) (fun _ _ _ _ _ => (pg_name (i := 8) sc__law_possible.nd rfl (by first | exact Or.inl rfl | exact Or.inr rfl))) (fun _ _ _ _ _ => pts_nil) (fun _ _ _ _ _ => (pe_tup (pa_cons pe_str (pa_cons (pv 9) (pa_cons (pe_ix ix_seq (pv 8) pe_int (fun _ _ => rfl)) pa_nil))))))))) pss_nil)))
    (pss_one (ps_ret (pv 2))))))

/-! ### _law_done: 0 _law_net_here, 1 _law_world, 2 _law_deed, 3 _law_states, 4 _law_sent, 5 _law_present, 6 _law_row, 7 _law_one, 8 _law_process, 9 _law_state, 10 _law_act, 11 _law_then -/
abbrev s__law_done : Stmt := topS 49
abbrev n__law_done : List PySem.Str := ["_law_net_here", "_law_world", "_law_deed", "_law_states", "_law_sent", "_law_present", "_law_row", "_law_one", "_law_process", "_law_state", "_law_act", "_law_then"]
theorem sc__law_done : FnScope n__law_done ["_law_net_here", "_law_world", "_law_deed"] (defScope s__law_done) := ⟨rfl, rfl, rfl, by decide +kernel, rfl, by decide +kernel, by decide +kernel⟩
def t__law_done (K : PySem.W.Frag) (C CB kinds : Addr) : TS := (tSeq (tAsg (tCB (rListOf K) (tCons (tOp (rIx K) (tVar 1) (tC (.int 0))) tNil)) (gName 3))
    (tSeq (tAsg (tCB (rListOf K) (tCons (tOp (rIx K) (tVar 1) (tC (.int 1))) tNil)) (gName 4))
    (tSeq (tAsg (tLc (iSeq K (tOp (rIx K) (tVar 1) (tC (.int 2)))) (gName 6) tYes (tCB (rListOf K) (tCons (tVar 6) tNil)) [6]) (gName 5))
    (tSeq (tIfS (tTest (tOp rEq (tOp (rIx K) (tVar 2) (tC (.int 0))) (tC (.str "lose")))) (tSeq (tAsg (tLc (iSeq K (tOp (rIx K) (tVar 5) (tOp (rIx K) (tVar 2) (tC (.int 1))))) (gName 7) (tTest (tOp rNe (tOp (rIx K) (tVar 7) (tC (.int 0))) (tOp (rIx K) (tVar 2) (tC (.int 2))))) (tVar 7) [7]) (gSub (tVar 5) (tOp (rIx K) (tVar 2) (tC (.int 1))) rSetL))
    (tRet (tTup (tCons (tVar 3) (tCons (tVar 4) (tCons (tVar 5) tNil)))))) tNext)
    (tSeq (tAsg (tOp (rIx K) (tDGet (tVar 0) (tC (.str "rules"))) (tOp (rIx K) (tVar 2) (tC (.int 1)))) (gTup K 4 (gCons (gName 8) (gCons (gName 9) (gCons (gName 10) (gCons (gName 11) gNil))))))
    (tSeq (tAsg (tVar 11) (gSub (tVar 3) (tVar 8) rSetL))
    (tSeq (tIfS (tTest (tOp rEq (tOp (rIx K) (tVar 10) (tC (.int 0))) (tC (.str "send")))) (tSeq (tAsg (tOp rCat (tOp (rIx K) (tVar 5) (tOp (rIx K) (tVar 10) (tC (.int 1)))) (tLst (tCons (tTup (tCons (tOp (rIx K) (tVar 4) (tOp (rIx K) (tVar 10) (tC (.int 1)))) (tCons (tOp (rIx K) (tVar 10) (tC (.int 2))) tNil))) tNil))) (gSub (tVar 5) (tOp (rIx K) (tVar 10) (tC (.int 1))) rSetL))
    (tAsg (tOp rAddI (tOp (rIx K) (tVar 4) (tOp (rIx K) (tVar 10) (tC (.int 1)))) (tC (.int 1))) (gSub (tVar 4) (tOp (rIx K) (tVar 10) (tC (.int 1))) rSetL))) tNext)
    (tSeq (tIfS (tTest (tOp rEq (tOp (rIx K) (tVar 10) (tC (.int 0))) (tC (.str "take")))) (tAsg (tLc (iSeq K (tOp (rIx K) (tVar 5) (tOp (rIx K) (tVar 10) (tC (.int 1))))) (gName 7) (tTest (tOp rNe (tOp (rIx K) (tVar 7) (tC (.int 0))) (tOp (rIx K) (tVar 2) (tC (.int 2))))) (tVar 7) [7]) (gSub (tVar 5) (tOp (rIx K) (tVar 10) (tC (.int 1))) rSetL)) tNext)
    (tRet (tTup (tCons (tVar 3) (tCons (tVar 4) (tCons (tVar 5) tNil)))))))))))))
theorem d__law_done (T : Bt K mg C kinds) {f : Addr} {cdv : Value} {A : Around} {outer : List Env} {s : Shared} {H : Hp} {E : XK} (hr : Room 0 (A.deeper (envOfC "_law_done" (defScope s__law_done) s.heap.objs.size f cdv))) :
  PSs (cxOf CX0 P w K mg base n__law_done "_law_done" (defScope s__law_done) f cdv A outer s H E).nox (defBody s__law_done) (t__law_done K C CB kinds ) :=
  (pss_cons (ps_set (i := 3) sc__law_done.nd rfl (by first | exact Or.inl rfl | exact Or.inr rfl) (pe_callTy call_list_of (by rfl) T.b_list (by decide +kernel) (pa_cons (pe_ix ix_seq (pv 1) pe_int (fun _ _ => rfl)) pa_nil)))
    (pss_cons (ps_set (i := 4) sc__law_done.nd rfl (by first | exact Or.inl rfl | exact Or.inr rfl) (pe_callTy call_list_of (by rfl) T.b_list (by decide +kernel) (pa_cons (pe_ix ix_seq (pv 1) pe_int (fun _ _ => rfl)) pa_nil)))
    (pss_cons (ps_setLc (i := 5) (own := [("_law_row", 6)]) (g := (gName 6)) (tt := tYes) (te := (tCB (rListOf K) (tCons (tVar 6) tNil))) rfl sc__law_done.nd rfl rfl (sw_true rfl rfl rfl (by decide +kernel)) (pi_seq (pe_ix ix_seq (pv 1) pe_int (fun _ _ => rfl))) (blkOk_by (own := [("_law_row", 6)]) (N := n__law_done) (sc := defScope s__law_done) (by decide +kernel)) (fun _ _ _ _ _ => (pg_name (i := 6) sc__law_done.nd rfl (by first | exact Or.inl rfl | exact Or.inr rfl))) (fun _ _ _ _ _ => pts_nil) (fun _ _ _ _ _ => (pe_callTy call_list_of (by rfl) T.b_list (by decide +kernel) (pa_cons (pv 6) pa_nil))))
    (pss_cons (ps_if (pt_cmpR op_eq (pe_ix ix_seq (pv 2) pe_int (fun _ _ => rfl)) pe_str (nomark _)) (pss_cons (ps_asg (pe_lc (own := [("_law_one", 7)]) (g := (gName 7)) (tt := (tTest (tOp rNe (tOp (rIx K) (tVar 7) (tC (.int 0))) (tOp (rIx K) (tVar 2) (tC (.int 2)))))) (te := (tVar 7)) rfl sc__law_done.nd (pi_seq (pe_ix ix_seq (pv 5) (pe_ix ix_seq (pv 2) pe_int (fun _ _ => rfl)) (fun _ _ => rfl))) (blkOk_by (own := [("_law_one", 7)]) (N := n__law_done) (sc := defScope s__law_done) (by decide +kernel)) (fun _ _ _ _ _ => (pg_name (i := 7) sc__law_done.nd rfl (by first | exact Or.inl rfl | exact Or.inr rfl))) (fun _ _ _ _ _ => pts_one (pt_cmpR op_ne (pe_ix ix_seq (pv 7) pe_int (fun _ _ => rfl)) (pe_ix ix_seq (pv 2) pe_int (fun _ _ => rfl)) (nomark _))) (fun _ _ _ _ _ => (pv 7))) (pg_sub (pv 5) (pe_ix ix_seq (pv 2) pe_int (fun _ _ => rfl)) set_list))
    (pss_one (ps_ret (pe_tup (pa_cons (pv 3) (pa_cons (pv 4) (pa_cons (pv 5) pa_nil))))))) pss_nil)
    (pss_cons (ps_asg (pe_ix ix_seq (pe_dget (hu_of hr) (pv 0) pe_str (fun _ _ => rfl)) (pe_ix ix_seq (pv 2) pe_int (fun _ _ => rfl)) (fun _ _ => rfl)) (pg_tup rfl (pgs_cons (pg_name (i := 8) sc__law_done.nd rfl (by first | exact Or.inl rfl | exact Or.inr rfl)) (pgs_cons (pg_name (i := 9) sc__law_done.nd rfl (by first | exact Or.inl rfl | exact Or.inr rfl)) (pgs_cons (pg_name (i := 10) sc__law_done.nd rfl (by first | exact Or.inl rfl | exact Or.inr rfl)) (pgs_cons (pg_name (i := 11) sc__law_done.nd rfl (by first | exact Or.inl rfl | exact Or.inr rfl)) pgs_nil))))))
    (pss_cons (ps_asg (pv 11) (pg_sub (pv 3) (pv 8) set_list))
    (pss_cons (ps_if (pt_cmpR op_eq (pe_ix ix_seq (pv 10) pe_int (fun _ _ => rfl)) pe_str (nomark _)) (pss_cons (ps_asg (pe_op op_cat (pe_ix ix_seq (pv 5) (pe_ix ix_seq (pv 10) pe_int (fun _ _ => rfl)) (fun _ _ => rfl)) (pe_lst (pa_cons (pe_tup (pa_cons (pe_ix ix_seq (pv 4) (pe_ix ix_seq (pv 10) pe_int (fun _ _ => rfl)) (fun _ _ => rfl)) (pa_cons (pe_ix ix_seq (pv 10) pe_int (fun _ _ => rfl)) pa_nil))) pa_nil))) (pg_sub (pv 5) (pe_ix ix_seq (pv 10) pe_int (fun _ _ => rfl)) set_list))
    (pss_one (ps_asg (pe_op op_add (pe_ix ix_seq (pv 4) (pe_ix ix_seq (pv 10) pe_int (fun _ _ => rfl)) (fun _ _ => rfl)) pe_int) (pg_sub (pv 4) (pe_ix ix_seq (pv 10) pe_int (fun _ _ => rfl)) set_list)))) pss_nil)
    (pss_cons (ps_if (pt_cmpR op_eq (pe_ix ix_seq (pv 10) pe_int (fun _ _ => rfl)) pe_str (nomark _)) (pss_one (ps_asg (pe_lc (own := [("_law_one", 7)]) (g := (gName 7)) (tt := (tTest (tOp rNe (tOp (rIx K) (tVar 7) (tC (.int 0))) (tOp (rIx K) (tVar 2) (tC (.int 2)))))) (te := (tVar 7)) rfl sc__law_done.nd (pi_seq (pe_ix ix_seq (pv 5) (pe_ix ix_seq (pv 10) pe_int (fun _ _ => rfl)) (fun _ _ => rfl))) (blkOk_by (own := [("_law_one", 7)]) (N := n__law_done) (sc := defScope s__law_done) (by decide +kernel)) (fun _ _ _ _ _ => (pg_name (i := 7) sc__law_done.nd rfl (by first | exact Or.inl rfl | exact Or.inr rfl))) (fun _ _ _ _ _ => pts_one (pt_cmpR op_ne (pe_ix ix_seq (pv 7) pe_int (fun _ _ => rfl)) (pe_ix ix_seq (pv 2) pe_int (fun _ _ => rfl)) (nomark _))) (fun _ _ _ _ _ => (pv 7))) (pg_sub (pv 5) (pe_ix ix_seq (pv 10) pe_int (fun _ _ => rfl)) set_list))) pss_nil)
    (pss_one (ps_ret (pe_tup (pa_cons (pv 3) (pa_cons (pv 4) (pa_cons (pv 5) pa_nil))))))))))))))

/-! ### _law_run: 0 _law_pool_here, 1 _law_net_here, 2 _law_most, 3 _law_worlds, 4 _law_deeds, 5 _law_k, 6 _law_options -/
abbrev s__law_run : Stmt := topS 50
abbrev n__law_run : List PySem.Str := ["_law_pool_here", "_law_net_here", "_law_most", "_law_worlds", "_law_deeds", "_law_k", "_law_options"]
theorem sc__law_run : FnScope n__law_run ["_law_pool_here", "_law_net_here", "_law_most"] (defScope s__law_run) := ⟨rfl, rfl, rfl, by decide +kernel, rfl, by decide +kernel, by decide +kernel⟩
def t__law_run (K : PySem.W.Frag) (C CB kinds : Addr) : TS := (tSeq (tAsg (tLst (tCons (tCall (spP C pre__law_start) [] E0 (tCons (tVar 1) tNil)) tNil)) (gName 3))
    (tSeq (tAsg (tLst tNil) (gName 4))
    (tSeq (tFor (iRng1 (tCons (tOp (rIx K) (tLst (tCons (tVar 2) (tCons (tCall (spS C pre__law_take) [] E0 (tCons (tVar 0) (tCons (tOp rAddI (tVar 2) (tC (.int 1))) tNil))) (tCons (tOp rDivI (tVar 2) (tC (.int 2))) tNil)))) (tCall (spS C pre__law_take) [] E0 (tCons (tVar 0) (tCons (tC (.int 3)) tNil)))) tNil)) (gName 5) (tSeq (tAsg (tCall (spP C pre__law_possible) [] E0 (tCons (tVar 1) (tCons (tOp (rIx K) (tVar 3) (tUn (rU fun i => .int (-i)) (tC (.int 1)))) tNil))) (gName 6))
    (tSeq (tIfS (tTest (tOp rEq (tCB (rLenV K) (tCons (tVar 6) tNil)) (tC (.int 0)))) tBreak tNext)
    (tSeq (tDrop (tBM K "list" rAppend (tVar 4) (tCons (tOp (rIx K) (tVar 6) (tCall (spS C pre__law_take) [] E0 (tCons (tVar 0) (tCons (tCB (rLenV K) (tCons (tVar 6) tNil)) tNil)))) tNil)))
    (tDrop (tBM K "list" rAppend (tVar 3) (tCons (tCall (spP C pre__law_done) [] E0 (tCons (tVar 1) (tCons (tOp (rIx K) (tVar 3) (tUn (rU fun i => .int (-i)) (tC (.int 1)))) (tCons (tOp (rIx K) (tVar 4) (tUn (rU fun i => .int (-i)) (tC (.int 1)))) tNil)))) tNil)))))))
    (tRet (tTup (tCons (tVar 4) (tCons (tVar 3) tNil)))))))
theorem d__law_run (T : Bt K mg C kinds) {f__law_start : Addr} {fd__law_start : FuncData} (c__law_start : Cal K mg "_law_start" f__law_start fd__law_start ["_law_net_here"]) (G__law_start : FnOk P w K mg base CX0 1 f__law_start fd__law_start ["_law_net_here"] (spP C pre__law_start)) {f__law_take : Addr} {fd__law_take : FuncData} (c__law_take : Cal K mg "_law_take" f__law_take fd__law_take ["_law_pool_here", "_law_many"]) (G__law_take : FnOk P w K mg base CX0 2 f__law_take fd__law_take ["_law_pool_here", "_law_many"] (spS C pre__law_take)) {f__law_possible : Addr} {fd__law_possible : FuncData} (c__law_possible : Cal K mg "_law_possible" f__law_possible fd__law_possible ["_law_net_here", "_law_world"]) (G__law_possible : FnOk P w K mg base CX0 2 f__law_possible fd__law_possible ["_law_net_here", "_law_world"] (spP C pre__law_possible)) {f__law_done : Addr} {fd__law_done : FuncData} (c__law_done : Cal K mg "_law_done" f__law_done fd__law_done ["_law_net_here", "_law_world", "_law_deed"]) (G__law_done : FnOk P w K mg base CX0 1 f__law_done fd__law_done ["_law_net_here", "_law_world", "_law_deed"] (spP C pre__law_done)) {f : Addr} {cdv : Value} {A : Around} {outer : List Env} {s : Shared} {H : Hp} {E : XK} (hr : Room 2 (A.deeper (envOfC "_law_run" (defScope s__law_run) s.heap.objs.size f cdv))) :
  PSs (cxOf CX0 P w K mg base n__law_run "_law_run" (defScope s__law_run) f cdv A outer s H E).nox (defBody s__law_run) (t__law_run K C CB kinds ) :=
  (pss_cons (ps_set (i := 3) sc__law_run.nd rfl (by first | exact Or.inl rfl | exact Or.inr rfl) (pe_lst (pa_cons (pe_call G__law_start (hr.mono (by decide)) rfl c__law_start.gl c__law_start.kp c__law_start.bd .nil pass0 (pa_cons (pv 1) pa_nil)) pa_nil)))
    (pss_cons (ps_set (i := 4) sc__law_run.nd rfl (by first | exact Or.inl rfl | exact Or.inr rfl) (pe_lst pa_nil))
    (pss_cons (ps_for PassesOwn.never rfl (pi_range1 rfl T.b_range (pa_cons (pe_ix ix_seq (pe_lst (pa_cons (pv 2) (pa_cons (pe_call G__law_take (hr.mono (by decide)) rfl c__law_take.gl c__law_take.kp c__law_take.bd .nil pass0 (pa_cons (pv 0) (pa_cons (pe_op op_add (pv 2) pe_int) pa_nil))) (pa_cons (pe_op op_fdiv (pv 2) pe_int) pa_nil)))) (pe_call G__law_take (hr.mono (by decide)) rfl c__law_take.gl c__law_take.kp c__law_take.bd .nil pass0 (pa_cons (pv 0) (pa_cons pe_int pa_nil))) (fun _ _ => rfl)) pa_nil)) (pg_name (i := 5) sc__law_run.nd rfl (by first | exact Or.inl rfl | exact Or.inr rfl)) (pss_cons (ps_set (i := 6) sc__law_run.nd rfl (by first | exact Or.inl rfl | exact Or.inr rfl) (pe_call G__law_possible (hr.mono (by decide)) rfl c__law_possible.gl c__law_possible.kp c__law_possible.bd .nil pass0 (pa_cons (pv 1) (pa_cons (pe_ix ix_seq (pv 3) (pe_un un_neg pe_int) (fun _ _ => rfl)) pa_nil))))
    (pss_cons (ps_if (pt_cmpR op_eq (pe_callB call_len (by rfl) T.b_len (by decide +kernel) (pa_cons (pv 6) pa_nil)) pe_int (nomark _)) (pss_one ps_break) pss_nil)
    (pss_cons (ps_expr (pe_bm PySem.F.plainAttrs_list PySem.F.slot_list_append PySem.F.type_list_append mt_append (pv 4) (pa_cons (pe_ix ix_seq (pv 6) (pe_call G__law_take (hr.mono (by decide)) rfl c__law_take.gl c__law_take.kp c__law_take.bd .nil pass0 (pa_cons (pv 0) (pa_cons (pe_callB call_len (by rfl) T.b_len (by decide +kernel) (pa_cons (pv 6) pa_nil)) pa_nil))) (fun _ _ => rfl)) pa_nil)))
    (pss_one (ps_expr (pe_bm PySem.F.plainAttrs_list PySem.F.slot_list_append PySem.F.type_list_append mt_append (pv 3) (pa_cons (pe_call G__law_done (hr.mono (by decide)) rfl c__law_done.gl c__law_done.kp c__law_done.bd .nil pass0 (pa_cons (pv 1) (pa_cons (pe_ix ix_seq (pv 3) (pe_un un_neg pe_int) (fun _ _ => rfl)) (pa_cons (pe_ix ix_seq (pv 4) (pe_un un_neg pe_int) (fun _ _ => rfl)) pa_nil)))) pa_nil))))))))
    (pss_one (ps_ret (pe_tup (pa_cons (pv 4) (pa_cons (pv 3) pa_nil))))))))

/-! ### _law_near: 0 _law_pool_here, 1 _law_net_here, 2 _law_world, 3 _law_near_here, 4 _law_r, 5 _law_act, 6 _law_one, 7 _law_c, 8 _law_gone, 9 _law_k, 10 _law_can, 11 _law_deed -/
abbrev s__law_near : Stmt := topS 51
abbrev n__law_near : List PySem.Str := ["_law_pool_here", "_law_net_here", "_law_world", "_law_near_here", "_law_r", "_law_act", "_law_one", "_law_c", "_law_gone", "_law_k", "_law_can", "_law_deed"]
theorem sc__law_near : FnScope n__law_near ["_law_pool_here", "_law_net_here", "_law_world"] (defScope s__law_near) := ⟨rfl, rfl, rfl, by decide +kernel, rfl, by decide +kernel, by decide +kernel⟩
def t__law_near (K : PySem.W.Frag) (C CB kinds : Addr) : TS := (tSeq (tAsg (tLst (tCons (tTup (tCons (tC (.str "act")) (tCons (tCB (rLenV K) (tCons (tDGet (tVar 1) (tC (.str "rules"))) tNil)) tNil))) (tCons (tTup (tCons (tC (.str "take")) (tCons (tCB (rLenV K) (tCons (tDGet (tVar 1) (tC (.str "rules"))) tNil)) (tCons (tC (.int 0)) tNil)))) (tCons (tTup (tCons (tC (.str "lose")) (tCons (tCB (rLenV K) (tCons (tDGet (tVar 1) (tC (.str "channels"))) tNil)) (tCons (tC (.int 0)) tNil)))) tNil)))) (gName 3))
    (tSeq (tFor (iRng1 (tCons (tCB (rLenV K) (tCons (tDGet (tVar 1) (tC (.str "rules"))) tNil)) tNil)) (gName 4) (tSeq (tAsg (tOp (rIx K) (tOp (rIx K) (tDGet (tVar 1) (tC (.str "rules"))) (tVar 4)) (tC (.int 2))) (gName 5))
    (tSeq (tDrop (tBM K "list" rAppend (tVar 3) (tCons (tTup (tCons (tC (.str "act")) (tCons (tVar 4) tNil))) tNil)))
    (tIfS (tTest (tOp rEq (tOp (rIx K) (tVar 5) (tC (.int 0))) (tC (.str "take")))) (tAsg (tOp rCat (tOp rCat (tVar 3) (tLc (iSeq K (tOp (rIx K) (tOp (rIx K) (tVar 2) (tC (.int 2))) (tOp (rIx K) (tVar 5) (tC (.int 1))))) (gName 6) tYes (tTup (tCons (tC (.str "take")) (tCons (tVar 4) (tCons (tOp (rIx K) (tVar 6) (tC (.int 0))) tNil)))) [6])) (tLst (tCons (tTup (tCons (tC (.str "take")) (tCons (tVar 4) (tCons (tOp (rIx K) (tOp (rIx K) (tVar 2) (tC (.int 1))) (tOp (rIx K) (tVar 5) (tC (.int 1)))) tNil)))) tNil))) (gName 3)) (tDrop (tBM K "list" rAppend (tVar 3) (tCons (tTup (tCons (tC (.str "take")) (tCons (tVar 4) (tCons (tC (.int 0)) tNil)))) tNil)))))))
    (tSeq (tFor (iRng1 (tCons (tCB (rLenV K) (tCons (tDGet (tVar 1) (tC (.str "channels"))) tNil)) tNil)) (gName 7) (tSeq (tAsg (tLc (iRng1 (tCons (tOp (rIx K) (tOp (rIx K) (tVar 2) (tC (.int 1))) (tVar 7)) tNil)) (gName 9) (tTest (tOp (rIn K true) (tVar 9) (tLc (iSeq K (tOp (rIx K) (tOp (rIx K) (tVar 2) (tC (.int 2))) (tVar 7))) (gName 6) tYes (tOp (rIx K) (tVar 6) (tC (.int 0))) [6]))) (tVar 9) [9]) (gName 8))
    (tSeq (tAsg (tOp rCat (tOp rCat (tVar 3) (tLc (iSeq K (tOp (rIx K) (tOp (rIx K) (tVar 2) (tC (.int 2))) (tVar 7))) (gName 6) tYes (tTup (tCons (tC (.str "lose")) (tCons (tVar 7) (tCons (tOp (rIx K) (tVar 6) (tC (.int 0))) tNil)))) [6])) (tLc (iSeq K (tSl (rSlL K) (tVar 8) tNoPart (tPart (tC (.int 2))))) (gName 9) tYes (tTup (tCons (tC (.str "lose")) (tCons (tVar 7) (tCons (tVar 9) tNil)))) [9])) (gName 3))
    (tAsg (tOp rCat (tVar 3) (tLst (tCons (tTup (tCons (tC (.str "lose")) (tCons (tVar 7) (tCons (tOp (rIx K) (tOp (rIx K) (tVar 2) (tC (.int 1))) (tVar 7)) tNil)))) (tCons (tTup (tCons (tC (.str "lose")) (tCons (tVar 7) (tCons (tOp rPowI (tC (.int 10)) (tC (.int 30))) tNil)))) tNil)))) (gName 3)))))
    (tSeq (tAsg (tOp rCat (tVar 3) (tLst (tCons (tC .non) (tCons (tC (.int 0)) (tCons (tC (.str "act")) (tCons (tTup tNil) (tCons (tTup (tCons (tC (.str "act")) tNil)) (tCons (tTup (tCons (tC (.str "act")) (tCons (tC (.int 0)) (tCons (tC (.int 0)) tNil)))) (tCons (tTup (tCons (tC (.str "do")) (tCons (tC (.int 0)) tNil))) (tCons (tTup (tCons (tC (.str "act")) (tCons (tC .non) tNil))) (tCons (tTup (tCons (tC (.str "act")) (tCons (tUn (rU fun i => .int (-i)) (tC (.int 1))) tNil))) tNil))))))))))) (gName 3))
    (tSeq (tAsg (tOp rCat (tVar 3) (tLst (tCons (tTup (tCons (tC (.str "take")) (tCons (tC (.int 0)) tNil))) (tCons (tTup (tCons (tC (.str "take")) (tCons (tC (.int 0)) (tCons (tUn (rU fun i => .int (-i)) (tC (.int 1))) tNil)))) (tCons (tTup (tCons (tC (.str "lose")) (tCons (tC (.int 0)) tNil))) (tCons (tTup (tCons (tC (.str "lose")) (tCons (tUn (rU fun i => .int (-i)) (tC (.int 1))) (tCons (tC (.int 0)) tNil)))) (tCons (tTup (tCons (tC (.str "lose")) (tCons (tC (.int 0)) (tCons (tUn (rU fun i => .int (-i)) (tC (.int 1))) tNil)))) tNil))))))) (gName 3))
    (tSeq (tAsg (tCall (spP C pre__law_possible) [] E0 (tCons (tVar 1) (tCons (tVar 2) tNil))) (gName 10))
    (tSeq (tAsg (tLc (iSeq K (tVar 3)) (gName 11) (tTest (tOp (rNotInD K) (tVar 11) (tVar 10))) (tVar 11) [11]) (gName 3))
    (tRet (tOp (rIx K) (tVar 3) (tCall (spS C pre__law_take) [] E0 (tCons (tVar 0) (tCons (tCB (rLenV K) (tCons (tVar 3) tNil)) tNil))))))))))))
theorem d__law_near (T : Bt K mg C kinds) {f__law_possible : Addr} {fd__law_possible : FuncData} (c__law_possible : Cal K mg "_law_possible" f__law_possible fd__law_possible ["_law_net_here", "_law_world"]) (G__law_possible : FnOk P w K mg base CX0 2 f__law_possible fd__law_possible ["_law_net_here", "_law_world"] (spP C pre__law_possible)) {f__law_take : Addr} {fd__law_take : FuncData} (c__law_take : Cal K mg "_law_take" f__law_take fd__law_take ["_law_pool_here", "_law_many"]) (G__law_take : FnOk P w K mg base CX0 2 f__law_take fd__law_take ["_law_pool_here", "_law_many"] (spS C pre__law_take)) {f : Addr} {cdv : Value} {A : Around} {outer : List Env} {s : Shared} {H : Hp} {E : XK} (hr : Room 2 (A.deeper (envOfC "_law_near" (defScope s__law_near) s.heap.objs.size f cdv))) :
  PSs (cxOf CX0 P w K mg base n__law_near "_law_near" (defScope s__law_near) f cdv A outer s H E).nox (defBody s__law_near) (t__law_near K C CB kinds ) :=
  (pss_cons (ps_set (i := 3) sc__law_near.nd rfl (by first | exact Or.inl rfl | exact Or.inr rfl) (pe_lst (pa_cons (pe_tup (pa_cons pe_str (pa_cons (pe_callB call_len (by rfl) T.b_len (by decide +kernel) (pa_cons (pe_dget (hu_of hr) (pv 1) pe_str (fun _ _ => rfl)) pa_nil)) pa_nil))) (pa_cons (pe_tup (pa_cons pe_str (pa_cons (pe_callB call_len (by rfl) T.b_len (by decide +kernel) (pa_cons (pe_dget (hu_of hr) (pv 1) pe_str (fun _ _ => rfl)) pa_nil)) (pa_cons pe_int pa_nil)))) (pa_cons (pe_tup (pa_cons pe_str (pa_cons (pe_callB call_len (by rfl) T.b_len (by decide +kernel) (pa_cons (pe_dget (hu_of hr) (pv 1) pe_str (fun _ _ => rfl)) pa_nil)) (pa_cons pe_int pa_nil)))) pa_nil)))))
    (pss_cons (ps_for PassesOwn.never rfl (pi_range1 rfl T.b_range (pa_cons (pe_callB call_len (by rfl) T.b_len (by decide +kernel) (pa_cons (pe_dget (hu_of hr) (pv 1) pe_str (fun _ _ => rfl)) pa_nil)) pa_nil)) (pg_name (i := 4) sc__law_near.nd rfl (by first | exact Or.inl rfl | exact Or.inr rfl)) (pss_cons (ps_set (i := 5) sc__law_near.nd rfl (by first | exact Or.inl rfl | exact Or.inr rfl) (pe_ix ix_seq (pe_ix ix_seq (pe_dget (hu_of hr) (pv 1) pe_str (fun _ _ => rfl)) (pv 4) (fun _ _ => rfl)) pe_int (fun _ _ => rfl)))
    (pss_cons (ps_expr (pe_bm PySem.F.plainAttrs_list PySem.F.slot_list_append PySem.F.type_list_append mt_append (pv 3) (pa_cons (pe_tup (pa_cons pe_str (pa_cons (pv 4) pa_nil))) pa_nil)))
    (pss_one (ps_if (pt_cmpR op_eq (pe_ix ix_seq (pv 5) pe_int (fun _ _ => rfl)) pe_str (nomark _)) (pss_one (ps_set (i := 3) sc__law_near.nd rfl (by first | exact Or.inl rfl | exact Or.inr rfl) (pe_op op_cat (pe_op op_cat (pv 3) (pe_lc (own := [("_law_one", 6)]) (g := (gName 6)) (tt := tYes) (te := (tTup (tCons (tC (.str "take")) (tCons (tVar 4) (tCons (tOp (rIx K) (tVar 6) (tC (.int 0))) tNil))))) rfl sc__law_near.nd (pi_seq (pe_ix ix_seq (pe_ix ix_seq (pv 2) pe_int (fun _ _ => rfl)) (pe_ix ix_seq (pv 5) pe_int (fun _ _ => rfl)) (fun _ _ => rfl))) (blkOk_by (own := [("_law_one", 6)]) (N := n__law_near) (sc := defScope s__law_near) (by decide +kernel)) (fun _ _ _ _ _ => (pg_name (i := 6) sc__law_near.nd rfl (by first | exact Or.inl rfl | exact Or.inr rfl))) (fun _ _ _ _ _ => pts_nil) (fun _ _ _ _ _ => (pe_tup (pa_cons pe_str (pa_cons (pv 4) (pa_cons (pe_ix ix_seq (pv 6) pe_int (fun _ _ => rfl)) pa_nil))))))) (pe_lst (pa_cons (pe_tup (pa_cons pe_str (pa_cons (pv 4) (pa_cons (pe_ix ix_seq (pe_ix ix_seq (pv 2) pe_int (fun _ _ => rfl)) (pe_ix ix_seq (pv 5) pe_int (fun _ _ => rfl)) (fun _ _ => rfl)) pa_nil)))) pa_nil))))) (pss_one (ps_expr (pe_bm PySem.F.plainAttrs_list PySem.F.slot_list_append PySem.F.type_list_append mt_append (pv 3) (pa_cons (pe_tup (pa_cons pe_str (pa_cons (pv 4) (pa_cons pe_int pa_nil)))) pa_nil)))))))))
    (pss_cons (ps_for PassesOwn.never rfl (pi_range1 rfl T.b_range (pa_cons (pe_callB call_len (by rfl) T.b_len (by decide +kernel) (pa_cons (pe_dget (hu_of hr) (pv 1) pe_str (fun _ _ => rfl)) pa_nil)) pa_nil)) (pg_name (i := 7) sc__law_near.nd rfl (by first | exact Or.inl rfl | exact Or.inr rfl)) (pss_cons (ps_setLc (i := 8) (own := [("_law_k", 9)]) (g := (gName 9)) (tt := (tTest (tOp (rIn K true) (tVar 9) (tLc (iSeq K (tOp (rIx K) (tOp (rIx K) (tVar 2) (tC (.int 2))) (tVar 7))) (gName 6) tYes (tOp (rIx K) (tVar 6) (tC (.int 0))) [6])))) (te := (tVar 9)) rfl sc__law_near.nd rfl rfl (sw_true rfl rfl rfl (by decide +kernel)) (pi_range1 rfl T.b_range (pa_cons (pe_ix ix_seq (pe_ix ix_seq (pv 2) pe_int (fun _ _ => rfl)) (pv 7) (fun _ _ => rfl)) pa_nil)) (blkOk_by (own := [("_law_k", 9)]) (N := n__law_near) (sc := defScope s__law_near) (by decide +kernel)) (fun _ _ _ _ _ => (pg_name (i := 9) sc__law_near.nd rfl (by first | exact Or.inl rfl | exact Or.inr rfl))) (fun _ _ _ _ _ => pts_one (pt_cmpR op_notIn_seq (pv 9) (pe_lc (own := [("_law_one", 6)]) (g := (gName 6)) (tt := tYes) (te := (tOp (rIx K) (tVar 6) (tC (.int 0)))) rfl sc__law_near.nd (pi_seq (pe_ix ix_seq (pe_ix ix_seq (pv 2) pe_int (fun _ _ => rfl)) (pv 7) (fun _ _ => rfl))) (blkOk_by (own := [("_law_one", 6)]) (N := n__law_near) (sc := { kind := .function, names := [(".0", .local), ("_law_k", .local), ("_law_c", .cell), ("_law_world", .cell)], isGenerator := false, isCoroutine := false }) (by decide +kernel)) (fun _ _ _ _ _ => (pg_name (i := 6) sc__law_near.nd rfl (by first | exact Or.inl rfl | exact Or.inr rfl))) (fun _ _ _ _ _ => pts_nil) (fun _ _ _ _ _ => (pe_ix ix_seq (pv 6) pe_int (fun _ _ => rfl)))) (by rfl))) (fun _ _ _ _ _ => (pv 9)))
    (pss_cons (ps_set (i := 3) sc__law_near.nd rfl (by first | exact Or.inl rfl | exact Or.inr rfl) (pe_op op_cat (pe_op op_cat (pv 3) (pe_lc (own := [("_law_one", 6)]) (g := (gName 6)) (tt := tYes) (te := (tTup (tCons (tC (.str "lose")) (tCons (tVar 7) (tCons (tOp (rIx K) (tVar 6) (tC (.int 0))) tNil))))) rfl sc__law_near.nd (pi_seq (pe_ix ix_seq (pe_ix ix_seq (pv 2) pe_int (fun _ _ => rfl)) (pv 7) (fun _ _ => rfl))) (blkOk_by (own := [("_law_one", 6)]) (N := n__law_near) (sc := defScope s__law_near) (by decide +kernel)) (fun _ _ _ _ _ => (pg_name (i := 6) sc__law_near.nd rfl (by first | exact Or.inl rfl | exact Or.inr rfl))) (fun _ _ _ _ _ => pts_nil) (fun _ _ _ _ _ => (pe_tup (pa_cons pe_str (pa_cons (pv 7) (pa_cons (pe_ix ix_seq (pv 6) pe_int (fun _ _ => rfl)) pa_nil))))))) (pe_lc (own := [("_law_k", 9)]) (g := (gName 9)) (tt := tYes) (te := (tTup (tCons (tC (.str "lose")) (tCons (tVar 7) (tCons (tVar 9) tNil))))) rfl sc__law_near.nd (pi_seq (pe_slice sl_list (pv 8) po_none (po_some pe_int))) (blkOk_by (own := [("_law_k", 9)]) (N := n__law_near) (sc := defScope s__law_near) (by decide +kernel)) (fun _ _ _ _ _ => (pg_name (i := 9) sc__law_near.nd rfl (by first | exact Or.inl rfl | exact Or.inr rfl))) (fun _ _ _ _ _ => pts_nil) (fun _ _ _ _ _ => (pe_tup (pa_cons pe_str (pa_cons (pv 7) (pa_cons (pv 9) pa_nil))))))))
    (pss_one (ps_set (i := 3) sc__law_near.nd rfl (by first | exact Or.inl rfl | exact Or.inr rfl) (pe_op op_cat (pv 3) (pe_lst (pa_cons (pe_tup (pa_cons pe_str (pa_cons (pv 7) (pa_cons (pe_ix ix_seq (pe_ix ix_seq (pv 2) pe_int (fun _ _ => rfl)) (pv 7) (fun _ _ => rfl)) pa_nil)))) (pa_cons (pe_tup (pa_cons pe_str (pa_cons (pv 7) (pa_cons (pe_op op_pow pe_int pe_int) pa_nil)))) pa_nil)))))))))
    (pss_cons (ps_set (i := 3) sc__law_near.nd rfl (by first | exact Or.inl rfl | exact Or.inr rfl) (pe_op op_cat (pv 3) (pe_lst (pa_cons pe_non (pa_cons pe_int (pa_cons pe_str (pa_cons (pe_tup pa_nil) (pa_cons (pe_tup (pa_cons pe_str pa_nil)) (pa_cons (pe_tup (pa_cons pe_str (pa_cons pe_int (pa_cons pe_int pa_nil)))) (pa_cons (pe_tup (pa_cons pe_str (pa_cons pe_int pa_nil))) (pa_cons (pe_tup (pa_cons pe_str (pa_cons pe_non pa_nil))) (pa_cons (pe_tup (pa_cons pe_str (pa_cons (pe_un un_neg pe_int) pa_nil))) pa_nil))))))))))))
    (pss_cons (ps_set (i := 3) sc__law_near.nd rfl (by first | exact Or.inl rfl | exact Or.inr rfl) (pe_op op_cat (pv 3) (pe_lst (pa_cons (pe_tup (pa_cons pe_str (pa_cons pe_int pa_nil))) (pa_cons (pe_tup (pa_cons pe_str (pa_cons pe_int (pa_cons (pe_un un_neg pe_int) pa_nil)))) (pa_cons (pe_tup (pa_cons pe_str (pa_cons pe_int pa_nil))) (pa_cons (pe_tup (pa_cons pe_str (pa_cons (pe_un un_neg pe_int) (pa_cons pe_int pa_nil)))) (pa_cons (pe_tup (pa_cons pe_str (pa_cons pe_int (pa_cons (pe_un un_neg pe_int) pa_nil)))) pa_nil))))))))
    (pss_cons (ps_set (i := 10) sc__law_near.nd rfl (by first | exact Or.inl rfl | exact Or.inr rfl) (pe_call G__law_possible (hr.mono (by decide)) rfl c__law_possible.gl c__law_possible.kp c__law_possible.bd .nil pass0 (pa_cons (pv 1) (pa_cons (pv 2) pa_nil))))
    (pss_cons (ps_setLc (i := 3) (own := [("_law_deed", 11)]) (g := (gName 11)) (tt := (tTest (tOp (rNotInD K) (tVar 11) (tVar 10)))) (te := (tVar 11)) rfl sc__law_near.nd rfl rfl (sw_true rfl rfl rfl (by decide +kernel)) (pi_seq (pv 3)) (blkOk_by (own := [("_law_deed", 11)]) (N := n__law_near) (sc := defScope s__law_near) (by decide +kernel)) (fun _ _ _ _ _ => (pg_name (i := 11) sc__law_near.nd rfl (by first | exact Or.inl rfl | exact Or.inr rfl))) (fun _ _ _ _ _ => pts_one (pt_cmpR (op_notInD (hu65 hr)) (pv 11) (pv 10) (by rfl))) (fun _ _ _ _ _ => (pv 11)))
    (pss_one (ps_ret (pe_ix ix_seq (pv 3) (pe_call G__law_take (hr.mono (by decide)) rfl c__law_take.gl c__law_take.kp c__law_take.bd .nil pass0 (pa_cons (pv 0) (pa_cons (pe_callB call_len (by rfl) T.b_len (by decide +kernel) (pa_cons (pv 3) pa_nil)) pa_nil))) (fun _ _ => rfl)))))))))))

/-! ### _law_same: 0 _law_actual, 1 _law_due, 2 _law_k -/
abbrev s__law_same : Stmt := topS 52
abbrev n__law_same : List PySem.Str := ["_law_actual", "_law_due", "_law_k"]
theorem sc__law_same : FnScope n__law_same ["_law_actual", "_law_due"] (defScope s__law_same) := ⟨rfl, rfl, rfl, by decide +kernel, rfl, by decide +kernel, by decide +kernel⟩
def t__law_same (K : PySem.W.Frag) (C CB kinds : Addr) (m : Nat) : TS := (tSeq (tIfS (tB (tCB (rIsi K) (tCons (tVar 1) (tCons (tC (.ty "tuple")) tNil)))) (tSeq (tIfS (tOr (tNot (tB (tCB (rIsi K) (tCons (tVar 0) (tCons (tC (.ty "tuple")) tNil))))) (tTest (tOp rNe (tCB (rLenV K) (tCons (tVar 0) tNil)) (tCB (rLenV K) (tCons (tVar 1) tNil))))) (tRet (tC (.bl false))) tNext)
    (tSeq (tFor (iRng1 (tCons (tCB (rLenV K) (tCons (tVar 1) tNil)) tNil)) (gName 2) (tIfS (tNot (tB (tCall (spP C (preS m)) [] E0 (tCons (tOp (rIx K) (tVar 0) (tVar 2)) (tCons (tOp (rIx K) (tVar 1) (tVar 2)) tNil))))) (tRet (tC (.bl false))) tNext))
    (tRet (tC (.bl true))))) tNext)
    (tSeq (tIfS (tTest (tOp rIsN (tVar 1) (tC .non))) (tRet (tOp rIsN (tVar 0) (tC .non))) tNext)
    (tSeq (tIfS (tB (tCB (rIsi K) (tCons (tVar 1) (tCons (tC (.ty "str")) tNil)))) (tRet (tAndV (tCB (rIsi K) (tCons (tVar 0) (tCons (tC (.ty "str")) tNil))) (tOp rEq (tVar 0) (tVar 1)))) tNext)
    (tRet (tAndV (tCB (rIsi K) (tCons (tVar 0) (tCons (tC (.ty "int")) tNil))) (tAndV (tNotV (tCB (rIsi K) (tCons (tVar 0) (tCons (tC (.ty "bool")) tNil)))) (tOp rEq (tVar 0) (tVar 1))))))))
theorem d__law_same (T : Bt K mg C kinds) (m : Nat) {f__law_same : Addr} {fd__law_same : FuncData} (c__law_same : Cal K mg "_law_same" f__law_same fd__law_same ["_law_actual", "_law_due"]) (G__law_same : FnOk P w K mg base CX0 m f__law_same fd__law_same ["_law_actual", "_law_due"] (spP C (preS m))) {f : Addr} {cdv : Value} {A : Around} {outer : List Env} {s : Shared} {H : Hp} {E : XK} (hr : Room m (A.deeper (envOfC "_law_same" (defScope s__law_same) s.heap.objs.size f cdv))) :
  PSs (cxOf CX0 P w K mg base n__law_same "_law_same" (defScope s__law_same) f cdv A outer s H E).nox (defBody s__law_same) (t__law_same K C CB kinds m ) :=
  (pss_cons (ps_if (pt_val (pe_callB call_isi (by rfl) T.b_isinstance (by decide +kernel) (pa_cons (pv 1) (pa_cons (pe_bltn (v := .ty "tuple") rfl T.b_tuple (by decide +kernel) rfl) pa_nil)))) (pss_cons (ps_if (PW.pt (pw_or (pt_not (pt_val (pe_callB call_isi (by rfl) T.b_isinstance (by decide +kernel) (pa_cons (pv 0) (pa_cons (pe_bltn (v := .ty "tuple") rfl T.b_tuple (by decide +kernel) rfl) pa_nil))))) (pw_or1 (pt_cmpR op_ne (pe_callB call_len (by rfl) T.b_len (by decide +kernel) (pa_cons (pv 0) pa_nil)) (pe_callB call_len (by rfl) T.b_len (by decide +kernel) (pa_cons (pv 1) pa_nil)) (nomark _))))) (pss_one (ps_ret pe_bl)) pss_nil)
    (pss_cons (ps_for PassesOwn.never rfl (pi_range1 rfl T.b_range (pa_cons (pe_callB call_len (by rfl) T.b_len (by decide +kernel) (pa_cons (pv 1) pa_nil)) pa_nil)) (pg_name (i := 2) sc__law_same.nd rfl (by first | exact Or.inl rfl | exact Or.inr rfl)) (pss_one (ps_if (pt_not (pt_val (pe_call G__law_same (hr.mono (Nat.le_refl _)) rfl c__law_same.gl c__law_same.kp c__law_same.bd .nil pass0 (pa_cons (pe_ix ix_seq (pv 0) (pv 2) (fun _ _ => rfl)) (pa_cons (pe_ix ix_seq (pv 1) (pv 2) (fun _ _ => rfl)) pa_nil))))) (pss_one (ps_ret pe_bl)) pss_nil)))
    (pss_one (ps_ret pe_bl)))) pss_nil)
    (pss_cons (ps_if (pt_cmpR op_isN (pv 1) pe_non (nomark _)) (pss_one (ps_ret (pe_cmpR op_isN (pv 0) pe_non (nomark _)))) pss_nil)
    (pss_cons (ps_if (pt_val (pe_callB call_isi (by rfl) T.b_isinstance (by decide +kernel) (pa_cons (pv 1) (pa_cons (pe_bltn (v := .ty "str") rfl T.b_str (by decide +kernel) rfl) pa_nil)))) (pss_one (ps_ret (pe_and (pe_callB call_isi (by rfl) T.b_isinstance (by decide +kernel) (pa_cons (pv 0) (pa_cons (pe_bltn (v := .ty "str") rfl T.b_str (by decide +kernel) rfl) pa_nil))) (pe_one (pe_cmpR op_eq (pv 0) (pv 1) (nomark _)))))) pss_nil)
    (pss_one (ps_ret (pe_and (pe_callB call_isi (by rfl) T.b_isinstance (by decide +kernel) (pa_cons (pv 0) (pa_cons (pe_bltn (v := .ty "int") rfl T.b_int (by decide +kernel) rfl) pa_nil))) (pe_and (pe_not (pe_callB call_isi (by rfl) T.b_isinstance (by decide +kernel) (pa_cons (pv 0) (pa_cons (pe_bltn (v := .ty "bool") rfl T.b_bool (by decide +kernel) rfl) pa_nil)))) (pe_one (pe_cmpR op_eq (pv 0) (pv 1) (nomark _))))))))))

/-! ### _law_long: 0 _law_pool_here, 1 _law_names_here, 2 _law_rules, 3 _law_p, 4 _law_net_here, 5 _law_name, 6 _law_k -/
abbrev s__law_long : Stmt := topS 55
abbrev n__law_long : List PySem.Str := ["_law_pool_here", "_law_names_here", "_law_rules", "_law_p", "_law_net_here", "_law_name", "_law_k"]
theorem sc__law_long : FnScope n__law_long ["_law_pool_here"] (defScope s__law_long) := ⟨rfl, rfl, rfl, by decide +kernel, rfl, by decide +kernel, by decide +kernel⟩
def t__law_long (K : PySem.W.Frag) (C CB kinds : Addr) : TS := (tSeq (tAsg (tCall (spS C pre__law_names) [] E0 (tCons (tVar 0) (tCons (tOp rAddI (tC (.int 1)) (tCall (spS C pre__law_take) [] E0 (tCons (tVar 0) (tCons (tC (.int 3)) tNil)))) tNil))) (gName 1))
    (tSeq (tAsg (tLc (iRng1 (tCons (tCB (rLenV K) (tCons (tVar 1) tNil)) tNil)) (gName 3) tYes (tTup (tCons (tVar 3) (tCons (tC (.int 0)) (tCons (tTup (tCons (tC (.str "do")) tNil)) (tCons (tC (.int 0)) tNil))))) [3]) (gName 2))
    (tSeq (tAsg (tDisp [((tC (.str "processes")), (tLc (iSeq K (tVar 1)) (gName 5) tYes (tTup (tCons (tVar 5) (tCons (tC (.int 1)) tNil))) [5])), ((tC (.str "channels")), (tLst tNil)), ((tC (.str "rules")), (tVar 2))]) (gName 4))
    (tRet (tTup (tCons (tVar 4) (tCons (tLc (iRng1 (tCons (tC (.int 60)) tNil)) (gName 6) tYes (tTup (tCons (tC (.str "act")) (tCons (tCall (spS C pre__law_take) [] E0 (tCons (tVar 0) (tCons (tCB (rLenV K) (tCons (tVar 1) tNil)) tNil))) tNil))) [6]) tNil)))))))
theorem d__law_long (T : Bt K mg C kinds) {f__law_take : Addr} {fd__law_take : FuncData} (c__law_take : Cal K mg "_law_take" f__law_take fd__law_take ["_law_pool_here", "_law_many"]) (G__law_take : FnOk P w K mg base CX0 2 f__law_take fd__law_take ["_law_pool_here", "_law_many"] (spS C pre__law_take)) {f__law_names : Addr} {fd__law_names : FuncData} (c__law_names : Cal K mg "_law_names" f__law_names fd__law_names ["_law_pool_here", "_law_many"]) (G__law_names : FnOk P w K mg base CX0 3 f__law_names fd__law_names ["_law_pool_here", "_law_many"] (spS C pre__law_names)) {f : Addr} {cdv : Value} {A : Around} {outer : List Env} {s : Shared} {H : Hp} {E : XK} (hr : Room 3 (A.deeper (envOfC "_law_long" (defScope s__law_long) s.heap.objs.size f cdv))) :
  PSs (cxOf CX0 P w K mg base n__law_long "_law_long" (defScope s__law_long) f cdv A outer s H E).nox (defBody s__law_long) (t__law_long K C CB kinds ) :=
  (pss_cons (ps_set (i := 1) sc__law_long.nd rfl (by first | exact Or.inl rfl | exact Or.inr rfl) (pe_call G__law_names (hr.mono (by decide)) rfl c__law_names.gl c__law_names.kp c__law_names.bd .nil pass0 (pa_cons (pv 0) (pa_cons (pe_op op_add pe_int (pe_call G__law_take (hr.mono (by decide)) rfl c__law_take.gl c__law_take.kp c__law_take.bd .nil pass0 (pa_cons (pv 0) (pa_cons pe_int pa_nil)))) pa_nil))))
    (pss_cons (ps_setLc (i := 2) (own := [("_law_p", 3)]) (g := (gName 3)) (tt := tYes) (te := (tTup (tCons (tVar 3) (tCons (tC (.int 0)) (tCons (tTup (tCons (tC (.str "do")) tNil)) (tCons (tC (.int 0)) tNil)))))) rfl sc__law_long.nd rfl rfl (sw_true rfl rfl rfl (by decide +kernel)) (pi_range1 rfl T.b_range (pa_cons (pe_callB call_len (by rfl) T.b_len (by decide +kernel) (pa_cons (pv 1) pa_nil)) pa_nil)) (blkOk_by (own := [("_law_p", 3)]) (N := n__law_long) (sc := defScope s__law_long) (by decide +kernel)) (fun _ _ _ _ _ => (pg_name (i := 3) sc__law_long.nd rfl (by first | exact Or.inl rfl | exact Or.inr rfl))) (fun _ _ _ _ _ => pts_nil) (fun _ _ _ _ _ => (pe_tup (pa_cons (pv 3) (pa_cons pe_int (pa_cons (pe_tup (pa_cons pe_str pa_nil)) (pa_cons pe_int pa_nil)))))))
    (pss_cons (ps_set (i := 4) sc__law_long.nd rfl (by first | exact Or.inl rfl | exact Or.inr rfl) (pe_disp (pps_cons pe_str (pe_lc (own := [("_law_name", 5)]) (g := (gName 5)) (tt := tYes) (te := (tTup (tCons (tVar 5) (tCons (tC (.int 1)) tNil)))) rfl sc__law_long.nd (pi_seq (pv 1)) (blkOk_by (own := [("_law_name", 5)]) (N := n__law_long) (sc := defScope s__law_long) (by decide +kernel)) (fun _ _ _ _ _ => (pg_name (i := 5) sc__law_long.nd rfl (by first | exact Or.inl rfl | exact Or.inr rfl))) (fun _ _ _ _ _ => pts_nil) (fun _ _ _ _ _ => (pe_tup (pa_cons (pv 5) (pa_cons pe_int pa_nil))))) (pps_cons pe_str (pe_lst pa_nil) (pps_cons pe_str (pv 2) pps_nil))) (by rfl) (by rfl) (fun z => by cases z) (by decide)))
    (pss_one (ps_ret (pe_tup (pa_cons (pv 4) (pa_cons (pe_lc (own := [("_law_k", 6)]) (g := (gName 6)) (tt := tYes) (te := (tTup (tCons (tC (.str "act")) (tCons (tCall (spS C pre__law_take) [] E0 (tCons (tVar 0) (tCons (tCB (rLenV K) (tCons (tVar 1) tNil)) tNil))) tNil)))) rfl sc__law_long.nd (pi_range1 rfl T.b_range (pa_cons pe_int pa_nil)) (blkOk_by (own := [("_law_k", 6)]) (N := n__law_long) (sc := defScope s__law_long) (by decide +kernel)) (fun _ _ _ _ _ => (pg_name (i := 6) sc__law_long.nd rfl (by first | exact Or.inl rfl | exact Or.inr rfl))) (fun _ _ _ _ _ => pts_nil) (fun _ _ _ _ _ => (pe_tup (pa_cons pe_str (pa_cons (pe_call G__law_take (hr.mono (by decide)) rfl c__law_take.gl c__law_take.kp c__law_take.bd .nil pass0 (pa_cons (pv 0) (pa_cons (pe_callB call_len (by rfl) T.b_len (by decide +kernel) (pa_cons (pv 1) pa_nil)) pa_nil))) pa_nil))))) pa_nil))))))))

end
end Dl


namespace Dl
open PySem L2
section
variable {C CB kinds : Addr} {K : PySem.W.Frag} {W : WX} {R : Out → Prop} {δ : List Slot}
theorem ex_retF {te : TE} {i : Nat} {ds : List Dat} (h : δ[i]? = some (.own ds)) (k : Ex C CB W (tRet te) (δ.set i (.val (.lst ds))) R) : Ex C CB W (tRet te) δ R := ex_freeze h k
local macro_rules | `(tactic| walk_at "ev") => `(tactic| first
  | ((with_reducible refine ex_norm (δ' := ?dn) ?he ?_); (case he => (simp only [slots, wipeS, List.map_cons, List.map_nil, List.replicate_succ, List.replicate_zero, List.cons_append, List.nil_append, List.set_cons_zero, List.set_cons_succ]; exact rfl)))
  | (with_reducible refine ex_seq ?_) | (with_reducible refine ex_if ?_) | ((with_reducible refine ex_retF (i := 2) (ds := ?dd) ?hf ?_); (case hf => exact rfl)) | ((with_reducible refine ex_retF (i := 3) (ds := ?dd) ?hf ?_); (case hf => exact rfl)) | ((with_reducible refine ex_retF (i := 4) (ds := ?dd) ?hf ?_); (case hf => exact rfl)) | ((with_reducible refine ex_retF (i := 5) (ds := ?dd) ?hf ?_); (case hf => exact rfl)) | ((with_reducible refine ex_retF (i := 8) (ds := ?dd) ?hf ?_); (case hf => exact rfl)) | (with_reducible refine ex_ret ?_) | (with_reducible refine ex_nx ?_)
  | (with_reducible refine ev_int ?_) | (with_reducible refine ev_str ?_) | (with_reducible refine ev_bl ?_) | (with_reducible refine ev_non ?_)
  | ((with_reducible refine ev_var (d := ?dd) ?hv ?_); (case hv => exact rfl))
  | (with_reducible refine ea_nil ?_) | (with_reducible refine ea_cons ?_) | (with_reducible refine ev_call ?_)
  | (with_reducible refine et_test ?_) | (with_reducible refine et_B ?_) | (with_reducible refine et_and ?_) | (with_reducible refine et_or ?_) | (with_reducible refine et_not ?_) | (with_reducible refine et_yes ?_)
  | (with_reducible refine ev_andV ?_) | (with_reducible refine ev_orV ?_) | (with_reducible refine ev_notV ?_) | (with_reducible refine ev_if ?_) | (with_reducible refine ev_chain ?_)
  | (with_reducible refine ev_isi ?_) | (with_reducible refine ev_isi2 ?_) | (with_reducible refine ev_tup ?_) | (with_reducible refine EvN.ev (en_sl ?_)) | (with_reducible refine ev_sl ?_) | (with_reducible refine eo_none ?_) | (with_reducible refine eo_some ?_)
  | (with_reducible refine isB_mk ?_)
  | (with_reducible refine rv_add ?_) | (with_reducible refine rv_sub ?_) | (with_reducible refine rv_lt ?_) | (with_reducible refine rv_le ?_) | (with_reducible refine rv_gt ?_) | (with_reducible refine rv_ge ?_)
  | (with_reducible refine rv_eqI ?_) | (with_reducible refine rv_neI ?_) | (with_reducible refine rv_eqS ?_) | (with_reducible refine rv_neS ?_) | (with_reducible refine rv_eqB ?_) | (with_reducible refine rv_isN ?_)
  | (with_reducible refine rc_lenL ?_) | (with_reducible refine rc_lenT ?_) | (with_reducible refine rc_intI ?_) | (with_reducible refine rc_intB ?_) | (with_reducible refine rc_tupT ?_) | (with_reducible refine rc_tupL ?_)
  | (with_reducible refine ev_getP ?_) | (with_reducible refine ev_getC ?_) | (with_reducible refine ev_getR ?_)
  | ((with_reducible refine rv_ixT (z := ?zz) ?hi ?_); (case hi => exact rfl)) | ((with_reducible refine rv_ixL (z := ?zz) ?hi ?_); (case hi => exact rfl))
  | ((with_reducible refine ev_lenO (ds := ?dd) ?hv ?_); (case hv => exact rfl)) | (with_reducible refine EvN.ev (en_lst ?_)) | (with_reducible refine EvN.ev (en_list ?_)) | (with_reducible refine EvN.ev (en_sl ?_)) | (with_reducible refine EvN.ev (en_cat ?_))
  | (with_reducible refine ev_cb ?_) | ((with_reducible refine ev_opO (ds := ?dd) ?hv ?_); (case hv => exact rfl)) | ((with_reducible refine ev_opP (ds := ?dd) ?hv ?_); (case hv => exact rfl)) | (with_reducible refine ev_op ?_)
  | (with_reducible refine ei_seq ?_) | (with_reducible refine ei_enum ?_) | (with_reducible refine ei_range ?_) | (with_reducible refine ei_str ?_)
  | (with_reducible refine mk_o ?_) | (with_reducible refine mk_n ?_) | (with_reducible refine mk_i ?_) | (with_reducible refine mk_s ?_) | (with_reducible refine mk_l ?_) | (with_reducible refine mk_b ?_)
  | (with_reducible refine mk_sl ?_) | (with_reducible refine mk_st ?_) | (with_reducible refine mk_al ?_) | (with_reducible refine mk_at ?_)
  | ((with_reducible refine and_len ?ll ?_); (case ll => exact Nat.le_of_ble_eq_true rfl)) | (refine br_t rfl ?_) | (refine br_f rfl ?_))
local macro_rules | `(tactic| walk_at "isi") => `(tactic| first | refine isi1 rfl kb_ii ?_ | refine isi1 rfl kb_is ?_ | refine isi1 rfl kb_ib ?_ | refine isi1 rfl kb_il ?_ | refine isi1 rfl kb_it ?_ | refine isi1 rfl kb_si ?_ | refine isi1 rfl kb_ss ?_ | refine isi1 rfl kb_sb ?_ | refine isi1 rfl kb_sl ?_ | refine isi1 rfl kb_st ?_ | refine isi1 rfl kb_ll ?_ | refine isi1 rfl kb_lt ?_ | refine isi1 rfl kb_li ?_ | refine isi1 rfl kb_ls ?_ | refine isi1 rfl kb_lb ?_ | refine isi1 rfl kb_tt ?_ | refine isi1 rfl kb_tl ?_ | refine isi1 rfl kb_ti ?_ | refine isi1 rfl kb_ts ?_ | refine isi1 rfl kb_tb ?_ | refine isi1 rfl kb_ni ?_ | refine isi1 rfl kb_ns ?_ | refine isi1 rfl kb_nb ?_ | refine isi1 rfl kb_nl ?_ | refine isi1 rfl kb_nt ?_)
local macro_rules | `(tactic| walk_at "go") => `(tactic| repeat (walk_at "ev"))
local macro_rules | `(tactic| walk_at "f1") => `(tactic| ((refine ex_freeze (i := 1) (ds := ?dd) ?hf ?_); (case hf => exact rfl)))
local macro_rules | `(tactic| walk_at "f2") => `(tactic| ((refine ex_freeze (i := 2) (ds := ?dd) ?hf ?_); (case hf => exact rfl)))
local macro_rules | `(tactic| walk_at "f3") => `(tactic| ((refine ex_freeze (i := 3) (ds := ?dd) ?hf ?_); (case hf => exact rfl)))
local macro_rules | `(tactic| walk_at "f4") => `(tactic| ((refine ex_freeze (i := 4) (ds := ?dd) ?hf ?_); (case hf => exact rfl)))
local macro_rules | `(tactic| walk_at "f5") => `(tactic| ((refine ex_freeze (i := 5) (ds := ?dd) ?hf ?_); (case hf => exact rfl)))
local macro_rules | `(tactic| walk_at "f6") => `(tactic| ((refine ex_freeze (i := 6) (ds := ?dd) ?hf ?_); (case hf => exact rfl)))
local macro_rules | `(tactic| walk_at "f7") => `(tactic| ((refine ex_freeze (i := 7) (ds := ?dd) ?hf ?_); (case hf => exact rfl)))
local macro_rules | `(tactic| walk_at "f8") => `(tactic| ((refine ex_freeze (i := 8) (ds := ?dd) ?hf ?_); (case hf => exact rfl)))
local macro_rules | `(tactic| walk_at "f9") => `(tactic| ((refine ex_freeze (i := 9) (ds := ?dd) ?hf ?_); (case hf => exact rfl)))
local macro_rules | `(tactic| walk_at "f10") => `(tactic| ((refine ex_freeze (i := 10) (ds := ?dd) ?hf ?_); (case hf => exact rfl)))
local macro_rules | `(tactic| walk_at "f11") => `(tactic| ((refine ex_freeze (i := 11) (ds := ?dd) ?hf ?_); (case hf => exact rfl)))
local macro_rules | `(tactic| walk_at "f12") => `(tactic| ((refine ex_freeze (i := 12) (ds := ?dd) ?hf ?_); (case hf => exact rfl)))
local macro_rules | `(tactic| walk_at "f13") => `(tactic| ((refine ex_freeze (i := 13) (ds := ?dd) ?hf ?_); (case hf => exact rfl)))
local macro_rules | `(tactic| walk_at "nf") => `(tactic| ((with_reducible refine ev_norm (δ' := ?dn) ?he ?_); (case he => (simp only [slots, wipeS, List.map_cons, List.map_nil, List.replicate_succ, List.replicate_zero, List.cons_append, List.nil_append, List.set_cons_zero, List.set_cons_succ]; exact rfl))))
theorem x__law_mixed : ∀ ds Q, pre__law_mixed ds Q → Ex C CB noX (t__law_mixed K C CB kinds) (slots ds 3) (RetP Q) := by
  rintro ds Q ⟨n, t, m, rfl, hm, p⟩
  unfold t__law_mixed
  walk_at "go"
  refine ex_asg ?_
  walk_at "go"
  refine ex_asg ?_
  walk_at "go"
  refine rv_mul (.inr (by decide)) ?_
  walk_at "go"
  refine rv_mul (.inr (by decide)) ?_
  walk_at "go"
  refine rv_mod (by decide) ?_
  generalize n * 48271 + t * 1000000000039 + 12345678910111213 = a
  have h1 : 0 ≤ a % 2305843009213693951 := Int.emod_nonneg _ (by decide)
  have h2 : a % 2305843009213693951 < 2305843009213693951 := Int.emod_lt_of_pos _ (by decide)
  generalize a % 2305843009213693951 = b at h1 h2
  walk_at "go"
  refine ex_asg ?_
  walk_at "go"
  refine rv_mul (.inr ⟨by omega, by omega⟩) ?_
  walk_at "go"
  refine rv_mul (.inr (by decide)) ?_
  walk_at "go"
  refine rv_mod (by decide) ?_
  walk_at "go"
  refine rv_div ⟨by decide, by decide⟩ ?_
  walk_at "go"
  refine rv_mod (by omega) ?_
  generalize (((b * b + t) * 7046029254386353) % 2305843009213693951) / 8 = c
  have h3 : 0 ≤ c % (m : Int) := Int.emod_nonneg _ (by omega)
  have h4 : c % (m : Int) < m := Int.emod_lt_of_pos _ (by omega)
  have := p (c % (m : Int)).toNat (by omega)
  rw [Int.toNat_of_nonneg h3] at this
  exact this
theorem map_const {α : Type} {xs : List α} {d : Dat} : (xs.map fun _ => d) = List.replicate xs.length d := by
  induction xs with
  | nil => rfl
  | cons x xs ih => rw [List.map_cons, ih]; rfl
theorem x__law_start : ∀ ds Q, pre__law_start ds Q → Ex C CB noX (t__law_start K C CB kinds) (slots ds 2) (RetP Q) := by
  rintro ds Q ⟨N, rfl, hN, p⟩
  unfold t__law_start
  have h5 := hN.p5
  have h8 := hN.c8
  walk_at "go"
  refine EvN.ev (en_lcM (α := PySem.Str × Nat) ?_)
  walk_at "go"
  refine ⟨by rw [List.length_map]; omega, N.procs, encP, fun _ => encN 0, rfl, fun q hq => ⟨_, gg_name (by simp), by walk_at "go"; rfl⟩, ?_⟩
  walk_at "go"
  refine EvN.ev (en_lcM (α := Chan) ?_)
  walk_at "go"
  refine ⟨by rw [List.length_map]; omega, N.chans, encC, fun _ => encN 0, rfl, fun q hq => ⟨_, gg_name (by simp), by walk_at "go"; rfl⟩, ?_⟩
  walk_at "go"
  refine EvN.ev (en_lcM (α := Chan) ?_)
  walk_at "go"
  refine ⟨by rw [List.length_map]; omega, N.chans, encC, fun _ => .lst [], rfl, fun q hq => ⟨_, gg_name (by simp), by walk_at "go"; rfl⟩, ?_⟩
  walk_at "go"
  rw [map_const, map_const, map_const]
  unfold Wld.encL NetM.start at p
  simp only [List.map_replicate] at p
  exact p
theorem x__law_told : ∀ ds Q, pre__law_told ds Q → Ex C CB noX (t__law_told K C CB kinds) (slots ds 1) (RetP Q) := by
  rintro ds Q ⟨w, rfl, hw, p⟩
  unfold t__law_told
  walk_at "go"
  refine EvN.ev (en_lcM (α := List (Nat × Nat)) ?_)
  walk_at "go"
  refine ⟨by rw [List.length_map]; omega, w.present, fun row => .lst (row.map encK), fun row => .tup (row.map encK), rfl, fun q hq => ⟨_, gg_name (by simp), by walk_at "go"; rfl⟩, ?_⟩
  walk_at "go"
  exact p
theorem kind_len {k : Nat} : (kindS k).length ≤ 100000 := by
  match k with
  | 0 => decide +kernel
  | 1 => decide +kernel
  | 2 => decide +kernel
  | _ + 3 => exact (by decide +kernel : (("loose lossy" : PySem.Str)).length ≤ 100000)
theorem cut_order {k : Nat} (h : k < 4) : decide (cutS (kindS k) none (some 5) = ("order" : PySem.Str)) = ordered k := by
  match k, h with
  | 0, _ => decide +kernel
  | 1, _ => decide +kernel
  | 2, _ => decide +kernel
  | 3, _ => decide +kernel
theorem cut_lossy {k : Nat} (h : k < 4) : decide (cutS (kindS k) (some (-5)) none = ("lossy" : PySem.Str)) = lossy k := by
  match k, h with
  | 0, _ => decide +kernel
  | 1, _ => decide +kernel
  | 2, _ => decide +kernel
  | 3, _ => decide +kernel
theorem x__law_first : ∀ ds Q, pre__law_first ds Q → Ex C CB noX (t__law_first K C CB kinds) (slots ds 0) (RetP Q) := by
  rintro ds Q ⟨N, b, w, c, rfl, hN, hw, hb, hc, p⟩
  unfold t__law_first
  obtain ⟨h, e⟩ := chan_ex hc
  have hk := (hN.co h (List.mem_of_getElem? e)).k
  have hr := row_ex (w := w) (c := c) (by rw [hw.p]; exact hc)
  unfold opens at p
  rw [chan_of e] at p
  walk_at "go"
  refine rv_ixL (ixmap e) ?_
  walk_at "go"
  refine rs_str kind_len ?_
  walk_at "go"
  rw [cut_order hk]
  refine ⟨fun e => ?_, fun e => ?_⟩
  · walk_at "go"
    refine rv_ixL (ixmap hr) ?_
    rw [if_pos e] at p
    walk_at "go"
    rw [show (1 : Int) = ((1 : Nat) : Int) from rfl, cut_to, ← List.map_take]
    exact p
  · walk_at "go"
    refine rv_ixL (ixmap hr) ?_
    rw [if_neg (by rw [e]; decide)] at p
    exact p
theorem set_row {w : Wld} {c : Nat} {xs : List (Nat × Nat)} : ((w.present.map fun row => Dat.lst (row.map encK)).set c (.lst (xs.map encK))) = (w.present.set c xs).map fun row => Dat.lst (row.map encK) := by rw [List.map_set]
theorem x__law_done : ∀ ds Q, pre__law_done ds Q → Ex C CB noX (t__law_done K C CB kinds) (slots ds 9) (RetP Q) := by
  rintro ds Q ⟨N, b, w, d, rfl, hN, hw, hb, hf, p⟩
  unfold t__law_done
  have h5 := hN.p5
  have h8 := hN.c8
  have hpl := hw.p
  have hpb : ∀ r, r ∈ w.present → r.length ≤ 1000 := fun r hr => by have := hw.pb r hr; omega
  walk_at "go"
  refine ex_asgO (en_list ?_)
  walk_at "go"
  refine ex_asgO (en_list ?_)
  walk_at "go"
  refine ex_asgO (en_lcM (α := List (Nat × Nat)) ?_)
  walk_at "go"
  refine ⟨by rw [List.length_map]; omega, w.present, fun row => .lst (row.map encK), fun row => .lst (row.map encK), rfl, fun q hq => ⟨_, gg_name (by simp), by walk_at "go"; rfl⟩, ?_⟩
  cases d with
  | lose c k =>
    obtain ⟨h, hc, hlo⟩ := hf
    have hl : c < N.chans.length := (List.getElem?_eq_some_iff.mp hc).1
    have hrx := row_ex (w := w) (c := c) (by omega)
    have hrl := hpb _ (List.mem_of_getElem? hrx)
    rw [show (Deed.lose c k).enc = .tup [.str "lose", .int (c : Int), .int (k : Int)] from rfl]
    walk_at "go"
    refine ex_setO rfl ?_
    refine EvN.ev (en_lcP (α := Nat × Nat) ?_)
    walk_at "go"
    refine rv_ixO (ixmap hrx) ?_
    walk_at "go"
    refine ⟨by rw [List.length_map]; omega, row w c, encK, fun q => q.1 != k, encK, rfl, fun q hq => ⟨_, gg_name (by simp), ?_⟩, ?_⟩
    · walk_at "go"
      exact ⟨ne_dec, fun _ => by walk_at "go"; rfl⟩
    walk_at "go"
    refine ⟨c, rfl, by rw [List.length_map]; omega, ?_⟩
    rw [set_row]
    walk_at "go"
    walk_at "go"
    exact p
  | act r =>
    obtain ⟨u, hu, ht⟩ := hf
    have ro := hN.ro u (List.mem_of_getElem? hu)
    have hp := proc_lt ro
    rw [step_act hu] at p
    rw [show (Deed.act r).enc = .tup [.str "act", .int (r : Int)] from rfl]
    walk_at "go"
    refine ex_asgG (vs := [8, 9, 10, 11]) ?_
    walk_at "go"
    refine rv_ixL (ixmap hu) ?_
    refine ⟨_, gg_tup (vs := [8, 9, 10, 11]) (ggs_cons (gg_name (by simp)) (ggs_cons (gg_name (by simp)) (ggs_cons (gg_name (by simp)) (ggs_cons (gg_name (by simp)) ggs_nil)))) rfl, ?_⟩
    walk_at "go"
    refine ex_setO rfl ?_
    walk_at "go"
    refine ⟨u.proc, rfl, by rw [List.length_map, hw.s]; exact hp, ?_⟩
    rw [map_setN]
    obtain ⟨up, us, ua, un⟩ := u
    cases ua with
    | doo =>
      rw [show encA .doo = .tup [.str "do"] from rfl]
      walk_at "go"
      walk_at "go"
      exact p
    | send c t =>
      obtain ⟨h10, h, hc, hg⟩ := ro.a
      have hl : c < N.chans.length := (List.getElem?_eq_some_iff.mp hc).1
      have hsx := sent_ex (w := w) (i := c) (by rw [hw.t]; exact hl)
      have hrx := row_ex (w := w) (c := c) (by omega)
      have hrl := hpb _ (List.mem_of_getElem? hrx)
      rw [show encA (.send c t) = .tup [.str "send", .int (c : Int), .int (t : Int)] from rfl]
      walk_at "go"
      refine ex_setO rfl ?_
      walk_at "go"
      refine rv_ixO (ixmap hrx) ?_
      walk_at "go"
      refine rv_ixO (ixmap hsx) ?_
      walk_at "go"
      refine ⟨by rw [List.length_map, List.length_singleton]; omega, ?_⟩
      walk_at "go"
      refine ⟨c, rfl, by rw [List.length_map]; omega, ?_⟩
      rw [show ((row w c).map encK ++ [Dat.tup [encN (w.sent.getD c 0), .int (t : Int)]]) = (row w c ++ [(w.sent.getD c 0, t)]).map encK by rw [List.map_append]; rfl, set_row]
      walk_at "go"
      refine ex_setO rfl ?_
      walk_at "go"
      refine rv_ixO (ixmap hsx) ?_
      walk_at "go"
      refine ⟨c, rfl, by rw [List.length_map, hw.t]; omega, ?_⟩
      rw [show ((w.sent.getD c 0 : Int) + 1) = ((w.sent.getD c 0 + 1 : Nat) : Int) by omega, map_setN]
      walk_at "go"
      walk_at "go"
      exact p
    | take c t => cases ht
  | take r k =>
    obtain ⟨u, hu, ht⟩ := hf
    have ro := hN.ro u (List.mem_of_getElem? hu)
    have hp := proc_lt ro
    rw [step_take hu] at p
    rw [show (Deed.take r k).enc = .tup [.str "take", .int (r : Int), .int (k : Int)] from rfl]
    walk_at "go"
    refine ex_asgG (vs := [8, 9, 10, 11]) ?_
    walk_at "go"
    refine rv_ixL (ixmap hu) ?_
    refine ⟨_, gg_tup (vs := [8, 9, 10, 11]) (ggs_cons (gg_name (by simp)) (ggs_cons (gg_name (by simp)) (ggs_cons (gg_name (by simp)) (ggs_cons (gg_name (by simp)) ggs_nil)))) rfl, ?_⟩
    walk_at "go"
    refine ex_setO rfl ?_
    walk_at "go"
    refine ⟨u.proc, rfl, by rw [List.length_map, hw.s]; exact hp, ?_⟩
    rw [map_setN]
    obtain ⟨up, us, ua, un⟩ := u
    cases ua with
    | doo => cases ht
    | send c t => cases ht
    | take c t =>
      obtain ⟨h10, h, hc, hg⟩ := ro.a
      have hl : c < N.chans.length := (List.getElem?_eq_some_iff.mp hc).1
      have hrx := row_ex (w := w) (c := c) (by omega)
      have hrl := hpb _ (List.mem_of_getElem? hrx)
      rw [show encA (.take c t) = .tup [.str "take", .int (c : Int), .int (t : Int)] from rfl]
      walk_at "go"
      refine ex_setO rfl ?_
      refine EvN.ev (en_lcP (α := Nat × Nat) ?_)
      walk_at "go"
      refine rv_ixO (ixmap hrx) ?_
      walk_at "go"
      refine ⟨by rw [List.length_map]; omega, row w c, encK, fun q => q.1 != k, encK, rfl, fun q hq => ⟨_, gg_name (by simp), ?_⟩, ?_⟩
      · walk_at "go"
        exact ⟨ne_dec, fun _ => by walk_at "go"; rfl⟩
      walk_at "go"
      refine ⟨c, rfl, by rw [List.length_map]; omega, ?_⟩
      rw [set_row]
      walk_at "go"
      walk_at "go"
      exact p
end
end Dl


namespace Dl
open PySem L2
section
variable {C CB kinds : Addr} {K : PySem.W.Frag} {W : WX} {R : Out → Prop} {δ : List Slot}
local macro_rules | `(tactic| walk_at "ev") => `(tactic| first
  | ((with_reducible refine ex_norm (δ' := ?dn) ?he ?_); (case he => (simp only [slots, wipeS, List.map_cons, List.map_nil, List.replicate_succ, List.replicate_zero, List.cons_append, List.nil_append, List.set_cons_zero, List.set_cons_succ]; exact rfl)))
  | (with_reducible refine ex_seq ?_) | (with_reducible refine ex_if ?_) | ((with_reducible refine ex_retF (i := 2) (ds := ?dd) ?hf ?_); (case hf => exact rfl)) | ((with_reducible refine ex_retF (i := 3) (ds := ?dd) ?hf ?_); (case hf => exact rfl)) | ((with_reducible refine ex_retF (i := 4) (ds := ?dd) ?hf ?_); (case hf => exact rfl)) | ((with_reducible refine ex_retF (i := 5) (ds := ?dd) ?hf ?_); (case hf => exact rfl)) | ((with_reducible refine ex_retF (i := 8) (ds := ?dd) ?hf ?_); (case hf => exact rfl)) | (with_reducible refine ex_ret ?_) | (with_reducible refine ex_nx ?_)
  | (with_reducible refine ev_int ?_) | (with_reducible refine ev_str ?_) | (with_reducible refine ev_bl ?_) | (with_reducible refine ev_non ?_)
  | ((with_reducible refine ev_var (d := ?dd) ?hv ?_); (case hv => exact rfl))
  | (with_reducible refine ea_nil ?_) | (with_reducible refine ea_cons ?_) | (with_reducible refine ev_call ?_)
  | (with_reducible refine et_test ?_) | (with_reducible refine et_B ?_) | (with_reducible refine et_and ?_) | (with_reducible refine et_or ?_) | (with_reducible refine et_not ?_) | (with_reducible refine et_yes ?_)
  | (with_reducible refine ev_andV ?_) | (with_reducible refine ev_orV ?_) | (with_reducible refine ev_notV ?_) | (with_reducible refine ev_if ?_) | (with_reducible refine ev_chain ?_)
  | (with_reducible refine ev_isi ?_) | (with_reducible refine ev_isi2 ?_) | (with_reducible refine ev_tup ?_) | (with_reducible refine EvN.ev (en_sl ?_)) | (with_reducible refine ev_sl ?_) | (with_reducible refine eo_none ?_) | (with_reducible refine eo_some ?_)
  | (with_reducible refine isB_mk ?_)
  | (with_reducible refine rv_add ?_) | (with_reducible refine rv_sub ?_) | (with_reducible refine rv_lt ?_) | (with_reducible refine rv_le ?_) | (with_reducible refine rv_gt ?_) | (with_reducible refine rv_ge ?_)
  | (with_reducible refine rv_eqI ?_) | (with_reducible refine rv_neI ?_) | (with_reducible refine rv_eqS ?_) | (with_reducible refine rv_neS ?_) | (with_reducible refine rv_eqB ?_) | (with_reducible refine rv_isN ?_)
  | (with_reducible refine rc_lenL ?_) | (with_reducible refine rc_lenT ?_) | (with_reducible refine rc_intI ?_) | (with_reducible refine rc_intB ?_) | (with_reducible refine rc_tupT ?_) | (with_reducible refine rc_tupL ?_)
  | (with_reducible refine ev_getP ?_) | (with_reducible refine ev_getC ?_) | (with_reducible refine ev_getR ?_)
  | ((with_reducible refine rv_ixT (z := ?zz) ?hi ?_); (case hi => exact rfl)) | ((with_reducible refine rv_ixL (z := ?zz) ?hi ?_); (case hi => exact rfl))
  | ((with_reducible refine ev_lenO (ds := ?dd) ?hv ?_); (case hv => exact rfl)) | (with_reducible refine EvN.ev (en_lst ?_)) | (with_reducible refine EvN.ev (en_list ?_)) | (with_reducible refine EvN.ev (en_sl ?_)) | (with_reducible refine EvN.ev (en_cat ?_))
  | (with_reducible refine ev_cb ?_) | ((with_reducible refine ev_opO (ds := ?dd) ?hv ?_); (case hv => exact rfl)) | ((with_reducible refine ev_opP (ds := ?dd) ?hv ?_); (case hv => exact rfl)) | (with_reducible refine ev_op ?_)
  | (with_reducible refine ei_seq ?_) | (with_reducible refine ei_enum ?_) | (with_reducible refine ei_range ?_) | (with_reducible refine ei_str ?_)
  | (with_reducible refine mk_o ?_) | (with_reducible refine mk_n ?_) | (with_reducible refine mk_i ?_) | (with_reducible refine mk_s ?_) | (with_reducible refine mk_l ?_) | (with_reducible refine mk_b ?_)
  | (with_reducible refine mk_sl ?_) | (with_reducible refine mk_st ?_) | (with_reducible refine mk_al ?_) | (with_reducible refine mk_at ?_)
  | ((with_reducible refine and_len ?ll ?_); (case ll => exact Nat.le_of_ble_eq_true rfl)) | (refine br_t rfl ?_) | (refine br_f rfl ?_))
local macro_rules | `(tactic| walk_at "isi") => `(tactic| first | refine isi1 rfl kb_ii ?_ | refine isi1 rfl kb_is ?_ | refine isi1 rfl kb_ib ?_ | refine isi1 rfl kb_il ?_ | refine isi1 rfl kb_it ?_ | refine isi1 rfl kb_si ?_ | refine isi1 rfl kb_ss ?_ | refine isi1 rfl kb_sb ?_ | refine isi1 rfl kb_sl ?_ | refine isi1 rfl kb_st ?_ | refine isi1 rfl kb_ll ?_ | refine isi1 rfl kb_lt ?_ | refine isi1 rfl kb_li ?_ | refine isi1 rfl kb_ls ?_ | refine isi1 rfl kb_lb ?_ | refine isi1 rfl kb_tt ?_ | refine isi1 rfl kb_tl ?_ | refine isi1 rfl kb_ti ?_ | refine isi1 rfl kb_ts ?_ | refine isi1 rfl kb_tb ?_ | refine isi1 rfl kb_ni ?_ | refine isi1 rfl kb_ns ?_ | refine isi1 rfl kb_nb ?_ | refine isi1 rfl kb_nl ?_ | refine isi1 rfl kb_nt ?_)
local macro_rules | `(tactic| walk_at "go") => `(tactic| repeat (walk_at "ev"))
local macro_rules | `(tactic| walk_at "f1") => `(tactic| ((refine ex_freeze (i := 1) (ds := ?dd) ?hf ?_); (case hf => exact rfl)))
local macro_rules | `(tactic| walk_at "f2") => `(tactic| ((refine ex_freeze (i := 2) (ds := ?dd) ?hf ?_); (case hf => exact rfl)))
local macro_rules | `(tactic| walk_at "f3") => `(tactic| ((refine ex_freeze (i := 3) (ds := ?dd) ?hf ?_); (case hf => exact rfl)))
local macro_rules | `(tactic| walk_at "f4") => `(tactic| ((refine ex_freeze (i := 4) (ds := ?dd) ?hf ?_); (case hf => exact rfl)))
local macro_rules | `(tactic| walk_at "f5") => `(tactic| ((refine ex_freeze (i := 5) (ds := ?dd) ?hf ?_); (case hf => exact rfl)))
local macro_rules | `(tactic| walk_at "f6") => `(tactic| ((refine ex_freeze (i := 6) (ds := ?dd) ?hf ?_); (case hf => exact rfl)))
local macro_rules | `(tactic| walk_at "f7") => `(tactic| ((refine ex_freeze (i := 7) (ds := ?dd) ?hf ?_); (case hf => exact rfl)))
local macro_rules | `(tactic| walk_at "f8") => `(tactic| ((refine ex_freeze (i := 8) (ds := ?dd) ?hf ?_); (case hf => exact rfl)))
local macro_rules | `(tactic| walk_at "f9") => `(tactic| ((refine ex_freeze (i := 9) (ds := ?dd) ?hf ?_); (case hf => exact rfl)))
local macro_rules | `(tactic| walk_at "f10") => `(tactic| ((refine ex_freeze (i := 10) (ds := ?dd) ?hf ?_); (case hf => exact rfl)))
local macro_rules | `(tactic| walk_at "f11") => `(tactic| ((refine ex_freeze (i := 11) (ds := ?dd) ?hf ?_); (case hf => exact rfl)))
local macro_rules | `(tactic| walk_at "f12") => `(tactic| ((refine ex_freeze (i := 12) (ds := ?dd) ?hf ?_); (case hf => exact rfl)))
local macro_rules | `(tactic| walk_at "f13") => `(tactic| ((refine ex_freeze (i := 13) (ds := ?dd) ?hf ?_); (case hf => exact rfl)))
local macro_rules | `(tactic| walk_at "nf") => `(tactic| ((with_reducible refine ev_norm (δ' := ?dn) ?he ?_); (case he => (simp only [slots, wipeS, List.map_cons, List.map_nil, List.replicate_succ, List.replicate_zero, List.cons_append, List.nil_append, List.set_cons_zero, List.set_cons_succ]; exact rfl))))
theorem x__law_same (m : Nat) : ∀ ds Q, preS (m + 1) ds Q → Ex C CB noX (t__law_same K C CB kinds m) (slots ds 1) (RetP Q) := by
  rintro ds Q ⟨d, rfl, hd, p⟩
  unfold t__law_same
  walk_at "go"
  cases hd with
  | int n i =>
    refine isi1 rfl kb_it ?_
    walk_at "go"
    refine isi1 rfl kb_is ?_
    walk_at "go"
    refine isi1 rfl kb_ii ?_
    walk_at "go"
    refine isi1 rfl kb_ib ?_
    walk_at "go"
    rw [decide_eq_true rfl]
    exact p
  | str n x =>
    refine isi1 rfl kb_st ?_
    walk_at "go"
    refine isi1 rfl kb_ss ?_
    walk_at "go"
    refine isi1 rfl kb_ss ?_
    walk_at "go"
    rw [decide_eq_true rfl]
    exact p
  | tup n xs hl h =>
    refine isi1 rfl kb_tt ?_
    walk_at "go"
    refine isi1 rfl kb_tt ?_
    walk_at "go"
    rw [decide_eq_true rfl]
    walk_at "go"
    refine ex_for ?_
    walk_at "go"
    refine mk_r (by omega) ?_
    refine ⟨fun i δ' => ∃ s, δ' = [.val (.tup xs), .val (.tup xs), s], ⟨_, rfl⟩, fun i e δ' he hI => ?_, fun δ' hI => ?_⟩
    · obtain ⟨rfl, hlt⟩ := nats_get he
      obtain ⟨s, rfl⟩ := hI
      obtain ⟨y, hy⟩ : ∃ y, xs[i]? = some y := ⟨_, List.getElem?_eq_getElem hlt⟩
      refine ⟨[2], _, gg_name (by simp), ?_⟩
      walk_at "go"
      refine rv_ixT (ixnat hy) ?_
      walk_at "go"
      refine rv_ixT (ixnat hy) ?_
      walk_at "go"
      refine ⟨y, rfl, h y (List.mem_of_getElem? hy), isB_mk ?_⟩
      walk_at "go"
      exact ⟨_, rfl⟩
    · obtain ⟨s, rfl⟩ := hI
      walk_at "go"
      exact p
theorem possR_len {N : NetM} {b : Nat} {w : Wld} {r : Nat} {u : Rul} (hw : WldOk N b w) (hb : b ≤ 1000) (hu : RuleOk N.procs N.chans u) : (possR N w r u).length ≤ 1000 := by
  unfold possR
  split
  · obtain ⟨up, us, ua, un⟩ := u
    cases ua with
    | doo => simp
    | send c t => simp
    | take c t =>
      obtain ⟨_, h, hc, _⟩ := hu.a
      have := opens_le hw (List.getElem?_eq_some_iff.mp hc).1
      show (((opens N w c).filter _).map _).length ≤ 1000
      rw [List.length_map]
      exact Nat.le_trans (List.length_filter_le _ _) (by omega)
  · simp
theorem possC_len {N : NetM} {b : Nat} {w : Wld} {c : Nat} {h : Chan} (hw : WldOk N b w) (hb : b ≤ 1000) (hc : c < N.chans.length) : (possC N w c h).length ≤ 1000 := by
  unfold possC
  split
  · rw [List.length_map]; have := opens_le hw hc; omega
  · simp
theorem flat_len {α β : Type} {f : α → List β} {k : Nat} : ∀ {xs : List α}, (∀ x, x ∈ xs → (f x).length ≤ k) → (xs.flatMap f).length ≤ xs.length * k
  | [], _ => by simp
  | x :: xs, h => by
    rw [List.flatMap_cons, List.length_append, List.length_cons, Nat.succ_mul]
    have h1 := h x List.mem_cons_self
    have h2 := flat_len (xs := xs) fun y hy => h y (List.mem_cons_of_mem _ hy)
    omega
def poss1 (N : NetM) (w : Wld) (i : Nat) : List Deed := (N.rules.zipIdx.take i).flatMap fun p => possR N w p.2 p.1
def poss2 (N : NetM) (w : Wld) (i : Nat) : List Deed := (N.chans.zipIdx.take i).flatMap fun p => possC N w p.2 p.1
theorem zip_get {α : Type} {xs : List α} {i : Nat} {x : α} (h : xs[i]? = some x) : xs.zipIdx[i]? = some (x, i) := by
  rw [List.getElem?_zipIdx, h]; simp
theorem take_step {α : Type} {xs : List α} {i : Nat} {x : α} (h : xs[i]? = some x) : xs.take (i + 1) = xs.take i ++ [x] := by rw [List.take_add_one, h]; rfl
theorem poss1_step {N : NetM} {w : Wld} {i : Nat} {u : Rul} (h : N.rules[i]? = some u) : poss1 N w (i + 1) = poss1 N w i ++ possR N w i u := by
  unfold poss1
  rw [take_step (zip_get h), List.flatMap_append]
  simp
theorem poss2_step {N : NetM} {w : Wld} {i : Nat} {u : Chan} (h : N.chans[i]? = some u) : poss2 N w (i + 1) = poss2 N w i ++ possC N w i u := by
  unfold poss2
  rw [take_step (zip_get h), List.flatMap_append]
  simp
theorem mem_zip {α : Type} {xs : List α} {p : α × Nat} (h : p ∈ xs.zipIdx) : xs[p.2]? = some p.1 := by
  obtain ⟨i, hi⟩ := List.getElem?_of_mem h
  rw [List.getElem?_zipIdx] at hi
  cases hx : xs[i]? with
  | none => rw [hx] at hi; cases hi
  | some x =>
    rw [hx] at hi
    simp at hi
    subst hi
    simpa using hx
theorem poss1_len {N : NetM} {b : Nat} {w : Wld} {i : Nat} (hN : N.Ok) (hw : WldOk N b w) (hb : b ≤ 1000) : (poss1 N w i).length ≤ 23000 := by
  have h1 : (poss1 N w i).length ≤ (N.rules.zipIdx.take i).length * 1000 := flat_len fun p hp => by
    have := mem_zip (List.mem_of_mem_take hp)
    exact possR_len hw hb (hN.ro _ (List.mem_of_getElem? this))
  have h2 : (N.rules.zipIdx.take i).length ≤ 23 := by
    rw [List.length_take, List.length_zipIdx]; have := hN.r40; omega
  have h3 := Nat.mul_le_mul_right 1000 h2
  omega
theorem poss2_len {N : NetM} {b : Nat} {w : Wld} {i : Nat} (hN : N.Ok) (hw : WldOk N b w) (hb : b ≤ 1000) : (poss2 N w i).length ≤ 8000 := by
  have h1 : (poss2 N w i).length ≤ (N.chans.zipIdx.take i).length * 1000 := flat_len fun p hp => by
    have := mem_zip (List.mem_of_mem_take hp)
    exact possC_len hw hb (List.getElem?_eq_some_iff.mp this).1
  have h2 : (N.chans.zipIdx.take i).length ≤ 8 := by
    rw [List.length_take, List.length_zipIdx]; have := hN.c8; omega
  have h3 := Nat.mul_le_mul_right 1000 h2
  omega
theorem poss_eq {N : NetM} {w : Wld} : possible N w = poss1 N w N.rules.length ++ poss2 N w N.chans.length := by
  unfold possible poss1 poss2
  rw [List.take_of_length_le (by rw [List.length_zipIdx]; exact Nat.le_refl _), List.take_of_length_le (by rw [List.length_zipIdx]; exact Nat.le_refl _)]
theorem actS_take_ne {a : Act} : (!decide (actS a = "take")) = !a.isTake := by rw [actS_take]
theorem x__law_possible : ∀ ds Q, pre__law_possible ds Q → Ex C CB noX (t__law_possible K C CB kinds) (slots ds 8) (RetP Q) := by
  rintro ds Q ⟨N, b, w, rfl, hN, hw, hb, p⟩
  unfold t__law_possible
  have hr := hN.r40
  have h8 := hN.c8
  walk_at "go"
  refine ex_asgO (en_lst ?_)
  walk_at "go"
  refine ex_for ?_
  walk_at "go"
  refine mk_r (by rw [List.length_map]; omega) ?_
  refine ⟨fun i δ' => ∃ s3 s4 s5 s6 s7 s8 s9, δ' = [.val N.dict, .val w.encL, .own ((poss1 N w i).map Deed.enc), s3, s4, s5, s6, s7, s8, s9], ⟨_, _, _, _, _, _, _, rfl⟩, fun i e δ' he hI => ?_, fun δ' hI => ?_⟩
  · obtain ⟨rfl, hlt⟩ := nats_get he
    obtain ⟨s3, s4, s5, s6, s7, s8, s9, rfl⟩ := hI
    rw [List.length_map] at hlt
    have hu := List.getElem?_eq_getElem hlt
    generalize N.rules[i] = u at hu
    have ro := hN.ro u (List.mem_of_getElem? hu)
    have hp := proc_lt ro
    have hs := st_ex (w := w) (i := u.proc) (by rw [hw.s]; exact hp)
    have hl1 := poss1_len (i := i) hN hw hb
    have st := poss1_step (w := w) hu
    refine ⟨[3], _, gg_name (by simp), ?_⟩
    walk_at "go"
    refine ex_asgG (vs := [4, 5, 6, 7]) ?_
    walk_at "go"
    refine rv_ixL (ixmap hu) ?_
    refine ⟨_, gg_tup (vs := [4, 5, 6, 7]) (ggs_cons (gg_name (by simp)) (ggs_cons (gg_name (by simp)) (ggs_cons (gg_name (by simp)) (ggs_cons (gg_name (by simp)) ggs_nil)))) rfl, ?_⟩
    walk_at "go"
    refine rv_ixL (ixmap hs) ?_
    walk_at "go"
    rw [eq_dec]
    refine ⟨fun e => ?_, fun e => ?_⟩
    · have es : w.states.getD u.proc 0 = u.state := by simpa using e
      walk_at "go"
      refine rv_act0 ?_
      walk_at "go"
      rw [actS_take]
      obtain ⟨up, us, ua, un⟩ := u
      cases ua with
      | doo =>
        walk_at "go"
        refine ex_app rfl (by rw [List.length_map]; omega) ?_
        walk_at "go"
        change ∃ s3 s4 s5 s6 s7 s8 s9, _
        (iterate 7 apply Exists.intro)
        rw [st, show possR N w i ⟨up, us, .doo, un⟩ = [.act i] by unfold possR; rw [if_pos es], List.map_append]
        rfl
      | send c t =>
        walk_at "go"
        refine ex_app rfl (by rw [List.length_map]; omega) ?_
        walk_at "go"
        change ∃ s3 s4 s5 s6 s7 s8 s9, _
        (iterate 7 apply Exists.intro)
        rw [st, show possR N w i ⟨up, us, .send c t, un⟩ = [.act i] by unfold possR; rw [if_pos es], List.map_append]
        rfl
      | take c t =>
        obtain ⟨h10, h, hc, hg⟩ := ro.a
        have hl : c < N.chans.length := (List.getElem?_eq_some_iff.mp hc).1
        have ho := opens_le hw hl
        walk_at "go"
        refine rv_ixL (ixmap hs) ?_
        walk_at "go"
        rw [eq_dec]
        refine br_t e ?_
        refine ex_asgO (en_catO rfl ?_)
        refine EvN.ev (en_lcP (α := Nat × Nat) ?_)
        rw [show encA (.take c t) = .tup [.str "take", .int (c : Int), .int (t : Int)] from rfl]
        walk_at "go"
        refine ⟨N, b, w, c, rfl, hN, hw, hb, hl, ?_⟩
        walk_at "go"
        refine ⟨by rw [List.length_map]; omega, opens N w c, encK, fun q => q.2 == t, fun q => (Deed.take i q.1).enc, rfl, fun q hq => ⟨_, gg_name (by simp), ?_⟩, ?_⟩
        · walk_at "go"
          exact ⟨eq_dec, fun _ => by walk_at "go"; rfl⟩
        walk_at "go"
        have hfl := List.length_filter_le (fun q : Nat × Nat => q.2 == t) (opens N w c)
        refine ⟨by rw [List.length_map, List.length_map]; omega, ?_⟩
        change ∃ s3 s4 s5 s6 s7 s8 s9, _
        (iterate 7 apply Exists.intro)
        rw [st, show possR N w i ⟨up, us, .take c t, un⟩ = ((opens N w c).filter fun p => p.2 == t).map fun p => .take i p.1 by unfold possR; rw [if_pos es], List.map_append, List.map_map]
        rfl
    · have es : ¬ w.states.getD u.proc 0 = u.state := by simpa using e
      walk_at "go"
      refine rv_ixL (ixmap hs) ?_
      walk_at "go"
      rw [eq_dec]
      refine br_f e ?_
      walk_at "go"
      change ∃ s3 s4 s5 s6 s7 s8 s9, _
      (iterate 7 apply Exists.intro)
      rw [st, show possR N w i u = [] by unfold possR; rw [if_neg es], List.append_nil]
  · obtain ⟨s3, s4, s5, s6, s7, s8, s9, rfl⟩ := hI
    have hl1 := poss1_len (i := N.rules.length) hN hw hb
    rw [nats_len, List.length_map]
    walk_at "go"
    refine ex_for ?_
    walk_at "go"
    refine mk_r (by rw [List.length_map]; omega) ?_
    refine ⟨fun i δ' => ∃ s3 s4 s5 s6 s7 s8 s9, δ' = [.val N.dict, .val w.encL, .own ((poss1 N w N.rules.length).map Deed.enc ++ (poss2 N w i).map Deed.enc), s3, s4, s5, s6, s7, s8, s9], ⟨s3, s4, s5, s6, s7, s8, s9, ?_⟩, fun i e δ' he hI => ?_, fun δ' hI => ?_⟩
    · rw [show poss2 N w 0 = [] from rfl, List.map_nil, List.append_nil]
    · obtain ⟨rfl, hlt⟩ := nats_get he
      obtain ⟨s3, s4, s5, s6, s7, s8, s9, rfl⟩ := hI
      rw [List.length_map] at hlt
      have hu := List.getElem?_eq_getElem hlt
      generalize N.chans[i] = h at hu
      have hl2 := poss2_len (i := i) hN hw hb
      have hk := (hN.co h (List.mem_of_getElem? hu)).k
      have ho := opens_le hw hlt
      have st := poss2_step (w := w) hu
      refine ⟨[9], _, gg_name (by simp), ?_⟩
      walk_at "go"
      refine rv_ixL (ixmap hu) ?_
      walk_at "go"
      refine ev_un ?_
      walk_at "go"
      refine rs_str kind_len ?_
      walk_at "go"
      rw [show (-5 : Int) = -5 from rfl, cut_lossy hk]
      refine ⟨fun e => ?_, fun e => ?_⟩
      · refine ex_asgO (en_catO rfl ?_)
        refine EvN.ev (en_lcM (α := Nat × Nat) ?_)
        walk_at "go"
        refine ⟨N, b, w, i, rfl, hN, hw, hb, hlt, ?_⟩
        walk_at "go"
        refine ⟨by rw [List.length_map]; omega, opens N w i, encK, fun q => (Deed.lose i q.1).enc, rfl, fun q hq => ⟨_, gg_name (by simp), by walk_at "go"; rfl⟩, ?_⟩
        walk_at "go"
        refine ⟨by rw [List.length_append, List.length_map, List.length_map, List.length_map]; omega, ?_⟩
        change ∃ s3 s4 s5 s6 s7 s8 s9, _
        (iterate 7 apply Exists.intro)
        rw [st, show possC N w i h = (opens N w i).map fun p => .lose i p.1 by unfold possC; rw [if_pos e], List.map_append, List.map_map, List.append_assoc]
        rfl
      · walk_at "go"
        change ∃ s3 s4 s5 s6 s7 s8 s9, _
        (iterate 7 apply Exists.intro)
        rw [st, show possC N w i h = [] by unfold possC; rw [if_neg (by rw [e]; decide)], List.append_nil]
    · obtain ⟨s3, s4, s5, s6, s7, s8, s9, rfl⟩ := hI
      rw [nats_len, List.length_map]
      walk_at "go"
      rw [← List.map_append, ← poss_eq]
      exact p
end
end Dl


namespace Dl
open PySem L2
section
variable {C CB kinds : Addr} {K : PySem.W.Frag} {W : WX} {R : Out → Prop} {δ : List Slot}
local macro_rules | `(tactic| walk_at "ev") => `(tactic| first
  | ((with_reducible refine ex_norm (δ' := ?dn) ?he ?_); (case he => (simp only [slots, wipeS, List.map_cons, List.map_nil, List.replicate_succ, List.replicate_zero, List.cons_append, List.nil_append, List.set_cons_zero, List.set_cons_succ]; exact rfl)))
  | (with_reducible refine ex_seq ?_) | (with_reducible refine ex_if ?_) | ((with_reducible refine ex_retF (i := 2) (ds := ?dd) ?hf ?_); (case hf => exact rfl)) | ((with_reducible refine ex_retF (i := 3) (ds := ?dd) ?hf ?_); (case hf => exact rfl)) | ((with_reducible refine ex_retF (i := 4) (ds := ?dd) ?hf ?_); (case hf => exact rfl)) | ((with_reducible refine ex_retF (i := 5) (ds := ?dd) ?hf ?_); (case hf => exact rfl)) | ((with_reducible refine ex_retF (i := 8) (ds := ?dd) ?hf ?_); (case hf => exact rfl)) | (with_reducible refine ex_ret ?_) | (with_reducible refine ex_nx ?_)
  | (with_reducible refine ev_int ?_) | (with_reducible refine ev_str ?_) | (with_reducible refine ev_bl ?_) | (with_reducible refine ev_non ?_)
  | ((with_reducible refine ev_var (d := ?dd) ?hv ?_); (case hv => exact rfl))
  | (with_reducible refine ea_nil ?_) | (with_reducible refine ea_cons ?_) | (with_reducible refine ev_call ?_) | ((with_reducible refine ev_callS ?hv ?_); (case hv => exact rfl))
  | (with_reducible refine et_test ?_) | (with_reducible refine et_B ?_) | (with_reducible refine et_and ?_) | (with_reducible refine et_or ?_) | (with_reducible refine et_not ?_) | (with_reducible refine et_yes ?_)
  | (with_reducible refine ev_andV ?_) | (with_reducible refine ev_orV ?_) | (with_reducible refine ev_notV ?_) | (with_reducible refine ev_if ?_) | (with_reducible refine ev_chain ?_)
  | (with_reducible refine ev_isi ?_) | (with_reducible refine ev_isi2 ?_) | (with_reducible refine ev_tup ?_) | (with_reducible refine EvN.ev (en_sl ?_)) | (with_reducible refine ev_sl ?_) | (with_reducible refine eo_none ?_) | (with_reducible refine eo_some ?_)
  | (with_reducible refine isB_mk ?_)
  | (with_reducible refine rv_add ?_) | (with_reducible refine rv_sub ?_) | (with_reducible refine rv_lt ?_) | (with_reducible refine rv_le ?_) | (with_reducible refine rv_gt ?_) | (with_reducible refine rv_ge ?_)
  | (with_reducible refine rv_eqI ?_) | (with_reducible refine rv_neI ?_) | (with_reducible refine rv_eqS ?_) | (with_reducible refine rv_neS ?_) | (with_reducible refine rv_eqB ?_) | (with_reducible refine rv_isN ?_)
  | (with_reducible refine rc_lenL ?_) | (with_reducible refine rc_lenT ?_) | (with_reducible refine rc_intI ?_) | (with_reducible refine rc_intB ?_) | (with_reducible refine rc_tupT ?_) | (with_reducible refine rc_tupL ?_)
  | (with_reducible refine ev_getP ?_) | (with_reducible refine ev_getC ?_) | (with_reducible refine ev_getR ?_)
  | ((with_reducible refine rv_ixT (z := ?zz) ?hi ?_); (case hi => exact rfl)) | ((with_reducible refine rv_ixL (z := ?zz) ?hi ?_); (case hi => exact rfl))
  | ((with_reducible refine ev_lenO (ds := ?dd) ?hv ?_); (case hv => exact rfl)) | (with_reducible refine EvN.ev (en_lst ?_)) | (with_reducible refine EvN.ev (en_list ?_)) | (with_reducible refine EvN.ev (en_sl ?_)) | (with_reducible refine EvN.ev (en_cat ?_))
  | (with_reducible refine ev_cb ?_) | ((with_reducible refine ev_opO (ds := ?dd) ?hv ?_); (case hv => exact rfl)) | ((with_reducible refine ev_opP (ds := ?dd) ?hv ?_); (case hv => exact rfl)) | (with_reducible refine ev_op ?_)
  | (with_reducible refine ei_seq ?_) | (with_reducible refine ei_enum ?_) | (with_reducible refine ei_range ?_) | (with_reducible refine ei_str ?_)
  | (with_reducible refine mk_o ?_) | (with_reducible refine mk_n ?_) | (with_reducible refine mk_i ?_) | (with_reducible refine mk_s ?_) | (with_reducible refine mk_l ?_) | (with_reducible refine mk_b ?_)
  | (with_reducible refine mk_sl ?_) | (with_reducible refine mk_st ?_) | (with_reducible refine mk_al ?_) | (with_reducible refine mk_at ?_)
  | ((with_reducible refine and_len ?ll ?_); (case ll => exact Nat.le_of_ble_eq_true rfl)) | (refine br_t rfl ?_) | (refine br_f rfl ?_))
local macro_rules | `(tactic| walk_at "isi") => `(tactic| first | refine isi1 rfl kb_ii ?_ | refine isi1 rfl kb_is ?_ | refine isi1 rfl kb_ib ?_ | refine isi1 rfl kb_il ?_ | refine isi1 rfl kb_it ?_ | refine isi1 rfl kb_si ?_ | refine isi1 rfl kb_ss ?_ | refine isi1 rfl kb_sb ?_ | refine isi1 rfl kb_sl ?_ | refine isi1 rfl kb_st ?_ | refine isi1 rfl kb_ll ?_ | refine isi1 rfl kb_lt ?_ | refine isi1 rfl kb_li ?_ | refine isi1 rfl kb_ls ?_ | refine isi1 rfl kb_lb ?_ | refine isi1 rfl kb_tt ?_ | refine isi1 rfl kb_tl ?_ | refine isi1 rfl kb_ti ?_ | refine isi1 rfl kb_ts ?_ | refine isi1 rfl kb_tb ?_ | refine isi1 rfl kb_ni ?_ | refine isi1 rfl kb_ns ?_ | refine isi1 rfl kb_nb ?_ | refine isi1 rfl kb_nl ?_ | refine isi1 rfl kb_nt ?_)
local macro_rules | `(tactic| walk_at "go") => `(tactic| repeat (walk_at "ev"))
local macro_rules | `(tactic| walk_at "f1") => `(tactic| ((refine ex_freeze (i := 1) (ds := ?dd) ?hf ?_); (case hf => exact rfl)))
local macro_rules | `(tactic| walk_at "f2") => `(tactic| ((refine ex_freeze (i := 2) (ds := ?dd) ?hf ?_); (case hf => exact rfl)))
local macro_rules | `(tactic| walk_at "f3") => `(tactic| ((refine ex_freeze (i := 3) (ds := ?dd) ?hf ?_); (case hf => exact rfl)))
local macro_rules | `(tactic| walk_at "f4") => `(tactic| ((refine ex_freeze (i := 4) (ds := ?dd) ?hf ?_); (case hf => exact rfl)))
local macro_rules | `(tactic| walk_at "f5") => `(tactic| ((refine ex_freeze (i := 5) (ds := ?dd) ?hf ?_); (case hf => exact rfl)))
local macro_rules | `(tactic| walk_at "f6") => `(tactic| ((refine ex_freeze (i := 6) (ds := ?dd) ?hf ?_); (case hf => exact rfl)))
local macro_rules | `(tactic| walk_at "f7") => `(tactic| ((refine ex_freeze (i := 7) (ds := ?dd) ?hf ?_); (case hf => exact rfl)))
local macro_rules | `(tactic| walk_at "f8") => `(tactic| ((refine ex_freeze (i := 8) (ds := ?dd) ?hf ?_); (case hf => exact rfl)))
local macro_rules | `(tactic| walk_at "f9") => `(tactic| ((refine ex_freeze (i := 9) (ds := ?dd) ?hf ?_); (case hf => exact rfl)))
local macro_rules | `(tactic| walk_at "f10") => `(tactic| ((refine ex_freeze (i := 10) (ds := ?dd) ?hf ?_); (case hf => exact rfl)))
local macro_rules | `(tactic| walk_at "f11") => `(tactic| ((refine ex_freeze (i := 11) (ds := ?dd) ?hf ?_); (case hf => exact rfl)))
local macro_rules | `(tactic| walk_at "f12") => `(tactic| ((refine ex_freeze (i := 12) (ds := ?dd) ?hf ?_); (case hf => exact rfl)))
local macro_rules | `(tactic| walk_at "f13") => `(tactic| ((refine ex_freeze (i := 13) (ds := ?dd) ?hf ?_); (case hf => exact rfl)))
local macro_rules | `(tactic| walk_at "nf") => `(tactic| ((with_reducible refine ev_norm (δ' := ?dn) ?he ?_); (case he => (simp only [slots, wipeS, List.map_cons, List.map_nil, List.replicate_succ, List.replicate_zero, List.cons_append, List.nil_append, List.set_cons_zero, List.set_cons_succ]; exact rfl))))
/-! runs -/
theorem poss_fit {N : NetM} {w : Wld} {d : Deed} (hN : N.Ok) (h : d ∈ possible N w) : Fit N d := by
  unfold possible at h
  rcases List.mem_append.mp h with h | h
  · obtain ⟨p, hp, hd⟩ := List.mem_flatMap.mp h
    have hu := mem_zip hp
    unfold possR at hd
    split at hd
    · obtain ⟨⟨up, us, ua, un⟩, r⟩ := p
      cases ua with
      | doo => rw [List.mem_singleton] at hd; subst hd; exact ⟨_, hu, rfl⟩
      | send c t => rw [List.mem_singleton] at hd; subst hd; exact ⟨_, hu, rfl⟩
      | take c t =>
        obtain ⟨q, _, rfl⟩ := List.mem_map.mp hd
        exact ⟨_, hu, rfl⟩
    · cases hd
  · obtain ⟨p, hp, hd⟩ := List.mem_flatMap.mp h
    have hu := mem_zip hp
    unfold possC at hd
    split at hd
    · rename_i hl
      obtain ⟨q, _, rfl⟩ := List.mem_map.mp hd
      exact ⟨_, hu, hl⟩
    · cases hd
theorem poss_can {N : NetM} {w : Wld} {d : Deed} (h : d ∈ possible N w) : canDo N w d = true := by
  unfold possible at h
  rcases List.mem_append.mp h with h | h
  · obtain ⟨p, hp, hd⟩ := List.mem_flatMap.mp h
    have hu := mem_zip hp
    unfold possR at hd
    split at hd
    · rename_i hs
      obtain ⟨⟨up, us, ua, un⟩, r⟩ := p
      cases ua with
      | doo => rw [List.mem_singleton] at hd; subst hd; rw [canDo_act hu]; simpa using hs
      | send c t => rw [List.mem_singleton] at hd; subst hd; rw [canDo_act hu]; simpa using hs
      | take c t =>
        obtain ⟨q, hq, rfl⟩ := List.mem_map.mp hd
        rw [canDo_take hu, Bool.and_eq_true]
        refine ⟨by simpa using hs, ?_⟩
        rw [List.mem_filter] at hq
        have e : q.2 = t := by simpa using hq.2
        subst e
        exact decide_eq_true hq.1
    · cases hd
  · obtain ⟨p, hp, hd⟩ := List.mem_flatMap.mp h
    have hu := mem_zip hp
    unfold possC at hd
    split at hd
    · obtain ⟨q, hq, rfl⟩ := List.mem_map.mp hd
      exact decide_eq_true (List.mem_map.mpr ⟨q, hq, rfl⟩)
    · cases hd
theorem can_poss {N : NetM} {w : Wld} {d : Deed} (hf : Fit N d) (h : canDo N w d = true) : d ∈ possible N w := by
  unfold possible
  cases d with
  | act r =>
    obtain ⟨u, hu, ht⟩ := hf
    rw [canDo_act hu] at h
    refine List.mem_append.mpr (.inl (List.mem_flatMap.mpr ⟨(u, r), List.mem_of_getElem? (zip_get hu), ?_⟩))
    unfold possR
    rw [if_pos (by simpa using h)]
    obtain ⟨up, us, ua, un⟩ := u
    cases ua with
    | doo => exact List.mem_singleton.mpr rfl
    | send c t => exact List.mem_singleton.mpr rfl
    | take c t => cases ht
  | take r k =>
    obtain ⟨⟨up, us, ua, un⟩, hu, ht⟩ := hf
    cases ua with
    | doo => cases ht
    | send c t => cases ht
    | take c t =>
      rw [canDo_take hu, Bool.and_eq_true] at h
      refine List.mem_append.mpr (.inl (List.mem_flatMap.mpr ⟨_, List.mem_of_getElem? (zip_get hu), ?_⟩))
      unfold possR
      rw [if_pos (by simpa using h.1)]
      refine List.mem_map.mpr ⟨(k, t), List.mem_filter.mpr ⟨of_decide_eq_true h.2, by simp⟩, rfl⟩
  | lose c k =>
    obtain ⟨u, hu, hl⟩ := hf
    refine List.mem_append.mpr (.inr (List.mem_flatMap.mpr ⟨(u, c), List.mem_of_getElem? (zip_get hu), ?_⟩))
    unfold possC
    rw [if_pos hl]
    have h' : k ∈ (opens N w c).map (·.1) := of_decide_eq_true h
    obtain ⟨q, hq, rfl⟩ := List.mem_map.mp h'
    exact List.mem_map.mpr ⟨q, hq, rfl⟩
theorem row_le {N : NetM} {b : Nat} {w : Wld} {c : Nat} (hw : WldOk N b w) : (row w c).length ≤ b := by
  by_cases h : c < w.present.length
  · exact hw.pb _ (List.mem_of_getElem? (row_ex h))
  · unfold row
    rw [List.getD_eq_getElem?_getD, List.getElem?_eq_none (by omega)]
    exact Nat.zero_le _
theorem sent_le {N : NetM} {b : Nat} {w : Wld} {c : Nat} (hw : WldOk N b w) : w.sent.getD c 0 ≤ b := by
  by_cases h : c < w.sent.length
  · exact hw.tb _ (List.mem_of_getElem? (sent_ex h))
  · rw [List.getD_eq_getElem?_getD, List.getElem?_eq_none (by omega)]
    exact Nat.zero_le _
theorem doRule_ok {N : NetM} {b : Nat} {w : Wld} {u : Rul} {k : Nat} (hw : WldOk N b w) : WldOk N (b + 1) (doRule w u k) := by
  obtain ⟨up, us, ua, un⟩ := u
  cases ua with
  | doo => exact ⟨by show (w.states.set _ _).length = _; rw [List.length_set, hw.s], hw.t, hw.p, fun k h => by have := hw.tb k h; omega, fun r h => by have := hw.pb r h; omega⟩
  | send c t =>
    refine ⟨by show (w.states.set _ _).length = _; rw [List.length_set, hw.s], by show (w.sent.set _ _).length = _; rw [List.length_set, hw.t], by show (w.present.set _ _).length = _; rw [List.length_set, hw.p], fun k h => ?_, fun r h => ?_⟩
    · rcases List.mem_or_eq_of_mem_set h with h | h
      · have := hw.tb k h; omega
      · subst h; have := sent_le (c := c) hw; omega
    · rcases List.mem_or_eq_of_mem_set h with h | h
      · have := hw.pb r h; omega
      · subst h; rw [List.length_append, List.length_singleton]; have := row_le (c := c) hw; omega
  | take c t =>
    refine ⟨by show (w.states.set _ _).length = _; rw [List.length_set, hw.s], hw.t, by show (w.present.set _ _).length = _; rw [List.length_set, hw.p], fun k h => by have := hw.tb k h; omega, fun r h => ?_⟩
    rcases List.mem_or_eq_of_mem_set h with h | h
    · have := hw.pb r h; omega
    · subst h; have := row_le (c := c) hw; have := List.length_filter_le (fun p => p.1 != k) (row w c); omega
theorem WldOk.mono {N : NetM} {b c : Nat} {w : Wld} (hw : WldOk N b w) (h : b ≤ c) : WldOk N c w := ⟨hw.s, hw.t, hw.p, fun k e => Nat.le_trans (hw.tb k e) h, fun k e => Nat.le_trans (hw.pb k e) h⟩
theorem step_ok {N : NetM} {b : Nat} {w : Wld} {d : Deed} (hw : WldOk N b w) : WldOk N (b + 1) (step N w d) := by
  cases d with
  | act r =>
    unfold step
    simp only []
    cases N.rules[r]? with
    | none => exact hw.mono (Nat.le_succ _)
    | some u => exact doRule_ok hw
  | take r k =>
    unfold step
    simp only []
    cases N.rules[r]? with
    | none => exact hw.mono (Nat.le_succ _)
    | some u => exact doRule_ok hw
  | lose c k =>
    refine ⟨hw.s, hw.t, by show (w.present.set _ _).length = _; rw [List.length_set, hw.p], fun k h => by have := hw.tb k h; omega, fun r h => ?_⟩
    rcases List.mem_or_eq_of_mem_set h with h | h
    · have := hw.pb r h; omega
    · subst h; have := row_le (c := c) hw; have := List.length_filter_le (fun p => p.1 != k) (row w c); omega
theorem start_ok (N : NetM) : WldOk N 0 N.start := ⟨List.length_replicate, List.length_replicate, List.length_replicate, fun k h => by rw [List.eq_of_mem_replicate h]; exact Nat.le_refl _, fun k h => by rw [List.eq_of_mem_replicate h]; exact Nat.le_refl _⟩
def endW (N : NetM) : Wld → List Deed → Wld
  | w, [] => w
  | w, d :: ds => endW N (step N w d) ds
theorem end_ok {N : NetM} : ∀ {es : List Deed} {b : Nat} {w : Wld}, WldOk N b w → WldOk N (b + es.length) (endW N w es)
  | [], _, _, h => h
  | e :: es, b, w, h => by
    have := end_ok (es := es) (step_ok (d := e) h)
    rw [List.length_cons, show b + (es.length + 1) = b + 1 + es.length by omega]
    exact this
theorem end_snoc {N : NetM} {d : Deed} : ∀ {es : List Deed} {w : Wld}, endW N w (es ++ [d]) = step N (endW N w es) d
  | [], _ => rfl
  | _ :: es, _ => end_snoc (es := es)
theorem legal_snoc {N : NetM} {d : Deed} : ∀ {es : List Deed} {w : Wld}, legal N w es → d ∈ possible N (endW N w es) → legal N w (es ++ [d])
  | [], _, _, h => ⟨h, trivial⟩
  | _ :: es, _, h, hd => ⟨h.1, legal_snoc (es := es) h.2 hd⟩
theorem run_snoc {N : NetM} {d : Deed} : ∀ {es : List Deed} {w : Wld}, runW N w (es ++ [d]) = runW N w es ++ [step N (endW N w es) d]
  | [], _ => rfl
  | _ :: es, w => congrArg (w :: ·) (run_snoc (es := es))
theorem run_last {N : NetM} : ∀ {es : List Deed} {w : Wld}, (runW N w es).getLast? = some (endW N w es)
  | [], _ => rfl
  | e :: es, w => by
    show (w :: runW N (step N w e) es).getLast? = _
    have := run_last (es := es) (N := N) (w := step N w e)
    cases h : runW N (step N w e) es with
    | nil => rw [h] at this; cases this
    | cons a b => rw [h] at this; rw [List.getLast?_cons_cons]; exact this
theorem run_len {N : NetM} : ∀ {es : List Deed} {w : Wld}, (runW N w es).length = es.length + 1
  | [], _ => rfl
  | _ :: es, _ => congrArg (· + 1) (run_len (es := es))
theorem map_last {α : Type} {f : α → Dat} {xs : List α} {x : α} (h : xs.getLast? = some x) : (xs.map f).getLast? = some (f x) := by rw [List.getLast?_map, h]; rfl
theorem rv_pick {ds : List Dat} {i : Nat} {P : Dat → Prop} (h : i < ds.length) (p : ∀ z, z ∈ ds → P z) : RV C (rIx K) (.lst ds) (.int (i : Int)) P := rv_ixL (ixnat (List.getElem?_eq_getElem h)) (p _ (List.getElem_mem h))
theorem mk_r2 {n : Nat} {i : Int} {P : Nat → Prop} (e : i = (n : Int)) (h : n ≤ 1000000) (p : P n) : ∃ m : Nat, [Dat.int i] = [.int (m : Int)] ∧ m ≤ 1000000 ∧ P m := ⟨n, by rw [e], h, p⟩
theorem x__law_run : ∀ ds Q, pre__law_run ds Q → Ex C CB noX (t__law_run K C CB kinds) (.pool :: slots ds 4) (RetP Q) := by
  rintro ds Q ⟨N, m, rfl, hN, hm, p⟩
  unfold t__law_run
  walk_at "go"
  refine ex_asgO (en_lst ?_)
  walk_at "go"
  refine ⟨N, rfl, hN, ?_⟩
  walk_at "go"
  refine ex_asgO (en_lst ?_)
  walk_at "go"
  refine ex_for ?_
  walk_at "go"
  refine ⟨m + 1, rfl, by omega, by omega, fun j hj => ?_⟩
  walk_at "go"
  refine rv_div ⟨by decide, by decide⟩ ?_
  walk_at "go"
  refine ⟨3, rfl, by decide, by decide, fun i hi => ?_⟩
  refine rv_pick hi fun z hz => ?_
  obtain ⟨n, hn, rfl⟩ : ∃ n : Nat, n ≤ m ∧ z = .int (n : Int) := by
    simp only [List.mem_cons, List.not_mem_nil, or_false] at hz
    rcases hz with rfl | rfl | rfl
    · exact ⟨m, Nat.le_refl _, rfl⟩
    · exact ⟨j, by omega, rfl⟩
    · exact ⟨m / 2, by omega, by rw [Int.natCast_ediv]; rfl⟩
  walk_at "go"
  refine mk_r (by omega) ?_
  have fin : ∀ (es : List Deed) (s5 s6 : Slot), es.length ≤ m → legal N N.start es → Ex C CB noX (tRet (tTup (tCons (tVar 4) (tCons (tVar 3) tNil)))) [.pool, .val N.dict, .val (.int (m : Int)), .own ((runW N N.start es).map Wld.encL), .own (es.map Deed.enc), s5, s6] (RetP Q) := by
    intro es s5 s6 hl hg
    walk_at "go"
    exact p es hl hg
  refine ⟨fun i δ' => ∃ (es : List Deed) (s5 s6 : Slot), δ' = [.pool, .val N.dict, .val (.int (m : Int)), .own ((runW N N.start es).map Wld.encL), .own (es.map Deed.enc), s5, s6] ∧ es.length = i ∧ legal N N.start es, ⟨[], _, _, rfl, rfl, trivial⟩, fun i e δ' he hI => ?_, fun δ' hI => ?_⟩
  · obtain ⟨rfl, hlt⟩ := nats_get he
    obtain ⟨es, s5, s6, rfl, hl, hg⟩ := hI
    have hw := end_ok (es := es) (start_ok N)
    have hlast := map_last (f := Wld.encL) (run_last (N := N) (es := es) (w := N.start))
    have hrl := run_len (N := N) (es := es) (w := N.start)
    refine ⟨[5], _, gg_name (by simp), ?_⟩
    walk_at "go"
    refine ex_asg ?_
    walk_at "go"
    refine ev_un ?_
    walk_at "go"
    refine rv_ixO (ixlast hlast) ?_
    walk_at "go"
    refine ⟨N, _, _, rfl, hN, hw, by omega, ?_⟩
    walk_at "go"
    generalize hpo : possible N (endW N N.start es) = po
    rw [List.length_map]
    have hpl : po.length ≤ 100000 := by
      rw [← hpo, poss_eq, List.length_append]
      have := poss1_len (i := N.rules.length) hN hw (by omega)
      have := poss2_len (i := N.chans.length) hN hw (by omega)
      omega
    refine ⟨fun e => ?_, fun e => ?_⟩
    · walk_at "go"
      refine ex_bk ?_
      exact fin es _ _ (by omega) hg
    · have h0 : 0 < po.length := by
        have : ¬ (po.length : Int) = 0 := of_decide_eq_false e
        omega
      walk_at "go"
      refine ex_app rfl (by rw [List.length_map]; omega) ?_
      walk_at "go"
      rw [List.length_map]
      refine ⟨po.length, rfl, h0, by omega, fun j hj => ?_⟩
      have hd := List.getElem?_eq_getElem hj
      generalize po[j] = d at hd
      have hdm : d ∈ possible N (endW N N.start es) := by rw [hpo]; exact List.mem_of_getElem? hd
      refine rv_ixL (ixmap hd) ?_
      walk_at "go"
      refine ex_app rfl (by rw [List.length_map]; omega) ?_
      walk_at "go"
      refine ev_un ?_
      walk_at "go"
      refine rv_ixO (ixlast hlast) ?_
      walk_at "go"
      refine ev_un ?_
      walk_at "go"
      refine rv_ixO (ixlast (d := d.enc) (by rw [List.getLast?_append]; rfl)) ?_
      walk_at "go"
      refine ⟨N, _, _, d, rfl, hN, hw, by omega, poss_fit hN hdm, ?_⟩
      change ∃ (es : List Deed) (s5 s6 : Slot), _
      refine ⟨es ++ [d], .val (.int (i : Int)), .val (.lst (po.map Deed.enc)), ?_, by rw [List.length_append, hl]; rfl, legal_snoc hg hdm⟩
      rw [run_snoc, List.map_append, List.map_append]
      rfl
  · obtain ⟨es, s5, s6, rfl, hl, hg⟩ := hI
    rw [nats_len] at hl
    exact fin _ _ _ (by omega) hg
end
end Dl


namespace Dl
open PySem L2
section
variable {C CB kinds : Addr} {K : PySem.W.Frag} {W : WX} {R : Out → Prop} {δ : List Slot}
local macro_rules | `(tactic| walk_at "ev") => `(tactic| first
  | ((with_reducible refine ex_norm (δ' := ?dn) ?he ?_); (case he => (simp only [slots, wipeS, List.map_cons, List.map_nil, List.replicate_succ, List.replicate_zero, List.cons_append, List.nil_append, List.set_cons_zero, List.set_cons_succ]; exact rfl)))
  | (with_reducible refine ex_seq ?_) | (with_reducible refine ex_if ?_) | ((with_reducible refine ex_retF (i := 2) (ds := ?dd) ?hf ?_); (case hf => exact rfl)) | ((with_reducible refine ex_retF (i := 3) (ds := ?dd) ?hf ?_); (case hf => exact rfl)) | ((with_reducible refine ex_retF (i := 4) (ds := ?dd) ?hf ?_); (case hf => exact rfl)) | ((with_reducible refine ex_retF (i := 5) (ds := ?dd) ?hf ?_); (case hf => exact rfl)) | ((with_reducible refine ex_retF (i := 8) (ds := ?dd) ?hf ?_); (case hf => exact rfl)) | (with_reducible refine ex_ret ?_) | (with_reducible refine ex_nx ?_) | (with_reducible refine ex_bk ?_)
  | (with_reducible refine ev_int ?_) | (with_reducible refine ev_str ?_) | (with_reducible refine ev_bl ?_) | (with_reducible refine ev_non ?_)
  | ((with_reducible refine ev_var (d := ?dd) ?hv ?_); (case hv => exact rfl))
  | (with_reducible refine ea_nil ?_) | (with_reducible refine ea_cons ?_) | (with_reducible refine ev_call ?_) | ((with_reducible refine ev_callS ?hv ?_); (case hv => exact rfl))
  | (with_reducible refine et_test ?_) | (with_reducible refine et_B ?_) | (with_reducible refine et_and ?_) | (with_reducible refine et_or ?_) | (with_reducible refine et_not ?_) | (with_reducible refine et_yes ?_)
  | (with_reducible refine ev_andV ?_) | (with_reducible refine ev_orV ?_) | (with_reducible refine ev_notV ?_) | (with_reducible refine ev_if ?_) | (with_reducible refine ev_chain ?_)
  | (with_reducible refine ev_isi ?_) | (with_reducible refine ev_isi2 ?_) | (with_reducible refine ev_tup ?_) | (with_reducible refine EvN.ev (en_sl ?_)) | (with_reducible refine ev_sl ?_) | (with_reducible refine eo_none ?_) | (with_reducible refine eo_some ?_)
  | (with_reducible refine isB_mk ?_)
  | (with_reducible refine rv_add ?_) | (with_reducible refine rv_sub ?_) | (with_reducible refine rv_lt ?_) | (with_reducible refine rv_le ?_) | (with_reducible refine rv_gt ?_) | (with_reducible refine rv_ge ?_)
  | (with_reducible refine rv_eqI ?_) | (with_reducible refine rv_neI ?_) | (with_reducible refine rv_eqS ?_) | (with_reducible refine rv_neS ?_) | (with_reducible refine rv_eqB ?_) | (with_reducible refine rv_isN ?_)
  | (with_reducible refine rc_lenL ?_) | (with_reducible refine rc_lenT ?_) | (with_reducible refine rc_intI ?_) | (with_reducible refine rc_intB ?_) | (with_reducible refine rc_tupT ?_) | (with_reducible refine rc_tupL ?_)
  | (with_reducible refine ev_getP ?_) | (with_reducible refine ev_getC ?_) | (with_reducible refine ev_getR ?_)
  | ((with_reducible refine rv_ixT (z := ?zz) ?hi ?_); (case hi => exact rfl)) | ((with_reducible refine rv_ixL (z := ?zz) ?hi ?_); (case hi => exact rfl))
  | ((with_reducible refine ev_lenO (ds := ?dd) ?hv ?_); (case hv => exact rfl)) | (with_reducible refine EvN.ev (en_lst ?_)) | (with_reducible refine EvN.ev (en_list ?_)) | (with_reducible refine EvN.ev (en_sl ?_)) | (with_reducible refine EvN.ev (en_cat ?_))
  | (with_reducible refine ev_cb ?_) | ((with_reducible refine ev_opO (ds := ?dd) ?hv ?_); (case hv => exact rfl)) | ((with_reducible refine ev_opP (ds := ?dd) ?hv ?_); (case hv => exact rfl)) | (with_reducible refine ev_op ?_)
  | (with_reducible refine ei_seq ?_) | (with_reducible refine ei_enum ?_) | (with_reducible refine ei_range ?_) | (with_reducible refine ei_str ?_)
  | (with_reducible refine mk_o ?_) | (with_reducible refine mk_n ?_) | (with_reducible refine mk_i ?_) | (with_reducible refine mk_s ?_) | (with_reducible refine mk_l ?_) | (with_reducible refine mk_b ?_)
  | (with_reducible refine mk_sl ?_) | (with_reducible refine mk_st ?_) | (with_reducible refine mk_al ?_) | (with_reducible refine mk_at ?_)
  | ((with_reducible refine and_len ?ll ?_); (case ll => exact Nat.le_of_ble_eq_true rfl)) | (refine br_t rfl ?_) | (refine br_f rfl ?_))
local macro_rules | `(tactic| walk_at "isi") => `(tactic| first | refine isi1 rfl kb_ii ?_ | refine isi1 rfl kb_is ?_ | refine isi1 rfl kb_ib ?_ | refine isi1 rfl kb_il ?_ | refine isi1 rfl kb_it ?_ | refine isi1 rfl kb_si ?_ | refine isi1 rfl kb_ss ?_ | refine isi1 rfl kb_sb ?_ | refine isi1 rfl kb_sl ?_ | refine isi1 rfl kb_st ?_ | refine isi1 rfl kb_ll ?_ | refine isi1 rfl kb_lt ?_ | refine isi1 rfl kb_li ?_ | refine isi1 rfl kb_ls ?_ | refine isi1 rfl kb_lb ?_ | refine isi1 rfl kb_tt ?_ | refine isi1 rfl kb_tl ?_ | refine isi1 rfl kb_ti ?_ | refine isi1 rfl kb_ts ?_ | refine isi1 rfl kb_tb ?_ | refine isi1 rfl kb_ni ?_ | refine isi1 rfl kb_ns ?_ | refine isi1 rfl kb_nb ?_ | refine isi1 rfl kb_nl ?_ | refine isi1 rfl kb_nt ?_)
local macro_rules | `(tactic| walk_at "go") => `(tactic| repeat (walk_at "ev"))
local macro_rules | `(tactic| walk_at "f1") => `(tactic| ((refine ex_freeze (i := 1) (ds := ?dd) ?hf ?_); (case hf => exact rfl)))
local macro_rules | `(tactic| walk_at "f2") => `(tactic| ((refine ex_freeze (i := 2) (ds := ?dd) ?hf ?_); (case hf => exact rfl)))
local macro_rules | `(tactic| walk_at "f3") => `(tactic| ((refine ex_freeze (i := 3) (ds := ?dd) ?hf ?_); (case hf => exact rfl)))
local macro_rules | `(tactic| walk_at "f4") => `(tactic| ((refine ex_freeze (i := 4) (ds := ?dd) ?hf ?_); (case hf => exact rfl)))
local macro_rules | `(tactic| walk_at "f5") => `(tactic| ((refine ex_freeze (i := 5) (ds := ?dd) ?hf ?_); (case hf => exact rfl)))
local macro_rules | `(tactic| walk_at "f6") => `(tactic| ((refine ex_freeze (i := 6) (ds := ?dd) ?hf ?_); (case hf => exact rfl)))
local macro_rules | `(tactic| walk_at "f7") => `(tactic| ((refine ex_freeze (i := 7) (ds := ?dd) ?hf ?_); (case hf => exact rfl)))
local macro_rules | `(tactic| walk_at "f8") => `(tactic| ((refine ex_freeze (i := 8) (ds := ?dd) ?hf ?_); (case hf => exact rfl)))
local macro_rules | `(tactic| walk_at "f9") => `(tactic| ((refine ex_freeze (i := 9) (ds := ?dd) ?hf ?_); (case hf => exact rfl)))
local macro_rules | `(tactic| walk_at "f10") => `(tactic| ((refine ex_freeze (i := 10) (ds := ?dd) ?hf ?_); (case hf => exact rfl)))
local macro_rules | `(tactic| walk_at "f11") => `(tactic| ((refine ex_freeze (i := 11) (ds := ?dd) ?hf ?_); (case hf => exact rfl)))
local macro_rules | `(tactic| walk_at "f12") => `(tactic| ((refine ex_freeze (i := 12) (ds := ?dd) ?hf ?_); (case hf => exact rfl)))
local macro_rules | `(tactic| walk_at "f13") => `(tactic| ((refine ex_freeze (i := 13) (ds := ?dd) ?hf ?_); (case hf => exact rfl)))
local macro_rules | `(tactic| walk_at "nf") => `(tactic| ((with_reducible refine ev_norm (δ' := ?dn) ?he ?_); (case he => (simp only [slots, wipeS, List.map_cons, List.map_nil, List.replicate_succ, List.replicate_zero, List.cons_append, List.nil_append, List.set_cons_zero, List.set_cons_succ]; exact rfl))))
theorem joinL_one : ∀ cs : List Nat, TL.joinL [] (cs.map fun c => [c]) = cs
  | [] => rfl
  | [c] => rfl
  | c :: d :: r => by
    have ih := joinL_one (d :: r)
    show [c] ++ [] ++ TL.joinL [] ((d :: r).map fun c => [c]) = _
    rw [ih]; rfl
theorem join_chars (cs : List Nat) : PySem.Txt.join "" (cs.map fun c => (⟨#[c]⟩ : PySem.Str)) = ⟨cs.toArray⟩ := by
  have h := SX.join_S [] (cs.map fun c => [c])
  rw [joinL_one, List.map_map] at h
  exact h
theorem x__law_rule : ∀ ds Q, pre__law_rule ds Q → Ex C CB noX (t__law_rule K C CB kinds) (.pool :: slots ds 6) (RetP Q) := by
  rintro ds Q ⟨ps, cs, rfl, hp0, hpl, hcl, hps, hcs, p⟩
  unfold t__law_rule
  have fin : ∀ (pr : Nat) (a : Act) (s3 s4 s7 s8 : Slot), pr < ps.length → ActOk cs pr a → Ex C CB noX (tSeq (tAsg (tOp (rIx K) (tOp (rIx K) (tVar 1) (tVar 5)) (tC (.int 1))) (gName 8))
    (tRet (tTup (tCons (tVar 5) (tCons (tCall (spS C pre__law_take) [] E0 (tCons (tVar 0) (tCons (tVar 8) tNil))) (tCons (tVar 6) (tCons (tCall (spS C pre__law_take) [] E0 (tCons (tVar 0) (tCons (tVar 8) tNil))) tNil)))))))
      [.pool, .val (.lst (ps.map encP)), .val (.lst (cs.map encC)), s3, s4, .val (.int (pr : Int)), .val (encA a), s7, s8] (RetP Q) := by
    intro pr a s3 s4 s7 s8 hpr ha
    have hq := List.getElem?_eq_getElem hpr
    generalize ps[pr] = q at hq
    have hq2 := hps q (List.mem_of_getElem? hq)
    walk_at "go"
    refine ex_asg ?_
    walk_at "go"
    refine rv_ixL (ixmap hq) ?_
    walk_at "go"
    refine ⟨q.2, rfl, by omega, by omega, fun i hi => ?_⟩
    walk_at "go"
    refine ⟨q.2, rfl, by omega, by omega, fun j hj => ?_⟩
    walk_at "go"
    exact p ⟨pr, i, a, j⟩ ⟨⟨q, hq, hi, hj⟩, ha⟩
  walk_at "go"
  refine ex_asg ?_
  walk_at "go"
  refine ⟨6, rfl, by decide, by decide, fun way hway => ?_⟩
  walk_at "go"
  refine ex_asg ?_
  walk_at "go"
  refine ⟨10, rfl, by decide, by decide, fun t1 ht1 => ?_⟩
  walk_at "go"
  refine ⟨4, rfl, by decide, by decide, fun t2 ht2 => ?_⟩
  refine rv_pick ht2 fun z hz => ?_
  obtain ⟨t, ht, rfl⟩ : ∃ n : Nat, n < 10 ∧ z = .int (n : Int) := by
    simp only [List.mem_cons, List.not_mem_nil, or_false] at hz
    rcases hz with rfl | rfl | rfl | rfl
    · exact ⟨0, by decide, rfl⟩
    · exact ⟨0, by decide, rfl⟩
    · exact ⟨1, by decide, rfl⟩
    · exact ⟨t1, ht1, rfl⟩
  walk_at "go"
  refine ex_asg ?_
  walk_at "go"
  rw [List.length_map]
  refine ⟨_, rfl, hp0, by omega, fun pr hpr => ?_⟩
  walk_at "go"
  refine ex_asg ?_
  walk_at "go"
  refine ⟨fun e1 => ?_, fun e1 => ?_⟩
  · walk_at "go"
    refine ⟨fun e2 => ?_, fun e2 => ?_⟩
    · have hc0 : 0 < cs.length := by
        have := of_decide_eq_true e2
        rw [List.length_map] at this
        omega
      walk_at "go"
      refine ex_asg ?_
      walk_at "go"
      rw [List.length_map]
      refine ⟨_, rfl, hc0, by omega, fun c hc => ?_⟩
      have hh := List.getElem?_eq_getElem hc
      generalize cs[c] = h at hh
      have hco := hcs h (List.mem_of_getElem? hh)
      walk_at "go"
      refine ex_asg ?_
      walk_at "go"
      refine rv_ixL (ixmap hh) ?_
      walk_at "go"
      by_cases hw : 2 < way
      · rw [show decide ((2 : Int) < (way : Int)) = true from decide_eq_true (by omega)]
        refine rv_ixT (z := .int (h.taker : Int)) rfl ?_
        walk_at "go"
        refine ex_asg ?_
        walk_at "go"
        rw [show decide ((2 : Int) < (way : Int)) = true from decide_eq_true (by omega)]
        refine rv_ixL (z := .str "take") rfl ?_
        (iterate 6 walk_at "ev")
        exact fin h.taker (.take c t) _ _ _ _ hco.t ⟨ht, h, hh, rfl⟩
      · rw [show decide ((2 : Int) < (way : Int)) = false from decide_eq_false (by omega)]
        refine rv_ixT (z := .int (h.giver : Int)) rfl ?_
        walk_at "go"
        refine ex_asg ?_
        walk_at "go"
        rw [show decide ((2 : Int) < (way : Int)) = false from decide_eq_false (by omega)]
        refine rv_ixL (z := .str "send") rfl ?_
        (iterate 6 walk_at "ev")
        exact fin h.giver (.send c t) _ _ _ _ hco.g ⟨ht, h, hh, rfl⟩
    · refine ex_nx ?_
      exact fin pr .doo _ _ _ _ hpr trivial
  · refine br_f rfl ?_
    refine ex_nx ?_
    exact fin pr .doo _ _ _ _ hpr trivial
theorem pig : ∀ (as xs : List PySem.Str), as.Nodup → (∀ a, a ∈ as → a ∈ xs) → as.length ≤ xs.length
  | [], _, _, _ => Nat.zero_le _
  | a :: as, xs, hn, h => by
    rw [List.nodup_cons] at hn
    have ha := h a List.mem_cons_self
    have ih := pig as (xs.erase a) hn.2 fun b hb => by
      have hne : b ≠ a := fun e => hn.1 (e ▸ hb)
      exact (List.mem_erase_of_ne hne).mpr (h b (List.mem_cons_of_mem _ hb))
    rw [List.length_erase_of_mem ha] at ih
    have : 0 < xs.length := List.length_pos_of_mem ha
    rw [List.length_cons]
    omega
def cand : List PySem.Str := (("abcdefgh" : PySem.Str)).cps.toList.map fun c => ("qqqqq" : PySem.Str) ++ ⟨#[c]⟩
theorem cand_len : cand.length = 8 := by decide +kernel
theorem cand_nodup : cand.Nodup := by decide +kernel
theorem cand_ok : ∀ x, x ∈ cand → NameOk x := by
  have h : cand.all (fun x => decide (1 ≤ x.length) && (decide (x.length ≤ 6) && x.cps.toList.all fun c => decide (c ∈ letters.cps.toList))) = true := by decide +kernel
  intro x hx
  have := List.all_eq_true.mp h x hx
  rw [Bool.and_eq_true, Bool.and_eq_true] at this
  exact ⟨of_decide_eq_true this.1, of_decide_eq_true this.2.1, fun c hc => of_decide_eq_true (List.all_eq_true.mp this.2.2 c hc)⟩
theorem letters_len : letters.cps.toList.length = 26 := by decide +kernel
theorem letters_l : letters.length ≤ 100000 := by decide +kernel
theorem x__law_names : ∀ ds Q, pre__law_names ds Q → Ex C CB noX (t__law_names K C CB kinds) (.pool :: slots ds 9) (RetP Q) := by
  rintro ds Q ⟨m, rfl, hm, p⟩
  unfold t__law_names
  walk_at "go"
  refine ex_asg ?_
  walk_at "go"
  refine ex_asgO (en_lst ?_)
  walk_at "go"
  refine ex_for ?_
  walk_at "go"
  refine mk_r (by omega) ?_
  refine ⟨fun i δ' => ∃ (xs : List PySem.Str) (s4 s5 s6 s7 s8 s9 s10 : Slot), δ' = [.pool, .val (.int (m : Int)), .val (.str letters), .own (xs.map .str), s4, s5, s6, s7, s8, s9, s10] ∧ xs.length = i ∧ (∀ x, x ∈ xs → NameOk x) ∧ xs.Nodup, ⟨[], _, _, _, _, _, _, _, rfl, rfl, fun x h => (by cases h), List.nodup_nil⟩, fun i e δ' he hI => ?_, fun δ' hI => ?_⟩
  · obtain ⟨rfl, hlt⟩ := nats_get he
    obtain ⟨xs, s4, s5, s6, s7, s8, s9, s10, rfl, hl, hok, hnd⟩ := hI
    have fin : ∀ (x : PySem.Str) (s4 s5 s7 s8 s9 s10 : Slot), NameOk x → x ∉ xs → Ex C CB noX (tDrop (tBM K "list" rAppend (tVar 3) (tCons (tVar 6) tNil))) [.pool, .val (.int (m : Int)), .val (.str letters), .own (xs.map .str), s4, s5, .val (.str x), s7, s8, s9, s10]
        (Lp (fun δ' => ∃ (xs : List PySem.Str) (s4 s5 s6 s7 s8 s9 s10 : Slot), δ' = [.pool, .val (.int (m : Int)), .val (.str letters), .own (xs.map .str), s4, s5, s6, s7, s8, s9, s10] ∧ xs.length = i + 1 ∧ (∀ x, x ∈ xs → NameOk x) ∧ xs.Nodup) fun o => match o with
          | .nx δ' => Ex C CB noX (tRet (tVar 3)) δ' (RetP Q)
          | o => RetP Q o) := by
      intro x s4 s5 s7 s8 s9 s10 hx hn
      refine ex_app rfl (by rw [List.length_map]; omega) ?_
      walk_at "go"
      refine ⟨xs ++ [x], s4, s5, .val (.str x), s7, s8, s9, s10, by rw [List.map_append]; rfl, by rw [List.length_append, hl]; rfl, fun y hy => ?_, ?_⟩
      · rcases List.mem_append.mp hy with h | h
        · exact hok y h
        · rw [List.mem_singleton] at h; exact h ▸ hx
      · rw [List.nodup_append]
        exact ⟨hnd, List.nodup_cons.mpr ⟨List.not_mem_nil, List.nodup_nil⟩, fun a ha b hb e => by rw [List.mem_singleton] at hb; subst hb; subst e; exact hn ha⟩
    refine ⟨[4], _, gg_name (by simp), ?_⟩
    walk_at "go"
    refine ex_asg ?_
    walk_at "go"
    refine ⟨6, rfl, by decide, by decide, fun t1 ht1 => ?_⟩
    walk_at "go"
    refine ⟨4, rfl, by decide, by decide, fun t2 ht2 => ?_⟩
    refine rv_pick ht2 fun z hz => ?_
    obtain ⟨sz, h1, h6, rfl⟩ : ∃ n : Nat, 1 ≤ n ∧ n ≤ 6 ∧ z = .int (n : Int) := by
      simp only [List.mem_cons, List.not_mem_nil, or_false] at hz
      rcases hz with rfl | rfl | rfl | rfl
      · exact ⟨1, by decide, by decide, rfl⟩
      · exact ⟨1, by decide, by decide, rfl⟩
      · exact ⟨2, by decide, by decide, rfl⟩
      · exact ⟨1 + t1, by omega, by omega, by rw [Int.natCast_add]; rfl⟩
    walk_at "go"
    refine ex_asg ?_
    refine ev_join ?_
    walk_at "go"
    refine EvN.ev (en_lcR (α := Nat) (β := Nat) ?_)
    walk_at "go"
    refine mk_r (by omega) ?_
    refine ⟨by rw [nats_len]; omega, List.range sz, fun i : Nat => .int (i : Int), fun c => .str ⟨#[c]⟩, fun _ c => c ∈ letters.cps.toList, rfl, fun q hq => ⟨_, gg_name (by simp), ?_⟩, fun ys hyl hys => ?_⟩
    · walk_at "go"
      refine ⟨26, rfl, by decide, by decide, fun j hj => ?_⟩
      have hc := List.getElem?_eq_getElem (show j < letters.cps.toList.length by rw [letters_len]; exact hj)
      generalize letters.cps.toList[j] = c at hc
      refine rv_ixS (c := c) letters_l ?_ ⟨c, rfl, List.mem_of_getElem? hc⟩
      unfold atI
      rw [ixN_nat (by rw [letters_len]; exact hj)]
      exact hc
    · rw [List.length_range] at hyl
      have hmem : ∀ c, c ∈ ys → c ∈ letters.cps.toList := fun c hc => by
        obtain ⟨k, hk⟩ := List.getElem?_of_mem hc
        have hkl := (List.getElem?_eq_some_iff.mp hk).1
        exact hys k k c (by rw [List.getElem?_range (by omega)]) hk
      refine ⟨ys.map fun c => ⟨#[c]⟩, by rw [List.map_map]; rfl, ?_, ?_⟩
      · rw [List.length_map, List.map_map]
        have e0 : (("" : PySem.Str)).length = 0 := by decide +kernel
        have e1 : ((ys.map ((fun x : PySem.Str => x.length) ∘ fun c => (⟨#[c]⟩ : PySem.Str)))).sum = ys.length := by
          clear hyl hys hmem
          induction ys with
          | nil => rfl
          | cons y ys ih => rw [List.map_cons, List.sum_cons, ih, List.length_cons]; show 1 + _ = _; omega
        rw [e0, e1]; omega
      rw [join_chars]
      have hx : NameOk ⟨ys.toArray⟩ := ⟨by show 1 ≤ ys.toArray.size; rw [List.size_toArray]; omega, by show ys.toArray.size ≤ 6; rw [List.size_toArray]; omega, fun c hc => hmem c hc⟩
      generalize (⟨ys.toArray⟩ : PySem.Str) = x at hx
      walk_at "go"
      refine rv_inSP (ns := xs) rfl ?_
      walk_at "go"
      refine ⟨fun e => ?_, fun e => ?_⟩
      · walk_at "go"
        refine ex_asg ?_
        refine EvN.ev (en_lcM (α := Nat) ?_)
        walk_at "go"
        refine ⟨(("abcdefgh" : PySem.Str)).cps.toList, fun c => .str ⟨#[c]⟩, fun c => .str (("qqqqq" : PySem.Str) ++ ⟨#[c]⟩), rfl, fun q hq => ⟨_, gg_name (by simp), ?_⟩, ?_⟩
        · walk_at "go"
          exact rv_addS (by show ("qqqqq" : PySem.Str).length + 1 ≤ 100000; decide +kernel) rfl
        rw [show ((("abcdefgh" : PySem.Str)).cps.toList.map fun c => Dat.str (("qqqqq" : PySem.Str) ++ ⟨#[c]⟩)) = cand.map Dat.str by unfold cand; rw [List.map_map]; rfl]
        walk_at "go"
        refine ex_asg ?_
        refine ev_op ?_
        refine EvN.ev (en_lcP (α := PySem.Str) ?_)
        walk_at "go"
        refine ⟨cand, .str, fun x => !decide (x ∈ xs), .str, rfl, fun q hq => ⟨_, gg_name (by simp), ?_⟩, ?_⟩
        · walk_at "go"
          refine rv_niSP (ns := xs) rfl ?_
          refine isB_mk ⟨rfl, fun _ => ?_⟩
          walk_at "go"
          rfl
        obtain ⟨y, hy⟩ : ∃ y, (cand.filter fun x => !decide (x ∈ xs))[0]? = some y := by
          cases hf : cand.filter fun x => !decide (x ∈ xs) with
          | cons a b => exact ⟨a, rfl⟩
          | nil =>
            have := pig cand xs cand_nodup fun a ha => by
              have := List.filter_eq_nil_iff.mp hf a ha
              simpa using this
            rw [cand_len] at this
            omega
        have hym := List.mem_filter.mp (List.mem_of_getElem? hy)
        walk_at "go"
        refine rv_ixL (ixmap hy) ?_
        exact fin y _ _ _ _ _ _ (cand_ok y hym.1) (by simpa using hym.2)
      · refine ex_nx ?_
        exact fin x _ _ _ _ _ _ hx (of_decide_eq_false e)
  · obtain ⟨xs, s4, s5, s6, s7, s8, s9, s10, rfl, hl, hok, hnd⟩ := hI
    rw [nats_len] at hl
    walk_at "go"
    exact p xs hl hok hnd
end
end Dl


namespace Dl
open PySem L2
section
variable {C CB kinds : Addr} {K : PySem.W.Frag} {W : WX} {R : Out → Prop} {δ : List Slot}
local macro_rules | `(tactic| walk_at "ev") => `(tactic| first
  | ((with_reducible refine ex_norm (δ' := ?dn) ?he ?_); (case he => (simp only [slots, wipeS, List.map_cons, List.map_nil, List.replicate_succ, List.replicate_zero, List.cons_append, List.nil_append, List.set_cons_zero, List.set_cons_succ]; exact rfl)))
  | (with_reducible refine ex_seq ?_) | (with_reducible refine ex_if ?_) | ((with_reducible refine ex_retF (i := 2) (ds := ?dd) ?hf ?_); (case hf => exact rfl)) | ((with_reducible refine ex_retF (i := 3) (ds := ?dd) ?hf ?_); (case hf => exact rfl)) | ((with_reducible refine ex_retF (i := 4) (ds := ?dd) ?hf ?_); (case hf => exact rfl)) | ((with_reducible refine ex_retF (i := 5) (ds := ?dd) ?hf ?_); (case hf => exact rfl)) | ((with_reducible refine ex_retF (i := 8) (ds := ?dd) ?hf ?_); (case hf => exact rfl)) | (with_reducible refine ex_ret ?_) | (with_reducible refine ex_nx ?_) | (with_reducible refine ex_bk ?_)
  | (with_reducible refine ev_int ?_) | (with_reducible refine ev_str ?_) | (with_reducible refine ev_bl ?_) | (with_reducible refine ev_non ?_)
  | ((with_reducible refine ev_var (d := ?dd) ?hv ?_); (case hv => exact rfl))
  | (with_reducible refine ea_nil ?_) | (with_reducible refine ea_cons ?_) | (with_reducible refine ev_call ?_) | ((with_reducible refine ev_callS ?hv ?_); (case hv => exact rfl))
  | (with_reducible refine et_test ?_) | (with_reducible refine et_B ?_) | (with_reducible refine et_and ?_) | (with_reducible refine et_or ?_) | (with_reducible refine et_not ?_) | (with_reducible refine et_yes ?_)
  | (with_reducible refine ev_andV ?_) | (with_reducible refine ev_orV ?_) | (with_reducible refine ev_notV ?_) | (with_reducible refine ev_if ?_) | (with_reducible refine ev_chain ?_)
  | (with_reducible refine ev_isi ?_) | (with_reducible refine ev_isi2 ?_) | (with_reducible refine ev_tup ?_) | (with_reducible refine EvN.ev (en_sl ?_)) | (with_reducible refine ev_sl ?_) | (with_reducible refine eo_none ?_) | (with_reducible refine eo_some ?_)
  | (with_reducible refine isB_mk ?_)
  | (with_reducible refine rv_add ?_) | (with_reducible refine rv_sub ?_) | (with_reducible refine rv_lt ?_) | (with_reducible refine rv_le ?_) | (with_reducible refine rv_gt ?_) | (with_reducible refine rv_ge ?_)
  | (with_reducible refine rv_eqI ?_) | (with_reducible refine rv_neI ?_) | (with_reducible refine rv_eqS ?_) | (with_reducible refine rv_neS ?_) | (with_reducible refine rv_eqB ?_) | (with_reducible refine rv_isN ?_)
  | (with_reducible refine rc_lenL ?_) | (with_reducible refine rc_lenT ?_) | (with_reducible refine rc_intI ?_) | (with_reducible refine rc_intB ?_) | (with_reducible refine rc_tupT ?_) | (with_reducible refine rc_tupL ?_)
  | (with_reducible refine ev_getP ?_) | (with_reducible refine ev_getC ?_) | (with_reducible refine ev_getR ?_)
  | ((with_reducible refine rv_ixT (z := ?zz) ?hi ?_); (case hi => exact rfl)) | ((with_reducible refine rv_ixL (z := ?zz) ?hi ?_); (case hi => exact rfl))
  | ((with_reducible refine ev_lenO (ds := ?dd) ?hv ?_); (case hv => exact rfl)) | (with_reducible refine EvN.ev (en_lst ?_)) | (with_reducible refine EvN.ev (en_list ?_)) | (with_reducible refine EvN.ev (en_sl ?_)) | (with_reducible refine EvN.ev (en_cat ?_))
  | (with_reducible refine ev_cb ?_) | ((with_reducible refine ev_opO (ds := ?dd) ?hv ?_); (case hv => exact rfl)) | ((with_reducible refine ev_opP (ds := ?dd) ?hv ?_); (case hv => exact rfl)) | (with_reducible refine ev_op ?_)
  | (with_reducible refine ei_seq ?_) | (with_reducible refine ei_enum ?_) | (with_reducible refine ei_range ?_) | (with_reducible refine ei_str ?_)
  | (with_reducible refine mk_o ?_) | (with_reducible refine mk_n ?_) | (with_reducible refine mk_i ?_) | (with_reducible refine mk_s ?_) | (with_reducible refine mk_l ?_) | (with_reducible refine mk_b ?_)
  | (with_reducible refine mk_sl ?_) | (with_reducible refine mk_st ?_) | (with_reducible refine mk_al ?_) | (with_reducible refine mk_at ?_)
  | ((with_reducible refine and_len ?ll ?_); (case ll => exact Nat.le_of_ble_eq_true rfl)) | (refine br_t rfl ?_) | (refine br_f rfl ?_))
local macro_rules | `(tactic| walk_at "isi") => `(tactic| first | refine isi1 rfl kb_ii ?_ | refine isi1 rfl kb_is ?_ | refine isi1 rfl kb_ib ?_ | refine isi1 rfl kb_il ?_ | refine isi1 rfl kb_it ?_ | refine isi1 rfl kb_si ?_ | refine isi1 rfl kb_ss ?_ | refine isi1 rfl kb_sb ?_ | refine isi1 rfl kb_sl ?_ | refine isi1 rfl kb_st ?_ | refine isi1 rfl kb_ll ?_ | refine isi1 rfl kb_lt ?_ | refine isi1 rfl kb_li ?_ | refine isi1 rfl kb_ls ?_ | refine isi1 rfl kb_lb ?_ | refine isi1 rfl kb_tt ?_ | refine isi1 rfl kb_tl ?_ | refine isi1 rfl kb_ti ?_ | refine isi1 rfl kb_ts ?_ | refine isi1 rfl kb_tb ?_ | refine isi1 rfl kb_ni ?_ | refine isi1 rfl kb_ns ?_ | refine isi1 rfl kb_nb ?_ | refine isi1 rfl kb_nl ?_ | refine isi1 rfl kb_nt ?_)
local macro_rules | `(tactic| walk_at "go") => `(tactic| repeat (walk_at "ev"))
local macro_rules | `(tactic| walk_at "f1") => `(tactic| ((refine ex_freeze (i := 1) (ds := ?dd) ?hf ?_); (case hf => exact rfl)))
local macro_rules | `(tactic| walk_at "f2") => `(tactic| ((refine ex_freeze (i := 2) (ds := ?dd) ?hf ?_); (case hf => exact rfl)))
local macro_rules | `(tactic| walk_at "f3") => `(tactic| ((refine ex_freeze (i := 3) (ds := ?dd) ?hf ?_); (case hf => exact rfl)))
local macro_rules | `(tactic| walk_at "f4") => `(tactic| ((refine ex_freeze (i := 4) (ds := ?dd) ?hf ?_); (case hf => exact rfl)))
local macro_rules | `(tactic| walk_at "f5") => `(tactic| ((refine ex_freeze (i := 5) (ds := ?dd) ?hf ?_); (case hf => exact rfl)))
local macro_rules | `(tactic| walk_at "f6") => `(tactic| ((refine ex_freeze (i := 6) (ds := ?dd) ?hf ?_); (case hf => exact rfl)))
local macro_rules | `(tactic| walk_at "f7") => `(tactic| ((refine ex_freeze (i := 7) (ds := ?dd) ?hf ?_); (case hf => exact rfl)))
local macro_rules | `(tactic| walk_at "f8") => `(tactic| ((refine ex_freeze (i := 8) (ds := ?dd) ?hf ?_); (case hf => exact rfl)))
local macro_rules | `(tactic| walk_at "f9") => `(tactic| ((refine ex_freeze (i := 9) (ds := ?dd) ?hf ?_); (case hf => exact rfl)))
local macro_rules | `(tactic| walk_at "f10") => `(tactic| ((refine ex_freeze (i := 10) (ds := ?dd) ?hf ?_); (case hf => exact rfl)))
local macro_rules | `(tactic| walk_at "f11") => `(tactic| ((refine ex_freeze (i := 11) (ds := ?dd) ?hf ?_); (case hf => exact rfl)))
local macro_rules | `(tactic| walk_at "f12") => `(tactic| ((refine ex_freeze (i := 12) (ds := ?dd) ?hf ?_); (case hf => exact rfl)))
local macro_rules | `(tactic| walk_at "f13") => `(tactic| ((refine ex_freeze (i := 13) (ds := ?dd) ?hf ?_); (case hf => exact rfl)))
local macro_rules | `(tactic| walk_at "nf") => `(tactic| ((with_reducible refine ev_norm (δ' := ?dn) ?he ?_); (case he => (simp only [slots, wipeS, List.map_cons, List.map_nil, List.replicate_succ, List.replicate_zero, List.cons_append, List.nil_append, List.set_cons_zero, List.set_cons_succ]; exact rfl))))
theorem nodup_take {α : Type} {xs : List α} {n : Nat} (h : xs.Nodup) : (xs.take n).Nodup := h.sublist (List.take_sublist n xs)
theorem x__law_net : ∀ ds Q, pre__law_net ds Q → Ex C CB noX (t__law_net K C CB kinds) (.pool :: slots ds 11) (RetP Q) := by
  rintro ds Q ⟨rfl, p⟩
  unfold t__law_net
  walk_at "go"
  refine ex_asg ?_
  walk_at "go"
  refine ⟨4, rfl, by decide, by decide, fun t1 ht1 => ?_⟩
  walk_at "go"
  refine ⟨6, rfl, by decide, by decide, fun t2 ht2 => ?_⟩
  refine rv_pick ht2 fun z hz => ?_
  obtain ⟨m, hm1, hm5, rfl⟩ : ∃ n : Nat, 1 ≤ n ∧ n ≤ 5 ∧ z = .int (n : Int) := by
    simp only [List.mem_cons, List.not_mem_nil, or_false] at hz
    rcases hz with rfl | rfl | rfl | rfl | rfl | rfl
    · exact ⟨2, by decide, by decide, rfl⟩
    · exact ⟨3, by decide, by decide, rfl⟩
    · exact ⟨2, by decide, by decide, rfl⟩
    · exact ⟨3, by decide, by decide, rfl⟩
    · exact ⟨1, by decide, by decide, rfl⟩
    · exact ⟨2 + t1, by omega, by omega, by rw [Int.natCast_add]; rfl⟩
  walk_at "go"
  refine ex_asg ?_
  refine EvN.ev (en_lcR (α := PySem.Str) (β := PySem.Str × Nat) ?_)
  walk_at "go"
  refine ⟨m, rfl, by omega, fun xs hxl hxo hxn => ?_⟩
  walk_at "go"
  refine ⟨by rw [List.length_map]; omega, xs, .str, encP, fun x q => q.1 = x ∧ 1 ≤ q.2 ∧ q.2 ≤ 8, rfl, fun q hq => ⟨_, gg_name (by simp), ?_⟩, fun ps hpl hps => ?_⟩
  · walk_at "go"
    refine ⟨8, rfl, by decide, by decide, fun t3 ht3 => ?_⟩
    walk_at "go"
    refine ⟨5, rfl, by decide, by decide, fun t4 ht4 => ?_⟩
    refine rv_pick ht4 fun z hz => ?_
    obtain ⟨n, hn1, hn8, rfl⟩ : ∃ n : Nat, 1 ≤ n ∧ n ≤ 8 ∧ z = .int (n : Int) := by
      simp only [List.mem_cons, List.not_mem_nil, or_false] at hz
      rcases hz with rfl | rfl | rfl | rfl | rfl
      · exact ⟨1, by decide, by decide, rfl⟩
      · exact ⟨2, by decide, by decide, rfl⟩
      · exact ⟨3, by decide, by decide, rfl⟩
      · exact ⟨2, by decide, by decide, rfl⟩
      · exact ⟨1 + t3, by omega, by omega, by rw [Int.natCast_add]; rfl⟩
    walk_at "go"
    exact ⟨(q, n), rfl, rfl, hn1, hn8⟩
  have hpl' : ps.length = m := by omega
  have hpx : ∀ (i : Nat) q, ps[i]? = some q → xs[i]? = some q.1 ∧ 1 ≤ q.2 ∧ q.2 ≤ 8 := fun i q hq => by
    have hi := (List.getElem?_eq_some_iff.mp hq).1
    have hx := List.getElem?_eq_getElem (show i < xs.length by omega)
    have := hps i _ q hx hq
    exact ⟨by rw [this.1]; exact hx, this.2⟩
  have hpn : ps.map (·.1) = xs := by
    refine List.ext_getElem? fun i => ?_
    rw [List.getElem?_map]
    cases hq : ps[i]? with
    | none => rw [List.getElem?_eq_none_iff] at hq; rw [Option.map_none, List.getElem?_eq_none (by omega)]
    | some q => rw [(hpx i q hq).1]; rfl
  have hpo : ∀ q, q ∈ ps → NameOk q.1 ∧ 1 ≤ q.2 ∧ q.2 ≤ 8 := fun q hq => by
    obtain ⟨i, hi⟩ := List.getElem?_of_mem hq
    have := hpx i q hi
    exact ⟨hxo _ (List.mem_of_getElem? this.1), this.2⟩
  walk_at "go"
  refine ex_asg ?_
  walk_at "go"
  refine ex_asgO (en_lst ?_)
  walk_at "go"
  refine ex_for ?_
  walk_at "go"
  refine ⟨9, rfl, by decide, by decide, fun t5 ht5 => ?_⟩
  walk_at "go"
  refine ⟨4, rfl, by decide, by decide, fun t6 ht6 => ?_⟩
  refine rv_pick ht6 fun z hz => ?_
  obtain ⟨n0, hn0, rfl⟩ : ∃ n : Nat, n ≤ 8 ∧ z = .int (n : Int) := by
    simp only [List.mem_cons, List.not_mem_nil, or_false] at hz
    rcases hz with rfl | rfl | rfl | rfl
    · exact ⟨1, by decide, rfl⟩
    · exact ⟨2, by decide, rfl⟩
    · exact ⟨3, by decide, rfl⟩
    · exact ⟨t5, by omega, rfl⟩
  walk_at "go"
  obtain ⟨n, hn, hn1, en⟩ : ∃ n : Nat, n ≤ 8 ∧ (0 < n → 1 < m) ∧ (n0 : Int) * (if decide ((1 : Int) < (m : Int)) = true then 1 else 0) = (n : Int) := by
    by_cases h : 1 < m
    · exact ⟨n0, hn0, fun _ => h, by rw [if_pos (decide_eq_true (by omega))]; omega⟩
    · exact ⟨0, by omega, fun z => by omega, by rw [if_neg (by rw [decide_eq_true_iff]; omega)]; rfl⟩
  refine rv_mul (.inl ⟨by omega, by omega⟩) ?_
  rw [en]
  walk_at "go"
  refine ⟨n, rfl, hn, fun ns hnl hno hnn => ?_⟩
  walk_at "go"
  have mid : ∀ (cs : List Chan) (s3 s6 s7 s8 s9 s10 s11 : Slot), cs.length ≤ 8 → (∀ c, c ∈ cs → ChanOk ps.length c) → (cs.map (·.name)).Nodup → Ex C CB noX (tSeq (tAsg (tLst tNil) (gName 8))
    (tSeq (tFor (iRng1 (tCons (tCB (rLenV K) (tCons (tVar 5) tNil)) tNil)) (gName 9) (tSeq (tAsg (tOp (rIx K) (tOp (rIx K) (tVar 2) (tOp (rIx K) (tOp (rIx K) (tVar 5) (tVar 9)) (tC (.int 1)))) (tC (.int 1))) (gName 10))
    (tDrop (tBM K "list" rAppend (tVar 8) (tCons (tTup (tCons (tOp (rIx K) (tOp (rIx K) (tVar 5) (tVar 9)) (tC (.int 1))) (tCons (tC (.int 0)) (tCons (tTup (tCons (tC (.str "send")) (tCons (tVar 9) (tCons (tC (.int 0)) tNil)))) (tCons (tCall (spS C pre__law_take) [] E0 (tCons (tVar 0) (tCons (tVar 10) tNil))) tNil))))) tNil)))))
    (tSeq (tFor (iRng1 (tCons (tOp rAddI (tC (.int 4)) (tCall (spS C pre__law_take) [] E0 (tCons (tVar 0) (tCons (tC (.int 12)) tNil)))) tNil)) (gName 11) (tDrop (tBM K "list" rAppend (tVar 8) (tCons (tCall (spS C pre__law_rule) [] E0 (tCons (tVar 0) (tCons (tVar 2) (tCons (tVar 5) tNil)))) tNil))))
    (tRet (tDisp [((tC (.str "processes")), (tVar 2)), ((tC (.str "channels")), (tVar 5)), ((tC (.str "rules")), (tVar 8))])))))
      [.pool, .val (.int (m : Int)), .val (.lst (ps.map encP)), s3, .val (.lst [.str "order", .str "loose", .str "order lossy", .str "loose lossy"]), .val (.lst (cs.map encC)), s6, s7, s8, s9, s10, s11] (RetP Q) := by
    intro cs s3 s6 s7 s8 s9 s10 s11 hcl hco hcn
    have hps8 : ∀ q, q ∈ ps → 1 ≤ q.2 ∧ q.2 ≤ 8 := fun q hq => (hpo q hq).2
    walk_at "go"
    refine ex_asgO (en_lst ?_)
    walk_at "go"
    refine ex_for ?_
    walk_at "go"
    refine mk_r (by rw [List.length_map]; omega) ?_
    refine ⟨fun i δ' => ∃ (rs : List Rul) (s9 s10 s11 : Slot), δ' = [.pool, .val (.int (m : Int)), .val (.lst (ps.map encP)), s3, .val (.lst [.str "order", .str "loose", .str "order lossy", .str "loose lossy"]), .val (.lst (cs.map encC)), s6, s7, .own (rs.map encR), s9, s10, s11] ∧ rs.length = i ∧ ∀ r, r ∈ rs → RuleOk ps cs r,
      ⟨[], _, _, _, rfl, rfl, fun r h => (by cases h)⟩, fun i e δ' he hI => ?_, fun δ' hI => ?_⟩
    · obtain ⟨rfl, hlt⟩ := nats_get he
      obtain ⟨rs, s9, s10, s11, rfl, hl, hr⟩ := hI
      rw [List.length_map] at hlt
      have hh := List.getElem?_eq_getElem hlt
      generalize cs[i] = h at hh
      have hc := hco h (List.mem_of_getElem? hh)
      have hcg := hc.g
      have hq := List.getElem?_eq_getElem hcg
      generalize ps[h.giver]'hcg = q at hq
      have hq8 := hps8 q (List.mem_of_getElem? hq)
      refine ⟨[9], _, gg_name (by simp), ?_⟩
      walk_at "go"
      refine ex_asg ?_
      walk_at "go"
      refine rv_ixL (ixmap hh) ?_
      walk_at "go"
      refine rv_ixL (ixmap hq) ?_
      walk_at "go"
      refine ex_app rfl (by rw [List.length_map]; omega) ?_
      walk_at "go"
      refine rv_ixL (ixmap hh) ?_
      walk_at "go"
      refine ⟨q.2, rfl, by omega, by omega, fun j hj => ?_⟩
      walk_at "go"
      refine ⟨rs ++ [⟨h.giver, 0, .send i 0, j⟩], .val (.int (i : Int)), .val (.int (q.2 : Int)), s11, by rw [List.map_append]; rfl, by rw [List.length_append, hl]; rfl, fun r hr' => ?_⟩
      rcases List.mem_append.mp hr' with h' | h'
      · exact hr r h'
      · rw [List.mem_singleton] at h'
        subst h'
        exact ⟨⟨q, hq, by show 0 < q.2; omega, hj⟩, by decide, h, hh, rfl⟩
    · obtain ⟨rs, s9, s10, s11, rfl, hl, hr⟩ := hI
      rw [nats_len, List.length_map] at hl
      walk_at "go"
      refine ex_for ?_
      walk_at "go"
      refine ⟨12, rfl, by decide, by decide, fun t7 ht7 => ?_⟩
      walk_at "go"
      refine mk_r2 (n := 4 + t7) (by omega) (by omega) ?_
      refine ⟨fun i δ' => ∃ (rs : List Rul) (s11 : Slot), δ' = [.pool, .val (.int (m : Int)), .val (.lst (ps.map encP)), s3, .val (.lst [.str "order", .str "loose", .str "order lossy", .str "loose lossy"]), .val (.lst (cs.map encC)), s6, s7, .own (rs.map encR), s9, s10, s11] ∧ rs.length = cs.length + i ∧ ∀ r, r ∈ rs → RuleOk ps cs r,
        ⟨rs, _, rfl, hl, hr⟩, fun i e δ' he hI => ?_, fun δ' hI => ?_⟩
      · obtain ⟨rfl, hlt⟩ := nats_get he
        obtain ⟨rs, s11, rfl, hl, hr⟩ := hI
        refine ⟨[11], _, gg_name (by simp), ?_⟩
        walk_at "go"
        refine ex_app rfl (by rw [List.length_map]; omega) ?_
        walk_at "go"
        refine ⟨ps, cs, rfl, by omega, by omega, by omega, hps8, hco, fun r hro => ?_⟩
        refine ⟨rs ++ [r], .val (.int (i : Int)), by rw [List.map_append]; rfl, by rw [List.length_append, hl]; rfl, fun r2 hr' => ?_⟩
        rcases List.mem_append.mp hr' with h' | h'
        · exact hr r2 h'
        · rw [List.mem_singleton] at h'; exact h' ▸ hro
      · obtain ⟨rs, s11, rfl, hl, hr⟩ := hI
        rw [nats_len] at hl
        walk_at "go"
        refine ev_net3 ?_
        walk_at "go"
        exact p ⟨ps, cs, rs⟩ ⟨by show 1 ≤ ps.length; omega, by show ps.length ≤ 5; omega, hpo, by show (ps.map (·.1)).Nodup; rw [hpn]; exact hxn, hcl, hco, hcn, by show rs.length ≤ 23; omega, hr⟩
  refine ⟨fun i δ' => ∃ (cs : List Chan) (s3 s6 s7 s8 s9 s10 s11 : Slot), δ' = [.pool, .val (.int (m : Int)), .val (.lst (ps.map encP)), s3, .val (.lst [.str "order", .str "loose", .str "order lossy", .str "loose lossy"]), .own (cs.map encC), s6, s7, s8, s9, s10, s11] ∧ cs.map (·.name) = ns.take i ∧ ∀ c, c ∈ cs → ChanOk ps.length c,
    ⟨[], _, _, _, _, _, _, _, rfl, rfl, fun c h => (by cases h)⟩, fun i e δ' he hI => ?_, fun δ' hI => ?_⟩
  · obtain ⟨cs, s3, s6, s7, s8, s9, s10, s11, rfl, hcn, hco⟩ := hI
    rw [List.getElem?_map] at he
    cases hx : ns[i]? with
    | none => rw [hx] at he; cases he
    | some x =>
      rw [hx] at he
      cases he
      have hil := (List.getElem?_eq_some_iff.mp hx).1
      have hm2 : 1 < m := hn1 (by omega)
      have hcl : cs.length ≤ 8 := by
        have := congrArg List.length hcn
        rw [List.length_map, List.length_take] at this
        omega
      refine ⟨[3], _, gg_name (by simp), ?_⟩
      walk_at "go"
      refine ex_asg ?_
      walk_at "go"
      refine ⟨m, rfl, by omega, by omega, fun g hg => ?_⟩
      walk_at "go"
      refine ex_asg ?_
      walk_at "go"
      refine ⟨m - 1, by rw [show ((m - 1 : Nat) : Int) = (m : Int) - 1 by omega], by omega, by omega, fun t hgt => ?_⟩
      walk_at "go"
      refine rv_mod (by omega) ?_
      rw [show (((g : Int) + 1 + (t : Int)) % (m : Int)) = (((g + 1 + t) % m : Nat) : Int) by rw [Int.natCast_emod]; rfl]
      have hk1 : (g + 1 + t) % m < m := Nat.mod_lt _ (by omega)
      have hk2 : (g + 1 + t) % m ≠ g := by
        by_cases h : g + 1 + t < m
        · rw [Nat.mod_eq_of_lt h]; omega
        · rw [Nat.mod_eq_sub_mod (by omega), Nat.mod_eq_of_lt (by omega)]; omega
      generalize (g + 1 + t) % m = k at hk1 hk2
      walk_at "go"
      refine ex_app rfl (by rw [List.length_map]; omega) ?_
      walk_at "go"
      refine ⟨4, rfl, by decide, by decide, fun kd hkd => ?_⟩
      refine rv_ixL (z := .str (kindS kd)) (ixnat (by
        match kd, hkd with
        | 0, _ => rfl
        | 1, _ => rfl
        | 2, _ => rfl
        | 3, _ => rfl)) ?_
      walk_at "go"
      refine ⟨cs ++ [⟨x, g, k, kd⟩], .val (.str x), .val (.int (g : Int)), .val (.int (k : Int)), s8, s9, s10, s11, by rw [List.map_append]; rfl, ?_, fun c hc => ?_⟩
      · rw [List.map_append, hcn, take_step hx]; rfl
      · rcases List.mem_append.mp hc with h' | h'
        · exact hco c h'
        · rw [List.mem_singleton] at h'
          subst h'
          exact ⟨hno x (List.mem_of_getElem? hx), by show g < ps.length; omega, by show k < ps.length; omega, fun e => hk2 e.symm, hkd⟩
  · obtain ⟨cs, s3, s6, s7, s8, s9, s10, s11, rfl, hcn, hco⟩ := hI
    rw [List.length_map, List.take_length] at hcn
    have hcl : cs.length ≤ 8 := by
      have := congrArg List.length hcn
      rw [List.length_map] at this
      omega
    walk_at "f5"
    exact mid cs _ _ _ _ _ _ _ hcl hco (by rw [hcn]; exact hnn)
theorem x__law_long : ∀ ds Q, pre__law_long ds Q → Ex C CB noX (t__law_long K C CB kinds) (.pool :: slots ds 6) (RetP Q) := by
  rintro ds Q ⟨rfl, p⟩
  unfold t__law_long
  walk_at "go"
  refine ex_asg ?_
  walk_at "go"
  refine ⟨3, rfl, by decide, by decide, fun t1 ht1 => ?_⟩
  walk_at "go"
  refine ⟨1 + t1, by rw [Int.natCast_add]; rfl, by omega, fun xs hxl hxo hxn => ?_⟩
  walk_at "go"
  refine ex_asg ?_
  refine EvN.ev (en_lcM (α := Nat) ?_)
  walk_at "go"
  refine mk_r (by rw [List.length_map]; omega) ?_
  refine ⟨by rw [nats_len, List.length_map]; omega, List.range xs.length, fun i : Nat => .int (i : Int), fun i => encR ⟨i, 0, .doo, 0⟩, by rw [List.length_map]; rfl, fun q hq => ⟨_, gg_name (by simp), by walk_at "go"; rfl⟩, ?_⟩
  walk_at "go"
  refine ex_asg ?_
  refine ev_net3 ?_
  refine EvN.ev (en_lcM (α := PySem.Str) ?_)
  walk_at "go"
  refine ⟨by rw [List.length_map]; omega, xs, .str, fun x => encP (x, 1), rfl, fun q hq => ⟨_, gg_name (by simp), by walk_at "go"; rfl⟩, ?_⟩
  walk_at "go"
  have hO : (longN xs).Ok := by
    refine ⟨by show 1 ≤ (xs.map _).length; rw [List.length_map]; omega, by show (xs.map _).length ≤ 5; rw [List.length_map]; omega, fun q hq => ?_, ?_, by show 0 ≤ 8; omega, fun c hc => (by cases hc), List.nodup_nil, by show ((List.range xs.length).map _).length ≤ 23; rw [List.length_map, List.length_range]; omega, fun r hr => ?_⟩
    · obtain ⟨x, hx, rfl⟩ := List.mem_map.mp hq
      exact ⟨hxo x hx, Nat.le_refl 1, by show 1 ≤ 8; decide⟩
    · show ((xs.map fun x => (x, 1)).map (·.1)).Nodup
      rw [List.map_map]
      rw [show ((fun x : PySem.Str × Nat => x.1) ∘ fun x => (x, 1)) = id from rfl, List.map_id]
      exact hxn
    · obtain ⟨i, hi, rfl⟩ := List.mem_map.mp hr
      have hi' : i < xs.length := List.mem_range.mp hi
      refine ⟨⟨(xs[i], 1), ?_, by show 0 < 1; decide, by show 0 < 1; decide⟩, trivial⟩
      show (xs.map fun x => (x, 1))[i]? = _
      rw [List.getElem?_map, List.getElem?_eq_getElem hi']; rfl
  refine EvN.ev (en_lcR (α := Nat) (β := Nat) ?_)
  walk_at "go"
  refine mk_r (n := 60) (by decide) ?_
  refine ⟨by rw [nats_len]; decide, List.range 60, fun i : Nat => .int (i : Int), fun r => (Deed.act r).enc, fun _ r => r < xs.length, rfl, fun q hq => ⟨_, gg_name (by simp), ?_⟩, fun rs hrl hrs => ?_⟩
  · walk_at "go"
    refine ⟨xs.length, by rw [List.length_map], by omega, by omega, fun j hj => ?_⟩
    walk_at "go"
    exact ⟨j, rfl, hj⟩
  walk_at "go"
  rw [List.length_range] at hrl
  have := p xs rs hO hrl fun r hr => by
    obtain ⟨k, hk⟩ := List.getElem?_of_mem hr
    have hkl := (List.getElem?_eq_some_iff.mp hk).1
    exact hrs k k r (by rw [List.getElem?_range (by omega)]) hk
  unfold NetM.dict longN at this
  simp only [List.map_map, List.map_nil] at this
  exact this
end
end Dl


namespace Dl
open PySem L2
section
variable {C CB kinds : Addr} {K : PySem.W.Frag} {W : WX} {R : Out → Prop} {δ : List Slot}
local macro_rules | `(tactic| walk_at "ev") => `(tactic| first
  | ((with_reducible refine ex_norm (δ' := ?dn) ?he ?_); (case he => (simp only [slots, wipeS, List.map_cons, List.map_nil, List.replicate_succ, List.replicate_zero, List.cons_append, List.nil_append, List.set_cons_zero, List.set_cons_succ]; exact rfl)))
  | (with_reducible refine ex_seq ?_) | (with_reducible refine ex_if ?_) | ((with_reducible refine ex_retF (i := 2) (ds := ?dd) ?hf ?_); (case hf => exact rfl)) | ((with_reducible refine ex_retF (i := 3) (ds := ?dd) ?hf ?_); (case hf => exact rfl)) | ((with_reducible refine ex_retF (i := 4) (ds := ?dd) ?hf ?_); (case hf => exact rfl)) | ((with_reducible refine ex_retF (i := 5) (ds := ?dd) ?hf ?_); (case hf => exact rfl)) | ((with_reducible refine ex_retF (i := 8) (ds := ?dd) ?hf ?_); (case hf => exact rfl)) | (with_reducible refine ex_ret ?_) | (with_reducible refine ex_nx ?_) | (with_reducible refine ex_bk ?_)
  | (with_reducible refine ev_int ?_) | (with_reducible refine ev_str ?_) | (with_reducible refine ev_bl ?_) | (with_reducible refine ev_non ?_)
  | ((with_reducible refine ev_var (d := ?dd) ?hv ?_); (case hv => exact rfl))
  | (with_reducible refine ea_nil ?_) | (with_reducible refine ea_cons ?_) | (with_reducible refine ev_call ?_) | ((with_reducible refine ev_callS ?hv ?_); (case hv => exact rfl))
  | (with_reducible refine et_test ?_) | (with_reducible refine et_B ?_) | (with_reducible refine et_and ?_) | (with_reducible refine et_or ?_) | (with_reducible refine et_not ?_) | (with_reducible refine et_yes ?_)
  | (with_reducible refine ev_andV ?_) | (with_reducible refine ev_orV ?_) | (with_reducible refine ev_notV ?_) | (with_reducible refine ev_if ?_) | (with_reducible refine ev_chain ?_)
  | (with_reducible refine ev_isi ?_) | (with_reducible refine ev_isi2 ?_) | (with_reducible refine ev_tup ?_) | (with_reducible refine EvN.ev (en_sl ?_)) | (with_reducible refine ev_sl ?_) | (with_reducible refine eo_none ?_) | (with_reducible refine eo_some ?_)
  | (with_reducible refine isB_mk ?_)
  | (with_reducible refine rv_add ?_) | (with_reducible refine rv_sub ?_) | (with_reducible refine rv_lt ?_) | (with_reducible refine rv_le ?_) | (with_reducible refine rv_gt ?_) | (with_reducible refine rv_ge ?_)
  | (with_reducible refine rv_eqI ?_) | (with_reducible refine rv_neI ?_) | (with_reducible refine rv_eqS ?_) | (with_reducible refine rv_neS ?_) | (with_reducible refine rv_eqB ?_) | (with_reducible refine rv_isN ?_)
  | (with_reducible refine rc_lenL ?_) | (with_reducible refine rc_lenT ?_) | (with_reducible refine rc_intI ?_) | (with_reducible refine rc_intB ?_) | (with_reducible refine rc_tupT ?_) | (with_reducible refine rc_tupL ?_)
  | (with_reducible refine ev_getP ?_) | (with_reducible refine ev_getC ?_) | (with_reducible refine ev_getR ?_)
  | ((with_reducible refine rv_ixT (z := ?zz) ?hi ?_); (case hi => exact rfl)) | ((with_reducible refine rv_ixL (z := ?zz) ?hi ?_); (case hi => exact rfl))
  | ((with_reducible refine ev_lenO (ds := ?dd) ?hv ?_); (case hv => exact rfl)) | (with_reducible refine EvN.ev (en_lst ?_)) | (with_reducible refine EvN.ev (en_list ?_)) | (with_reducible refine EvN.ev (en_sl ?_)) | (with_reducible refine EvN.ev (en_cat ?_))
  | (with_reducible refine ev_cb ?_) | ((with_reducible refine ev_opO (ds := ?dd) ?hv ?_); (case hv => exact rfl)) | ((with_reducible refine ev_opP (ds := ?dd) ?hv ?_); (case hv => exact rfl)) | (with_reducible refine ev_op ?_)
  | (with_reducible refine ei_seq ?_) | (with_reducible refine ei_enum ?_) | (with_reducible refine ei_range ?_) | (with_reducible refine ei_str ?_)
  | (with_reducible refine mk_o ?_) | (with_reducible refine mk_n ?_) | (with_reducible refine mk_i ?_) | (with_reducible refine mk_s ?_) | (with_reducible refine mk_l ?_) | (with_reducible refine mk_b ?_)
  | (with_reducible refine mk_sl ?_) | (with_reducible refine mk_st ?_) | (with_reducible refine mk_al ?_) | (with_reducible refine mk_at ?_)
  | ((with_reducible refine and_len ?ll ?_); (case ll => exact Nat.le_of_ble_eq_true rfl)) | (refine br_t rfl ?_) | (refine br_f rfl ?_))
local macro_rules | `(tactic| walk_at "isi") => `(tactic| first | refine isi1 rfl kb_ii ?_ | refine isi1 rfl kb_is ?_ | refine isi1 rfl kb_ib ?_ | refine isi1 rfl kb_il ?_ | refine isi1 rfl kb_it ?_ | refine isi1 rfl kb_si ?_ | refine isi1 rfl kb_ss ?_ | refine isi1 rfl kb_sb ?_ | refine isi1 rfl kb_sl ?_ | refine isi1 rfl kb_st ?_ | refine isi1 rfl kb_ll ?_ | refine isi1 rfl kb_lt ?_ | refine isi1 rfl kb_li ?_ | refine isi1 rfl kb_ls ?_ | refine isi1 rfl kb_lb ?_ | refine isi1 rfl kb_tt ?_ | refine isi1 rfl kb_tl ?_ | refine isi1 rfl kb_ti ?_ | refine isi1 rfl kb_ts ?_ | refine isi1 rfl kb_tb ?_ | refine isi1 rfl kb_ni ?_ | refine isi1 rfl kb_ns ?_ | refine isi1 rfl kb_nb ?_ | refine isi1 rfl kb_nl ?_ | refine isi1 rfl kb_nt ?_)
local macro_rules | `(tactic| walk_at "go") => `(tactic| repeat (walk_at "ev"))
local macro_rules | `(tactic| walk_at "f1") => `(tactic| ((refine ex_freeze (i := 1) (ds := ?dd) ?hf ?_); (case hf => exact rfl)))
local macro_rules | `(tactic| walk_at "f2") => `(tactic| ((refine ex_freeze (i := 2) (ds := ?dd) ?hf ?_); (case hf => exact rfl)))
local macro_rules | `(tactic| walk_at "f3") => `(tactic| ((refine ex_freeze (i := 3) (ds := ?dd) ?hf ?_); (case hf => exact rfl)))
local macro_rules | `(tactic| walk_at "f4") => `(tactic| ((refine ex_freeze (i := 4) (ds := ?dd) ?hf ?_); (case hf => exact rfl)))
local macro_rules | `(tactic| walk_at "f5") => `(tactic| ((refine ex_freeze (i := 5) (ds := ?dd) ?hf ?_); (case hf => exact rfl)))
local macro_rules | `(tactic| walk_at "f6") => `(tactic| ((refine ex_freeze (i := 6) (ds := ?dd) ?hf ?_); (case hf => exact rfl)))
local macro_rules | `(tactic| walk_at "f7") => `(tactic| ((refine ex_freeze (i := 7) (ds := ?dd) ?hf ?_); (case hf => exact rfl)))
local macro_rules | `(tactic| walk_at "f8") => `(tactic| ((refine ex_freeze (i := 8) (ds := ?dd) ?hf ?_); (case hf => exact rfl)))
local macro_rules | `(tactic| walk_at "f9") => `(tactic| ((refine ex_freeze (i := 9) (ds := ?dd) ?hf ?_); (case hf => exact rfl)))
local macro_rules | `(tactic| walk_at "f10") => `(tactic| ((refine ex_freeze (i := 10) (ds := ?dd) ?hf ?_); (case hf => exact rfl)))
local macro_rules | `(tactic| walk_at "f11") => `(tactic| ((refine ex_freeze (i := 11) (ds := ?dd) ?hf ?_); (case hf => exact rfl)))
local macro_rules | `(tactic| walk_at "f12") => `(tactic| ((refine ex_freeze (i := 12) (ds := ?dd) ?hf ?_); (case hf => exact rfl)))
local macro_rules | `(tactic| walk_at "f13") => `(tactic| ((refine ex_freeze (i := 13) (ds := ?dd) ?hf ?_); (case hf => exact rfl)))
local macro_rules | `(tactic| walk_at "nf") => `(tactic| ((with_reducible refine ev_norm (δ' := ?dn) ?he ?_); (case he => (simp only [slots, wipeS, List.map_cons, List.map_nil, List.replicate_succ, List.replicate_zero, List.cons_append, List.nil_append, List.set_cons_zero, List.set_cons_succ]; exact rfl))))
/-- a deed nearby -/
structure Near (z : Dat) : Prop where
  r : RawOk z
  l : ∀ es, z ≠ .lst es
  s : Shp 1 z
structure Flt (z : Dat) : Prop where
  f : flatD z = true
  s : Shp 0 z
theorem flt_int (i : Int) : Flt (.int i) := ⟨rfl, shp_int i⟩
theorem flt_non : Flt .non := ⟨rfl, shp_non⟩
theorem flt_act : Flt (.str "act") := ⟨rfl, shp_str (by decide +kernel)⟩
theorem flt_take : Flt (.str "take") := ⟨rfl, shp_str (by decide +kernel)⟩
theorem flt_lose : Flt (.str "lose") := ⟨rfl, shp_str (by decide +kernel)⟩
theorem flt_do : Flt (.str "do") := ⟨rfl, shp_str (by decide +kernel)⟩
theorem Flt.near {z : Dat} (h : Flt z) : Near z := by
  refine ⟨?_, fun es e => ?_, h.s.mono (by decide)⟩
  · have := h.f
    cases z <;> first | exact this | cases this
  · subst e; have := h.f; cases this
theorem all_cons {P : Dat → Prop} {x : Dat} {xs : List Dat} (h : P x) (hs : ∀ z, z ∈ xs → P z) : ∀ z, z ∈ x :: xs → P z := fun z hz => by
  rcases List.mem_cons.mp hz with e | e
  · exact e ▸ h
  · exact hs z e
theorem all_nil {P : Dat → Prop} : ∀ z, z ∈ ([] : List Dat) → P z := fun z hz => by cases hz
theorem all_app {P : Dat → Prop} {xs ys : List Dat} (h : ∀ z, z ∈ xs → P z) (hs : ∀ z, z ∈ ys → P z) : ∀ z, z ∈ xs ++ ys → P z := fun z hz => by
  rcases List.mem_append.mp hz with e | e
  · exact h z e
  · exact hs z e
theorem all_map {α : Type} {P : Dat → Prop} {xs : List α} {f : α → Dat} (h : ∀ x, P (f x)) : ∀ z, z ∈ xs.map f → P z := fun z hz => by
  obtain ⟨x, _, rfl⟩ := List.mem_map.mp hz
  exact h x
theorem near_tup {ds : List Dat} (hl : ds.length ≤ 1000) (h : ∀ z, z ∈ ds → Flt z) : Near (.tup ds) := ⟨⟨hl, fun z hz => (h z hz).f⟩, fun es e => (by cases e), shp_tup fun z hz => (h z hz).s⟩
theorem near3 {a b c : Dat} (x : Flt a) (y : Flt b) (z : Flt c) : Near (.tup [a, b, c]) := near_tup (by show 3 ≤ 1000; decide) (all_cons x (all_cons y (all_cons z all_nil)))
theorem near2 {a b : Dat} (x : Flt a) (y : Flt b) : Near (.tup [a, b]) := near_tup (by show 2 ≤ 1000; decide) (all_cons x (all_cons y all_nil))
theorem near1 {a : Dat} (x : Flt a) : Near (.tup [a]) := near_tup (by show 1 ≤ 1000; decide) (all_cons x all_nil)
theorem near0 : Near (.tup []) := near_tup (by show 0 ≤ 1000; decide) all_nil
theorem near_enc (d : Deed) : Near d.enc := by
  cases d with
  | act r => exact near2 flt_act (flt_int _)
  | take r k => exact near3 flt_take (flt_int _) (flt_int _)
  | lose r k => exact near3 flt_lose (flt_int _) (flt_int _)
theorem x__law_near : ∀ ds Q, pre__law_near ds Q → Ex C CB noX (t__law_near K C CB kinds) (.pool :: slots ds 9) (RetP Q) := by
  rintro ds Q ⟨N, b, w, rfl, hN, hw, hb, p⟩
  unfold t__law_near
  have hr := hN.r40
  have h8 := hN.c8
  have tl : ∀ (ys : List Dat) (s4 s5 s6 s7 s8 s9 s10 s11 : Slot), (∀ z, z ∈ ys → Near z) → Dat.non ∈ ys → ys.length ≤ 99000 → Ex C CB noX (tSeq (tAsg (tCall (spP C pre__law_possible) [] E0 (tCons (tVar 1) (tCons (tVar 2) tNil))) (gName 10))
    (tSeq (tAsg (tLc (iSeq K (tVar 3)) (gName 11) (tTest (tOp (rNotInD K) (tVar 11) (tVar 10))) (tVar 11) [11]) (gName 3))
    (tRet (tOp (rIx K) (tVar 3) (tCall (spS C pre__law_take) [] E0 (tCons (tVar 0) (tCons (tCB (rLenV K) (tCons (tVar 3) tNil)) tNil)))))))
      [.pool, .val N.dict, .val w.encL, .own ys, s4, s5, s6, s7, s8, s9, s10, s11] (RetP Q) := by
    intro ys s4 s5 s6 s7 s8 s9 s10 s11 hx2 hn2 hl2
    refine ex_seq ?_
    refine ex_asg ?_
    walk_at "go"
    refine ⟨N, b, w, rfl, hN, hw, hb, ?_⟩
    refine ex_seq ?_
    walk_at "f3"
    refine ex_asgO (en_lcP (α := Dat) ?_)
    walk_at "go"
    refine ⟨by omega, ys, fun z => z, fun z => !((possible N w).map Deed.enc).any fun c => PyData.eqv (toPy c) (toPy z), fun z => z, by rw [List.map_id'], fun z hz => ⟨_, gg_name (by simp), ?_⟩, ?_⟩
    · walk_at "go"
      refine rv_niD ((hx2 z hz).s.eqd (by decide)) ((shp_lst (n := 1) (all_map fun d => (near_enc d).s)).eqd (by decide)) ?_
      refine isB_mk ⟨rfl, fun _ => ?_⟩
      walk_at "go"
      rfl
    rw [List.map_id']
    have hmem : ∀ z, z ∈ ys.filter (fun z => !((possible N w).map Deed.enc).any fun c => PyData.eqv (toPy c) (toPy z)) → Q z := fun z hz => by
      rw [List.mem_filter] at hz
      refine p z (hx2 z hz.1).r (hx2 z hz.1).l fun d hd e => ?_
      have h1 : (((possible N w).map Deed.enc).any fun c => PyData.eqv (toPy c) (toPy z)) = true := List.any_eq_true.mpr ⟨d.enc, List.mem_map.mpr ⟨d, hd, rfl⟩, by rw [e]; exact (near_enc d).s.refl⟩
      have h2 := hz.2
      rw [h1] at h2
      cases h2
    have hpos : 0 < (ys.filter (fun z => !((possible N w).map Deed.enc).any fun c => PyData.eqv (toPy c) (toPy z))).length := by
      refine List.length_pos_of_mem (a := .non) (List.mem_filter.mpr ⟨hn2, ?_⟩)
      rw [Bool.not_eq_true', List.any_eq_false]
      intro c hc
      obtain ⟨d, _, rfl⟩ := List.mem_map.mp hc
      show ¬ PyData.eqv (.tuple (toPys d.ds)) .none = true
      unfold PyData.eqv
      decide
    have hlen := List.length_filter_le (fun z => !((possible N w).map Deed.enc).any fun c => PyData.eqv (toPy c) (toPy z)) ys
    generalize ys.filter (fun z => !((possible N w).map Deed.enc).any fun c => PyData.eqv (toPy c) (toPy z)) = zs at hmem hpos hlen
    walk_at "go"
    refine ⟨zs.length, rfl, hpos, by omega, fun j hj => ?_⟩
    exact rv_pick hj fun z hz => hmem z hz
  walk_at "go"
  refine ex_asgO (en_lst ?_)
  walk_at "go"
  refine ex_for ?_
  walk_at "go"
  refine mk_r (by rw [List.length_map]; omega) ?_
  refine ⟨fun i δ' => ∃ (xs : List Dat) (s4 s5 s6 s7 s8 s9 s10 s11 : Slot), δ' = [.pool, .val N.dict, .val w.encL, .own xs, s4, s5, s6, s7, s8, s9, s10, s11] ∧ (∀ z, z ∈ xs → Near z) ∧ xs.length ≤ 3 + i * 1010, ⟨_, _, _, _, _, _, _, _, _, rfl, ?_, by show 3 ≤ 3 + 0; decide⟩, fun i e δ' he hI => ?_, fun δ' hI => ?_⟩
  · exact all_cons (near2 flt_act (flt_int _)) (all_cons (near3 flt_take (flt_int _) (flt_int _)) (all_cons (near3 flt_lose (flt_int _) (flt_int _)) all_nil))
  · obtain ⟨rfl, hlt⟩ := nats_get he
    obtain ⟨xs, s4, s5, s6, s7, s8, s9, s10, s11, rfl, hx, hl⟩ := hI
    rw [List.length_map] at hlt
    have hu := List.getElem?_eq_getElem hlt
    generalize N.rules[i] = u at hu
    have ro := hN.ro u (List.mem_of_getElem? hu)
    refine ⟨[4], _, gg_name (by simp), ?_⟩
    walk_at "go"
    refine ex_asg ?_
    walk_at "go"
    refine rv_ixL (ixmap hu) ?_
    walk_at "go"
    refine ex_app rfl (by omega) ?_
    walk_at "go"
    refine rv_act0 ?_
    walk_at "go"
    rw [actS_take]
    obtain ⟨up, us, ua, un⟩ := u
    have no : ua.isTake = false → ∀ R : Out → Prop, Ex C CB noX (tDrop (tBM K "list" rAppend (tVar 3) (tCons (tTup (tCons (tC (.str "take")) (tCons (tVar 4) (tCons (tC (.int 0)) tNil)))) tNil)))
        [.pool, .val N.dict, .val w.encL, .own (xs ++ [.tup [.str "act", .int (i : Int)]]), .val (.int (i : Int)), .val (encA ua), s6, s7, s8, s9, s10, s11]
        (Lp (fun δ' => ∃ (xs : List Dat) (s4 s5 s6 s7 s8 s9 s10 s11 : Slot), δ' = [.pool, .val N.dict, .val w.encL, .own xs, s4, s5, s6, s7, s8, s9, s10, s11] ∧ (∀ z, z ∈ xs → Near z) ∧ xs.length ≤ 3 + (i + 1) * 1010) R) := by
      intro _ R
      refine ex_app rfl (by rw [List.length_append, List.length_singleton]; omega) ?_
      walk_at "go"
      refine ⟨_, _, _, _, _, _, _, _, _, rfl, all_app (all_app hx (all_cons (near2 flt_act (flt_int _)) all_nil)) (all_cons (near3 flt_take (flt_int _) (flt_int _)) all_nil), ?_⟩
      rw [List.length_append, List.length_append, List.length_singleton, List.length_singleton]; omega
    cases ua with
    | doo => exact ⟨fun e => (by cases e), fun _ => no rfl _⟩
    | send c t => exact ⟨fun e => (by cases e), fun _ => no rfl _⟩
    | take c t =>
      obtain ⟨h10, h, hc, hg⟩ := ro.a
      have hcl : c < N.chans.length := (List.getElem?_eq_some_iff.mp hc).1
      have hsx := sent_ex (w := w) (i := c) (by rw [hw.t]; exact hcl)
      have hrx := row_ex (w := w) (c := c) (by rw [hw.p]; exact hcl)
      have hrl := row_le (c := c) hw
      refine br_t rfl ?_
      refine ex_asgO (en_cat ?_)
      refine EvN.ev (en_catO rfl ?_)
      refine EvN.ev (en_lcM (α := Nat × Nat) ?_)
      rw [show encA (.take c t) = .tup [.str "take", .int (c : Int), .int (t : Int)] from rfl]
      walk_at "go"
      refine rv_ixL (ixmap hrx) ?_
      walk_at "go"
      refine ⟨by rw [List.length_map]; omega, row w c, encK, fun q => .tup [.str "take", .int (i : Int), .int (q.1 : Int)], rfl, fun q hq => ⟨_, gg_name (by simp), by walk_at "go"; rfl⟩, ?_⟩
      walk_at "go"
      refine ⟨by rw [List.length_append, List.length_singleton, List.length_map]; omega, ?_⟩
      walk_at "go"
      refine rv_ixL (ixmap hsx) ?_
      walk_at "go"
      refine ⟨by rw [List.length_append, List.length_append, List.length_singleton, List.length_singleton, List.length_map]; omega, ?_⟩
      refine ⟨_, _, _, _, _, _, _, _, _, rfl, all_app (all_app (all_app hx (all_cons (near2 flt_act (flt_int _)) all_nil)) (all_map fun q => near3 flt_take (flt_int _) (flt_int _))) (all_cons (near3 flt_take (flt_int _) (flt_int _)) all_nil), ?_⟩
      rw [List.length_append, List.length_append, List.length_append, List.length_singleton, List.length_singleton, List.length_map]; omega
  · obtain ⟨xs, s4, s5, s6, s7, s8, s9, s10, s11, rfl, hx, hl⟩ := hI
    rw [nats_len, List.length_map] at hl
    walk_at "go"
    refine ex_for ?_
    walk_at "go"
    refine mk_r (by rw [List.length_map]; omega) ?_
    refine ⟨fun i δ' => ∃ (xs : List Dat) (s4 s5 s6 s7 s8 s9 s10 s11 : Slot), δ' = [.pool, .val N.dict, .val w.encL, .own xs, s4, s5, s6, s7, s8, s9, s10, s11] ∧ (∀ z, z ∈ xs → Near z) ∧ xs.length ≤ 23233 + i * 1010, ⟨_, _, _, _, _, _, _, _, _, rfl, hx, by omega⟩, fun i e δ' he hI => ?_, fun δ' hI => ?_⟩
    · clear hl hx
      obtain ⟨rfl, hcl⟩ := nats_get he
      obtain ⟨xs, s4, s5, s6, s7, s8, s9, s10, s11, rfl, hx, hl⟩ := hI
      rw [List.length_map] at hcl
      have hsx := sent_ex (w := w) (i := i) (by rw [hw.t]; exact hcl)
      have hrx := row_ex (w := w) (c := i) (by rw [hw.p]; exact hcl)
      have hrl := row_le (c := i) hw
      have hsl := sent_le (c := i) hw
      refine ⟨[7], _, gg_name (by simp), ?_⟩
      walk_at "go"
      refine ex_asg ?_
      refine EvN.ev (en_lcP (α := Nat) ?_)
      walk_at "go"
      refine rv_ixL (ixmap hsx) ?_
      walk_at "go"
      refine mk_r (by omega) ?_
      refine ⟨by rw [nats_len]; omega, List.range (w.sent.getD i 0), fun k : Nat => .int (k : Int), fun k : Nat => !decide ((k : Int) ∈ ((row w i).map (·.1)).map fun n : Nat => (n : Int)), fun k : Nat => .int (k : Int), rfl, fun q hq => ⟨_, gg_name (by simp), ?_⟩, ?_⟩
      · walk_at "go"
        refine EvN.ev (en_lcM (α := Nat × Nat) ?_)
        walk_at "go"
        refine rv_ixL (ixmap hrx) ?_
        walk_at "go"
        refine ⟨by rw [List.length_map]; omega, row w i, encK, fun q => .int (q.1 : Int), rfl, fun q hq => ⟨_, gg_name (by simp), by walk_at "go"; rfl⟩, ?_⟩
        rw [show ((row w i).map fun q => Dat.int (q.1 : Int)) = (((row w i).map (·.1)).map fun n : Nat => (n : Int)).map Dat.int by rw [List.map_map, List.map_map]; rfl]
        refine rv_niI ?_
        refine isB_mk ⟨rfl, fun _ => ?_⟩
        walk_at "go"
        rfl
      generalize (List.range (w.sent.getD i 0)).filter (fun k : Nat => !decide ((k : Int) ∈ ((row w i).map (·.1)).map fun n : Nat => (n : Int))) = gs
      walk_at "go"
      refine ex_asgO (en_cat ?_)
      refine EvN.ev (en_catO rfl ?_)
      refine EvN.ev (en_lcM (α := Nat × Nat) ?_)
      walk_at "go"
      refine rv_ixL (ixmap hrx) ?_
      walk_at "go"
      refine ⟨by rw [List.length_map]; omega, row w i, encK, fun q => .tup [.str "lose", .int (i : Int), .int (q.1 : Int)], rfl, fun q hq => ⟨_, gg_name (by simp), by walk_at "go"; rfl⟩, ?_⟩
      walk_at "go"
      refine ⟨by rw [List.length_map]; omega, ?_⟩
      walk_at "go"
      refine EvN.ev (en_lcM (α := Nat) ?_)
      walk_at "go"
      rw [show (2 : Int) = ((2 : Nat) : Int) from rfl, cut_to, ← List.map_take]
      have hg2 : (gs.take 2).length ≤ 2 := by rw [List.length_take]; omega
      generalize gs.take 2 = gt at hg2
      refine ⟨by rw [List.length_map]; omega, gt, fun k : Nat => .int (k : Int), fun k => .tup [.str "lose", .int (i : Int), .int (k : Int)], rfl, fun q hq => ⟨_, gg_name (by simp), by walk_at "go"; rfl⟩, ?_⟩
      walk_at "go"
      refine ⟨by rw [List.length_append, List.length_map, List.length_map]; omega, ?_⟩
      walk_at "go"
      refine ex_asgO (en_catO rfl ?_)
      walk_at "go"
      refine rv_ixL (ixmap hsx) ?_
      walk_at "go"
      refine rv_pow ⟨by decide, by decide, by decide⟩ ?_
      walk_at "go"
      refine ⟨by rw [List.length_append, List.length_append, List.length_map, List.length_map]; show _ + 2 ≤ _; omega, ?_⟩
      refine ⟨_, _, _, _, _, _, _, _, _, rfl, all_app (all_app (all_app hx (all_map fun q => near3 flt_lose (flt_int _) (flt_int _))) (all_map fun q => near3 flt_lose (flt_int _) (flt_int _))) (all_cons (near3 flt_lose (flt_int _) (flt_int _)) (all_cons (near3 flt_lose (flt_int _) (flt_int _)) all_nil)), ?_⟩
      rw [List.length_append, List.length_append, List.length_append, List.length_map, List.length_map]; show _ + 2 ≤ _; omega
    · clear hl hx
      obtain ⟨xs, s4, s5, s6, s7, s8, s9, s10, s11, rfl, hx, hl⟩ := hI
      rw [nats_len, List.length_map] at hl
      walk_at "go"
      refine ex_asgO (en_catO rfl ?_)
      walk_at "go"
      refine ev_un ?_
      walk_at "go"
      refine ⟨by show _ + 9 ≤ _; omega, ?_⟩
      walk_at "go"
      refine ex_asgO (en_catO rfl ?_)
      walk_at "go"
      refine ev_un ?_
      walk_at "go"
      refine ev_un ?_
      walk_at "go"
      refine ev_un ?_
      walk_at "go"
      refine ⟨by rw [List.length_append]; show _ + 9 + 5 ≤ _; omega, ?_⟩
      have hx2 := all_app (P := Near) (all_app hx (all_cons flt_non.near (all_cons (flt_int 0).near (all_cons flt_act.near (all_cons near0 (all_cons (near1 flt_act) (all_cons (near3 flt_act (flt_int 0) (flt_int 0)) (all_cons (near2 flt_do (flt_int 0)) (all_cons (near2 flt_act flt_non) (all_cons (near2 flt_act (flt_int (-1))) all_nil))))))))))
        (all_cons (near2 flt_take (flt_int 0)) (all_cons (near3 flt_take (flt_int 0) (flt_int (-1))) (all_cons (near2 flt_lose (flt_int 0)) (all_cons (near3 flt_lose (flt_int (-1)) (flt_int 0)) (all_cons (near3 flt_lose (flt_int 0) (flt_int (-1))) all_nil)))))
      exact tl _ _ _ _ _ _ _ _ _ hx2 (List.mem_append.mpr (.inl (List.mem_append.mpr (.inr List.mem_cons_self)))) (by rw [List.length_append, List.length_append]; show _ + 9 + 5 ≤ _; omega)
end
end Dl


namespace L2
open PySem PySem.Spec PyProof.Rows
/-- keywords alone -/
def gK {α : Type} : List α → List α → List α
  | [], ws => ws
  | _ :: _, _ => []
section
variable {X : Cx} {CX : CXT} {k : Nat} {f : Addr} {fd : FuncData} {ps ks : List Str} {sp : Sp} {E : XK} {x : Str} {tk : TA} {p pos : Pos} {kws : List Keyword} {g : List Value → List Value → List Value} {gV : List V → List V → List V}
theorem pe_callK0 (F : FnOk X.prog X.w X.K X.mg X.base CX k f fd ps sp) (hr : Room k X.A) (hg : Gl X x) (hm : X.mg x = some (.ref f)) (hk : PySem.W.keepIn X.K (.ref f) = true) (hb : KBinds X.K fd ps ks g gV) (hx : Passes CX X E)
    (hkw : PK X kws tk) (hall : (backToKw pos (keywordEach kws X.env)).all (·.1.isSome) = true := by rfl) (hks : (backToKw pos (keywordEach kws X.env)).filterMap (·.1) = ks := by rfl)
    (hdb : (x == ("__debug__" : Str)) = false := by decide)
    (hpl : ((backTo pos (starEach [] X.env)).any (·.1) || (backToKw pos (keywordEach kws X.env)).any (·.1.isNone)) = false := by rfl) :
    PE X (.Call (.Name x p) [] kws pos) (tCallK sp gV E tNil tk) := by
  refine ⟨fun pins s σ H Q I h => ?_⟩
  refine wpAny_Call_Name_kw (ld_glob I hg hm ?_ hdb)
  refine PySem.W.callWith_KW0 (h₀ := X.base) I.ok.mod.kin hk hall (thn (hkw.run pos pins s σ H _ I h) fun ws s2 ⟨zs, H2, I2, rz, q2⟩ => ⟨I2.kIn, ?_⟩) hpl
  rw [hks]
  exact run_fnk (us := []) (vs := []) F hr hb hx I2 .nil rz q2
end
theorem kb_two {K : PySem.W.Frag} {fd : FuncData} {a b : Str} (h : ∀ (s : Shared) (x y : Value), BindsTo s fd ⟨[], [(a, x), (b, y)]⟩ [(a, x), (b, y)]) : KBinds K fd [a, b] [a, b] gK gK := by
  refine ⟨fun s us ws _ hl => ?_, fun {vs us zs ws} r rz => ?_⟩
  · cases us with
    | nil =>
      match ws, hl with
      | [x, y], _ => exact h s x y
    | cons u us => cases hl
  · cases r with
    | nil => exact rz
    | cons _ _ => exact .nil
end L2


namespace Dl
open PySem L2 PyProof.Rows
/-- a def that may raise BadStep -/
def spX (C CB : Addr) (pre : List Dat → (Dat → Prop) → (Int → Prop) → Prop) : Sp := fun vs H Q E => ∃ F ds P X, Same F H ∧ Dts C F vs ds ∧ pre ds P X ∧ (∀ r v F' H', P r → Gr none F H F' H' → Same F' H' → Dt C F' v r → Q v H') ∧
  (∀ n F' H', X n → Gr none F H F' H' → Same F' H' → ∀ d, H' d = none → E (.ref CB) (some d) (upd H' d (.xd [("at", .int n)])))
/-- Net(..): x the new instance, dx its dict -/
def spNet (C CB : Addr) : Sp := fun vs H Q _ => ∃ (x dx : Addr) (F : Hp) (N : NetM) (v1 v2 v3 : V) (d1 d2 d3 : Dat), vs = [.ref x, v1, v2, v3] ∧ Same F H ∧ H x = some (.ins C dx []) ∧ F x = none ∧ Dt C F v1 d1 ∧ Dt C F v2 d2 ∧ Dt C F v3 d3 ∧ N.Ok ∧
  (d1 = .lst (N.procs.map encP) ∨ d1 = .tup (N.procs.map encP)) ∧ (d2 = .lst (N.chans.map encC) ∨ d2 = .tup (N.chans.map encC)) ∧ (d3 = .lst (N.rules.map encR) ∨ d3 = .tup (N.rules.map encR)) ∧
  ∀ u1 u2 u3 F' H', Gr none F H F' H' → Same F' H' → Dt C F' u1 (.tup (N.procs.map encP)) → Dt C F' u2 (.tup (N.chans.map encC)) → Dt C F' u3 (.tup (N.rules.map encR)) → Q .non (upd H' x (.ins C dx [("processes", u1), ("channels", u2), ("rules", u3)]))
/-- the pool made of a script -/
def spN (C : Addr) (K : PySem.W.Frag) : Sp := fun vs H Q _ => ∃ (a : Addr) (ns : List Int), vs = [.ref a] ∧ SqL K H a (ns.map V.int) ∧ ns.length ≤ 1000 ∧
  ∀ p vc s F' H', F' p = none → Dt C F' vc (.lst (s.cells.map .int)) → H' p = some (.dK (encPool vc s)) → Same F' H' → Q (.ref p) H'
end Dl


namespace Dl
open PySem L2 PyProof.Rows
section
variable {P : Program} {w : World} {K : PySem.W.Frag} {mg : PySem.Str → Option Value} {base : Heap} {C CB CU fI kinds : Addr}
/-! ### played: 0 net, 1 deeds, 2 worlds, 3 at, 4 deed, 5 clean -/
abbrev s_played : Stmt := topS 35
abbrev n_played : List PySem.Str := ["net", "deeds", "worlds", "at", "deed", "clean"]
theorem sc_played : FnScope n_played ["net", "deeds"] (defScope s_played) := ⟨rfl, rfl, rfl, by decide +kernel, rfl, by decide +kernel, by decide +kernel⟩
def t_played (K : PySem.W.Frag) (C CB kinds : Addr) (W : WX) : TS := (tSeq (tIfS (tNot (tB (tCB (rIsiT K) (tCons (tVar 1) (tCons (tTup (tCons (tC (.ty "list")) (tCons (tC (.ty "tuple")) tNil))) tNil))))) (tRaiseBad CB W (tCons (tC (.int 0)) tNil)) tNext)
    (tSeq (tAsg (tLst (tCons (tCall (spP C pre_start) [] E0 (tCons (tVar 0) tNil)) tNil)) (gName 2))
    (tSeq (tFor (iEnumA K (tCons (tVar 1) tNil)) (gTup K 2 (gCons (gName 3) (gCons (gName 4) gNil))) (tSeq (tAsg (tCall (spP C pre_as_deed) [] E0 (tCons (tVar 0) (tCons (tVar 4) tNil))) (gName 5))
    (tSeq (tIfS (tOr (tTest (tOp rEq (tVar 3) (tC (.int 60)))) (tOr (tTest (tOp rIsN (tVar 5) (tC .non))) (tNot (tB (tCall (spP C pre_can_do) [] E0 (tCons (tVar 0) (tCons (tOp (rIx K) (tVar 2) (tUn (rU fun i => .int (-i)) (tC (.int 1)))) (tCons (tVar 5) tNil)))))))) (tRaiseBad CB W (tCons (tVar 3) tNil)) tNext)
    (tDrop (tBM K "list" rAppend (tVar 2) (tCons (tCall (spP C pre_behind) [] E0 (tCons (tVar 0) (tCons (tOp (rIx K) (tVar 2) (tUn (rU fun i => .int (-i)) (tC (.int 1)))) (tCons (tVar 5) tNil)))) tNil))))))
    (tRet (tCB (rTupleOf K) (tCons (tVar 2) tNil))))))
theorem d_played (T : Bt K mg C kinds) {f_start : Addr} {fd_start : FuncData} (c_start : Cal K mg "start" f_start fd_start ["net"]) (G_start : FnOk P w K mg base CX0 1 f_start fd_start ["net"] (spP C pre_start)) {f_as_deed : Addr} {fd_as_deed : FuncData} (c_as_deed : Cal K mg "as_deed" f_as_deed fd_as_deed ["net", "deed"]) (G_as_deed : FnOk P w K mg base CX0 3 f_as_deed fd_as_deed ["net", "deed"] (spP C pre_as_deed)) {f_can_do : Addr} {fd_can_do : FuncData} (c_can_do : Cal K mg "can_do" f_can_do fd_can_do ["net", "world", "deed"]) (G_can_do : FnOk P w K mg base CX0 3 f_can_do fd_can_do ["net", "world", "deed"] (spP C pre_can_do)) {f_behind : Addr} {fd_behind : FuncData} (c_behind : Cal K mg "behind" f_behind fd_behind ["net", "world", "deed"]) (G_behind : FnOk P w K mg base CX0 3 f_behind fd_behind ["net", "world", "deed"] (spP C pre_behind)) (TB : PySem.BadX.BadTxt K mg CB CU fI) (hfile : ((P.main.file : PySem.Str) == "/claim/cut.py") = true) (htop : (P.main.scope.names.lookup ("super" : PySem.Str)).isSome = false) {f : Addr} {cdv : Value} {A : Around} {outer : List Env} {s : Shared} {H : Hp} {E : XK} (hr : Room 4 (A.deeper (envOfC "played" (defScope s_played) s.heap.objs.size f cdv))) :
  PSs (cxOf (L2.CX P w) P w K mg base n_played "played" (defScope s_played) f cdv A outer s H E) (defBody s_played) (t_played K C CB kinds (fun cls d _ H => E cls d H) ) :=
  (pss_cons (ps_if (pt_not (pt_val (pe_callB call_isiT (by rfl) T.b_isinstance (by decide +kernel) (pa_cons (pv 1) (pa_cons (pe_tup (pa_cons (pe_bltn (v := .ty "list") rfl T.b_list (by decide +kernel) rfl) (pa_cons (pe_bltn (v := .ty "tuple") rfl T.b_tuple (by decide +kernel) rfl) pa_nil))) pa_nil))))) (pss_one (ps_raiseBad rfl TB hfile htop hr (takes_of rfl rfl rfl rfl) (pa_cons pe_int pa_nil))) pss_nil)
    (pss_cons (ps_set (i := 2) sc_played.nd rfl (by first | exact Or.inl rfl | exact Or.inr rfl) (pe_lst (pa_cons (pe_call G_start (hr.mono (by decide)) rfl c_start.gl c_start.kp c_start.bd .nil pass0 (pa_cons (pv 0) pa_nil)) pa_nil)))
    (pss_cons (ps_for (passes_of rfl) rfl (pi_enumA rfl T.b_enumerate (pa_cons (pv 1) pa_nil)) (pg_tup rfl (pgs_cons (pg_name (i := 3) sc_played.nd rfl (by first | exact Or.inl rfl | exact Or.inr rfl)) (pgs_cons (pg_name (i := 4) sc_played.nd rfl (by first | exact Or.inl rfl | exact Or.inr rfl)) pgs_nil))) (pss_cons (ps_set (i := 5) sc_played.nd rfl (by first | exact Or.inl rfl | exact Or.inr rfl) (pe_call G_as_deed (hr.mono (by decide)) rfl c_as_deed.gl c_as_deed.kp c_as_deed.bd .nil pass0 (pa_cons (pv 0) (pa_cons (pv 4) pa_nil))))
    (pss_cons (ps_if (PW.pt (pw_or (pt_cmpR op_eq (pv 3) (gc T.cMOST_DEEDS rfl rfl) (nomark _)) (pw_or (pt_cmpR op_isN (pv 5) pe_non (nomark _)) (pw_or1 (pt_not (pt_val (pe_call G_can_do (hr.mono (by decide)) rfl c_can_do.gl c_can_do.kp c_can_do.bd .nil pass0 (pa_cons (pv 0) (pa_cons (pe_ix ix_seq (pv 2) (pe_un un_neg pe_int) (fun _ _ => rfl)) (pa_cons (pv 5) pa_nil)))))))))) (pss_one (ps_raiseBad rfl TB hfile htop hr (takes_of rfl rfl rfl rfl) (pa_cons (pv 3) pa_nil))) pss_nil)
    (pss_one (ps_expr (pe_bm PySem.F.plainAttrs_list PySem.F.slot_list_append PySem.F.type_list_append mt_append (pv 2) (pa_cons (pe_call G_behind (hr.mono (by decide)) rfl c_behind.gl c_behind.kp c_behind.bd .nil pass0 (pa_cons (pv 0) (pa_cons (pe_ix ix_seq (pv 2) (pe_un un_neg pe_int) (fun _ _ => rfl)) (pa_cons (pv 5) pa_nil)))) pa_nil)))))))
    (pss_one (ps_ret (pe_callTy call_tuple_of (by rfl) T.b_tuple (by decide +kernel) (pa_cons (pv 2) pa_nil)))))))

/-! ### _law_take: 0 _law_pool_here, 1 _law_many, 2 _law_drawn -/
abbrev s__law_take : Stmt := topS 39
abbrev n__law_take : List PySem.Str := ["_law_pool_here", "_law_many", "_law_drawn"]
theorem sc__law_take : FnScope n__law_take ["_law_pool_here", "_law_many"] (defScope s__law_take) := ⟨rfl, rfl, rfl, by decide +kernel, rfl, by decide +kernel, by decide +kernel⟩
def t__law_take (K : PySem.W.Frag) (C CB kinds : Addr) : TS := (tSeq (sDPut (tVar 0) (tC (.str "turn")) (tOp rAddI (tDGet (tVar 0) (tC (.str "turn"))) (tC (.int 1))))
    (tSeq (tIfS (tAnd (tTest (tOp rEq (tDGet (tVar 0) (tC (.str "left"))) (tC (.int 0)))) (tTest (tOp rLtI (tDGet (tVar 0) (tC (.str "at"))) (tCB (rLenV K) (tCons (tDGet (tVar 0) (tC (.str "cells"))) tNil))))) (tSeq (sDPut (tVar 0) (tC (.str "rest")) (tOp (rIx K) (tDGet (tVar 0) (tC (.str "cells"))) (tDGet (tVar 0) (tC (.str "at")))))
    (tSeq (sDPut (tVar 0) (tC (.str "at")) (tOp rAddI (tDGet (tVar 0) (tC (.str "at"))) (tC (.int 1))))
    (tSeq (sDPut (tVar 0) (tC (.str "small")) (tOp rLtI (tDGet (tVar 0) (tC (.str "rest"))) (tOp rPowI (tC (.int 10)) (tC (.int 18)))))
    (sDPut (tVar 0) (tC (.str "left")) (tOp (rIx K) (tLst (tCons (tC (.int 60)) (tCons (tC (.int 2)) tNil))) (tCB rInt1 (tCons (tDGet (tVar 0) (tC (.str "small"))) tNil))))))) tNext)
    (tSeq (tIfS (tTest (tOp rEq (tDGet (tVar 0) (tC (.str "left"))) (tC (.int 0)))) (tRet (tCall (spP C pre__law_mixed) [] E0 (tCons (tDGet (tVar 0) (tC (.str "seed"))) (tCons (tDGet (tVar 0) (tC (.str "turn"))) (tCons (tVar 1) tNil))))) tNext)
    (tSeq (sDPut (tVar 0) (tC (.str "left")) (tOp rSubI (tDGet (tVar 0) (tC (.str "left"))) (tC (.int 1))))
    (tSeq (tIfS (tB (tDGet (tVar 0) (tC (.str "small")))) (tRet (tCall (spP C pre__law_mixed) [] E0 (tCons (tDGet (tVar 0) (tC (.str "rest"))) (tCons (tDGet (tVar 0) (tC (.str "turn"))) (tCons (tVar 1) tNil))))) tNext)
    (tSeq (tAsg (tOp rModI (tCB rInt1 (tCons (tDGet (tVar 0) (tC (.str "rest"))) tNil)) (tVar 1)) (gName 2))
    (tSeq (sDPut (tVar 0) (tC (.str "rest")) (tOp rDivI (tDGet (tVar 0) (tC (.str "rest"))) (tVar 1)))
    (tSeq (tIfS (tTest (tOp rEq (tDGet (tVar 0) (tC (.str "rest"))) (tC (.int 0)))) (sDPut (tVar 0) (tC (.str "left")) (tC (.int 0))) tNext)
    (tRet (tVar 2))))))))))
theorem d__law_take (T : Bt K mg C kinds) {f__law_mixed : Addr} {fd__law_mixed : FuncData} (c__law_mixed : Cal K mg "_law_mixed" f__law_mixed fd__law_mixed ["_law_number", "_law_turn", "_law_many"]) (G__law_mixed : FnOk P w K mg base CX0 1 f__law_mixed fd__law_mixed ["_law_number", "_law_turn", "_law_many"] (spP C pre__law_mixed)) {f : Addr} {cdv : Value} {A : Around} {outer : List Env} {s : Shared} {H : Hp} {E : XK} (hr : Room 1 (A.deeper (envOfC "_law_take" (defScope s__law_take) s.heap.objs.size f cdv))) :
  PSs (cxOf CX0 P w K mg base n__law_take "_law_take" (defScope s__law_take) f cdv A outer s H E).nox (defBody s__law_take) (t__law_take K C CB kinds ) :=
  (pss_cons (ps_dput (hu_of hr) (pv 0) pe_str (pe_op op_add (pe_dget (hu_of hr) (pv 0) pe_str (fun _ _ => rfl)) pe_int) rfl)
    (pss_cons (ps_if (PW.pt (pw_and (pt_cmpR op_eq (pe_dget (hu_of hr) (pv 0) pe_str (fun _ _ => rfl)) pe_int (nomark _)) (pw_and1 (pt_cmpR op_lt (pe_dget (hu_of hr) (pv 0) pe_str (fun _ _ => rfl)) (pe_callB call_len (by rfl) T.b_len (by decide +kernel) (pa_cons (pe_dget (hu_of hr) (pv 0) pe_str (fun _ _ => rfl)) pa_nil)) (nomark _))))) (pss_cons (ps_dput (hu_of hr) (pv 0) pe_str (pe_ix ix_seq (pe_dget (hu_of hr) (pv 0) pe_str (fun _ _ => rfl)) (pe_dget (hu_of hr) (pv 0) pe_str (fun _ _ => rfl)) (fun _ _ => rfl)) rfl)
    (pss_cons (ps_dput (hu_of hr) (pv 0) pe_str (pe_op op_add (pe_dget (hu_of hr) (pv 0) pe_str (fun _ _ => rfl)) pe_int) rfl)
    (pss_cons (ps_dput (hu_of hr) (pv 0) pe_str (pe_cmpR op_lt (pe_dget (hu_of hr) (pv 0) pe_str (fun _ _ => rfl)) (pe_op op_pow pe_int pe_int) (nomark _)) rfl)
    (pss_one (ps_dput (hu_of hr) (pv 0) pe_str (pe_ix ix_seq (pe_lst (pa_cons pe_int (pa_cons pe_int pa_nil))) (pe_callTy call_int1 (by rfl) T.b_int (by decide +kernel) (pa_cons (pe_dget (hu_of hr) (pv 0) pe_str (fun _ _ => rfl)) pa_nil)) (fun _ _ => rfl)) rfl))))) pss_nil)
    (pss_cons (ps_if (pt_cmpR op_eq (pe_dget (hu_of hr) (pv 0) pe_str (fun _ _ => rfl)) pe_int (nomark _)) (pss_one (ps_ret (pe_call G__law_mixed (hr.mono (by decide)) rfl c__law_mixed.gl c__law_mixed.kp c__law_mixed.bd .nil pass0 (pa_cons (pe_dget (hu_of hr) (pv 0) pe_str (fun _ _ => rfl)) (pa_cons (pe_dget (hu_of hr) (pv 0) pe_str (fun _ _ => rfl)) (pa_cons (pv 1) pa_nil)))))) pss_nil)
    (pss_cons (ps_dput (hu_of hr) (pv 0) pe_str (pe_op op_sub (pe_dget (hu_of hr) (pv 0) pe_str (fun _ _ => rfl)) pe_int) rfl)
    (pss_cons (ps_if (pt_val (pe_dget (hu_of hr) (pv 0) pe_str (fun _ _ => rfl))) (pss_one (ps_ret (pe_call G__law_mixed (hr.mono (by decide)) rfl c__law_mixed.gl c__law_mixed.kp c__law_mixed.bd .nil pass0 (pa_cons (pe_dget (hu_of hr) (pv 0) pe_str (fun _ _ => rfl)) (pa_cons (pe_dget (hu_of hr) (pv 0) pe_str (fun _ _ => rfl)) (pa_cons (pv 1) pa_nil)))))) pss_nil)
    (pss_cons (ps_set (i := 2) sc__law_take.nd rfl (by first | exact Or.inl rfl | exact Or.inr rfl) (pe_op op_mod (pe_callTy call_int1 (by rfl) T.b_int (by decide +kernel) (pa_cons (pe_dget (hu_of hr) (pv 0) pe_str (fun _ _ => rfl)) pa_nil)) (pv 1)))
    (pss_cons (ps_dput (hu_of hr) (pv 0) pe_str (pe_op op_fdiv (pe_dget (hu_of hr) (pv 0) pe_str (fun _ _ => rfl)) (pv 1)) rfl)
    (pss_cons (ps_if (pt_cmpR op_eq (pe_dget (hu_of hr) (pv 0) pe_str (fun _ _ => rfl)) pe_int (nomark _)) (pss_one (ps_dput (hu_of hr) (pv 0) pe_str pe_int rfl)) pss_nil)
    (pss_one (ps_ret (pv 2)))))))))))

/-! ### _law_pool: 0 _law_script, 1 _law_seed, 2 _law_cell, 3 _law_cells -/
abbrev s__law_pool : Stmt := topS 38
abbrev n__law_pool : List PySem.Str := ["_law_script", "_law_seed", "_law_cell", "_law_cells"]
theorem sc__law_pool : FnScope n__law_pool ["_law_script"] (defScope s__law_pool) := ⟨rfl, rfl, rfl, by decide +kernel, rfl, by decide +kernel, by decide +kernel⟩
def t__law_pool (K : PySem.W.Frag) (C CB kinds : Addr) : TS := (tSeq (tAsg (tC (.int 7)) (gName 1))
    (tSeq (tFor (iSeq K (tVar 0)) (gName 2) (tAsg (tOp rModI (tCB rInt1 (tCons (tOp rAddI (tOp rMulI (tVar 1) (tC (.int 1000003))) (tVar 2)) tNil)) (tC (.int 2305843009213693951))) (gName 1)))
    (tSeq (tAsg (tCB (rListOf K) (tCons (tVar 0) tNil)) (gName 3))
    (tSeq (tIfS (tAnd (tTest (tOp rGtI (tCB (rLenV K) (tCons (tVar 3) tNil)) (tC (.int 0)))) (tTest (tOp rEq (tOp rModI (tCB rInt1 (tCons (tOp (rIx K) (tVar 3) (tC (.int 0))) tNil)) (tC (.int 2))) (tC (.int 1))))) (tAsg (tLst tNil) (gName 3)) tNext)
    (tSeq (tIfS (tTest (tOp rGtI (tCB (rLenV K) (tCons (tVar 3) tNil)) (tC (.int 0)))) (tAsg (tOp rDivI (tOp (rIx K) (tVar 3) (tC (.int 0))) (tC (.int 2))) (gSub (tVar 3) (tC (.int 0)) rSetL)) tNext)
    (tRet (tDisp [((tC (.str "cells")), (tVar 3)), ((tC (.str "at")), (tC (.int 0))), ((tC (.str "rest")), (tC (.int 0))), ((tC (.str "left")), (tC (.int 0))), ((tC (.str "small")), (tC (.bl true))), ((tC (.str "seed")), (tVar 1)), ((tC (.str "turn")), (tC (.int 0)))])))))))
theorem d__law_pool (T : Bt K mg C kinds) {f : Addr} {cdv : Value} {A : Around} {outer : List Env} {s : Shared} {H : Hp} {E : XK} (hr : Room 0 (A.deeper (envOfC "_law_pool" (defScope s__law_pool) s.heap.objs.size f cdv))) :
  PSs (cxOf CX0 P w K mg base n__law_pool "_law_pool" (defScope s__law_pool) f cdv A outer s H E).nox (defBody s__law_pool) (t__law_pool K C CB kinds ) :=
  (pss_cons (ps_set (i := 1) sc__law_pool.nd rfl (by first | exact Or.inl rfl | exact Or.inr rfl) pe_int)
    (pss_cons (ps_for PassesOwn.never rfl (pi_seq (pv 0)) (pg_name (i := 2) sc__law_pool.nd rfl (by first | exact Or.inl rfl | exact Or.inr rfl)) (pss_one (ps_set (i := 1) sc__law_pool.nd rfl (by first | exact Or.inl rfl | exact Or.inr rfl) (pe_op op_mod (pe_callTy call_int1 (by rfl) T.b_int (by decide +kernel) (pa_cons (pe_op op_add (pe_op op_mul (pv 1) pe_int) (pv 2)) pa_nil)) pe_int))))
    (pss_cons (ps_set (i := 3) sc__law_pool.nd rfl (by first | exact Or.inl rfl | exact Or.inr rfl) (pe_callTy call_list_of (by rfl) T.b_list (by decide +kernel) (pa_cons (pv 0) pa_nil)))
    (pss_cons (ps_if (PW.pt (pw_and (pt_cmpR op_gt (pe_callB call_len (by rfl) T.b_len (by decide +kernel) (pa_cons (pv 3) pa_nil)) pe_int (nomark _)) (pw_and1 (pt_cmpR op_eq (pe_op op_mod (pe_callTy call_int1 (by rfl) T.b_int (by decide +kernel) (pa_cons (pe_ix ix_seq (pv 3) pe_int (fun _ _ => rfl)) pa_nil)) pe_int) pe_int (nomark _))))) (pss_one (ps_set (i := 3) sc__law_pool.nd rfl (by first | exact Or.inl rfl | exact Or.inr rfl) (pe_lst pa_nil))) pss_nil)
    (pss_cons (ps_if (pt_cmpR op_gt (pe_callB call_len (by rfl) T.b_len (by decide +kernel) (pa_cons (pv 3) pa_nil)) pe_int (nomark _)) (pss_one (ps_asg (pe_op op_fdiv (pe_ix ix_seq (pv 3) pe_int (fun _ _ => rfl)) pe_int) (pg_sub (pv 3) pe_int set_list))) pss_nil)
    (pss_one (ps_ret (pe_disp (pps_cons pe_str (pv 3) (pps_cons pe_str pe_int (pps_cons pe_str pe_int (pps_cons pe_str pe_int (pps_cons pe_str pe_bl (pps_cons pe_str (pv 1) (pps_cons pe_str pe_int pps_nil))))))) (by rfl) (by rfl) (fun z => by cases z) (by decide)))))))))

/-! ### _law_agrees: 0 _law_pool_here, 1 _law_net_here, 2 _law_made_here, 3 _law_deeds, 4 _law_worlds, 5 _law_due, 6 _law_world, 7 _law_handed, 8 _law_none, 9 _law_deed, 10 _law_part, 11 _law_turn, 12 _law_at, 13 _law_wrong -/
abbrev s__law_agrees : Stmt := topS 54
abbrev n__law_agrees : List PySem.Str := ["_law_pool_here", "_law_net_here", "_law_made_here", "_law_deeds", "_law_worlds", "_law_due", "_law_world", "_law_handed", "_law_none", "_law_deed", "_law_part", "_law_turn", "_law_at", "_law_wrong"]
theorem sc__law_agrees : FnScope n__law_agrees ["_law_pool_here", "_law_net_here", "_law_made_here"] (defScope s__law_agrees) := ⟨rfl, rfl, rfl, by decide +kernel, rfl, by decide +kernel, by decide +kernel⟩
def t__law_agrees (K : PySem.W.Frag) (C CB kinds : Addr) : TS := (tSeq (tAsg (tCall (spS C pre__law_run) [] E0 (tCons (tVar 0) (tCons (tVar 1) (tCons (tC (.int 20)) tNil)))) (gTup K 2 (gCons (gName 3) (gCons (gName 4) gNil))))
    (tSeq (tAsg (tCB (rTupleOf K) (tCons (tLc (iSeq K (tVar 4)) (gName 6) tYes (tCall (spP C pre__law_told) [] E0 (tCons (tVar 6) tNil)) [6]) tNil)) (gName 5))
    (tSeq (tAsg (tOp (rIx K) (tLst (tCons (tCB (rListOf K) (tCons (tVar 3) tNil)) (tCons (tCB (rTupleOf K) (tCons (tVar 3) tNil)) tNil))) (tCall (spS C pre__law_take) [] E0 (tCons (tVar 0) (tCons (tC (.int 2)) tNil)))) (gName 7))
    (tSeq (tIfS (tOr (tNot (tB (tCall (spP C (preS 7)) [] E0 (tCons (tCall (spP C pre__law_asked) [] E0 (tCons (tVar 2) (tCons (tVar 7) tNil))) (tCons (tTup (tCons (tC (.str "told")) (tCons (tVar 5) tNil))) tNil))))) (tTest (tOp (rNeD K) (tCB (rListOf K) (tCons (tVar 7) tNil)) (tVar 3)))) (tRet (tC (.bl false))) tNext)
    (tSeq (tAsg (tOp (rIx K) (tLst (tCons (tC .non) (tCons (tC (.int 7)) tNil))) (tCall (spS C pre__law_take) [] E0 (tCons (tVar 0) (tCons (tC (.int 2)) tNil)))) (gName 8))
    (tSeq (tIfS (tNot (tB (tCall (spP C (preS 7)) [] E0 (tCons (tCall (spP C pre__law_asked) [] E0 (tCons (tVar 2) (tCons (tLc (iSeq K (tVar 3)) (gName 9) tYes (tCB (rListOf K) (tCons (tVar 9) tNil)) [9]) tNil))) (tCons (tTup (tCons (tC (.str "told")) (tCons (tVar 5) tNil))) tNil))))) (tRet (tC (.bl false))) tNext)
    (tSeq (tIfS (tNot (tB (tCall (spP C (preS 7)) [] E0 (tCons (tCall (spP C pre__law_asked) [] E0 (tCons (tVar 2) (tCons (tVar 8) tNil))) (tCons (tTup (tCons (tC (.str "step")) (tCons (tC (.int 0)) tNil))) tNil))))) (tRet (tC (.bl false))) tNext)
    (tSeq (tAsg (tCall (spS C pre__law_take) [] E0 (tCons (tVar 0) (tCons (tOp rAddI (tCB (rLenV K) (tCons (tVar 3) tNil)) (tC (.int 1))) tNil))) (gName 10))
    (tSeq (tIfS (tNot (tB (tCall (spP C (preS 7)) [] E0 (tCons (tCallK (spX C CB pre_played) gK E0 tNil (tCons (tVar 2) (tCons (tCB (rTupleOf K) (tCons (tSl (rSlL K) (tVar 3) tNoPart (tPart (tVar 10))) tNil)) tNil))) (tCons (tSl (rSlA K) (tVar 5) tNoPart (tPart (tOp rAddI (tVar 10) (tC (.int 1))))) tNil))))) (tRet (tC (.bl false))) tNext)
    (tSeq (tFor (iRng1 (tCons (tC (.int 3)) tNil)) (gName 11) (tSeq (tAsg (tCall (spS C pre__law_take) [] E0 (tCons (tVar 0) (tCons (tOp rAddI (tCB (rLenV K) (tCons (tVar 3) tNil)) (tC (.int 1))) tNil))) (gName 12))
    (tSeq (tAsg (tOp rCat (tOp rCat (tSl (rSlL K) (tVar 3) tNoPart (tPart (tVar 12))) (tLst (tCons (tCall (spS C pre__law_near) [] E0 (tCons (tVar 0) (tCons (tVar 1) (tCons (tOp (rIx K) (tVar 4) (tVar 12)) tNil)))) tNil))) (tSl (rSlL K) (tVar 3) (tPart (tVar 12)) tNoPart)) (gName 13))
    (tIfS (tNot (tB (tCall (spP C (preS 7)) [] E0 (tCons (tCall (spP C pre__law_asked) [] E0 (tCons (tVar 2) (tCons (tVar 13) tNil))) (tCons (tTup (tCons (tC (.str "step")) (tCons (tVar 12) tNil))) tNil))))) (tRet (tC (.bl false))) tNext))))
    (tRet (tCall (spP C (preS 7)) [] E0 (tCons (tCall (spP C pre__law_asked) [] E0 (tCons (tVar 2) (tCons (tVar 7) tNil))) (tCons (tTup (tCons (tC (.str "told")) (tCons (tVar 5) tNil))) tNil))))))))))))))
theorem d__law_agrees (T : Bt K mg C kinds) {f__law_run : Addr} {fd__law_run : FuncData} (c__law_run : Cal K mg "_law_run" f__law_run fd__law_run ["_law_pool_here", "_law_net_here", "_law_most"]) (G__law_run : FnOk P w K mg base CX0 3 f__law_run fd__law_run ["_law_pool_here", "_law_net_here", "_law_most"] (spS C pre__law_run)) {f__law_told : Addr} {fd__law_told : FuncData} (c__law_told : Cal K mg "_law_told" f__law_told fd__law_told ["_law_world"]) (G__law_told : FnOk P w K mg base CX0 1 f__law_told fd__law_told ["_law_world"] (spP C pre__law_told)) {f__law_take : Addr} {fd__law_take : FuncData} (c__law_take : Cal K mg "_law_take" f__law_take fd__law_take ["_law_pool_here", "_law_many"]) (G__law_take : FnOk P w K mg base CX0 2 f__law_take fd__law_take ["_law_pool_here", "_law_many"] (spS C pre__law_take)) {f__law_asked : Addr} {fd__law_asked : FuncData} (c__law_asked : Cal K mg "_law_asked" f__law_asked fd__law_asked ["_law_made_here", "_law_deeds"]) (G__law_asked : FnOk P w K mg base CX0 7 f__law_asked fd__law_asked ["_law_made_here", "_law_deeds"] (spP C pre__law_asked)) {f__law_same : Addr} {fd__law_same : FuncData} (c__law_same : Cal K mg "_law_same" f__law_same fd__law_same ["_law_actual", "_law_due"]) (G__law_same : FnOk P w K mg base CX0 7 f__law_same fd__law_same ["_law_actual", "_law_due"] (spP C (preS 7))) {f_played : Addr} {fd_played : FuncData} (c_played : Cal K mg "played" f_played fd_played ["net", "deeds"]) (G_played : FnOk P w K mg base (L2.CX P w) 5 f_played fd_played ["net", "deeds"] (spX C CB pre_played)) {f__law_near : Addr} {fd__law_near : FuncData} (c__law_near : Cal K mg "_law_near" f__law_near fd__law_near ["_law_pool_here", "_law_net_here", "_law_world"]) (G__law_near : FnOk P w K mg base CX0 3 f__law_near fd__law_near ["_law_pool_here", "_law_net_here", "_law_world"] (spS C pre__law_near)) (kb_played : KBinds K fd_played ["net", "deeds"] ["net", "deeds"] gK gK) {f : Addr} {cdv : Value} {A : Around} {outer : List Env} {s : Shared} {H : Hp} {E : XK} (hr : Room 9 (A.deeper (envOfC "_law_agrees" (defScope s__law_agrees) s.heap.objs.size f cdv))) :
  PSs (cxOf CX0 P w K mg base n__law_agrees "_law_agrees" (defScope s__law_agrees) f cdv A outer s H E).nox (defBody s__law_agrees) (t__law_agrees K C CB kinds ) :=
  (pss_cons (ps_asg (pe_call G__law_run (hr.mono (by decide)) rfl c__law_run.gl c__law_run.kp c__law_run.bd .nil pass0 (pa_cons (pv 0) (pa_cons (pv 1) (pa_cons pe_int pa_nil)))) (pg_tup rfl (pgs_cons (pg_name (i := 3) sc__law_agrees.nd rfl (by first | exact Or.inl rfl | exact Or.inr rfl)) (pgs_cons (pg_name (i := 4) sc__law_agrees.nd rfl (by first | exact Or.inl rfl | exact Or.inr rfl)) pgs_nil))))
    (pss_cons (ps_set (i := 5) sc__law_agrees.nd rfl (by first | exact Or.inl rfl | exact Or.inr rfl) (pe_callTy call_tuple_of (by rfl) T.b_tuple (by decide +kernel) (pa_cons (pe_lc (own := [("_law_world", 6)]) (g := (gName 6)) (tt := tYes) (te := (tCall (spP C pre__law_told) [] E0 (tCons (tVar 6) tNil))) rfl sc__law_agrees.nd (pi_seq (pv 4)) (blkOk_by (own := [("_law_world", 6)]) (N := n__law_agrees) (sc := defScope s__law_agrees) (by decide +kernel)) (fun _ _ _ _ _ => (pg_name (i := 6) sc__law_agrees.nd rfl (by first | exact Or.inl rfl | exact Or.inr rfl))) (fun _ _ _ _ _ => pts_nil) (fun _ _ _ _ _ => (pe_call G__law_told (hr.mono (by decide)) rfl c__law_told.gl c__law_told.kp c__law_told.bd .nil pass0 (pa_cons (pv 6) pa_nil)))) pa_nil)))
    (pss_cons (ps_set (i := 7) sc__law_agrees.nd rfl (by first | exact Or.inl rfl | exact Or.inr rfl) (pe_ix ix_seq (pe_lst (pa_cons (pe_callTy call_list_of (by rfl) T.b_list (by decide +kernel) (pa_cons (pv 3) pa_nil)) (pa_cons (pe_callTy call_tuple_of (by rfl) T.b_tuple (by decide +kernel) (pa_cons (pv 3) pa_nil)) pa_nil))) (pe_call G__law_take (hr.mono (by decide)) rfl c__law_take.gl c__law_take.kp c__law_take.bd .nil pass0 (pa_cons (pv 0) (pa_cons pe_int pa_nil))) (fun _ _ => rfl)))
    (pss_cons (ps_if (PW.pt (pw_or (pt_not (pt_val (pe_call G__law_same (hr.mono (by decide)) rfl c__law_same.gl c__law_same.kp c__law_same.bd .nil pass0 (pa_cons (pe_call G__law_asked (hr.mono (by decide)) rfl c__law_asked.gl c__law_asked.kp c__law_asked.bd .nil pass0 (pa_cons (pv 2) (pa_cons (pv 7) pa_nil))) (pa_cons (pe_tup (pa_cons pe_str (pa_cons (pv 5) pa_nil))) pa_nil))))) (pw_or1 (pt_cmpR (op_neD hr.units) (pe_callTy call_list_of (by rfl) T.b_list (by decide +kernel) (pa_cons (pv 7) pa_nil)) (pv 3) (nomark _))))) (pss_one (ps_ret pe_bl)) pss_nil)
    (pss_cons (ps_set (i := 8) sc__law_agrees.nd rfl (by first | exact Or.inl rfl | exact Or.inr rfl) (pe_ix ix_seq (pe_lst (pa_cons pe_non (pa_cons pe_int pa_nil))) (pe_call G__law_take (hr.mono (by decide)) rfl c__law_take.gl c__law_take.kp c__law_take.bd .nil pass0 (pa_cons (pv 0) (pa_cons pe_int pa_nil))) (fun _ _ => rfl)))
    (pss_cons (ps_if (pt_not (pt_val (pe_call G__law_same (hr.mono (by decide)) rfl c__law_same.gl c__law_same.kp c__law_same.bd .nil pass0 (pa_cons (pe_call G__law_asked (hr.mono (by decide)) rfl c__law_asked.gl c__law_asked.kp c__law_asked.bd .nil pass0 (pa_cons (pv 2) (pa_cons (pe_lc (own := [("_law_deed", 9)]) (g := (gName 9)) (tt := tYes) (te := (tCB (rListOf K) (tCons (tVar 9) tNil))) rfl sc__law_agrees.nd (pi_seq (pv 3)) (blkOk_by (own := [("_law_deed", 9)]) (N := n__law_agrees) (sc := defScope s__law_agrees) (by decide +kernel)) (fun _ _ _ _ _ => (pg_name (i := 9) sc__law_agrees.nd rfl (by first | exact Or.inl rfl | exact Or.inr rfl))) (fun _ _ _ _ _ => pts_nil) (fun _ _ _ _ _ => (pe_callTy call_list_of (by rfl) T.b_list (by decide +kernel) (pa_cons (pv 9) pa_nil)))) pa_nil))) (pa_cons (pe_tup (pa_cons pe_str (pa_cons (pv 5) pa_nil))) pa_nil))))) (pss_one (ps_ret pe_bl)) pss_nil)
    (pss_cons (ps_if (pt_not (pt_val (pe_call G__law_same (hr.mono (by decide)) rfl c__law_same.gl c__law_same.kp c__law_same.bd .nil pass0 (pa_cons (pe_call G__law_asked (hr.mono (by decide)) rfl c__law_asked.gl c__law_asked.kp c__law_asked.bd .nil pass0 (pa_cons (pv 2) (pa_cons (pv 8) pa_nil))) (pa_cons (pe_tup (pa_cons pe_str (pa_cons pe_int pa_nil))) pa_nil))))) (pss_one (ps_ret pe_bl)) pss_nil)
    (pss_cons (ps_set (i := 10) sc__law_agrees.nd rfl (by first | exact Or.inl rfl | exact Or.inr rfl) (pe_call G__law_take (hr.mono (by decide)) rfl c__law_take.gl c__law_take.kp c__law_take.bd .nil pass0 (pa_cons (pv 0) (pa_cons (pe_op op_add (pe_callB call_len (by rfl) T.b_len (by decide +kernel) (pa_cons (pv 3) pa_nil)) pe_int) pa_nil))))
    (pss_cons (ps_if (pt_not (pt_val (pe_call G__law_same (hr.mono (by decide)) rfl c__law_same.gl c__law_same.kp c__law_same.bd .nil pass0 (pa_cons (pe_callK0 G_played (hr.mono (by decide)) rfl c_played.gl c_played.kp kb_played passL (pk_cons (pv 2) (pk_cons (pe_callTy call_tuple_of (by rfl) T.b_tuple (by decide +kernel) (pa_cons (pe_slice sl_list (pv 3) po_none (po_some (pv 10))) pa_nil)) pk_nil))) (pa_cons (pe_slice sl_tupA (pv 5) po_none (po_some (pe_op op_add (pv 10) pe_int))) pa_nil))))) (pss_one (ps_ret pe_bl)) pss_nil)
    (pss_cons (ps_for PassesOwn.never rfl (pi_range1 rfl T.b_range (pa_cons pe_int pa_nil)) (pg_name (i := 11) sc__law_agrees.nd rfl (by first | exact Or.inl rfl | exact Or.inr rfl)) (pss_cons (ps_set (i := 12) sc__law_agrees.nd rfl (by first | exact Or.inl rfl | exact Or.inr rfl) (pe_call G__law_take (hr.mono (by decide)) rfl c__law_take.gl c__law_take.kp c__law_take.bd .nil pass0 (pa_cons (pv 0) (pa_cons (pe_op op_add (pe_callB call_len (by rfl) T.b_len (by decide +kernel) (pa_cons (pv 3) pa_nil)) pe_int) pa_nil))))
    (pss_cons (ps_set (i := 13) sc__law_agrees.nd rfl (by first | exact Or.inl rfl | exact Or.inr rfl) (pe_op op_cat (pe_op op_cat (pe_slice sl_list (pv 3) po_none (po_some (pv 12))) (pe_lst (pa_cons (pe_call G__law_near (hr.mono (by decide)) rfl c__law_near.gl c__law_near.kp c__law_near.bd .nil pass0 (pa_cons (pv 0) (pa_cons (pv 1) (pa_cons (pe_ix ix_seq (pv 4) (pv 12) (fun _ _ => rfl)) pa_nil)))) pa_nil))) (pe_slice sl_list (pv 3) (po_some (pv 12)) po_none)))
    (pss_one (ps_if (pt_not (pt_val (pe_call G__law_same (hr.mono (by decide)) rfl c__law_same.gl c__law_same.kp c__law_same.bd .nil pass0 (pa_cons (pe_call G__law_asked (hr.mono (by decide)) rfl c__law_asked.gl c__law_asked.kp c__law_asked.bd .nil pass0 (pa_cons (pv 2) (pa_cons (pv 13) pa_nil))) (pa_cons (pe_tup (pa_cons pe_str (pa_cons (pv 12) pa_nil))) pa_nil))))) (pss_one (ps_ret pe_bl)) pss_nil)))))
    (pss_one (ps_ret (pe_call G__law_same (hr.mono (by decide)) rfl c__law_same.gl c__law_same.kp c__law_same.bd .nil pass0 (pa_cons (pe_call G__law_asked (hr.mono (by decide)) rfl c__law_asked.gl c__law_asked.kp c__law_asked.bd .nil pass0 (pa_cons (pv 2) (pa_cons (pv 7) pa_nil))) (pa_cons (pe_tup (pa_cons pe_str (pa_cons (pv 5) pa_nil))) pa_nil)))))))))))))))

/-! ### _law_sixty: 0 _law_pool_here, 1 _law_net_here, 2 _law_deeds, 3 _law_made_here, 4 _law_due, 5 _law_k -/
abbrev s__law_sixty : Stmt := topS 56
abbrev n__law_sixty : List PySem.Str := ["_law_pool_here", "_law_net_here", "_law_deeds", "_law_made_here", "_law_due", "_law_k"]
theorem sc__law_sixty : FnScope n__law_sixty ["_law_pool_here"] (defScope s__law_sixty) := ⟨rfl, rfl, rfl, by decide +kernel, rfl, by decide +kernel, by decide +kernel⟩
def t__law_sixty (K : PySem.W.Frag) (C CB kinds : Addr) : TS := (tSeq (tAsg (tCall (spS C pre__law_long) [] E0 (tCons (tVar 0) tNil)) (gTup K 2 (gCons (gName 1) (gCons (gName 2) gNil))))
    (tSeq (tAsg (tCall (spS C pre__law_made) [] E0 (tCons (tVar 0) (tCons (tVar 1) tNil))) (gName 3))
    (tSeq (tAsg (tCB (rTupleOf K) (tCons (tLc (iRng1 (tCons (tC (.int 61)) tNil)) (gName 5) tYes (tCall (spP C pre__law_told) [] E0 (tCons (tCall (spP C pre__law_start) [] E0 (tCons (tVar 1) tNil)) tNil)) [5]) tNil)) (gName 4))
    (tSeq (tIfS (tNot (tB (tCall (spP C (preS 7)) [] E0 (tCons (tCall (spP C pre__law_asked) [] E0 (tCons (tVar 3) (tCons (tVar 2) tNil))) (tCons (tTup (tCons (tC (.str "told")) (tCons (tVar 4) tNil))) tNil))))) (tRet (tC (.bl false))) tNext)
    (tRet (tCall (spP C (preS 7)) [] E0 (tCons (tCall (spP C pre__law_asked) [] E0 (tCons (tVar 3) (tCons (tOp rCat (tVar 2) (tSl (rSlL K) (tVar 2) tNoPart (tPart (tC (.int 1))))) tNil))) (tCons (tTup (tCons (tC (.str "step")) (tCons (tC (.int 60)) tNil))) tNil))))))))
theorem d__law_sixty (T : Bt K mg C kinds) {f__law_long : Addr} {fd__law_long : FuncData} (c__law_long : Cal K mg "_law_long" f__law_long fd__law_long ["_law_pool_here"]) (G__law_long : FnOk P w K mg base CX0 4 f__law_long fd__law_long ["_law_pool_here"] (spS C pre__law_long)) {f__law_made : Addr} {fd__law_made : FuncData} (c__law_made : Cal K mg "_law_made" f__law_made fd__law_made ["_law_pool_here", "_law_net_here"]) (G__law_made : FnOk P w K mg base CX0 8 f__law_made fd__law_made ["_law_pool_here", "_law_net_here"] (spS C pre__law_made)) {f__law_start : Addr} {fd__law_start : FuncData} (c__law_start : Cal K mg "_law_start" f__law_start fd__law_start ["_law_net_here"]) (G__law_start : FnOk P w K mg base CX0 1 f__law_start fd__law_start ["_law_net_here"] (spP C pre__law_start)) {f__law_told : Addr} {fd__law_told : FuncData} (c__law_told : Cal K mg "_law_told" f__law_told fd__law_told ["_law_world"]) (G__law_told : FnOk P w K mg base CX0 1 f__law_told fd__law_told ["_law_world"] (spP C pre__law_told)) {f__law_asked : Addr} {fd__law_asked : FuncData} (c__law_asked : Cal K mg "_law_asked" f__law_asked fd__law_asked ["_law_made_here", "_law_deeds"]) (G__law_asked : FnOk P w K mg base CX0 7 f__law_asked fd__law_asked ["_law_made_here", "_law_deeds"] (spP C pre__law_asked)) {f__law_same : Addr} {fd__law_same : FuncData} (c__law_same : Cal K mg "_law_same" f__law_same fd__law_same ["_law_actual", "_law_due"]) (G__law_same : FnOk P w K mg base CX0 7 f__law_same fd__law_same ["_law_actual", "_law_due"] (spP C (preS 7))) {f : Addr} {cdv : Value} {A : Around} {outer : List Env} {s : Shared} {H : Hp} {E : XK} (hr : Room 9 (A.deeper (envOfC "_law_sixty" (defScope s__law_sixty) s.heap.objs.size f cdv))) :
  PSs (cxOf CX0 P w K mg base n__law_sixty "_law_sixty" (defScope s__law_sixty) f cdv A outer s H E).nox (defBody s__law_sixty) (t__law_sixty K C CB kinds ) :=
  (pss_cons (ps_asg (pe_call G__law_long (hr.mono (by decide)) rfl c__law_long.gl c__law_long.kp c__law_long.bd .nil pass0 (pa_cons (pv 0) pa_nil)) (pg_tup rfl (pgs_cons (pg_name (i := 1) sc__law_sixty.nd rfl (by first | exact Or.inl rfl | exact Or.inr rfl)) (pgs_cons (pg_name (i := 2) sc__law_sixty.nd rfl (by first | exact Or.inl rfl | exact Or.inr rfl)) pgs_nil))))
    (pss_cons (ps_set (i := 3) sc__law_sixty.nd rfl (by first | exact Or.inl rfl | exact Or.inr rfl) (pe_call G__law_made (hr.mono (by decide)) rfl c__law_made.gl c__law_made.kp c__law_made.bd .nil pass0 (pa_cons (pv 0) (pa_cons (pv 1) pa_nil))))
    (pss_cons (ps_set (i := 4) sc__law_sixty.nd rfl (by first | exact Or.inl rfl | exact Or.inr rfl) (pe_callTy call_tuple_of (by rfl) T.b_tuple (by decide +kernel) (pa_cons (pe_lc (own := [("_law_k", 5)]) (g := (gName 5)) (tt := tYes) (te := (tCall (spP C pre__law_told) [] E0 (tCons (tCall (spP C pre__law_start) [] E0 (tCons (tVar 1) tNil)) tNil))) rfl sc__law_sixty.nd (pi_range1 rfl T.b_range (pa_cons pe_int pa_nil)) (blkOk_by (own := [("_law_k", 5)]) (N := n__law_sixty) (sc := defScope s__law_sixty) (by decide +kernel)) (fun _ _ _ _ _ => (pg_name (i := 5) sc__law_sixty.nd rfl (by first | exact Or.inl rfl | exact Or.inr rfl))) (fun _ _ _ _ _ => pts_nil) (fun _ _ _ _ _ => (pe_call G__law_told (hr.mono (by decide)) rfl c__law_told.gl c__law_told.kp c__law_told.bd .nil pass0 (pa_cons (pe_call G__law_start (hr.mono (by decide)) rfl c__law_start.gl c__law_start.kp c__law_start.bd .nil pass0 (pa_cons (pv 1) pa_nil)) pa_nil)))) pa_nil)))
    (pss_cons (ps_if (pt_not (pt_val (pe_call G__law_same (hr.mono (by decide)) rfl c__law_same.gl c__law_same.kp c__law_same.bd .nil pass0 (pa_cons (pe_call G__law_asked (hr.mono (by decide)) rfl c__law_asked.gl c__law_asked.kp c__law_asked.bd .nil pass0 (pa_cons (pv 3) (pa_cons (pv 2) pa_nil))) (pa_cons (pe_tup (pa_cons pe_str (pa_cons (pv 4) pa_nil))) pa_nil))))) (pss_one (ps_ret pe_bl)) pss_nil)
    (pss_one (ps_ret (pe_call G__law_same (hr.mono (by decide)) rfl c__law_same.gl c__law_same.kp c__law_same.bd .nil pass0 (pa_cons (pe_call G__law_asked (hr.mono (by decide)) rfl c__law_asked.gl c__law_asked.kp c__law_asked.bd .nil pass0 (pa_cons (pv 3) (pa_cons (pe_op op_cat (pv 2) (pe_slice sl_list (pv 2) po_none (po_some pe_int))) pa_nil))) (pa_cons (pe_tup (pa_cons pe_str (pa_cons pe_int pa_nil))) pa_nil)))))))))

end
end Dl


namespace Dl
open PySem L2 PyProof.Rows
section
variable {C CB kinds : Addr} {K : PySem.W.Frag} {W : WX} {R : Out → Prop} {δ : List Slot}
local macro_rules | `(tactic| walk_at "ev") => `(tactic| first
  | ((with_reducible refine ex_norm (δ' := ?dn) ?he ?_); (case he => (simp only [slots, wipeS, List.map_cons, List.map_nil, List.replicate_succ, List.replicate_zero, List.cons_append, List.nil_append, List.set_cons_zero, List.set_cons_succ]; exact rfl)))
  | (with_reducible refine ex_seq ?_) | (with_reducible refine ex_if ?_) | ((with_reducible refine ex_retF (i := 2) (ds := ?dd) ?hf ?_); (case hf => exact rfl)) | ((with_reducible refine ex_retF (i := 3) (ds := ?dd) ?hf ?_); (case hf => exact rfl)) | ((with_reducible refine ex_retF (i := 4) (ds := ?dd) ?hf ?_); (case hf => exact rfl)) | ((with_reducible refine ex_retF (i := 5) (ds := ?dd) ?hf ?_); (case hf => exact rfl)) | ((with_reducible refine ex_retF (i := 8) (ds := ?dd) ?hf ?_); (case hf => exact rfl)) | (with_reducible refine ex_ret ?_) | (with_reducible refine ex_nx ?_) | (with_reducible refine ex_bk ?_)
  | (with_reducible refine ev_int ?_) | (with_reducible refine ev_str ?_) | (with_reducible refine ev_bl ?_) | (with_reducible refine ev_non ?_)
  | ((with_reducible refine ev_var (d := ?dd) ?hv ?_); (case hv => exact rfl))
  | (with_reducible refine ea_nil ?_) | (with_reducible refine ea_cons ?_) | (with_reducible refine ev_call ?_) | ((with_reducible refine ev_callS ?hv ?_); (case hv => exact rfl))
  | (with_reducible refine et_test ?_) | (with_reducible refine et_B ?_) | (with_reducible refine et_and ?_) | (with_reducible refine et_or ?_) | (with_reducible refine et_not ?_) | (with_reducible refine et_yes ?_)
  | (with_reducible refine ev_andV ?_) | (with_reducible refine ev_orV ?_) | (with_reducible refine ev_notV ?_) | (with_reducible refine ev_if ?_) | (with_reducible refine ev_chain ?_)
  | (with_reducible refine ev_isi ?_) | (with_reducible refine ev_isi2 ?_) | (with_reducible refine ev_tup ?_) | (with_reducible refine EvN.ev (en_sl ?_)) | (with_reducible refine ev_sl ?_) | (with_reducible refine eo_none ?_) | (with_reducible refine eo_some ?_)
  | (with_reducible refine isB_mk ?_)
  | (with_reducible refine rv_add ?_) | (with_reducible refine rv_sub ?_) | (with_reducible refine rv_lt ?_) | (with_reducible refine rv_le ?_) | (with_reducible refine rv_gt ?_) | (with_reducible refine rv_ge ?_)
  | (with_reducible refine rv_eqI ?_) | (with_reducible refine rv_neI ?_) | (with_reducible refine rv_eqS ?_) | (with_reducible refine rv_neS ?_) | (with_reducible refine rv_eqB ?_) | (with_reducible refine rv_isN ?_)
  | (with_reducible refine rc_lenL ?_) | (with_reducible refine rc_lenT ?_) | (with_reducible refine rc_intI ?_) | (with_reducible refine rc_intB ?_) | (with_reducible refine rc_tupT ?_) | (with_reducible refine rc_tupL ?_)
  | (with_reducible refine ev_getP ?_) | (with_reducible refine ev_getC ?_) | (with_reducible refine ev_getR ?_)
  | ((with_reducible refine rv_ixT (z := ?zz) ?hi ?_); (case hi => exact rfl)) | ((with_reducible refine rv_ixL (z := ?zz) ?hi ?_); (case hi => exact rfl))
  | ((with_reducible refine ev_lenO (ds := ?dd) ?hv ?_); (case hv => exact rfl)) | (with_reducible refine EvN.ev (en_lst ?_)) | (with_reducible refine EvN.ev (en_list ?_)) | (with_reducible refine EvN.ev (en_sl ?_)) | (with_reducible refine EvN.ev (en_cat ?_))
  | (with_reducible refine ev_cb ?_) | ((with_reducible refine ev_opO (ds := ?dd) ?hv ?_); (case hv => exact rfl)) | ((with_reducible refine ev_opP (ds := ?dd) ?hv ?_); (case hv => exact rfl)) | (with_reducible refine ev_op ?_)
  | (with_reducible refine ei_seq ?_) | (with_reducible refine ei_enum ?_) | (with_reducible refine ei_range ?_) | (with_reducible refine ei_str ?_)
  | (with_reducible refine mk_o ?_) | (with_reducible refine mk_n ?_) | (with_reducible refine mk_i ?_) | (with_reducible refine mk_s ?_) | (with_reducible refine mk_l ?_) | (with_reducible refine mk_b ?_)
  | (with_reducible refine mk_sl ?_) | (with_reducible refine mk_st ?_) | (with_reducible refine mk_al ?_) | (with_reducible refine mk_at ?_)
  | ((with_reducible refine and_len ?ll ?_); (case ll => exact Nat.le_of_ble_eq_true rfl)) | (refine br_t rfl ?_) | (refine br_f rfl ?_))
local macro_rules | `(tactic| walk_at "isi") => `(tactic| first | refine isi1 rfl kb_ii ?_ | refine isi1 rfl kb_is ?_ | refine isi1 rfl kb_ib ?_ | refine isi1 rfl kb_il ?_ | refine isi1 rfl kb_it ?_ | refine isi1 rfl kb_si ?_ | refine isi1 rfl kb_ss ?_ | refine isi1 rfl kb_sb ?_ | refine isi1 rfl kb_sl ?_ | refine isi1 rfl kb_st ?_ | refine isi1 rfl kb_ll ?_ | refine isi1 rfl kb_lt ?_ | refine isi1 rfl kb_li ?_ | refine isi1 rfl kb_ls ?_ | refine isi1 rfl kb_lb ?_ | refine isi1 rfl kb_tt ?_ | refine isi1 rfl kb_tl ?_ | refine isi1 rfl kb_ti ?_ | refine isi1 rfl kb_ts ?_ | refine isi1 rfl kb_tb ?_ | refine isi1 rfl kb_ni ?_ | refine isi1 rfl kb_ns ?_ | refine isi1 rfl kb_nb ?_ | refine isi1 rfl kb_nl ?_ | refine isi1 rfl kb_nt ?_)
local macro_rules | `(tactic| walk_at "go") => `(tactic| repeat (walk_at "ev"))
local macro_rules | `(tactic| walk_at "f1") => `(tactic| ((refine ex_freeze (i := 1) (ds := ?dd) ?hf ?_); (case hf => exact rfl)))
local macro_rules | `(tactic| walk_at "f2") => `(tactic| ((refine ex_freeze (i := 2) (ds := ?dd) ?hf ?_); (case hf => exact rfl)))
local macro_rules | `(tactic| walk_at "f3") => `(tactic| ((refine ex_freeze (i := 3) (ds := ?dd) ?hf ?_); (case hf => exact rfl)))
local macro_rules | `(tactic| walk_at "f4") => `(tactic| ((refine ex_freeze (i := 4) (ds := ?dd) ?hf ?_); (case hf => exact rfl)))
local macro_rules | `(tactic| walk_at "f5") => `(tactic| ((refine ex_freeze (i := 5) (ds := ?dd) ?hf ?_); (case hf => exact rfl)))
local macro_rules | `(tactic| walk_at "f6") => `(tactic| ((refine ex_freeze (i := 6) (ds := ?dd) ?hf ?_); (case hf => exact rfl)))
local macro_rules | `(tactic| walk_at "f7") => `(tactic| ((refine ex_freeze (i := 7) (ds := ?dd) ?hf ?_); (case hf => exact rfl)))
local macro_rules | `(tactic| walk_at "f8") => `(tactic| ((refine ex_freeze (i := 8) (ds := ?dd) ?hf ?_); (case hf => exact rfl)))
local macro_rules | `(tactic| walk_at "f9") => `(tactic| ((refine ex_freeze (i := 9) (ds := ?dd) ?hf ?_); (case hf => exact rfl)))
local macro_rules | `(tactic| walk_at "f10") => `(tactic| ((refine ex_freeze (i := 10) (ds := ?dd) ?hf ?_); (case hf => exact rfl)))
local macro_rules | `(tactic| walk_at "f11") => `(tactic| ((refine ex_freeze (i := 11) (ds := ?dd) ?hf ?_); (case hf => exact rfl)))
local macro_rules | `(tactic| walk_at "f12") => `(tactic| ((refine ex_freeze (i := 12) (ds := ?dd) ?hf ?_); (case hf => exact rfl)))
local macro_rules | `(tactic| walk_at "f13") => `(tactic| ((refine ex_freeze (i := 13) (ds := ?dd) ?hf ?_); (case hf => exact rfl)))
local macro_rules | `(tactic| walk_at "nf") => `(tactic| ((with_reducible refine ev_norm (δ' := ?dn) ?he ?_); (case he => (simp only [slots, wipeS, List.map_cons, List.map_nil, List.replicate_succ, List.replicate_zero, List.cons_append, List.nil_append, List.set_cons_zero, List.set_cons_succ]; exact rfl))))
theorem ex_raiseBad {ta : TA} (h : EvA C ta δ fun ds => ∃ n, ds = [.int n] ∧ R (.ex n)) : Ex C CB W (tRaiseBad CB W ta) δ R := fun B F H σ w D f => h B F H σ w _ fun vs F1 H1 ds p g1 w1 d1 => by
  obtain ⟨n, rfl, p⟩ := p
  cases d1 with
  | cons a b =>
    cases b
    cases a
    exact ⟨_, rfl, fun d hd => f.ex n p F1 H1 σ δ w1 d hd⟩
/-- what a def that may raise gives -/
def RetX (P : Dat → Prop) (X : Int → Prop) : Out → Prop
  | .rt r => P r
  | .nx _ => P .non
  | .ex n => X n
  | _ => False
theorem okX {P : Program} {w : World} {mg : PySem.Str → Option Value} {base : Heap} {x qual : PySem.Str} {st : Stmt} {f : Addr} {fd : FuncData} {N ps : List PySem.Str} {k : Nat} {pre : List Dat → (Dat → Prop) → (Int → Prop) → Prop} {t : WX → TS} (F : Fun K x qual st f fd) (S : FnScope N ps (defScope st)) (n : Nat) (hn : ps.length + n = N.length)
    (hpre : ∀ ds Q X, pre ds Q X → ds.length = ps.length)
    (hd : ∀ (cdv : Value) (A : Around) (outer : List Env) (s : Shared) (H : Hp) (E : XK), Room k (A.deeper (envOfC qual (defScope st) s.heap.objs.size f cdv)) → PSs (cxOf (L2.CX P w) P w K mg base N qual (defScope st) f cdv A outer s H E) (defBody st) (t fun cls d _ H => E cls d H))
    (he : ∀ ds Q X, pre ds Q X → ∀ W, Ex C CB W (t W) (slots ds n) (RetX Q X)) : FnOk P w K mg base (L2.CX P w) (k + 1) f fd ps (spX C CB pre) := by
  refine F.okX S (fun vs H Q E h => ?_) (fun cdv A outer s H vs Q E hr h => ?_)
  · obtain ⟨F', ds, r, X, sf, hv, hp, _⟩ := h
    rw [hv.length, hpre ds r X hp]
  · obtain ⟨F', ds, Q', X, sf, hv, hp, q, qx⟩ := h
    refine ⟨t fun cls d _ H => E cls d H, hd cdv A outer s H E hr, ?_⟩
    refine he ds Q' X hp _ ⟨none, F', H⟩ F' H _ (wd_start sf hv (by rw [hv.length, hpre ds Q' X hp]; exact hn) (fun p e => by cases e)) _ ⟨fun δ e F1 H1 σ w1 => q _ .non F1 H1 e w1.gr w1.sub .non, fun δ e => False.elim e, fun δ e => False.elim e, fun d e v F1 H1 σ δ w1 hd => q d v F1 H1 e w1.gr w1.sub hd, fun n e F1 H1 σ δ w1 d hd => qx n F1 H1 e w1.gr w1.sub d hd⟩
theorem chan_lossy {N : NetM} {c : Nat} (h : lossy (chanK N c) = true) (hc : c < N.chans.length) : ∃ h, N.chans[c]? = some h ∧ lossy h.kind = true := by
  obtain ⟨u, e⟩ := chan_ex hc
  rw [chan_of e] at h
  exact ⟨u, e, h⟩
theorem deedOf_fit {N : NetM} {s : PySem.Str} {ns : List Nat} {d : Deed} (h : deedOf N s ns = some d) : Fit N d ∧ d.ds = .str s :: ns.map encN := by
  by_cases h1 : s = "lose"
  · subst h1
    unfold deedOf at h
    rw [if_pos rfl] at h
    match ns, h with
    | [c, k], h =>
      simp only [] at h
      split at h
      · rename_i hh
        cases h
        exact ⟨chan_lossy hh.1 hh.2, rfl⟩
      · cases h
  · by_cases h2 : s = "act"
    · subst h2
      rw [deedOf_act] at h
      match ns, h with
      | [r], h =>
        simp only [] at h
        cases hu : N.rules[r]? with
        | none => rw [hu] at h; cases h
        | some u =>
          rw [hu] at h
          simp only [] at h
          split at h
          · rename_i ht
            cases h
            exact ⟨⟨u, hu, ht⟩, rfl⟩
          · cases h
    · by_cases h3 : s = "take"
      · subst h3
        rw [deedOf_take] at h
        match ns, h with
        | [r, k], h =>
          simp only [] at h
          cases hu : N.rules[r]? with
          | none => rw [hu] at h; cases h
          | some u =>
            rw [hu] at h
            simp only [] at h
            split at h
            · rename_i ht
              cases h
              exact ⟨⟨u, hu, ht⟩, rfl⟩
            · cases h
      · rw [deedOf_other h1 (fun z => z.elim h2 h3)] at h
        cases h
theorem deedParts_fit {N : NetM} {ds : List Dat} {d : Deed} (h : deedParts N ds = some d) : Fit N d ∧ d.ds = ds := by
  match ds, h with
  | .str x :: e :: es, h =>
    have h' : (match natParts (e :: es) with
      | some ns => deedOf N x ns
      | none => none) = some d := h
    cases hn : natParts (e :: es) with
    | none => rw [hn] at h'; cases h'
    | some ns =>
      rw [hn] at h'
      have := deedOf_fit h'
      exact ⟨this.1, by rw [this.2, natParts_of hn]⟩
theorem asDeed_fit {N : NetM} {x : Dat} {d : Deed} (h : asDeed N x = some d) : Fit N d ∧ (x = .lst d.ds ∨ x = .tup d.ds) := by
  cases x with
  | lst ds => have := deedParts_fit (show deedParts N ds = some d from h); exact ⟨this.1, .inl (by rw [this.2])⟩
  | tup ds => have := deedParts_fit (show deedParts N ds = some d from h); exact ⟨this.1, .inr (by rw [this.2])⟩
  | _ => cases h
theorem drop_cons {α : Type} {xs : List α} {i : Nat} {x : α} (h : xs[i]? = some x) : xs.drop i = x :: xs.drop (i + 1) := by
  obtain ⟨hl, e⟩ := List.getElem?_eq_some_iff.mp h
  rw [List.drop_eq_getElem_cons hl, e]
theorem x_played : ∀ ds Q X, pre_played ds Q X → ∀ W, Ex C CB W (t_played K C CB kinds W) (slots ds 4) (RetX Q X) := by
  rintro ds Q X ⟨N, d, rfl, hN, hd⟩ W
  unfold t_played
  rcases hd with ⟨⟨ht, hl, htu⟩, hx⟩ | ⟨es, hes, hel, her, hp⟩
  · walk_at "go"
    have go : ∀ (δ : List Slot) (R : Out → Prop), R (.ex 0) → Ex C CB W (tRaiseBad CB W (tCons (tC (.int 0)) tNil)) δ R := fun δ R h => by
      refine ex_raiseBad ?_
      walk_at "go"
      exact ⟨0, rfl, h⟩
    cases d with
    | lst es => exact absurd rfl (hl es)
    | tup es => exact absurd rfl (htu es)
    | non => exact isi2 rfl kb_nl kb_nt (br_t rfl (go _ _ hx))
    | bl i => exact isi2 rfl kb_bl kb_bt (br_t rfl (go _ _ hx))
    | int i => exact isi2 rfl kb_il kb_it (br_t rfl (go _ _ hx))
    | str i => exact isi2 rfl kb_sl kb_st (br_t rfl (go _ _ hx))
    | net3 x y z => exact isi2 rfl kb_dl kb_dt (br_t rfl (go _ _ hx))
    | obj x y z => cases ht
  · walk_at "go"
    refine tyQ hes ?_
    walk_at "go"
    refine ex_asgO (en_lst ?_)
    walk_at "go"
    refine ⟨N, rfl, hN, ?_⟩
    walk_at "go"
    refine ex_for ?_
    walk_at "go"
    refine ⟨es, by rcases hes with rfl | rfl <;> simp, ?_⟩
    refine ⟨fun i δ' => ∃ (ws : List Wld) (w : Wld) (s3 s4 s5 : Slot), δ' = [.val N.obj, .val d, .own (ws.map Wld.enc), s3, s4, s5] ∧ ws.getLast? = some w ∧ WldOk N i w ∧ ws.length ≤ i + 1 ∧ (match play N i w (es.drop i) with
      | .ok us => Q (.tup ((ws ++ us).map Wld.enc))
      | .error n => X (n : Int)), ⟨[N.start], N.start, _, _, _, rfl, rfl, start_ok N, Nat.le_refl _, hp⟩, fun i e δ' he hI => ?_, fun δ' hI => ?_⟩
    · obtain ⟨e, hei, rfl⟩ := enumD_of he
      obtain ⟨ws, w, s3, s4, s5, rfl, hlast, hw, hwl, hq⟩ := hI
      have hil := (List.getElem?_eq_some_iff.mp hei).1
      rw [drop_cons hei] at hq
      have hlast' := map_last (f := Wld.enc) hlast
      have bad : (X (i : Int)) → ∀ (δ : List Slot) (R : Out → Prop), δ[3]? = some (.val (.int (i : Int))) → R (.ex (i : Int)) → Ex C CB W (tRaiseBad CB W (tCons (tVar 3) tNil)) δ R := fun hX δ R h3 h => by
        refine ex_raiseBad ?_
        refine ea_cons ?_
        refine ev_var h3 ?_
        walk_at "go"
        exact ⟨_, rfl, h⟩
      refine ⟨[3, 4], _, gg_tup (ggs_cons (gg_name (by simp)) (ggs_cons (gg_name (by simp)) ggs_nil)) rfl, ?_⟩
      walk_at "go"
      refine ex_asg ?_
      walk_at "go"
      refine ⟨N, e, rfl, hN, her e (List.mem_of_getElem? hei), ?_⟩
      walk_at "go"
      unfold play at hq
      by_cases h60 : i = 60
      · subst h60
        have hX : X ((60 : Nat) : Int) := by
          cases hde : asDeed N e with
          | none => rw [hde] at hq; exact hq
          | some dd => rw [hde] at hq; simpa using hq
        refine br_t (by decide) ?_
        refine br_t rfl ?_
        exact bad hX _ _ rfl hX
      · refine br_f (decide_eq_false (by omega)) ?_
        walk_at "go"
        cases hde : asDeed N e with
        | none =>
          rw [hde] at hq
          refine br_t rfl ?_
          refine br_t rfl ?_
          exact bad hq _ _ rfl hq
        | some dd =>
          rw [hde] at hq
          have hfit := (asDeed_fit hde).1
          refine br_f rfl ?_
          walk_at "go"
          refine ev_un ?_
          walk_at "go"
          refine rv_ixO (ixlast hlast') ?_
          walk_at "go"
          refine ⟨N, i, w, dd, rfl, hN, hw, by omega, hfit, isB_mk ?_⟩
          cases hcd : canDo N w dd with
          | false =>
            have hX : X (i : Int) := by simpa [hcd, h60] using hq
            refine br_t rfl ?_
            exact bad hX _ _ rfl hX
          | true =>
            have hq' : (match play N (i + 1) (step N w dd) (es.drop (i + 1)) with
              | .ok us => Q (.tup ((ws ++ step N w dd :: us).map Wld.enc))
              | .error n => X (n : Int)) := by
              simp only [hcd, h60, false_or, Bool.true_eq_false, if_false] at hq
              cases hpl : play N (i + 1) (step N w dd) (es.drop (i + 1)) with
              | ok us => rw [hpl] at hq; exact hq
              | error n => rw [hpl] at hq; exact hq
            refine br_f rfl ?_
            refine ex_nx ?_
            refine ex_app rfl (by rw [List.length_map]; omega) ?_
            walk_at "go"
            refine ev_un ?_
            walk_at "go"
            refine rv_ixO (ixlast hlast') ?_
            walk_at "go"
            refine ⟨N, i, w, dd, rfl, hN, hw, by omega, hfit, ?_⟩
            refine ⟨ws ++ [step N w dd], step N w dd, .val (.int (i : Int)), .val e, .val dd.enc, ?_, by simp, step_ok hw, by rw [List.length_append]; simp; exact hwl, ?_⟩
            · rw [List.map_append]; rfl
            · cases hpl : play N (i + 1) (step N w dd) (es.drop (i + 1)) with
              | ok us =>
                rw [hpl] at hq'
                show Q (.tup ((ws ++ [step N w dd] ++ us).map Wld.enc))
                rw [List.append_assoc]; exact hq'
              | error n => rw [hpl] at hq'; exact hq'
    · obtain ⟨ws, w, s3, s4, s5, rfl, hlast, hw, hwl, hq⟩ := hI
      rw [enumD_len, List.drop_length] at hq
      have hq' : Q (.tup ((ws ++ []).map Wld.enc)) := hq
      rw [List.append_nil] at hq'
      walk_at "go"
      exact hq'
end
end Dl


namespace Dl
open PySem L2 PyProof.Rows
section
variable {C CB kinds : Addr} {K : PySem.W.Frag}
/-! ### _law_take: the pool's state is followed -/
structure TW (C p : Addr) (m : Int) (z : Option Dat) (F0 H0 F H : Hp) (σ : L2.St) (s : Pool) : Prop where
  sub : Same F H
  gr : Gr (some p) F0 H0 F H
  pl : PoolAt C F H p s
  s0 : σ[0]? = some (some (.ref p))
  s1 : σ[1]? = some (some (.int m))
  s2 : ∀ d, z = some d → ∃ v, σ[2]? = some (some v) ∧ Dt C F v d
  ln : 2 < σ.length
variable {p : Addr} {m : Int} {z : Option Dat} {s : Pool}
theorem TW.step {F0 H0 F H F' H' : Hp} {σ : L2.St} (w : TW C p m z F0 H0 F H σ s) (g : Gr none F H F' H') (sub : Same F' H') : TW C p m z F0 H0 F' H' σ s :=
  ⟨sub, w.gr.trans g.any, w.pl.keep g, w.s0, w.s1, fun d e => let ⟨v, h1, h2⟩ := w.s2 d e; ⟨v, h1, h2.mono g.f⟩, w.ln⟩
def ET (C p : Addr) (m : Int) (z : Option Dat) (te : TE) (s : Pool) (P : Dat → Prop) : Prop :=
  ∀ F0 H0 F H σ, TW C p m z F0 H0 F H σ s → ∀ Q : VK, (∀ v F' H' d, P d → Gr none F H F' H' → TW C p m z F0 H0 F' H' σ s → Dt C F' v d → Q v H') → te σ H Q
def ETT (C p : Addr) (m : Int) (z : Option Dat) (tt : TT) (s : Pool) (P : Bool → Prop) : Prop :=
  ∀ F0 H0 F H σ, TW C p m z F0 H0 F H σ s → ∀ Q : Bool → Hp → Prop, (∀ F' H' b, P b → Gr none F H F' H' → TW C p m z F0 H0 F' H' σ s → Q b H') → tt σ H Q
def ETA (C p : Addr) (m : Int) (z : Option Dat) (ta : TA) (s : Pool) (P : List Dat → Prop) : Prop :=
  ∀ F0 H0 F H σ, TW C p m z F0 H0 F H σ s → ∀ Q : List V → Hp → Prop, (∀ vs F' H' ds, P ds → Gr none F H F' H' → TW C p m z F0 H0 F' H' σ s → Dts C F' vs ds → Q vs H') → ta σ H Q
variable {te ta tb : TE} {P : Dat → Prop} {r : R2}
theorem t_int {n : Int} (pp : P (.int n)) : ET C p m z (tC (.int n)) s P := fun F0 H0 F H σ w Q k => k _ F H _ pp (Gr.refl _ _ _) w (.int n)
theorem t_var1 (pp : P (.int m)) : ET C p m z (tVar 1) s P := fun F0 H0 F H σ w Q k => ⟨_, w.s1, k _ F H _ pp (Gr.refl _ _ _) w (.int m)⟩
theorem t_var2 {d : Dat} (e : z = some d) (pp : P d) : ET C p m z (tVar 2) s P := fun F0 H0 F H σ w Q k => by
  obtain ⟨v, h1, h2⟩ := w.s2 d e
  exact ⟨v, h1, k _ F H _ pp (Gr.refl _ _ _) w h2⟩
theorem t_op (h : ET C p m z ta s fun x => ET C p m z tb s fun y => RV C r x y P) : ET C p m z (tOp r ta tb) s P := fun F0 H0 F H σ w Q k =>
  h F0 H0 F H σ w _ fun v F1 H1 x px g1 w1 d1 => px F0 H0 F1 H1 σ w1 _ fun u F2 H2 y py g2 w2 d2 => py F2 H2 v u w2.sub (d1.mono g2.f) d2 _ fun z' F3 H3 z pz g3 su d3 =>
    k z' F3 H3 z pz ((g1.trans g2).trans g3) (w2.step g3 su) d3
theorem t_test {P : Bool → Prop} (h : ET C p m z te s (isB P)) : ETT C p m z (tTest te) s P := fun F0 H0 F H σ w Q k => h F0 H0 F H σ w _ fun v F1 H1 d p g1 w1 d1 => by
  obtain ⟨b, e, p⟩ := p
  subst e
  cases d1
  exact ⟨b, rfl, k F1 H1 b p g1 w1⟩
theorem t_B {P : Bool → Prop} (h : ET C p m z te s (isB P)) : ETT C p m z (tB te) s P := fun F0 H0 F H σ w Q k => h F0 H0 F H σ w _ fun v F1 H1 d p g1 w1 d1 => by
  obtain ⟨b, e, p⟩ := p
  subst e
  cases d1
  exact ⟨b, rfl, k F1 H1 b p g1 w1⟩
theorem t_and {t u : TT} {P : Bool → Prop} (h : ETT C p m z t s fun a => (a = true → ETT C p m z u s P) ∧ (a = false → P false)) : ETT C p m z (tAnd t u) s P := fun F0 H0 F H σ w Q k => h F0 H0 F H σ w _ fun F1 H1 a p g1 w1 => by
  cases a with
  | true => exact iteT (p.1 rfl F0 H0 F1 H1 σ w1 _ fun F2 H2 b pb g2 w2 => k F2 H2 b pb (g1.trans g2) w2)
  | false => exact iteF (k F1 H1 _ (p.2 rfl) g1 w1)
theorem t_nil {P : List Dat → Prop} (pp : P []) : ETA C p m z tNil s P := fun F0 H0 F H σ w Q k => k [] F H [] pp (Gr.refl _ _ _) w .nil
theorem t_cons {tr : TA} {P : List Dat → Prop} (h : ET C p m z te s fun d => ETA C p m z tr s fun ds => P (d :: ds)) : ETA C p m z (tCons te tr) s P := fun F0 H0 F H σ w Q k =>
  h F0 H0 F H σ w _ fun v F1 H1 d p g1 w1 d1 => p F0 H0 F1 H1 σ w1 _ fun vs F2 H2 ds p2 g2 w2 d2 => k (v :: vs) F2 H2 _ p2 (g1.trans g2) w2 (.cons (d1.mono g2.f) d2)
theorem t_cb {rr : List V → Hp → VK → Prop} {tr : TA} (h : ETA C p m z tr s fun ds => RC C rr ds P) : ET C p m z (tCB rr tr) s P := fun F0 H0 F H σ w Q k =>
  h F0 H0 F H σ w _ fun vs F1 H1 ds p g1 w1 d1 => p F1 H1 vs w1.sub d1 _ fun v F2 H2 z pz g2 su d2 => k v F2 H2 z pz (g1.trans g2) (w1.step g2 su) d2
theorem t_lst {tr : TA} (h : ETA C p m z tr s fun ds => ds.length ≤ 1000 ∧ P (.lst ds)) : ET C p m z (tLst tr) s P := fun F0 H0 F H σ w Q k =>
  h F0 H0 F H σ w _ fun vs F1 H1 ds p g1 w1 d1 => ⟨by rw [d1.length]; exact Nat.le_trans p.1 (by decide), fun a ha =>
    k _ _ _ _ p.2 (g1.trans (Gr.newF w1.sub ha)) (w1.step (Gr.newF w1.sub ha) (same_new w1.sub ha)) (.lst upd_same (d1.mono (Gr.newF (P := none) (o := .lst vs) w1.sub ha).f))⟩
theorem t_call {pre : Pre} {E : XK} {tr : TA} (h : ETA C p m z tr s fun ds => pre ds P) : ET C p m z (tCall (spP C pre) [] E tr) s P := fun F0 H0 F H σ w Q k => h F0 H0 F H σ w _ fun vs F1 H1 ds p g1 w1 d1 =>
  ⟨F1, ds, P, w1.sub, by rw [List.append_nil]; exact d1, p, fun r v F2 H2 pr g2 su d2 => k v F2 H2 r pr (g1.trans g2) (w1.step g2 su) d2⟩
/-! the fields -/
abbrev kk (x : PySem.Str) : Key := Sum.inr x
/-- a field's value -/
inductive Fld (C : Addr) (s : Pool) : PySem.Str → Dat → Prop
  | cells : Fld C s "cells" (.lst (s.cells.map .int))
  | at_ : Fld C s "at" (.int (s.at_ : Int))
  | rest : Fld C s "rest" (.int s.rest)
  | left : Fld C s "left" (.int s.left)
  | small : Fld C s "small" (.bl s.small)
  | seed : Fld C s "seed" (.int s.seed)
  | turn : Fld C s "turn" (.int s.turn)
theorem n_ca : ¬ kk "cells" = kk "at" := by decide +kernel
theorem n_cr : ¬ kk "cells" = kk "rest" := by decide +kernel
theorem n_cl : ¬ kk "cells" = kk "left" := by decide +kernel
theorem n_cs : ¬ kk "cells" = kk "small" := by decide +kernel
theorem n_ce : ¬ kk "cells" = kk "seed" := by decide +kernel
theorem n_ct : ¬ kk "cells" = kk "turn" := by decide +kernel
theorem n_ar : ¬ kk "at" = kk "rest" := by decide +kernel
theorem n_al : ¬ kk "at" = kk "left" := by decide +kernel
theorem n_as : ¬ kk "at" = kk "small" := by decide +kernel
theorem n_ae : ¬ kk "at" = kk "seed" := by decide +kernel
theorem n_at : ¬ kk "at" = kk "turn" := by decide +kernel
theorem n_rl : ¬ kk "rest" = kk "left" := by decide +kernel
theorem n_rs : ¬ kk "rest" = kk "small" := by decide +kernel
theorem n_re : ¬ kk "rest" = kk "seed" := by decide +kernel
theorem n_rt : ¬ kk "rest" = kk "turn" := by decide +kernel
theorem n_ls : ¬ kk "left" = kk "small" := by decide +kernel
theorem n_le : ¬ kk "left" = kk "seed" := by decide +kernel
theorem n_lt : ¬ kk "left" = kk "turn" := by decide +kernel
theorem n_se : ¬ kk "small" = kk "seed" := by decide +kernel
theorem n_st : ¬ kk "small" = kk "turn" := by decide +kernel
theorem n_et : ¬ kk "seed" = kk "turn" := by decide +kernel
theorem t_get {x : PySem.Str} {d : Dat} (f : Fld C s x d) (pp : P d) : ET C p m z (tDGet (tVar 0) (tC (.str x))) s P := fun F0 H0 F H σ w Q k => by
  obtain ⟨n, vc, dc, e⟩ := w.pl
  refine ⟨.ref p, w.s0, ?_⟩
  have fin : ∀ v, valV (encPool vc s) (kk x) = some v → Dt C F v d → ∃ a v, V.ref p = .ref a ∧ DGet H a (.str x) (some v) ∧ Q v H := fun v hv hd =>
    ⟨p, v, rfl, .inl ⟨_, kk x, .inl e, rfl, hv.symm⟩, k v F H d pp (Gr.refl _ _ _) w hd⟩
  unfold encPool at fin
  cases f with
  | cells => exact fin vc (valV_pos rfl) dc
  | at_ => exact fin _ ((valV_neg n_ca).trans (valV_pos rfl)) (.int _)
  | rest => exact fin _ ((valV_neg n_cr).trans ((valV_neg n_ar).trans (valV_pos rfl))) (.int _)
  | left => exact fin _ ((valV_neg n_cl).trans ((valV_neg n_al).trans ((valV_neg n_rl).trans (valV_pos rfl)))) (.int _)
  | small => exact fin _ ((valV_neg n_cs).trans ((valV_neg n_as).trans ((valV_neg n_rs).trans ((valV_neg n_ls).trans (valV_pos rfl))))) (.bl _)
  | seed => exact fin _ ((valV_neg n_ce).trans ((valV_neg n_ae).trans ((valV_neg n_re).trans ((valV_neg n_le).trans ((valV_neg n_se).trans (valV_pos rfl)))))) (.int _)
  | turn => exact fin _ ((valV_neg n_ct).trans ((valV_neg n_at).trans ((valV_neg n_rt).trans ((valV_neg n_lt).trans ((valV_neg n_st).trans ((valV_neg n_et).trans (valV_pos rfl))))))) (.int _)
/-! statements -/
inductive TOut where
  | nx (z : Option Dat) (s : Pool) | rt (d : Dat)
def XT (C p : Addr) (m : Int) (z : Option Dat) (t : TS) (s : Pool) (R : TOut → Prop) : Prop :=
  ∀ F0 H0 F H σ, TW C p m z F0 H0 F H σ s → ∀ D : Ends, (∀ z' s' F' H' σ', R (.nx z' s') → TW C p m z' F0 H0 F' H' σ' s' → D.nx σ' H') → (∀ d v z' s' F' H' σ', R (.rt d) → TW C p m z' F0 H0 F' H' σ' s' → Dt C F' v d → D.rt v H') → t D σ H
variable {R : TOut → Prop}
theorem x_seq {t u : TS} (h : XT C p m z t s fun o => match o with | .nx z' s' => XT C p m z' u s' R | .rt d => R (.rt d)) : XT C p m z (tSeq t u) s R := fun F0 H0 F H σ w D f g =>
  h F0 H0 F H σ w { D with nx := u D } (fun z' s' F' H' σ' r w' => r F0 H0 F' H' σ' w' D f g) g
theorem x_nx (h : R (.nx z s)) : XT C p m z tNext s R := fun F0 H0 F H σ w D f g => f z s F H σ h w
theorem x_ret (h : ET C p m z te s fun d => R (.rt d)) : XT C p m z (tRet te) s R := fun F0 H0 F H σ w D f g => h F0 H0 F H σ w _ fun v F1 H1 d pd g1 w1 d1 => g d v z s F1 H1 σ pd w1 d1
theorem x_if {tt : TT} {t u : TS} (h : ETT C p m z tt s fun b => (b = true → XT C p m z t s R) ∧ (b = false → XT C p m z u s R)) : XT C p m z (tIfS tt t u) s R := fun F0 H0 F H σ w D f g => h F0 H0 F H σ w _ fun F1 H1 b p g1 w1 => by
  cases b with
  | true => exact iteT (p.1 rfl F0 H0 F1 H1 σ w1 D f g)
  | false => exact iteF (p.2 rfl F0 H0 F1 H1 σ w1 D f g)
theorem x_asg (h : ET C p m z te s fun d => R (.nx (some d) s)) : XT C p m z (tAsg te (gName 2)) s R := fun F0 H0 F H σ w D f g => h F0 H0 F H σ w _ fun v F1 H1 d pd g1 w1 d1 => by
  refine f (some d) s F1 H1 _ pd ⟨w1.sub, w1.gr, w1.pl, ?_, ?_, fun d' e => ?_, by rw [List.length_set]; exact w1.ln⟩
  · rw [List.getElem?_set_ne (by decide)]; exact w1.s0
  · rw [List.getElem?_set_ne (by decide)]; exact w1.s1
  · cases e
    exact ⟨v, by rw [List.getElem?_set_self w1.ln], d1⟩
theorem put_1 {vc v : V} {s : Pool} : putK (encPool vc s) (kk "turn") v = [(kk "cells", vc), (kk "at", .int (s.at_ : Int)), (kk "rest", .int s.rest), (kk "left", .int s.left), (kk "small", .bl s.small), (kk "seed", .int s.seed), (kk "turn", v)] := by
  simp [putK, encPool, n_ct, n_at, n_rt, n_lt, n_st, n_et]
  exact ⟨fun e => absurd (congrArg Sum.inr e) n_ct, fun e => absurd (congrArg Sum.inr e) n_at, fun e => absurd (congrArg Sum.inr e) n_rt, fun e => absurd (congrArg Sum.inr e) n_lt, fun e => absurd (congrArg Sum.inr e) n_st, fun e => absurd (congrArg Sum.inr e) n_et⟩
theorem put_2 {vc v : V} {s : Pool} : putK (encPool vc s) (kk "rest") v = [(kk "cells", vc), (kk "at", .int (s.at_ : Int)), (kk "rest", v), (kk "left", .int s.left), (kk "small", .bl s.small), (kk "seed", .int s.seed), (kk "turn", .int s.turn)] := by
  simp [putK, encPool, n_cr, n_ar, Ne.symm n_rl, Ne.symm n_rs, Ne.symm n_re, Ne.symm n_rt]
  exact ⟨fun e => absurd (congrArg Sum.inr e) n_cr, fun e => absurd (congrArg Sum.inr e) n_ar⟩
theorem put_3 {vc v : V} {s : Pool} : putK (encPool vc s) (kk "at") v = [(kk "cells", vc), (kk "at", v), (kk "rest", .int s.rest), (kk "left", .int s.left), (kk "small", .bl s.small), (kk "seed", .int s.seed), (kk "turn", .int s.turn)] := by
  simp [putK, encPool, n_ca, Ne.symm n_ar, Ne.symm n_al, Ne.symm n_as, Ne.symm n_ae, Ne.symm n_at]
  exact fun e => absurd (congrArg Sum.inr e) n_ca
theorem put_4 {vc v : V} {s : Pool} : putK (encPool vc s) (kk "small") v = [(kk "cells", vc), (kk "at", .int (s.at_ : Int)), (kk "rest", .int s.rest), (kk "left", .int s.left), (kk "small", v), (kk "seed", .int s.seed), (kk "turn", .int s.turn)] := by
  simp [putK, encPool, n_cs, n_as, n_rs, n_ls, Ne.symm n_se, Ne.symm n_st]
  exact ⟨fun e => absurd (congrArg Sum.inr e) n_cs, fun e => absurd (congrArg Sum.inr e) n_as, fun e => absurd (congrArg Sum.inr e) n_rs, fun e => absurd (congrArg Sum.inr e) n_ls⟩
theorem put_5 {vc v : V} {s : Pool} : putK (encPool vc s) (kk "left") v = [(kk "cells", vc), (kk "at", .int (s.at_ : Int)), (kk "rest", .int s.rest), (kk "left", v), (kk "small", .bl s.small), (kk "seed", .int s.seed), (kk "turn", .int s.turn)] := by
  simp [putK, encPool, n_cl, n_al, n_rl, Ne.symm n_ls, Ne.symm n_le, Ne.symm n_lt]
  exact ⟨fun e => absurd (congrArg Sum.inr e) n_cl, fun e => absurd (congrArg Sum.inr e) n_al, fun e => absurd (congrArg Sum.inr e) n_rl⟩
theorem x_put {x : PySem.Str} {tv : TE} (h : ET C p m z tv s fun d => ∃ s', R (.nx z s') ∧ s'.cells = s.cells ∧ ∀ vc v F, Dt C F v d → putK (encPool vc s) (kk x) v = encPool vc s') : XT C p m z (sDPut (tVar 0) (tC (.str x)) tv) s R := fun F0 H0 F H σ w D f g =>
  h F0 H0 F H σ w _ fun v F1 H1 d pd g1 w1 d1 => by
    obtain ⟨s', r, hc, hp⟩ := pd
    obtain ⟨n, vc, dc, e⟩ := w1.pl
    refine ⟨.ref p, w1.s0, p, _, rfl, .inl ⟨_, kk x, e, rfl, by show 7 < sizeLine; decide, rfl⟩, ?_⟩
    rw [hp vc v F1 d1]
    refine f z s' F1 _ σ r ⟨fun a u q => ?_, ⟨w1.gr.f, fun a u hn q => ?_, fun a q => ?_, w1.gr.fr⟩, ⟨n, vc, by rw [hc]; exact dc, upd_same⟩, w1.s0, w1.s1, w1.s2, w1.ln⟩
    · rw [upd_ne (ne_of_none q n)]; exact w1.sub a u q
    · rw [upd_ne (fun z => hn (by rw [z]))]; exact w1.gr.h a u hn q
    · by_cases ha : a = p
      · rw [ha, upd_same]; simp
      · rw [upd_ne ha]; exact w1.gr.th a q
theorem x_take {C CB kinds : Addr} {K : PySem.W.Frag} {Q : Dat → Prop} {m : Nat} (hm : 0 < m) (hm2 : m < 1000000) (q : ∀ i : Nat, i < m → Q (.int (i : Int))) : XT C p (m : Int) none (t__law_take K C CB kinds) s (fun o => match o with | .rt d => Q d | _ => False) := by
  unfold t__law_take
  refine x_seq (x_put (t_op (t_get .turn (t_int (rv_add ?_)))))
  refine ⟨{ s with turn := s.turn + 1 }, ?_, rfl, fun vc v F d => by cases d; exact put_1⟩
  generalize ({ s with turn := s.turn + 1 } : Pool) = s
  have tail : ∀ (s : Pool), XT C p (m : Int) none (tSeq (tIfS (tTest (tOp rEq (tDGet (tVar 0) (tC (.str "left"))) (tC (.int 0)))) (tRet (tCall (spP C pre__law_mixed) [] E0 (tCons (tDGet (tVar 0) (tC (.str "seed"))) (tCons (tDGet (tVar 0) (tC (.str "turn"))) (tCons (tVar 1) tNil))))) tNext)
    (tSeq (sDPut (tVar 0) (tC (.str "left")) (tOp rSubI (tDGet (tVar 0) (tC (.str "left"))) (tC (.int 1))))
    (tSeq (tIfS (tB (tDGet (tVar 0) (tC (.str "small")))) (tRet (tCall (spP C pre__law_mixed) [] E0 (tCons (tDGet (tVar 0) (tC (.str "rest"))) (tCons (tDGet (tVar 0) (tC (.str "turn"))) (tCons (tVar 1) tNil))))) tNext)
    (tSeq (tAsg (tOp rModI (tCB rInt1 (tCons (tDGet (tVar 0) (tC (.str "rest"))) tNil)) (tVar 1)) (gName 2))
    (tSeq (sDPut (tVar 0) (tC (.str "rest")) (tOp rDivI (tDGet (tVar 0) (tC (.str "rest"))) (tVar 1)))
    (tSeq (tIfS (tTest (tOp rEq (tDGet (tVar 0) (tC (.str "rest"))) (tC (.int 0)))) (sDPut (tVar 0) (tC (.str "left")) (tC (.int 0))) tNext)
    (tRet (tVar 2)))))))) s (fun o => match o with | .rt d => Q d | _ => False) := by
    intro s
    have mix : ∀ (x : PySem.Str) (n : Int) (s : Pool), Fld C s x (.int n) → XT C p (m : Int) none (tRet (tCall (spP C pre__law_mixed) [] E0 (tCons (tDGet (tVar 0) (tC (.str x))) (tCons (tDGet (tVar 0) (tC (.str "turn"))) (tCons (tVar 1) tNil))))) s (fun o => match o with
      | .nx z' s' => False
      | .rt d => Q d) := fun x n s hf => x_ret (t_call (t_cons (t_get hf (t_cons (t_get .turn (t_cons (t_var1 (t_nil ⟨n, s.turn, m, rfl, hm, q⟩))))))))
    refine x_seq (x_if (t_test (t_op (t_get .left (t_int (rv_eqI (isB_mk ⟨fun _ => ?_, fun _ => ?_⟩)))))))
    · exact x_ret (t_call (t_cons (t_get .seed (t_cons (t_get .turn (t_cons (t_var1 (t_nil ⟨s.seed, s.turn, m, rfl, hm, q⟩))))))))
    refine x_nx ?_
    refine x_seq (x_put (t_op (t_get .left (t_int (rv_sub ?_)))))
    refine ⟨{ s with left := s.left - 1 }, ?_, rfl, fun vc v F d => by cases d; exact put_5⟩
    generalize ({ s with left := s.left - 1 } : Pool) = s
    refine x_seq (x_if (t_B (t_get .small (isB_mk ⟨fun _ => ?_, fun _ => ?_⟩))))
    · exact x_ret (t_call (t_cons (t_get .rest (t_cons (t_get .turn (t_cons (t_var1 (t_nil ⟨s.rest, s.turn, m, rfl, hm, q⟩))))))))
    refine x_nx ?_
    refine x_seq (x_asg (t_op (t_cb (t_cons (t_get .rest (t_nil (rc_intI (t_var1 (rv_mod (by omega) ?_)))))))))
    have h3 : 0 ≤ s.rest % (m : Int) := Int.emod_nonneg _ (by omega)
    have h4 : s.rest % (m : Int) < m := Int.emod_lt_of_pos _ (by omega)
    have hq := q (s.rest % (m : Int)).toNat (by omega)
    rw [Int.toNat_of_nonneg h3] at hq
    generalize s.rest % (m : Int) = dr at hq
    refine x_seq (x_put (t_op (t_get .rest (t_var1 (rv_div ⟨by omega, by omega⟩ ?_)))))
    refine ⟨{ s with rest := s.rest / m }, ?_, rfl, fun vc v F d => by cases d; exact put_2⟩
    generalize ({ s with rest := s.rest / m } : Pool) = s
    refine x_seq (x_if (t_test (t_op (t_get .rest (t_int (rv_eqI (isB_mk ⟨fun _ => ?_, fun _ => ?_⟩)))))))
    · refine x_put (t_int ⟨{ s with left := 0 }, ?_, rfl, fun vc v F d => by cases d; exact put_5⟩)
      exact x_ret (t_var2 rfl hq)
    · refine x_nx ?_
      exact x_ret (t_var2 rfl hq)
  refine x_seq (x_if (t_and (t_test (t_op (t_get .left (t_int (rv_eqI (isB_mk ⟨fun _ => ?_, fun _ => ?_⟩))))))))
  · refine t_test (t_op (t_get .at_ (t_cb (t_cons (t_get .cells (t_nil (rc_lenL (rv_lt (isB_mk ⟨fun e => ?_, fun _ => ?_⟩)))))))))
    · have hlt : s.at_ < s.cells.length := by
        have := of_decide_eq_true e
        rw [List.length_map] at this
        omega
      obtain ⟨c, hc⟩ : ∃ c, s.cells[s.at_]? = some c := ⟨_, List.getElem?_eq_getElem hlt⟩
      refine x_seq (x_put (t_op (t_get .cells (t_get .at_ (rv_ixL (ixmap hc) ?_)))))
      refine ⟨{ s with rest := c }, ?_, rfl, fun vc v F d => by cases d; exact put_2⟩
      generalize ({ s with rest := c } : Pool) = s
      refine x_seq (x_put (t_op (t_get .at_ (t_int (rv_add ?_)))))
      refine ⟨{ s with at_ := s.at_ + 1 }, ?_, rfl, fun vc v F d => by cases d; exact put_3⟩
      generalize ({ s with at_ := s.at_ + 1 } : Pool) = s
      refine x_seq (x_put (t_op (t_get .rest (t_op (t_int (t_int (rv_pow ⟨by decide, by decide, by decide⟩ (rv_lt ?_))))))))
      refine ⟨{ s with small := decide (s.rest < 10 ^ (18 : Int).toNat) }, ?_, rfl, fun vc v F d => by cases d; exact put_4⟩
      generalize ({ s with small := decide (s.rest < 10 ^ (18 : Int).toNat) } : Pool) = s
      refine x_put (t_op (t_lst (t_cons (t_int (t_cons (t_int (t_nil ⟨by show 2 ≤ 1000; decide, t_cb (t_cons (t_get .small (t_nil (rc_intB ?_))))⟩)))))))
      cases s.small with
      | true =>
        refine rv_ixL (z := .int 2) rfl ⟨{ s with left := 2 }, ?_, rfl, fun vc v F d => by cases d; exact put_5⟩
        exact tail _
      | false =>
        refine rv_ixL (z := .int 60) rfl ⟨{ s with left := 60 }, ?_, rfl, fun vc v F d => by cases d; exact put_5⟩
        exact tail _
    · exact x_nx (tail _)
  · exact ⟨fun e => (by cases e), fun _ => x_nx (tail _)⟩
end
end Dl


namespace Dl
open PySem L2 PyProof.Rows
section
variable {C CB kinds : Addr} {K : PySem.W.Frag} {W : WX} {R : Out → Prop} {δ : List Slot}
local macro_rules | `(tactic| walk_at "ev") => `(tactic| first
  | ((with_reducible refine ex_norm (δ' := ?dn) ?he ?_); (case he => (simp only [slots, wipeS, List.map_cons, List.map_nil, List.replicate_succ, List.replicate_zero, List.cons_append, List.nil_append, List.set_cons_zero, List.set_cons_succ]; exact rfl)))
  | (with_reducible refine ex_seq ?_) | (with_reducible refine ex_if ?_) | ((with_reducible refine ex_retF (i := 2) (ds := ?dd) ?hf ?_); (case hf => exact rfl)) | ((with_reducible refine ex_retF (i := 3) (ds := ?dd) ?hf ?_); (case hf => exact rfl)) | ((with_reducible refine ex_retF (i := 4) (ds := ?dd) ?hf ?_); (case hf => exact rfl)) | ((with_reducible refine ex_retF (i := 5) (ds := ?dd) ?hf ?_); (case hf => exact rfl)) | ((with_reducible refine ex_retF (i := 8) (ds := ?dd) ?hf ?_); (case hf => exact rfl)) | (with_reducible refine ex_ret ?_) | (with_reducible refine ex_nx ?_) | (with_reducible refine ex_bk ?_)
  | (with_reducible refine ev_int ?_) | (with_reducible refine ev_str ?_) | (with_reducible refine ev_bl ?_) | (with_reducible refine ev_non ?_)
  | ((with_reducible refine ev_var (d := ?dd) ?hv ?_); (case hv => exact rfl))
  | (with_reducible refine ea_nil ?_) | (with_reducible refine ea_cons ?_) | (with_reducible refine ev_call ?_) | ((with_reducible refine ev_callS ?hv ?_); (case hv => exact rfl))
  | (with_reducible refine et_test ?_) | (with_reducible refine et_B ?_) | (with_reducible refine et_and ?_) | (with_reducible refine et_or ?_) | (with_reducible refine et_not ?_) | (with_reducible refine et_yes ?_)
  | (with_reducible refine ev_andV ?_) | (with_reducible refine ev_orV ?_) | (with_reducible refine ev_notV ?_) | (with_reducible refine ev_if ?_) | (with_reducible refine ev_chain ?_)
  | (with_reducible refine ev_isi ?_) | (with_reducible refine ev_isi2 ?_) | (with_reducible refine ev_tup ?_) | (with_reducible refine EvN.ev (en_sl ?_)) | (with_reducible refine ev_sl ?_) | (with_reducible refine eo_none ?_) | (with_reducible refine eo_some ?_)
  | (with_reducible refine isB_mk ?_)
  | (with_reducible refine rv_add ?_) | (with_reducible refine rv_sub ?_) | (with_reducible refine rv_lt ?_) | (with_reducible refine rv_le ?_) | (with_reducible refine rv_gt ?_) | (with_reducible refine rv_ge ?_)
  | (with_reducible refine rv_eqI ?_) | (with_reducible refine rv_neI ?_) | (with_reducible refine rv_eqS ?_) | (with_reducible refine rv_neS ?_) | (with_reducible refine rv_eqB ?_) | (with_reducible refine rv_isN ?_)
  | (with_reducible refine rc_lenL ?_) | (with_reducible refine rc_lenT ?_) | (with_reducible refine rc_intI ?_) | (with_reducible refine rc_intB ?_) | (with_reducible refine rc_tupT ?_) | (with_reducible refine rc_tupL ?_)
  | (with_reducible refine ev_getP ?_) | (with_reducible refine ev_getC ?_) | (with_reducible refine ev_getR ?_)
  | ((with_reducible refine rv_ixT (z := ?zz) ?hi ?_); (case hi => exact rfl)) | ((with_reducible refine rv_ixL (z := ?zz) ?hi ?_); (case hi => exact rfl))
  | ((with_reducible refine ev_lenO (ds := ?dd) ?hv ?_); (case hv => exact rfl)) | (with_reducible refine EvN.ev (en_lst ?_)) | (with_reducible refine EvN.ev (en_list ?_)) | (with_reducible refine EvN.ev (en_sl ?_)) | (with_reducible refine EvN.ev (en_cat ?_))
  | (with_reducible refine ev_cb ?_) | ((with_reducible refine ev_opO (ds := ?dd) ?hv ?_); (case hv => exact rfl)) | ((with_reducible refine ev_opP (ds := ?dd) ?hv ?_); (case hv => exact rfl)) | (with_reducible refine ev_op ?_)
  | (with_reducible refine ei_seq ?_) | (with_reducible refine ei_enum ?_) | (with_reducible refine ei_range ?_) | (with_reducible refine ei_str ?_)
  | (with_reducible refine mk_o ?_) | (with_reducible refine mk_n ?_) | (with_reducible refine mk_i ?_) | (with_reducible refine mk_s ?_) | (with_reducible refine mk_l ?_) | (with_reducible refine mk_b ?_)
  | (with_reducible refine mk_sl ?_) | (with_reducible refine mk_st ?_) | (with_reducible refine mk_al ?_) | (with_reducible refine mk_at ?_)
  | ((with_reducible refine and_len ?ll ?_); (case ll => exact Nat.le_of_ble_eq_true rfl)) | (refine br_t rfl ?_) | (refine br_f rfl ?_))
local macro_rules | `(tactic| walk_at "isi") => `(tactic| first | refine isi1 rfl kb_ii ?_ | refine isi1 rfl kb_is ?_ | refine isi1 rfl kb_ib ?_ | refine isi1 rfl kb_il ?_ | refine isi1 rfl kb_it ?_ | refine isi1 rfl kb_si ?_ | refine isi1 rfl kb_ss ?_ | refine isi1 rfl kb_sb ?_ | refine isi1 rfl kb_sl ?_ | refine isi1 rfl kb_st ?_ | refine isi1 rfl kb_ll ?_ | refine isi1 rfl kb_lt ?_ | refine isi1 rfl kb_li ?_ | refine isi1 rfl kb_ls ?_ | refine isi1 rfl kb_lb ?_ | refine isi1 rfl kb_tt ?_ | refine isi1 rfl kb_tl ?_ | refine isi1 rfl kb_ti ?_ | refine isi1 rfl kb_ts ?_ | refine isi1 rfl kb_tb ?_ | refine isi1 rfl kb_ni ?_ | refine isi1 rfl kb_ns ?_ | refine isi1 rfl kb_nb ?_ | refine isi1 rfl kb_nl ?_ | refine isi1 rfl kb_nt ?_)
local macro_rules | `(tactic| walk_at "go") => `(tactic| repeat (walk_at "ev"))
local macro_rules | `(tactic| walk_at "f1") => `(tactic| ((refine ex_freeze (i := 1) (ds := ?dd) ?hf ?_); (case hf => exact rfl)))
local macro_rules | `(tactic| walk_at "f2") => `(tactic| ((refine ex_freeze (i := 2) (ds := ?dd) ?hf ?_); (case hf => exact rfl)))
local macro_rules | `(tactic| walk_at "f3") => `(tactic| ((refine ex_freeze (i := 3) (ds := ?dd) ?hf ?_); (case hf => exact rfl)))
local macro_rules | `(tactic| walk_at "f4") => `(tactic| ((refine ex_freeze (i := 4) (ds := ?dd) ?hf ?_); (case hf => exact rfl)))
local macro_rules | `(tactic| walk_at "f5") => `(tactic| ((refine ex_freeze (i := 5) (ds := ?dd) ?hf ?_); (case hf => exact rfl)))
local macro_rules | `(tactic| walk_at "f6") => `(tactic| ((refine ex_freeze (i := 6) (ds := ?dd) ?hf ?_); (case hf => exact rfl)))
local macro_rules | `(tactic| walk_at "f7") => `(tactic| ((refine ex_freeze (i := 7) (ds := ?dd) ?hf ?_); (case hf => exact rfl)))
local macro_rules | `(tactic| walk_at "f8") => `(tactic| ((refine ex_freeze (i := 8) (ds := ?dd) ?hf ?_); (case hf => exact rfl)))
local macro_rules | `(tactic| walk_at "f9") => `(tactic| ((refine ex_freeze (i := 9) (ds := ?dd) ?hf ?_); (case hf => exact rfl)))
local macro_rules | `(tactic| walk_at "f10") => `(tactic| ((refine ex_freeze (i := 10) (ds := ?dd) ?hf ?_); (case hf => exact rfl)))
local macro_rules | `(tactic| walk_at "f11") => `(tactic| ((refine ex_freeze (i := 11) (ds := ?dd) ?hf ?_); (case hf => exact rfl)))
local macro_rules | `(tactic| walk_at "f12") => `(tactic| ((refine ex_freeze (i := 12) (ds := ?dd) ?hf ?_); (case hf => exact rfl)))
local macro_rules | `(tactic| walk_at "f13") => `(tactic| ((refine ex_freeze (i := 13) (ds := ?dd) ?hf ?_); (case hf => exact rfl)))
local macro_rules | `(tactic| walk_at "nf") => `(tactic| ((with_reducible refine ev_norm (δ' := ?dn) ?he ?_); (case he => (simp only [slots, wipeS, List.map_cons, List.map_nil, List.replicate_succ, List.replicate_zero, List.cons_append, List.nil_append, List.set_cons_zero, List.set_cons_succ]; exact rfl))))
def nil0 : Hp := fun _ => none
def cellsOk (o : Out) : Prop := ∃ (sd : Int) (ns : List Int), o = .nx [.emp, .val (.int sd), .emp, .own (ns.map .int)]
theorem pool_mid {sd : Int} {ns : List Int} (hl : ns.length ≤ 1000) : Ex C CB noX (tSeq (tIfS (tAnd (tTest (tOp rGtI (tCB (rLenV K) (tCons (tVar 3) tNil)) (tC (.int 0)))) (tTest (tOp rEq (tOp rModI (tCB rInt1 (tCons (tOp (rIx K) (tVar 3) (tC (.int 0))) tNil)) (tC (.int 2))) (tC (.int 1))))) (tAsg (tLst tNil) (gName 3)) tNext)
    (tIfS (tTest (tOp rGtI (tCB (rLenV K) (tCons (tVar 3) tNil)) (tC (.int 0)))) (tAsg (tOp rDivI (tOp (rIx K) (tVar 3) (tC (.int 0))) (tC (.int 2))) (gSub (tVar 3) (tC (.int 0)) rSetL)) tNext)) [.emp, .val (.int sd), .emp, .own (ns.map .int)] cellsOk := by
  have tail : ∀ ns : List Int, Ex C CB noX (tIfS (tTest (tOp rGtI (tCB (rLenV K) (tCons (tVar 3) tNil)) (tC (.int 0)))) (tAsg (tOp rDivI (tOp (rIx K) (tVar 3) (tC (.int 0))) (tC (.int 2))) (gSub (tVar 3) (tC (.int 0)) rSetL)) tNext) [.emp, .val (.int sd), .emp, .own (ns.map .int)] cellsOk := by
    intro ns
    walk_at "go"
    refine ⟨fun e => ?_, fun e => ?_⟩
    · cases ns with
      | nil => exact absurd (of_decide_eq_true e) (by decide)
      | cons n ns =>
        refine ex_setO rfl ?_
        walk_at "go"
        refine rv_ixO (z := .int n) (ixnat (i := 0) rfl) ?_
        walk_at "go"
        refine rv_div ⟨by decide, by decide⟩ ?_
        walk_at "go"
        exact ⟨0, rfl, by show 0 < (ns.map Dat.int).length + 1; omega, sd, n / 2 :: ns, rfl⟩
    · walk_at "go"
      exact ⟨sd, ns, rfl⟩
  walk_at "go"
  refine ⟨fun e => ?_, fun e => ?_⟩
  · cases ns with
    | nil => exact absurd (of_decide_eq_true e) (by decide)
    | cons n ns =>
      walk_at "go"
      refine rv_ixO (z := .int n) (ixnat (i := 0) rfl) ?_
      walk_at "go"
      refine rv_mod (by decide) ?_
      walk_at "go"
      refine ⟨fun e => ?_, fun e => ?_⟩
      · refine ex_asgO (en_lst (ea_nil ⟨Nat.zero_le _, ?_⟩))
        exact tail []
      · refine ex_nx ?_
        exact tail (n :: ns)
  · refine br_f rfl ?_
    refine ex_nx ?_
    exact tail ns
theorem ints_dts {F : Hp} (ns : List Int) : Dts C F (ns.map V.int) (ns.map Dat.int) := Dts.of_ints ns
theorem merge7 {a b c d e f g : V} : mergeK [] ([(kk "cells", a), (kk "at", b), (kk "rest", c), (kk "left", d), (kk "small", e), (kk "seed", f), (kk "turn", g)] : List (Key × V)) = [(kk "cells", a), (kk "at", b), (kk "rest", c), (kk "left", d), (kk "small", e), (kk "seed", f), (kk "turn", g)] := by
  have p2 : putK [(kk "cells", a)] (kk "at") b = [(kk "cells", a), (kk "at", b)] := by
    rw [putK_new b ((valV_neg n_ca).trans valV_nil)]; rfl
  have p3 : putK [(kk "cells", a), (kk "at", b)] (kk "rest") c = [(kk "cells", a), (kk "at", b), (kk "rest", c)] := by
    rw [putK_new c ((valV_neg n_cr).trans ((valV_neg n_ar).trans valV_nil))]; rfl
  have p4 : putK [(kk "cells", a), (kk "at", b), (kk "rest", c)] (kk "left") d = [(kk "cells", a), (kk "at", b), (kk "rest", c), (kk "left", d)] := by
    rw [putK_new d ((valV_neg n_cl).trans ((valV_neg n_al).trans ((valV_neg n_rl).trans valV_nil)))]; rfl
  have p5 : putK [(kk "cells", a), (kk "at", b), (kk "rest", c), (kk "left", d)] (kk "small") e = [(kk "cells", a), (kk "at", b), (kk "rest", c), (kk "left", d), (kk "small", e)] := by
    rw [putK_new e ((valV_neg n_cs).trans ((valV_neg n_as).trans ((valV_neg n_rs).trans ((valV_neg n_ls).trans valV_nil))))]; rfl
  have p6 : putK [(kk "cells", a), (kk "at", b), (kk "rest", c), (kk "left", d), (kk "small", e)] (kk "seed") f = [(kk "cells", a), (kk "at", b), (kk "rest", c), (kk "left", d), (kk "small", e), (kk "seed", f)] := by
    rw [putK_new f ((valV_neg n_ce).trans ((valV_neg n_ae).trans ((valV_neg n_re).trans ((valV_neg n_le).trans ((valV_neg n_se).trans valV_nil)))))]; rfl
  have p7 : putK [(kk "cells", a), (kk "at", b), (kk "rest", c), (kk "left", d), (kk "small", e), (kk "seed", f)] (kk "turn") g = [(kk "cells", a), (kk "at", b), (kk "rest", c), (kk "left", d), (kk "small", e), (kk "seed", f), (kk "turn", g)] := by
    rw [putK_new g ((valV_neg n_ct).trans ((valV_neg n_at).trans ((valV_neg n_rt).trans ((valV_neg n_lt).trans ((valV_neg n_st).trans ((valV_neg n_et).trans valV_nil))))))]; rfl
  show putK (putK (putK (putK (putK (putK (putK ([] : List (Key × V)) (kk "cells") a) (kk "at") b) (kk "rest") c) (kk "left") d) (kk "small") e) (kk "seed") f) (kk "turn") g = _
  rw [show putK ([] : List (Key × V)) (kk "cells") a = [(kk "cells", a)] by rw [putK_new a valV_nil]; rfl, p2, p3, p4, p5, p6, p7]
theorem pool_raw {a : Addr} {ns : List Int} {H : Hp} {D : Ends} (hS : SqL K H a (ns.map V.int)) (hl : ns.length ≤ 1000)
    (hD : ∀ p vc s F' H', F' p = none → Dt C F' vc (.lst (s.cells.map .int)) → H' p = some (.dK (encPool vc s)) → Same F' H' → D.rt (.ref p) H') : t__law_pool K C CB kinds D [some (.ref a), none, none, none] H := by
  unfold t__law_pool
  refine ⟨.ref a, rfl, a, rfl, .inl ⟨⟨_, hS⟩, fun i m σ' H' => m = ns.length - i ∧ i ≤ ns.length ∧ H' = H ∧ ∃ (sd : Int) (x : Option V), σ' = [some (.ref a), some (.int sd), x, none], ⟨ns.length, by simp, Nat.zero_le _, rfl, 7, none, rfl⟩, ?_⟩⟩
  rintro i m' σ' H' ⟨rfl, hi, rfl, sd, x, rfl⟩
  by_cases hlt : i < ns.length
  · refine .inr ⟨⟨_, _, hS, by rw [List.getElem?_map, List.getElem?_eq_getElem hlt]; rfl⟩, fun σ2 H2 => H2 = H' ∧ ∃ (sd : Int) (x : Option V), σ2 = [some (.ref a), some (.int sd), x, none], fun σ2 H2 ⟨e1, sd2, x2, e2⟩ => ⟨ns.length - (i + 1), by omega, rfl, hlt, e1, sd2, x2, e2⟩, fun y H2 hy => ?_⟩
    obtain ⟨rfl, q⟩ := hy
    have hq := q _ hS
    rw [List.getElem?_map, List.getElem?_eq_getElem hlt] at hq
    obtain rfl : V.int ns[i] = y := Option.some.inj hq
    refine ⟨.int sd, rfl, sd, 1000003, rfl, rfl, .inr ⟨by decide, by decide⟩, .int ns[i], rfl, _, _, rfl, rfl, .inl ⟨_, rfl, _, _, rfl, rfl, (show (0 : Int) < 2305843009213693951 by decide), rfl, _, _, rfl⟩⟩
  · refine .inl ⟨⟨_, hS, by rw [List.length_map]; omega⟩, ?_⟩
    refine ⟨.ref a, rfl, a, _, rfl, .inl hS, fun l hl0 => ?_⟩
    have hdl : Dts C nil0 (ns.map V.int) (ns.map Dat.int) := Dts.of_ints ns
    have w : Wd C ⟨none, nil0, H'⟩ nil0 (upd H' l (.lst (ns.map V.int))) [some (.ref a), some (.int sd), x, some (.ref l)] [.emp, .val (.int sd), .emp, .own (ns.map .int)] := by
      refine ⟨fun _ _ e => (by cases e), Gr.newO hl0, fun j k e => ?_, fun i j di dj q e1 e2 _ _ => ?_, fun q e => (by cases e)⟩
      · match j, e with
        | 0, e => cases e; exact ⟨_, rfl, trivial⟩
        | 1, e => cases e; exact ⟨_, rfl, _, rfl, .int _⟩
        | 2, e => cases e; exact ⟨_, rfl, trivial⟩
        | 3, e => cases e; exact ⟨_, rfl, l, _, rfl, upd_same, hdl, rfl, hl0⟩
      · match i, j, e1, e2 with
        | 3, 3, _, _ => rfl
        | 3, 0, _, e => cases e
        | 3, 1, _, e => cases e
        | 3, 2, _, e => cases e
    refine pool_mid (C := C) (CB := CB) (K := K) hl _ _ _ _ w { D with nx := _ } ⟨fun δ e F1 H1 σ1 w1 => ?_, fun δ e => ?_, fun δ e => ?_, fun δ e => ?_, fun δ e => ?_⟩
    · obtain ⟨sd1, ns1, e⟩ := e
      cases e
      obtain ⟨x1, hx1, v1, e1, d1⟩ := w1.sl 1 _ rfl
      obtain ⟨x3, hx3, c, vs, e3, hc, dc, hn, _⟩ := w1.sl 3 _ rfl
      subst e1 e3
      cases d1
      intro p hp
      refine ⟨.ref c, hx3, .int sd1, hx1, upd_same, [(kk "cells", .ref c), (kk "at", .int 0), (kk "rest", .int 0), (kk "left", .int 0), (kk "small", .bl true), (kk "seed", .int sd1), (kk "turn", .int 0)], rfl, by show 7 ≤ 15; decide, ?_⟩
      rw [upd_upd, merge7]
      have hpc : p ≠ c := fun z => by rw [z, hc] at hp; cases hp
      have hcp : c ≠ p := fun z => hpc z.symm
      refine hD p (.ref c) ⟨ns1, 0, 0, 0, true, sd1, 0⟩ (upd F1 c (.lst vs)) _ ?_ (.lst upd_same (dc.mono fun b u q => ?_)) upd_same (fun b u q => ?_)
      · rw [upd_ne hpc]; exact none_of w1.sub hp
      · rw [upd_ne (ne_of_none q hn)]; exact q
      · by_cases hb : b = c
        · rw [hb, upd_same] at q
          rw [hb, upd_ne hcp, hc]; exact q
        · rw [upd_ne hb] at q
          have q1 := w1.sub b u q
          rw [upd_ne (ne_of_none q1 hp)]; exact q1
    · obtain ⟨_, _, e⟩ := e; cases e
    · obtain ⟨_, _, e⟩ := e; cases e
    · obtain ⟨_, _, e⟩ := e; cases e
    · obtain ⟨_, _, e⟩ := e; cases e
end
end Dl


namespace Dl
open PySem L2 PyProof.Rows
section
variable {P : Program} {w : World} {K : PySem.W.Frag} {mg : PySem.Str → Option Value} {base : Heap} {C CB CU fI kinds : Addr}
/-! ### Net_init: 0 self, 1 processes, 2 channels, 3 rules, 4 rows, 5 at, 6 row, 7 ways, 8 way, 9 told, 10 rule -/
abbrev s_Net_init : Stmt := (inClass (topS 22) 0)
abbrev n_Net_init : List PySem.Str := ["self", "processes", "channels", "rules", "rows", "at", "row", "ways", "way", "told", "rule"]
theorem sc_Net_init : FnScope n_Net_init ["self", "processes", "channels", "rules"] (defScope s_Net_init) := ⟨rfl, rfl, rfl, by decide +kernel, rfl, by decide +kernel, by decide +kernel⟩
def t_Net_init (K : PySem.W.Frag) (C CB kinds : Addr) : TS := (tSeq (tAsg (tCall (spP C pre__rows) [] E0 (tCons (tVar 1) (tCons (tC (.int 1)) (tCons (tC (.int 5)) tNil)))) (gName 4))
    (tSeq (tIfS (tOr (tTest (tOp rIsN (tVar 4) (tC .non))) (tNot (tB (tCB (rAll K) (tCons (tLc (iEnumA K (tCons (tVar 4) tNil)) (gTup K 2 (gCons (gName 5) (gCons (gName 6) gNil))) tYes (tCall (spP C pre_is_process) [] E0 (tCons (tVar 6) (tCons (tSl (rSlA K) (tVar 4) tNoPart (tPart (tVar 5))) tNil))) [5, 6]) tNil))))) tNever tNext)
    (tSeq (tAsg (tCall (spP C pre__rows) [] E0 (tCons (tVar 2) (tCons (tC (.int 0)) (tCons (tC (.int 8)) tNil)))) (gName 7))
    (tSeq (tIfS (tOr (tTest (tOp rIsN (tVar 7) (tC .non))) (tNot (tB (tCB (rAll K) (tCons (tLc (iEnumA K (tCons (tVar 7) tNil)) (gTup K 2 (gCons (gName 5) (gCons (gName 8) gNil))) tYes (tCall (spP C pre_is_channel) [] E0 (tCons (tVar 8) (tCons (tVar 4) (tCons (tSl (rSlA K) (tVar 7) tNoPart (tPart (tVar 5))) tNil)))) [5, 8]) tNil))))) tNever tNext)
    (tSeq (tAsg (tCall (spP C pre__rows) [] E0 (tCons (tVar 3) (tCons (tC (.int 0)) (tCons (tC (.int 40)) tNil)))) (gName 9))
    (tSeq (tIfS (tOr (tTest (tOp rIsN (tVar 9) (tC .non))) (tNot (tB (tCB (rAll K) (tCons (tLc (iSeq K (tVar 9)) (gName 10) tYes (tCall (spP C pre_is_rule) [] E0 (tCons (tVar 10) (tCons (tVar 4) (tCons (tVar 7) tNil)))) [10]) tNil))))) tNever tNext)
    (tSeq (sFld K (tVar 0) (tVar 4) "processes")
    (tSeq (sFld K (tVar 0) (tVar 7) "channels")
    (sFld K (tVar 0) (tVar 9) "rules")))))))))
theorem d_Net_init (T : Bt K mg C kinds) {f__rows : Addr} {fd__rows : FuncData} (c__rows : Cal K mg "_rows" f__rows fd__rows ["value", "least", "most"]) (G__rows : FnOk P w K mg base CX0 5 f__rows fd__rows ["value", "least", "most"] (spP C pre__rows)) {f_is_process : Addr} {fd_is_process : FuncData} (c_is_process : Cal K mg "is_process" f_is_process fd_is_process ["value", "elder"]) (G_is_process : FnOk P w K mg base CX0 2 f_is_process fd_is_process ["value", "elder"] (spP C pre_is_process)) {f_is_channel : Addr} {fd_is_channel : FuncData} (c_is_channel : Cal K mg "is_channel" f_is_channel fd_is_channel ["value", "processes", "elder"]) (G_is_channel : FnOk P w K mg base CX0 3 f_is_channel fd_is_channel ["value", "processes", "elder"] (spP C pre_is_channel)) {f_is_rule : Addr} {fd_is_rule : FuncData} (c_is_rule : Cal K mg "is_rule" f_is_rule fd_is_rule ["value", "processes", "channels"]) (G_is_rule : FnOk P w K mg base CX0 4 f_is_rule fd_is_rule ["value", "processes", "channels"] (spP C pre_is_rule)) {f : Addr} {cdv : Value} {A : Around} {outer : List Env} {s : Shared} {H : Hp} {E : XK} (hr : Room 5 (A.deeper (envOfC "Net.__init__" (defScope s_Net_init) s.heap.objs.size f cdv))) :
  PSs (cxOf CX0 P w K mg base n_Net_init "Net.__init__" (defScope s_Net_init) f cdv A outer s H E).nox (defBody s_Net_init) (t_Net_init K C CB kinds ) :=
  (pss_cons (ps_set (i := 4) sc_Net_init.nd rfl (by first | exact Or.inl rfl | exact Or.inr rfl) (pe_call G__rows (hr.mono (by decide)) rfl c__rows.gl c__rows.kp c__rows.bd .nil pass0 (pa_cons (pv 1) (pa_cons pe_int (pa_cons (gc T.cMOST_PROCESSES rfl rfl) pa_nil)))))
    (pss_cons (ps_if (PW.pt (pw_or (pt_cmpR op_isN (pv 4) pe_non (nomark _)) (pw_or1 (pt_not (pt_val (pe_callB (cr_all rfl) (by rfl) T.b_all (by decide +kernel) (pa_cons (pe_lc (own := [("at", 5), ("row", 6)]) (g := (gTup K 2 (gCons (gName 5) (gCons (gName 6) gNil)))) (tt := tYes) (te := (tCall (spP C pre_is_process) [] E0 (tCons (tVar 6) (tCons (tSl (rSlA K) (tVar 4) tNoPart (tPart (tVar 5))) tNil)))) rfl sc_Net_init.nd (pi_enumA rfl T.b_enumerate (pa_cons (pv 4) pa_nil)) (blkOk_by (own := [("at", 5), ("row", 6)]) (N := n_Net_init) (sc := defScope s_Net_init) (by decide +kernel)) (fun _ _ _ _ _ => (pg_tup rfl (pgs_cons (pg_name (i := 5) sc_Net_init.nd rfl (by first | exact Or.inl rfl | exact Or.inr rfl)) (pgs_cons (pg_name (i := 6) sc_Net_init.nd rfl (by first | exact Or.inl rfl | exact Or.inr rfl)) pgs_nil)))) (fun _ _ _ _ _ => pts_nil) (fun _ _ _ _ _ => (pe_call G_is_process (hr.mono (by decide)) rfl c_is_process.gl c_is_process.kp c_is_process.bd .nil pass0 (pa_cons (pv 6) (pa_cons (pe_slice sl_tupA (pv 4) po_none (po_some (pv 5))) pa_nil))))) pa_nil))))))) (pss_one ps_never) pss_nil)
    (pss_cons (ps_set (i := 7) sc_Net_init.nd rfl (by first | exact Or.inl rfl | exact Or.inr rfl) (pe_call G__rows (hr.mono (by decide)) rfl c__rows.gl c__rows.kp c__rows.bd .nil pass0 (pa_cons (pv 2) (pa_cons pe_int (pa_cons (gc T.cMOST_CHANNELS rfl rfl) pa_nil)))))
    (pss_cons (ps_if (PW.pt (pw_or (pt_cmpR op_isN (pv 7) pe_non (nomark _)) (pw_or1 (pt_not (pt_val (pe_callB (cr_all rfl) (by rfl) T.b_all (by decide +kernel) (pa_cons (pe_lc (own := [("at", 5), ("way", 8)]) (g := (gTup K 2 (gCons (gName 5) (gCons (gName 8) gNil)))) (tt := tYes) (te := (tCall (spP C pre_is_channel) [] E0 (tCons (tVar 8) (tCons (tVar 4) (tCons (tSl (rSlA K) (tVar 7) tNoPart (tPart (tVar 5))) tNil))))) rfl sc_Net_init.nd (pi_enumA rfl T.b_enumerate (pa_cons (pv 7) pa_nil)) (blkOk_by (own := [("at", 5), ("way", 8)]) (N := n_Net_init) (sc := defScope s_Net_init) (by decide +kernel)) (fun _ _ _ _ _ => (pg_tup rfl (pgs_cons (pg_name (i := 5) sc_Net_init.nd rfl (by first | exact Or.inl rfl | exact Or.inr rfl)) (pgs_cons (pg_name (i := 8) sc_Net_init.nd rfl (by first | exact Or.inl rfl | exact Or.inr rfl)) pgs_nil)))) (fun _ _ _ _ _ => pts_nil) (fun _ _ _ _ _ => (pe_call G_is_channel (hr.mono (by decide)) rfl c_is_channel.gl c_is_channel.kp c_is_channel.bd .nil pass0 (pa_cons (pv 8) (pa_cons (pv 4) (pa_cons (pe_slice sl_tupA (pv 7) po_none (po_some (pv 5))) pa_nil)))))) pa_nil))))))) (pss_one ps_never) pss_nil)
    (pss_cons (ps_set (i := 9) sc_Net_init.nd rfl (by first | exact Or.inl rfl | exact Or.inr rfl) (pe_call G__rows (hr.mono (by decide)) rfl c__rows.gl c__rows.kp c__rows.bd .nil pass0 (pa_cons (pv 3) (pa_cons pe_int (pa_cons (gc T.cMOST_RULES rfl rfl) pa_nil)))))
    (pss_cons (ps_if (PW.pt (pw_or (pt_cmpR op_isN (pv 9) pe_non (nomark _)) (pw_or1 (pt_not (pt_val (pe_callB (cr_all rfl) (by rfl) T.b_all (by decide +kernel) (pa_cons (pe_lc (own := [("rule", 10)]) (g := (gName 10)) (tt := tYes) (te := (tCall (spP C pre_is_rule) [] E0 (tCons (tVar 10) (tCons (tVar 4) (tCons (tVar 7) tNil))))) rfl sc_Net_init.nd (pi_seq (pv 9)) (blkOk_by (own := [("rule", 10)]) (N := n_Net_init) (sc := defScope s_Net_init) (by decide +kernel)) (fun _ _ _ _ _ => (pg_name (i := 10) sc_Net_init.nd rfl (by first | exact Or.inl rfl | exact Or.inr rfl))) (fun _ _ _ _ _ => pts_nil) (fun _ _ _ _ _ => (pe_call G_is_rule (hr.mono (by decide)) rfl c_is_rule.gl c_is_rule.kp c_is_rule.bd .nil pass0 (pa_cons (pv 10) (pa_cons (pv 4) (pa_cons (pv 7) pa_nil)))))) pa_nil))))))) (pss_one ps_never) pss_nil)
    (pss_cons (ps_fld (pv 0) (pv 4) rfl)
    (pss_cons (ps_fld (pv 0) (pv 7) rfl)
    (pss_one (ps_fld (pv 0) (pv 9) rfl))))))))))

/-! ### _law_made: 0 _law_pool_here, 1 _law_net_here -/
abbrev s__law_made : Stmt := topS 43
abbrev n__law_made : List PySem.Str := ["_law_pool_here", "_law_net_here"]
theorem sc__law_made : FnScope n__law_made ["_law_pool_here", "_law_net_here"] (defScope s__law_made) := ⟨rfl, rfl, rfl, by decide +kernel, rfl, by decide +kernel, by decide +kernel⟩
def t__law_made (K : PySem.W.Frag) (C CB kinds : Addr) : TS := (tSeq (tIfS (tTest (tOp rEq (tCall (spS C pre__law_take) [] E0 (tCons (tVar 0) (tCons (tC (.int 2)) tNil))) (tC (.int 0)))) (tRet (tMake C (spNet C CB) [] E0 (tCons (tCB (rListOf K) (tCons (tDGet (tVar 1) (tC (.str "processes"))) tNil)) (tCons (tCB (rListOf K) (tCons (tDGet (tVar 1) (tC (.str "channels"))) tNil)) (tCons (tCB (rListOf K) (tCons (tDGet (tVar 1) (tC (.str "rules"))) tNil)) tNil))))) tNext)
    (tRet (tMake C (spNet C CB) [] E0 (tCons (tCB (rTupleOf K) (tCons (tDGet (tVar 1) (tC (.str "processes"))) tNil)) (tCons (tCB (rTupleOf K) (tCons (tDGet (tVar 1) (tC (.str "channels"))) tNil)) (tCons (tCB (rTupleOf K) (tCons (tDGet (tVar 1) (tC (.str "rules"))) tNil)) tNil))))))
theorem d__law_made (T : Bt K mg C kinds) {f__law_take : Addr} {fd__law_take : FuncData} (c__law_take : Cal K mg "_law_take" f__law_take fd__law_take ["_law_pool_here", "_law_many"]) (G__law_take : FnOk P w K mg base CX0 2 f__law_take fd__law_take ["_law_pool_here", "_law_many"] (spS C pre__law_take)) {f_Net : Addr} {fd_Net : FuncData} (MK : Mk K C f_Net) (G_Net : FnOk P w K mg base CX0 6 f_Net fd_Net ["self", "processes", "channels", "rules"] (spNet C CB)) (bN : Binds K fd_Net ["self", "processes", "channels", "rules"] []) {f : Addr} {cdv : Value} {A : Around} {outer : List Env} {s : Shared} {H : Hp} {E : XK} (hr : Room 7 (A.deeper (envOfC "_law_made" (defScope s__law_made) s.heap.objs.size f cdv))) :
  PSs (cxOf CX0 P w K mg base n__law_made "_law_made" (defScope s__law_made) f cdv A outer s H E).nox (defBody s__law_made) (t__law_made K C CB kinds ) :=
  (pss_cons (ps_if (pt_cmpR op_eq (pe_call G__law_take (hr.mono (by decide)) rfl c__law_take.gl c__law_take.kp c__law_take.bd .nil pass0 (pa_cons (pv 0) (pa_cons pe_int pa_nil))) pe_int (nomark _)) (pss_one (ps_ret (pe_make MK G_Net (hr.mono (by decide)) rfl T.gNet bN .nil pass0 (pa_cons (pe_callTy call_list_of (by rfl) T.b_list (by decide +kernel) (pa_cons (pe_dget (hu_of hr) (pv 1) pe_str (fun _ _ => rfl)) pa_nil)) (pa_cons (pe_callTy call_list_of (by rfl) T.b_list (by decide +kernel) (pa_cons (pe_dget (hu_of hr) (pv 1) pe_str (fun _ _ => rfl)) pa_nil)) (pa_cons (pe_callTy call_list_of (by rfl) T.b_list (by decide +kernel) (pa_cons (pe_dget (hu_of hr) (pv 1) pe_str (fun _ _ => rfl)) pa_nil)) pa_nil)))))) pss_nil)
    (pss_one (ps_ret (pe_make MK G_Net (hr.mono (by decide)) rfl T.gNet bN .nil pass0 (pa_cons (pe_callTy call_tuple_of (by rfl) T.b_tuple (by decide +kernel) (pa_cons (pe_dget (hu_of hr) (pv 1) pe_str (fun _ _ => rfl)) pa_nil)) (pa_cons (pe_callTy call_tuple_of (by rfl) T.b_tuple (by decide +kernel) (pa_cons (pe_dget (hu_of hr) (pv 1) pe_str (fun _ _ => rfl)) pa_nil)) (pa_cons (pe_callTy call_tuple_of (by rfl) T.b_tuple (by decide +kernel) (pa_cons (pe_dget (hu_of hr) (pv 1) pe_str (fun _ _ => rfl)) pa_nil)) pa_nil)))))))

/-! ### law: 0 _law_script, 1 _law_pool_here, 2 _law_net_here, 3 _law_made_here -/
abbrev s_law : Stmt := topS 57
abbrev n_law : List PySem.Str := ["_law_script", "_law_pool_here", "_law_net_here", "_law_made_here"]
theorem sc_law : FnScope n_law ["_law_script"] (defScope s_law) := ⟨rfl, rfl, rfl, by decide +kernel, rfl, by decide +kernel, by decide +kernel⟩
def t_law (K : PySem.W.Frag) (C CB kinds : Addr) : TS := (tSeq (tAsg (tCall (spN C K) [] E0 (tCons (tVar 0) tNil)) (gName 1))
    (tSeq (tAsg (tCall (spS C pre__law_net) [] E0 (tCons (tVar 1) tNil)) (gName 2))
    (tSeq (tAsg (tCall (spS C pre__law_made) [] E0 (tCons (tVar 1) (tCons (tVar 2) tNil))) (gName 3))
    (tSeq (tIfS (tOr (tNot (tB (tCall (spS C pre__law_agrees) [] E0 (tCons (tVar 1) (tCons (tVar 2) (tCons (tVar 3) tNil)))))) (tNot (tB (tCall (spS C pre__law_agrees) [] E0 (tCons (tVar 1) (tCons (tVar 2) (tCons (tVar 3) tNil))))))) (tRet (tC (.bl false))) tNext)
    (tRet (tOrV (tOp rGtI (tCall (spS C pre__law_take) [] E0 (tCons (tVar 1) (tCons (tC (.int 4)) tNil))) (tC (.int 0))) (tCall (spS C pre__law_sixty) [] E0 (tCons (tVar 1) tNil))))))))
theorem d_law (T : Bt K mg C kinds) {f__law_pool : Addr} {fd__law_pool : FuncData} (c__law_pool : Cal K mg "_law_pool" f__law_pool fd__law_pool ["_law_script"]) (G__law_pool : FnOk P w K mg base CX0 1 f__law_pool fd__law_pool ["_law_script"] (spN C K)) {f__law_net : Addr} {fd__law_net : FuncData} (c__law_net : Cal K mg "_law_net" f__law_net fd__law_net ["_law_pool_here"]) (G__law_net : FnOk P w K mg base CX0 4 f__law_net fd__law_net ["_law_pool_here"] (spS C pre__law_net)) {f__law_made : Addr} {fd__law_made : FuncData} (c__law_made : Cal K mg "_law_made" f__law_made fd__law_made ["_law_pool_here", "_law_net_here"]) (G__law_made : FnOk P w K mg base CX0 8 f__law_made fd__law_made ["_law_pool_here", "_law_net_here"] (spS C pre__law_made)) {f__law_agrees : Addr} {fd__law_agrees : FuncData} (c__law_agrees : Cal K mg "_law_agrees" f__law_agrees fd__law_agrees ["_law_pool_here", "_law_net_here", "_law_made_here"]) (G__law_agrees : FnOk P w K mg base CX0 10 f__law_agrees fd__law_agrees ["_law_pool_here", "_law_net_here", "_law_made_here"] (spS C pre__law_agrees)) {f__law_take : Addr} {fd__law_take : FuncData} (c__law_take : Cal K mg "_law_take" f__law_take fd__law_take ["_law_pool_here", "_law_many"]) (G__law_take : FnOk P w K mg base CX0 2 f__law_take fd__law_take ["_law_pool_here", "_law_many"] (spS C pre__law_take)) {f__law_sixty : Addr} {fd__law_sixty : FuncData} (c__law_sixty : Cal K mg "_law_sixty" f__law_sixty fd__law_sixty ["_law_pool_here"]) (G__law_sixty : FnOk P w K mg base CX0 10 f__law_sixty fd__law_sixty ["_law_pool_here"] (spS C pre__law_sixty)) {f : Addr} {cdv : Value} {A : Around} {outer : List Env} {s : Shared} {H : Hp} {E : XK} (hr : Room 10 (A.deeper (envOfC "law" (defScope s_law) s.heap.objs.size f cdv))) :
  PSs (cxOf CX0 P w K mg base n_law "law" (defScope s_law) f cdv A outer s H E).nox (defBody s_law) (t_law K C CB kinds ) :=
  (pss_cons (ps_set (i := 1) sc_law.nd rfl (by first | exact Or.inl rfl | exact Or.inr rfl) (pe_call G__law_pool (hr.mono (by decide)) rfl c__law_pool.gl c__law_pool.kp c__law_pool.bd .nil pass0 (pa_cons (pv 0) pa_nil)))
    (pss_cons (ps_set (i := 2) sc_law.nd rfl (by first | exact Or.inl rfl | exact Or.inr rfl) (pe_call G__law_net (hr.mono (by decide)) rfl c__law_net.gl c__law_net.kp c__law_net.bd .nil pass0 (pa_cons (pv 1) pa_nil)))
    (pss_cons (ps_set (i := 3) sc_law.nd rfl (by first | exact Or.inl rfl | exact Or.inr rfl) (pe_call G__law_made (hr.mono (by decide)) rfl c__law_made.gl c__law_made.kp c__law_made.bd .nil pass0 (pa_cons (pv 1) (pa_cons (pv 2) pa_nil))))
    (pss_cons (ps_if (PW.pt (pw_or (pt_not (pt_val (pe_call G__law_agrees (hr.mono (by decide)) rfl c__law_agrees.gl c__law_agrees.kp c__law_agrees.bd .nil pass0 (pa_cons (pv 1) (pa_cons (pv 2) (pa_cons (pv 3) pa_nil)))))) (pw_or1 (pt_not (pt_val (pe_call G__law_agrees (hr.mono (by decide)) rfl c__law_agrees.gl c__law_agrees.kp c__law_agrees.bd .nil pass0 (pa_cons (pv 1) (pa_cons (pv 2) (pa_cons (pv 3) pa_nil))))))))) (pss_one (ps_ret pe_bl)) pss_nil)
    (pss_one (ps_ret (pe_or (pe_cmpR op_gt (pe_call G__law_take (hr.mono (by decide)) rfl c__law_take.gl c__law_take.kp c__law_take.bd .nil pass0 (pa_cons (pv 1) (pa_cons pe_int pa_nil))) pe_int (nomark _)) (pe_one (pe_call G__law_sixty (hr.mono (by decide)) rfl c__law_sixty.gl c__law_sixty.kp c__law_sixty.bd .nil pass0 (pa_cons (pv 1) pa_nil))))))))))

end
end Dl


namespace Dl
open PySem L2 PyProof.Rows
section
variable {C CB kinds : Addr} {K : PySem.W.Frag} {W : WX} {R : Out → Prop} {δ : List Slot}
local macro_rules | `(tactic| walk_at "ev") => `(tactic| first
  | ((with_reducible refine ex_norm (δ' := ?dn) ?he ?_); (case he => (simp only [slots, wipeS, List.map_cons, List.map_nil, List.replicate_succ, List.replicate_zero, List.cons_append, List.nil_append, List.set_cons_zero, List.set_cons_succ]; exact rfl)))
  | (with_reducible refine ex_seq ?_) | (with_reducible refine ex_if ?_) | ((with_reducible refine ex_retF (i := 2) (ds := ?dd) ?hf ?_); (case hf => exact rfl)) | ((with_reducible refine ex_retF (i := 3) (ds := ?dd) ?hf ?_); (case hf => exact rfl)) | ((with_reducible refine ex_retF (i := 4) (ds := ?dd) ?hf ?_); (case hf => exact rfl)) | ((with_reducible refine ex_retF (i := 5) (ds := ?dd) ?hf ?_); (case hf => exact rfl)) | ((with_reducible refine ex_retF (i := 8) (ds := ?dd) ?hf ?_); (case hf => exact rfl)) | (with_reducible refine ex_ret ?_) | (with_reducible refine ex_nx ?_) | (with_reducible refine ex_bk ?_)
  | (with_reducible refine ev_int ?_) | (with_reducible refine ev_str ?_) | (with_reducible refine ev_bl ?_) | (with_reducible refine ev_non ?_)
  | ((with_reducible refine ev_var (d := ?dd) ?hv ?_); (case hv => exact rfl))
  | (with_reducible refine ea_nil ?_) | (with_reducible refine ea_cons ?_) | (with_reducible refine ev_call ?_) | ((with_reducible refine ev_callS ?hv ?_); (case hv => exact rfl))
  | (with_reducible refine et_test ?_) | (with_reducible refine et_B ?_) | (with_reducible refine et_and ?_) | (with_reducible refine et_or ?_) | (with_reducible refine et_not ?_) | (with_reducible refine et_yes ?_)
  | (with_reducible refine ev_andV ?_) | (with_reducible refine ev_orV ?_) | (with_reducible refine ev_notV ?_) | (with_reducible refine ev_if ?_) | (with_reducible refine ev_chain ?_)
  | (with_reducible refine ev_isi ?_) | (with_reducible refine ev_isi2 ?_) | (with_reducible refine ev_tup ?_) | (with_reducible refine EvN.ev (en_sl ?_)) | (with_reducible refine ev_sl ?_) | (with_reducible refine eo_none ?_) | (with_reducible refine eo_some ?_)
  | (with_reducible refine isB_mk ?_)
  | (with_reducible refine rv_add ?_) | (with_reducible refine rv_sub ?_) | (with_reducible refine rv_lt ?_) | (with_reducible refine rv_le ?_) | (with_reducible refine rv_gt ?_) | (with_reducible refine rv_ge ?_)
  | (with_reducible refine rv_eqI ?_) | (with_reducible refine rv_neI ?_) | (with_reducible refine rv_eqS ?_) | (with_reducible refine rv_neS ?_) | (with_reducible refine rv_eqB ?_) | (with_reducible refine rv_isN ?_)
  | (with_reducible refine rc_lenL ?_) | (with_reducible refine rc_lenT ?_) | (with_reducible refine rc_intI ?_) | (with_reducible refine rc_intB ?_) | (with_reducible refine rc_tupT ?_) | (with_reducible refine rc_tupL ?_)
  | (with_reducible refine ev_getP ?_) | (with_reducible refine ev_getC ?_) | (with_reducible refine ev_getR ?_)
  | ((with_reducible refine rv_ixT (z := ?zz) ?hi ?_); (case hi => exact rfl)) | ((with_reducible refine rv_ixL (z := ?zz) ?hi ?_); (case hi => exact rfl))
  | ((with_reducible refine ev_lenO (ds := ?dd) ?hv ?_); (case hv => exact rfl)) | (with_reducible refine EvN.ev (en_lst ?_)) | (with_reducible refine EvN.ev (en_list ?_)) | (with_reducible refine EvN.ev (en_sl ?_)) | (with_reducible refine EvN.ev (en_cat ?_))
  | (with_reducible refine ev_cb ?_) | ((with_reducible refine ev_opO (ds := ?dd) ?hv ?_); (case hv => exact rfl)) | ((with_reducible refine ev_opP (ds := ?dd) ?hv ?_); (case hv => exact rfl)) | (with_reducible refine ev_op ?_)
  | (with_reducible refine ei_seq ?_) | (with_reducible refine ei_enum ?_) | (with_reducible refine ei_range ?_) | (with_reducible refine ei_str ?_)
  | (with_reducible refine mk_o ?_) | (with_reducible refine mk_n ?_) | (with_reducible refine mk_i ?_) | (with_reducible refine mk_s ?_) | (with_reducible refine mk_l ?_) | (with_reducible refine mk_b ?_)
  | (with_reducible refine mk_sl ?_) | (with_reducible refine mk_st ?_) | (with_reducible refine mk_al ?_) | (with_reducible refine mk_at ?_)
  | ((with_reducible refine and_len ?ll ?_); (case ll => exact Nat.le_of_ble_eq_true rfl)) | (refine br_t rfl ?_) | (refine br_f rfl ?_))
local macro_rules | `(tactic| walk_at "isi") => `(tactic| first | refine isi1 rfl kb_ii ?_ | refine isi1 rfl kb_is ?_ | refine isi1 rfl kb_ib ?_ | refine isi1 rfl kb_il ?_ | refine isi1 rfl kb_it ?_ | refine isi1 rfl kb_si ?_ | refine isi1 rfl kb_ss ?_ | refine isi1 rfl kb_sb ?_ | refine isi1 rfl kb_sl ?_ | refine isi1 rfl kb_st ?_ | refine isi1 rfl kb_ll ?_ | refine isi1 rfl kb_lt ?_ | refine isi1 rfl kb_li ?_ | refine isi1 rfl kb_ls ?_ | refine isi1 rfl kb_lb ?_ | refine isi1 rfl kb_tt ?_ | refine isi1 rfl kb_tl ?_ | refine isi1 rfl kb_ti ?_ | refine isi1 rfl kb_ts ?_ | refine isi1 rfl kb_tb ?_ | refine isi1 rfl kb_ni ?_ | refine isi1 rfl kb_ns ?_ | refine isi1 rfl kb_nb ?_ | refine isi1 rfl kb_nl ?_ | refine isi1 rfl kb_nt ?_)
local macro_rules | `(tactic| walk_at "go") => `(tactic| repeat (walk_at "ev"))
local macro_rules | `(tactic| walk_at "f1") => `(tactic| ((refine ex_freeze (i := 1) (ds := ?dd) ?hf ?_); (case hf => exact rfl)))
local macro_rules | `(tactic| walk_at "f2") => `(tactic| ((refine ex_freeze (i := 2) (ds := ?dd) ?hf ?_); (case hf => exact rfl)))
local macro_rules | `(tactic| walk_at "f3") => `(tactic| ((refine ex_freeze (i := 3) (ds := ?dd) ?hf ?_); (case hf => exact rfl)))
local macro_rules | `(tactic| walk_at "f4") => `(tactic| ((refine ex_freeze (i := 4) (ds := ?dd) ?hf ?_); (case hf => exact rfl)))
local macro_rules | `(tactic| walk_at "f5") => `(tactic| ((refine ex_freeze (i := 5) (ds := ?dd) ?hf ?_); (case hf => exact rfl)))
local macro_rules | `(tactic| walk_at "f6") => `(tactic| ((refine ex_freeze (i := 6) (ds := ?dd) ?hf ?_); (case hf => exact rfl)))
local macro_rules | `(tactic| walk_at "f7") => `(tactic| ((refine ex_freeze (i := 7) (ds := ?dd) ?hf ?_); (case hf => exact rfl)))
local macro_rules | `(tactic| walk_at "f8") => `(tactic| ((refine ex_freeze (i := 8) (ds := ?dd) ?hf ?_); (case hf => exact rfl)))
local macro_rules | `(tactic| walk_at "f9") => `(tactic| ((refine ex_freeze (i := 9) (ds := ?dd) ?hf ?_); (case hf => exact rfl)))
local macro_rules | `(tactic| walk_at "f10") => `(tactic| ((refine ex_freeze (i := 10) (ds := ?dd) ?hf ?_); (case hf => exact rfl)))
local macro_rules | `(tactic| walk_at "f11") => `(tactic| ((refine ex_freeze (i := 11) (ds := ?dd) ?hf ?_); (case hf => exact rfl)))
local macro_rules | `(tactic| walk_at "f12") => `(tactic| ((refine ex_freeze (i := 12) (ds := ?dd) ?hf ?_); (case hf => exact rfl)))
local macro_rules | `(tactic| walk_at "f13") => `(tactic| ((refine ex_freeze (i := 13) (ds := ?dd) ?hf ?_); (case hf => exact rfl)))
local macro_rules | `(tactic| walk_at "nf") => `(tactic| ((with_reducible refine ev_norm (δ' := ?dn) ?he ?_); (case he => (simp only [slots, wipeS, List.map_cons, List.map_nil, List.replicate_succ, List.replicate_zero, List.cons_append, List.nil_append, List.set_cons_zero, List.set_cons_succ]; exact rfl))))
theorem raw_asg {te : TE} {t : TS} {i : Nat} {P : Dat → Prop} {B : Bs} {F H : Hp} {σ : L2.St} {D : Ends} (h : Ev C te δ P) (w : Wd C B F H σ δ)
    (k : ∀ v F' H' d, P d → Gr B.P F H F' H' → Wd C B F' H' (σ.set i (some v)) (δ.set i (.val d)) → Dt C F' v d → t D (σ.set i (some v)) H') : tSeq (tAsg te (gName i)) t D σ H :=
  h B F H σ w _ fun v F1 H1 d p g1 w1 d1 => k v F1 H1 d p g1 (w1.setV d1) d1
theorem raw_if {tt : TT} {t : TS} {B : Bs} {F H : Hp} {σ : L2.St} {D : Ends} (h : EvT C tt δ fun b => b = false) (w : Wd C B F H σ δ) (k : ∀ F' H', Gr B.P F H F' H' → Wd C B F' H' σ δ → t D σ H') : tSeq (tIfS tt tNever tNext) t D σ H :=
  h B F H σ w _ fun F1 H1 b p g1 w1 => by subst p; exact iteF (k F1 H1 g1 w1)
theorem frz_rows {α : Type} {f : α → Dat} {xs : List α} {d : Dat} (h : ∀ x, x ∈ xs → frz 2 (f x) = f x) (hd : d = .lst (xs.map f) ∨ d = .tup (xs.map f)) : frz 3 d = .tup (xs.map f) := by
  have e : (xs.map f).map (frz 2) = xs.map f := by
    rw [List.map_map]
    exact List.map_congr_left fun x hx => h x hx
  rcases hd with rfl | rfl
  · show Dat.tup ((xs.map f).map (frz 2)) = _; rw [e]
  · show Dat.tup ((xs.map f).map (frz 2)) = _; rw [e]
theorem frzOk_rows {α : Type} {f : α → Dat} {xs : List α} {d : Dat} (hl : xs.length ≤ 1000) (h : ∀ x, x ∈ xs → frzOk 2 (f x)) (hd : d = .lst (xs.map f) ∨ d = .tup (xs.map f)) : frzOk 3 d := by
  have e : (xs.map f).length ≤ 1000 ∧ ∀ y, y ∈ xs.map f → frzOk 2 y := ⟨by rw [List.length_map]; exact hl, fun y hy => by
    obtain ⟨x, hx, rfl⟩ := List.mem_map.mp hy
    exact h x hx⟩
  rcases hd with rfl | rfl
  · exact e
  · exact e
theorem frzA (a : Act) : frz 1 (encA a) = encA a := by cases a <;> rfl
theorem frzR (r : Rul) : frz 2 (encR r) = encR r := by
  show Dat.tup [.int (r.proc : Int), .int (r.state : Int), frz 1 (encA r.act), .int (r.thn : Int)] = _
  rw [frzA]
theorem ok4 {n : Nat} {a b c d : Dat} (h1 : frzOk n a) (h2 : frzOk n b) (h3 : frzOk n c) (h4 : frzOk n d) : frzOk (n + 1) (.tup [a, b, c, d]) := ⟨by show 4 ≤ 1000; decide, fun x hx => by
  simp only [List.mem_cons, List.not_mem_nil, or_false] at hx
  rcases hx with rfl | rfl | rfl | rfl <;> assumption⟩
theorem okAct (a : Act) : frzOk 1 (encA a) := by
  cases a with
  | doo => exact ⟨by show 1 ≤ 1000; decide, fun _ _ => trivial⟩
  | send c t => exact ⟨by show 3 ≤ 1000; decide, fun _ _ => trivial⟩
  | take c t => exact ⟨by show 3 ≤ 1000; decide, fun _ _ => trivial⟩
theorem okR (r : Rul) : frzOk 2 (encR r) := ok4 (n := 1) rfl rfl (okAct _) rfl
theorem okC (c : Chan) : frzOk 2 (encC c) := ok4 (n := 1) rfl rfl rfl rfl
theorem okPr (p : PySem.Str × Nat) : frzOk 2 (encP p) := ⟨by show 2 ≤ 1000; decide, fun x hx => by
  simp only [List.mem_cons, List.not_mem_nil, or_false] at hx
  rcases hx with rfl | rfl <;> rfl⟩
theorem enum_map {α : Type} {f : α → Dat} {xs : List α} : enumD (xs.map f) = xs.zipIdx.map fun q => Dat.tup [.int (q.2 : Int), f q.1] := by
  unfold enumD
  rw [List.zipIdx_map, List.map_map]
  rfl
theorem take_ne {α β : Type} {g : α → β} {xs : List α} {i : Nat} {x : α} (hn : (xs.map g).Nodup) (h : xs[i]? = some x) : ∀ y, y ∈ xs.take i → g y ≠ g x := by
  intro y hy e
  have e1 : xs = xs.take i ++ x :: xs.drop (i + 1) := by rw [← drop_cons h, List.take_append_drop]
  rw [e1, List.map_append, List.nodup_append] at hn
  exact hn.2.2 (g y) (List.mem_map.mpr ⟨y, hy, rfl⟩) (g x) (List.mem_map.mpr ⟨x, List.mem_cons_self, rfl⟩) e
theorem n_pc : ¬ ("processes" : PySem.Str) = "channels" := by decide +kernel
theorem n_pr : ¬ ("processes" : PySem.Str) = "rules" := by decide +kernel
theorem n_chr : ¬ ("channels" : PySem.Str) = "rules" := by decide +kernel
theorem putF2 {u1 u2 : V} : putF "channels" u2 [(("processes" : PySem.Str), u1)] = [(("processes" : PySem.Str), u1), ("channels", u2)] := by
  show (if ("processes" : PySem.Str) = "channels" then _ else (("processes" : PySem.Str), u1) :: putF "channels" u2 []) = _
  rw [if_neg n_pc]; rfl
theorem putF3 {u1 u2 u3 : V} : putF "rules" u3 [(("processes" : PySem.Str), u1), ("channels", u2)] = [(("processes" : PySem.Str), u1), ("channels", u2), ("rules", u3)] := by
  show (if ("processes" : PySem.Str) = "rules" then _ else (("processes" : PySem.Str), u1) :: (if ("channels" : PySem.Str) = "rules" then _ else (("channels" : PySem.Str), u2) :: putF "rules" u3 [])) = _
  rw [if_neg n_pr, if_neg n_chr]; rfl
section
variable {d1 d2 d3 : Dat} {s5 s6 s7 s8 s9 s10 : Slot}
theorem i_rows {α : Type} {f : α → Dat} {xs : List α} {lo hi i : Nat} {d : Dat} (rs : List (List Dat)) (hr : xs.map f = rs.map Dat.tup) (hδ : δ[i]? = some (.val d)) (h1 : ∀ x, x ∈ xs → frz 2 (f x) = f x) (h2 : ∀ x, x ∈ xs → frzOk 2 (f x)) (hd : d = .lst (xs.map f) ∨ d = .tup (xs.map f)) (hl : xs.length ≤ 1000) (a1 : lo ≤ xs.length) (a2 : xs.length ≤ hi) :
    Ev C (tCall (spP C pre__rows) [] E0 (tCons (tVar i) (tCons (tC (.int (lo : Int))) (tCons (tC (.int (hi : Int))) tNil)))) δ fun z => z = .tup (xs.map f) := by
  have e := congrArg List.length hr
  rw [List.length_map, List.length_map] at e
  refine ev_call (ea_cons (ev_var hδ ?_))
  walk_at "go"
  refine ⟨d, lo, hi, rs, rfl, frzOk_rows hl h2 hd, by rw [frz_rows h1 hd, hr], by omega, by omega, by omega, ?_⟩
  rw [hr]
theorem x_Net {w1 w2 w3 : V} {x dx : Addr} {F H : Hp} {N : NetM} {Q : VK} {D : Ends} (n : NetC K C) (hN : N.Ok) (sf : Same F H) (hx : H x = some (.ins C dx [])) (fx : F x = none) (e1 : Dt C F w1 d1) (e2 : Dt C F w2 d2) (e3 : Dt C F w3 d3)
    (h1 : d1 = .lst (N.procs.map encP) ∨ d1 = .tup (N.procs.map encP)) (h2 : d2 = .lst (N.chans.map encC) ∨ d2 = .tup (N.chans.map encC)) (h3 : d3 = .lst (N.rules.map encR) ∨ d3 = .tup (N.rules.map encR))
    (k : ∀ u1 u2 u3 F' H', Gr none F H F' H' → Same F' H' → Dt C F' u1 (.tup (N.procs.map encP)) → Dt C F' u2 (.tup (N.chans.map encC)) → Dt C F' u3 (.tup (N.rules.map encR)) → ∀ σ, D.nx σ (upd H' x (.ins C dx [("processes", u1), ("channels", u2), ("rules", u3)]))) :
    t_Net_init K C CB kinds D [some (.ref x), some w1, some w2, some w3, none, none, none, none, none, none, none] H := by
  unfold t_Net_init
  have h5 := hN.p5
  have h8 := hN.c8
  have h23 := hN.r40
  have w : Wd C ⟨none, F, H⟩ F H [some (.ref x), some w1, some w2, some w3, none, none, none, none, none, none, none] [.emp, .val d1, .val d2, .val d3, .emp, .emp, .emp, .emp, .emp, .emp, .emp] := by
    refine ⟨sf, Gr.refl _ _ _, fun j s e => ?_, fun i j di dj q q1 q2 _ _ => ?_, fun q e => (by cases e)⟩
    · match j, e with
      | 0, e => cases e; exact ⟨_, rfl, trivial⟩
      | 1, e => cases e; exact ⟨_, rfl, _, rfl, e1⟩
      | 2, e => cases e; exact ⟨_, rfl, _, rfl, e2⟩
      | 3, e => cases e; exact ⟨_, rfl, _, rfl, e3⟩
      | 4, e => cases e; exact ⟨_, rfl, trivial⟩
      | 5, e => cases e; exact ⟨_, rfl, trivial⟩
      | 6, e => cases e; exact ⟨_, rfl, trivial⟩
      | 7, e => cases e; exact ⟨_, rfl, trivial⟩
      | 8, e => cases e; exact ⟨_, rfl, trivial⟩
      | 9, e => cases e; exact ⟨_, rfl, trivial⟩
      | 10, e => cases e; exact ⟨_, rfl, trivial⟩
      | j + 11, e => simp at e
    · match i, q1 with
      | 0, e => cases e
      | 1, e => cases e
      | 2, e => cases e
      | 3, e => cases e
      | 4, e => cases e
      | 5, e => cases e
      | 6, e => cases e
      | 7, e => cases e
      | 8, e => cases e
      | 9, e => cases e
      | 10, e => cases e
      | j + 11, e => simp at e
  refine raw_asg (i_rows (lo := 1) (hi := 5) (N.procs.map fun p => [.str p.1, .int (p.2 : Int)]) (by rw [List.map_map]; rfl) rfl (fun _ _ => rfl) (fun p _ => okPr p) h1 (by omega) hN.p1 hN.p5) w fun u1 F1 H1 z1 ez g1 w1 t1 => ?_
  subst ez
  refine raw_if ?_ w1 fun F2 H2 g2 w2 => ?_
  · walk_at "go"
    refine EvN.ev (en_lcM (α := (PySem.Str × Nat) × Nat) ?_)
    walk_at "go"
    refine ⟨by rw [enumD_len, List.length_map]; omega, N.procs.zipIdx, fun q => .tup [.int (q.2 : Int), encP q.1], fun _ => .bl true, enum_map, fun q hq => ⟨_, gg_tup (ggs_cons (gg_name (by simp)) (ggs_cons (gg_name (by simp)) ggs_nil)) rfl, ?_⟩, ?_⟩
    · have hz := mem_zip hq
      have ho := hN.po q.1 (List.mem_of_getElem? hz)
      walk_at "go"
      refine rs_tup ?_
      walk_at "go"
      rw [cut_to, ← List.map_take]
      exact ⟨q.1, N.procs.take q.2, rfl, by rw [List.length_take]; omega, ho.1, ho.2.1, ho.2.2, take_ne hN.pd hz, fun y hy => (hN.po y (List.mem_of_mem_take hy)).1.str, rfl⟩
    walk_at "go"
    rw [show (N.procs.zipIdx.map fun _ => Dat.bl true) = (N.procs.zipIdx.map fun _ => true).map Dat.bl by rw [List.map_map]; rfl]
    refine rc_all ?_
    rw [all_true]
    exact isB_mk rfl
  refine raw_asg (i_rows (lo := 0) (hi := 8) (N.chans.map fun c => [.str c.name, .int (c.giver : Int), .int (c.taker : Int), .str (kindS c.kind)]) (by rw [List.map_map]; rfl) rfl (fun _ _ => rfl) (fun p _ => okC p) h2 (by omega) (by omega) hN.c8) w2 fun u2 F3 H3 z2 ez g3 w3 t2 => ?_
  subst ez
  refine raw_if ?_ w3 fun F4 H4 g4 w4 => ?_
  · walk_at "go"
    refine EvN.ev (en_lcM (α := Chan × Nat) ?_)
    walk_at "go"
    refine ⟨by rw [enumD_len, List.length_map]; omega, N.chans.zipIdx, fun q => .tup [.int (q.2 : Int), encC q.1], fun _ => .bl true, enum_map, fun q hq => ⟨_, gg_tup (ggs_cons (gg_name (by simp)) (ggs_cons (gg_name (by simp)) ggs_nil)) rfl, ?_⟩, ?_⟩
    · have hz := mem_zip hq
      have ho := hN.co q.1 (List.mem_of_getElem? hz)
      walk_at "go"
      refine rs_tup ?_
      walk_at "go"
      rw [cut_to, ← List.map_take]
      exact ⟨q.1, N.procs, N.chans.take q.2, rfl, by rw [List.length_take]; omega, ho, take_ne hN.cd hz, fun y hy => (hN.co y (List.mem_of_mem_take hy)).nm.str, rfl⟩
    walk_at "go"
    rw [show (N.chans.zipIdx.map fun _ => Dat.bl true) = (N.chans.zipIdx.map fun _ => true).map Dat.bl by rw [List.map_map]; rfl]
    refine rc_all ?_
    rw [all_true]
    exact isB_mk rfl
  refine raw_asg (i_rows (lo := 0) (hi := 40) (N.rules.map fun r => [.int (r.proc : Int), .int (r.state : Int), encA r.act, .int (r.thn : Int)]) (by rw [List.map_map]; rfl) rfl (fun r _ => frzR r) (fun p _ => okR p) h3 (by omega) (by omega) (by omega)) w4 fun u3 F5 H5 z3 ez g5 w5 t3 => ?_
  subst ez
  refine raw_if ?_ w5 fun F6 H6 g6 w6 => ?_
  · walk_at "go"
    refine EvN.ev (en_lcM (α := Rul) ?_)
    walk_at "go"
    refine ⟨by rw [List.length_map]; omega, N.rules, encR, fun _ => .bl true, rfl, fun q hq => ⟨_, gg_name (by simp), ?_⟩, ?_⟩
    · walk_at "go"
      exact ⟨q, N.procs, N.chans, rfl, hN.ro q hq, rfl⟩
    walk_at "go"
    rw [show (N.rules.map fun _ => Dat.bl true) = (N.rules.map fun _ => true).map Dat.bl by rw [List.map_map]; rfl]
    refine rc_all ?_
    rw [all_true]
    exact isB_mk rfl
  have g56 := g5.trans g6
  have g36 := (g3.trans g4).trans g56
  have g := (g1.trans g2).trans g36
  have hx6 := g.h x _ (by simp) hx
  refine ⟨u1, rfl, .ref x, rfl, x, C, dx, [], rfl, hx6, n.c, n.p, by show 0 < 1000; decide, ?_⟩
  refine ⟨u2, rfl, .ref x, rfl, x, C, dx, _, rfl, upd_same, n.c, n.h, by show 1 < 1000; decide, ?_⟩
  refine ⟨u3, rfl, .ref x, rfl, x, C, dx, _, rfl, upd_same, n.c, n.r, ?_, ?_⟩
  · rw [show putF "processes" u1 [] = [(("processes" : PySem.Str), u1)] from rfl, putF2]; show 2 < 1000; decide
  · rw [upd_upd, upd_upd, show putF "processes" u1 [] = [(("processes" : PySem.Str), u1)] from rfl, putF2, putF3]
    exact k u1 u2 u3 F6 H6 g w6.sub (t1.mono (g2.trans g36).f) (t2.mono (g4.trans g56).f) (t3.mono g6.f) _
end
end
end Dl


namespace Dl
open PySem L2 PyProof.Rows
structure AskTxt (K : PySem.W.Frag) (mg : PySem.Str → Option Value) (CB CU : Addr) : Prop where
  ec : ExcC K CB
  xf : XfC K CB
  noN : PySem.W.findIn K (.ref CB) "at" = some none
  gB : mg "BadStep" = some (.ref CB)
  gU : mg "CutError" = some (.ref CU)
  gE : mg "Exception" = none
  ex : PySem.W.exmOne K (.ref CB) (.ref CU) = some true
  k1 : PySem.W.kitOne K (.ref CB) (.ref CB) = some true
  k2 : PySem.W.kitOne K (.ref CB) (.type "Exception") = some true
abbrev s__law_asked : Stmt := topS 53
abbrev n__law_asked : List PySem.Str := ["_law_made_here", "_law_deeds", "e"]
theorem sc__law_asked : FnScope n__law_asked ["_law_made_here", "_law_deeds"] (defScope s__law_asked) := ⟨rfl, rfl, rfl, by decide +kernel, rfl, by decide +kernel, by decide +kernel⟩
def tq_asked (K : PySem.W.Frag) (CB a : Addr) (cls : Value) (d : Option Addr) (dd : Addr) : TS := tIfS (tAnd (tB (tCB (rIsE2 K CB a dd) (tCons (tVar 2) (tCons (tC (.ref CB)) tNil)))) (tB (tCB (rIsE2 K CB a dd) (tCons (tVar 2) (tCons (tC (.ty "Exception")) tNil)))))
  (tRet (tTup (tCons (tC (.str "step")) (tCons (tXf a cls d CB "at" (tVar 2)) tNil)))) tNext
def ts_asked (K : PySem.W.Frag) (CB : Addr) : Addr → Value → Option Addr → TS := fun a cls d D σ H => ∃ dd, cls = .ref CB ∧ d = some dd ∧ tq_asked K CB a cls d dd D σ H
def tb_asked (C CB : Addr) (W : WX) : TS := tRet (tTup (tCons (tC (.str "told")) (tCons (tCallS (spX C CB pre_played) (WE W) (tCons (tVar 0) (tCons (tVar 1) tNil))) tNil)))
def t__law_asked (K : PySem.W.Frag) (C CB CU : Addr) : TS := tSeq (fun D σ H => tb_asked C CB (wAs K (.ref CU) 2 (ts_asked K CB) (fun _ _ _ _ => False) D) D σ H) (tRet (tTup (tCons (tC (.str "other")) (tCons (tC .non) tNil))))
section
variable {P : Program} {w : World} {K : PySem.W.Frag} {mg : PySem.Str → Option Value} {base : Heap} {C CB CU kinds : Addr}
theorem d__law_asked (T : Bt K mg C kinds) (A1 : AskTxt K mg CB CU) {f_played : Addr} {fd_played : FuncData} (c_played : Cal K mg "played" f_played fd_played ["net", "deeds"]) (G_played : FnOk P w K mg base (L2.CX P w) 5 f_played fd_played ["net", "deeds"] (spX C CB pre_played))
    {f : Addr} {cdv : Value} {A : Around} {outer : List Env} {s : Shared} {H : Hp} {E : XK} (hr : Room 6 (A.deeper (envOfC "_law_asked" (defScope s__law_asked) s.heap.objs.size f cdv))) :
  PSs (cxOf CX0 P w K mg base n__law_asked "_law_asked" (defScope s__law_asked) f cdv A outer s H E).nox (defBody s__law_asked) (t__law_asked K C CB CU) := by
  have hr1 : Room 5 _ := hr.mono (by decide)
  exact pss_cons (ps_try_as (i := 2) (tb := tb_asked C CB) (ts := ts_asked K CB) (Wout := fun _ _ _ _ => False) rfl rfl sc__law_asked.nd rfl rfl ⟨rfl, by decide, Or.inl A1.gU⟩ takes0
      (fun W pn xe tk _ => pss_one (ps_ret (pe_tup (pa_cons pe_str (pa_cons (by exact (pe_callS G_played hr1 rfl c_played.gl c_played.kp c_played.bd (fun σ => passAt tk σ) (by exact (pa_cons (pv 0) (pa_cons (pv 1) pa_nil))))) pa_nil)))))
      (fun a oe cls d pn hz hf => by
        refine ⟨fun pins s σ H D I h => ?_⟩
        obtain ⟨dd, rfl, rfl, h⟩ := h
        refine PSs.run (t := tq_asked K CB a (.ref CB) (some dd) dd) ?_ pins s σ H D I h
        exact pss_one (ps_if (PW.pt (pw_and (pt_val (pe_callB (call_isE2 A1.ec hz hf) (by rfl) T.b_isinstance (by decide +kernel) (pa_cons (pv 2) (pa_cons (pe_glob rfl A1.gB rfl) pa_nil)))) (pw_and1 (pt_val (pe_callB (call_isE2 A1.ec hz hf) (by rfl) T.b_isinstance (by decide +kernel) (pa_cons (pv 2) (pa_cons (pe_bltn (v := .ty "Exception") rfl A1.gE (by decide +kernel) rfl) pa_nil)))))))
          (pss_one (ps_ret (pe_tup (pa_cons pe_str (pa_cons (pe_xf A1.xf A1.noN hz hf (pv 2)) pa_nil))))) pss_nil)))
    (pss_one (ps_ret (pe_tup (pa_cons pe_str (pa_cons pe_non pa_nil)))))
end
end Dl


namespace Dl
open PySem L2 PyProof.Rows
/-! ### the plain law -/
theorem natParts_enc : ∀ ns : List Nat, natParts (ns.map encN) = some ns
  | [] => rfl
  | n :: ns => by
    rw [List.map_cons, natParts_cons, natParts_enc ns]
    rfl
theorem deedOf_lose {N : NetM} {c k : Nat} : deedOf N "lose" [c, k] = if lossy (chanK N c) = true ∧ c < N.chans.length then some (.lose c k) else none := by unfold deedOf; rw [if_pos rfl]
theorem deedParts_enc {N : NetM} {d : Deed} (h : Fit N d) : deedParts N d.ds = some d := by
  cases d with
  | act r =>
    obtain ⟨u, hu, ht⟩ := h
    show (match natParts ([r].map encN) with | some ns => deedOf N "act" ns | none => none) = _
    rw [natParts_enc]
    show deedOf N "act" [r] = _
    rw [deedOf_act]; simp [hu, ht]
  | take r k =>
    obtain ⟨u, hu, ht⟩ := h
    show (match natParts ([r, k].map encN) with | some ns => deedOf N "take" ns | none => none) = _
    rw [natParts_enc]
    show deedOf N "take" [r, k] = _
    rw [deedOf_take]; simp [hu, ht]
  | lose c k =>
    obtain ⟨u, hu, hl⟩ := h
    show (match natParts ([c, k].map encN) with | some ns => deedOf N "lose" ns | none => none) = _
    rw [natParts_enc]
    show deedOf N "lose" [c, k] = _
    rw [deedOf_lose, if_pos ⟨by rw [chan_of hu]; exact hl, (List.getElem?_eq_some_iff.mp hu).1⟩]
/-- a coded deed, as a tuple or a list -/
def Cod (f : Deed → Dat) : Prop := ∀ d, f d = .tup d.ds ∨ f d = .lst d.ds
theorem asDeed_cod {N : NetM} {f : Deed → Dat} {d : Deed} (hf : Cod f) (h : Fit N d) : asDeed N (f d) = some d := by
  rcases hf d with e | e
  · rw [e]; exact deedParts_enc h
  · rw [e]; exact deedParts_enc h
theorem raw_cod {f : Deed → Dat} (hf : Cod f) (d : Deed) : RawOk (f d) := by
  have h : d.ds.length ≤ 1000 ∧ ∀ x, x ∈ d.ds → flatD x = true := by
    cases d with
    | act r => exact ⟨by show 2 ≤ 1000; decide, all_cons (flt_act.f) (all_cons (flt_int _).f all_nil)⟩
    | take r k => exact ⟨by show 3 ≤ 1000; decide, all_cons (flt_take.f) (all_cons (flt_int _).f (all_cons (flt_int _).f all_nil))⟩
    | lose r k => exact ⟨by show 3 ≤ 1000; decide, all_cons (flt_lose.f) (all_cons (flt_int _).f (all_cons (flt_int _).f all_nil))⟩
  rcases hf d with e | e
  · rw [e]; exact h
  · rw [e]; exact h
theorem cod_enc : Cod Deed.enc := fun d => .inl rfl
theorem cod_lst : Cod fun d => .lst d.ds := fun d => .inr rfl
theorem play_run {N : NetM} (hN : N.Ok) {f : Deed → Dat} (hf : Cod f) {xs : List Dat} : ∀ {es : List Deed} {i : Nat} {w : Wld}, legal N w es → i + es.length ≤ 60 →
    play N i w (es.map f ++ xs) = (match play N (i + es.length) (endW N w es) xs with
      | .ok us => .ok ((runW N w es).tail ++ us)
      | .error n => .error n)
  | [], i, w, _, _ => by
    show play N i w xs = (match play N i w xs with
      | .ok us => .ok ([] ++ us)
      | .error n => .error n)
    cases play N i w xs <;> rfl
  | e :: es, i, w, hl, hi => by
    have hlen : i + (es.length + 1) ≤ 60 := hi
    have ih := play_run hN hf (xs := xs) (es := es) (i := i + 1) (w := step N w e) hl.2 (by omega)
    rw [List.map_cons, List.cons_append]
    rw [play]
    rw [asDeed_cod hf (poss_fit hN hl.1)]
    have hc := poss_can hl.1
    have h60 : ¬ (i = 60 ∨ canDo N w e = false) := fun z => z.elim (fun h => by omega) (fun h => by rw [hc] at h; cases h)
    simp only [if_neg h60]
    rw [ih]
    rw [show i + 1 + es.length = i + (e :: es).length by rw [List.length_cons]; omega]
    show (match (match play N (i + (e :: es).length) (endW N (step N w e) es) xs with
        | .ok us => Except.ok ((runW N (step N w e) es).tail ++ us)
        | .error n => .error n) with
      | .ok ws => Except.ok (step N w e :: ws)
      | .error n => .error n) = (match play N (i + (e :: es).length) (endW N (step N w e) es) xs with
        | .ok us => .ok (runW N (step N w e) es ++ us)
        | .error n => .error n)
    cases play N (i + (e :: es).length) (endW N (step N w e) es) xs with
    | error n => rfl
    | ok us =>
      show Except.ok (step N w e :: ((runW N (step N w e) es).tail ++ us)) = Except.ok (runW N (step N w e) es ++ us)
      cases es <;> rfl
theorem run_cons {N : NetM} {w : Wld} {es : List Deed} : w :: (runW N w es).tail = runW N w es := by cases es <;> rfl
theorem play_all {N : NetM} (hN : N.Ok) {f : Deed → Dat} (hf : Cod f) {es : List Deed} {w : Wld} (hl : legal N w es) (hi : es.length ≤ 60) : play N 0 w (es.map f) = .ok (runW N w es).tail := by
  have := play_run hN hf (xs := []) (i := 0) hl (by omega)
  rw [List.append_nil] at this
  rw [this]
  show Except.ok ((runW N w es).tail ++ []) = _
  rw [List.append_nil]
theorem legal_take {N : NetM} : ∀ {es : List Deed} {w : Wld} {n : Nat}, legal N w es → legal N w (es.take n)
  | [], _, _, _ => by rw [List.take_nil]; trivial
  | _ :: _, _, 0, _ => trivial
  | _ :: es, _, n + 1, h => ⟨h.1, legal_take (es := es) h.2⟩
theorem run_take {N : NetM} : ∀ {es : List Deed} {w : Wld} {n : Nat}, n ≤ es.length → runW N w (es.take n) = (runW N w es).take (n + 1)
  | [], _, n, h => by
    have : n = 0 := Nat.le_zero.mp h
    subst this; rfl
  | e :: es, w, 0, _ => rfl
  | e :: es, w, n + 1, h => congrArg (w :: ·) (run_take (es := es) (Nat.le_of_succ_le_succ h))
theorem run_get {N : NetM} : ∀ {es : List Deed} {w : Wld} {n : Nat}, n ≤ es.length → (runW N w es)[n]? = some (endW N w (es.take n))
  | [], _, n, h => by
    have : n = 0 := Nat.le_zero.mp h
    subst this; rfl
  | e :: es, w, 0, _ => rfl
  | e :: es, w, n + 1, h => run_get (es := es) (Nat.le_of_succ_le_succ h)
theorem play_bad {N : NetM} {w : Wld} {i : Nat} {x : Dat} {xs : List Dat} (hx : ∀ es, x ≠ .lst es) (hp : ∀ d, d ∈ possible N w → x ≠ d.enc) : play N i w (x :: xs) = .error i := by
  rw [play]
  cases h : asDeed N x with
  | none => rfl
  | some d =>
    obtain ⟨hf, hd⟩ := asDeed_fit h
    have e : x = d.enc := hd.resolve_left (hx _)
    have hc : canDo N w d = false := by
      cases hc : canDo N w d with
      | false => rfl
      | true => exact absurd e (hp d (can_poss hf hc))
    simp only [if_pos (show i = 60 ∨ canDo N w d = false from .inr hc)]
/-! due -/
theorem Due.mono {n m : Nat} {d : Dat} (h : Due n d) (hm : n ≤ m) : Due m d := by
  induction h generalizing m with
  | int n i => exact .int m i
  | str n x => exact .str m x
  | tup n xs hl h ih =>
    obtain ⟨k, rfl⟩ : ∃ k, m = k + 1 := ⟨m - 1, by omega⟩
    exact .tup k xs hl fun x hx => ih x hx (by omega)
theorem due_w {N : NetM} {b : Nat} {w : Wld} (hN : N.Ok) (hw : WldOk N b w) (hb : b ≤ 1000) : Due 4 w.enc := by
  have h5 := hN.p5
  have h8 := hN.c8
  refine .tup 3 _ (by show 3 ≤ 1000; decide) (all_cons ?_ (all_cons ?_ (all_cons ?_ all_nil)))
  · refine .tup 2 _ (by rw [List.length_map, hw.s]; omega) (all_map fun x => .int _ _)
  · refine .tup 2 _ (by rw [List.length_map, hw.t]; omega) (all_map fun x => .int _ _)
  · refine .tup 2 _ (by rw [List.length_map, hw.p]; omega) fun z hz => ?_
    obtain ⟨r, hr, rfl⟩ := List.mem_map.mp hz
    refine .tup 1 _ (by rw [List.length_map]; have := hw.pb r hr; omega) (all_map fun x => ?_)
    exact .tup 0 _ (by show 2 ≤ 1000; decide) (all_cons (.int _ _) (all_cons (.int _ _) all_nil))
theorem run_mem {N : NetM} {es : List Deed} {w : Wld} {b : Nat} (hw : WldOk N b w) : ∀ u, u ∈ runW N w es → WldOk N (b + es.length) u := fun u hu => by
  obtain ⟨i, hi⟩ := List.getElem?_of_mem hu
  have hil := (List.getElem?_eq_some_iff.mp hi).1
  rw [run_len] at hil
  rw [run_get (by omega)] at hi
  cases hi
  have := end_ok (es := es.take i) hw
  exact this.mono (by rw [List.length_take]; omega)
theorem due_ws {N : NetM} {ws : List Wld} (hl : ws.length ≤ 1000) (h : ∀ w, w ∈ ws → Due 4 w.enc) : Due 5 (.tup (ws.map Wld.enc)) := .tup 4 _ (by rw [List.length_map]; exact hl) fun z hz => by
  obtain ⟨w, hw, rfl⟩ := List.mem_map.mp hz
  exact h w hw
theorem due_told {d : Dat} (h : Due 5 d) : Due 6 (.tup [.str "told", d]) := .tup 5 _ (by show 2 ≤ 1000; decide) (all_cons (.str _ _) (all_cons h all_nil))
theorem due_step {n : Int} : Due 6 (.tup [.str "step", .int n]) := .tup 5 _ (by show 2 ≤ 1000; decide) (all_cons (.str _ _) (all_cons (.int _ _) all_nil))
end Dl


namespace Dl
open PySem L2 PyProof.Rows
section
variable {C CB kinds : Addr} {K : PySem.W.Frag} {W : WX} {R : Out → Prop} {δ : List Slot} {P : Dat → Prop}
local macro_rules | `(tactic| walk_at "ev") => `(tactic| first
  | ((with_reducible refine ex_norm (δ' := ?dn) ?he ?_); (case he => (simp only [slots, wipeS, List.map_cons, List.map_nil, List.replicate_succ, List.replicate_zero, List.cons_append, List.nil_append, List.set_cons_zero, List.set_cons_succ]; exact rfl)))
  | (with_reducible refine ex_seq ?_) | (with_reducible refine ex_if ?_) | ((with_reducible refine ex_retF (i := 2) (ds := ?dd) ?hf ?_); (case hf => exact rfl)) | ((with_reducible refine ex_retF (i := 3) (ds := ?dd) ?hf ?_); (case hf => exact rfl)) | ((with_reducible refine ex_retF (i := 4) (ds := ?dd) ?hf ?_); (case hf => exact rfl)) | ((with_reducible refine ex_retF (i := 5) (ds := ?dd) ?hf ?_); (case hf => exact rfl)) | ((with_reducible refine ex_retF (i := 8) (ds := ?dd) ?hf ?_); (case hf => exact rfl)) | (with_reducible refine ex_ret ?_) | (with_reducible refine ex_nx ?_) | (with_reducible refine ex_bk ?_)
  | (with_reducible refine ev_int ?_) | (with_reducible refine ev_str ?_) | (with_reducible refine ev_bl ?_) | (with_reducible refine ev_non ?_)
  | ((with_reducible refine ev_var (d := ?dd) ?hv ?_); (case hv => exact rfl))
  | (with_reducible refine ea_nil ?_) | (with_reducible refine ea_cons ?_) | (with_reducible refine ev_call ?_) | ((with_reducible refine ev_callS ?hv ?_); (case hv => exact rfl))
  | (with_reducible refine et_test ?_) | (with_reducible refine et_B ?_) | (with_reducible refine et_and ?_) | (with_reducible refine et_or ?_) | (with_reducible refine et_not ?_) | (with_reducible refine et_yes ?_)
  | (with_reducible refine ev_andV ?_) | (with_reducible refine ev_orV ?_) | (with_reducible refine ev_notV ?_) | (with_reducible refine ev_if ?_) | (with_reducible refine ev_chain ?_)
  | (with_reducible refine ev_isi ?_) | (with_reducible refine ev_isi2 ?_) | (with_reducible refine ev_tup ?_) | (with_reducible refine EvN.ev (en_sl ?_)) | (with_reducible refine ev_sl ?_) | (with_reducible refine eo_none ?_) | (with_reducible refine eo_some ?_)
  | (with_reducible refine isB_mk ?_)
  | (with_reducible refine rv_add ?_) | (with_reducible refine rv_sub ?_) | (with_reducible refine rv_lt ?_) | (with_reducible refine rv_le ?_) | (with_reducible refine rv_gt ?_) | (with_reducible refine rv_ge ?_)
  | (with_reducible refine rv_eqI ?_) | (with_reducible refine rv_neI ?_) | (with_reducible refine rv_eqS ?_) | (with_reducible refine rv_neS ?_) | (with_reducible refine rv_eqB ?_) | (with_reducible refine rv_isN ?_)
  | (with_reducible refine rc_lenL ?_) | (with_reducible refine rc_lenT ?_) | (with_reducible refine rc_intI ?_) | (with_reducible refine rc_intB ?_) | (with_reducible refine rc_tupT ?_) | (with_reducible refine rc_tupL ?_)
  | (with_reducible refine ev_getP ?_) | (with_reducible refine ev_getC ?_) | (with_reducible refine ev_getR ?_)
  | ((with_reducible refine rv_ixT (z := ?zz) ?hi ?_); (case hi => exact rfl)) | ((with_reducible refine rv_ixL (z := ?zz) ?hi ?_); (case hi => exact rfl))
  | ((with_reducible refine ev_lenO (ds := ?dd) ?hv ?_); (case hv => exact rfl)) | (with_reducible refine EvN.ev (en_lst ?_)) | (with_reducible refine EvN.ev (en_list ?_)) | (with_reducible refine EvN.ev (en_sl ?_)) | (with_reducible refine EvN.ev (en_cat ?_))
  | (with_reducible refine ev_cb ?_) | ((with_reducible refine ev_opO (ds := ?dd) ?hv ?_); (case hv => exact rfl)) | ((with_reducible refine ev_opP (ds := ?dd) ?hv ?_); (case hv => exact rfl)) | (with_reducible refine ev_op ?_)
  | (with_reducible refine ei_seq ?_) | (with_reducible refine ei_enum ?_) | (with_reducible refine ei_range ?_) | (with_reducible refine ei_str ?_)
  | (with_reducible refine mk_o ?_) | (with_reducible refine mk_n ?_) | (with_reducible refine mk_i ?_) | (with_reducible refine mk_s ?_) | (with_reducible refine mk_l ?_) | (with_reducible refine mk_b ?_)
  | (with_reducible refine mk_sl ?_) | (with_reducible refine mk_st ?_) | (with_reducible refine mk_al ?_) | (with_reducible refine mk_at ?_)
  | ((with_reducible refine and_len ?ll ?_); (case ll => exact Nat.le_of_ble_eq_true rfl)) | (refine br_t rfl ?_) | (refine br_f rfl ?_))
local macro_rules | `(tactic| walk_at "isi") => `(tactic| first | refine isi1 rfl kb_ii ?_ | refine isi1 rfl kb_is ?_ | refine isi1 rfl kb_ib ?_ | refine isi1 rfl kb_il ?_ | refine isi1 rfl kb_it ?_ | refine isi1 rfl kb_si ?_ | refine isi1 rfl kb_ss ?_ | refine isi1 rfl kb_sb ?_ | refine isi1 rfl kb_sl ?_ | refine isi1 rfl kb_st ?_ | refine isi1 rfl kb_ll ?_ | refine isi1 rfl kb_lt ?_ | refine isi1 rfl kb_li ?_ | refine isi1 rfl kb_ls ?_ | refine isi1 rfl kb_lb ?_ | refine isi1 rfl kb_tt ?_ | refine isi1 rfl kb_tl ?_ | refine isi1 rfl kb_ti ?_ | refine isi1 rfl kb_ts ?_ | refine isi1 rfl kb_tb ?_ | refine isi1 rfl kb_ni ?_ | refine isi1 rfl kb_ns ?_ | refine isi1 rfl kb_nb ?_ | refine isi1 rfl kb_nl ?_ | refine isi1 rfl kb_nt ?_)
local macro_rules | `(tactic| walk_at "go") => `(tactic| repeat (walk_at "ev"))
local macro_rules | `(tactic| walk_at "f1") => `(tactic| ((refine ex_freeze (i := 1) (ds := ?dd) ?hf ?_); (case hf => exact rfl)))
local macro_rules | `(tactic| walk_at "f2") => `(tactic| ((refine ex_freeze (i := 2) (ds := ?dd) ?hf ?_); (case hf => exact rfl)))
local macro_rules | `(tactic| walk_at "f3") => `(tactic| ((refine ex_freeze (i := 3) (ds := ?dd) ?hf ?_); (case hf => exact rfl)))
local macro_rules | `(tactic| walk_at "f4") => `(tactic| ((refine ex_freeze (i := 4) (ds := ?dd) ?hf ?_); (case hf => exact rfl)))
local macro_rules | `(tactic| walk_at "f5") => `(tactic| ((refine ex_freeze (i := 5) (ds := ?dd) ?hf ?_); (case hf => exact rfl)))
local macro_rules | `(tactic| walk_at "f6") => `(tactic| ((refine ex_freeze (i := 6) (ds := ?dd) ?hf ?_); (case hf => exact rfl)))
local macro_rules | `(tactic| walk_at "f7") => `(tactic| ((refine ex_freeze (i := 7) (ds := ?dd) ?hf ?_); (case hf => exact rfl)))
local macro_rules | `(tactic| walk_at "f8") => `(tactic| ((refine ex_freeze (i := 8) (ds := ?dd) ?hf ?_); (case hf => exact rfl)))
local macro_rules | `(tactic| walk_at "f9") => `(tactic| ((refine ex_freeze (i := 9) (ds := ?dd) ?hf ?_); (case hf => exact rfl)))
local macro_rules | `(tactic| walk_at "f10") => `(tactic| ((refine ex_freeze (i := 10) (ds := ?dd) ?hf ?_); (case hf => exact rfl)))
local macro_rules | `(tactic| walk_at "f11") => `(tactic| ((refine ex_freeze (i := 11) (ds := ?dd) ?hf ?_); (case hf => exact rfl)))
local macro_rules | `(tactic| walk_at "f12") => `(tactic| ((refine ex_freeze (i := 12) (ds := ?dd) ?hf ?_); (case hf => exact rfl)))
local macro_rules | `(tactic| walk_at "f13") => `(tactic| ((refine ex_freeze (i := 13) (ds := ?dd) ?hf ?_); (case hf => exact rfl)))
local macro_rules | `(tactic| walk_at "nf") => `(tactic| ((with_reducible refine ev_norm (δ' := ?dn) ?he ?_); (case he => (simp only [slots, wipeS, List.map_cons, List.map_nil, List.replicate_succ, List.replicate_zero, List.cons_append, List.nil_append, List.set_cons_zero, List.set_cons_succ]; exact rfl))))
theorem ev_callKX {pre : List Dat → (Dat → Prop) → (Int → Prop) → Prop} {E : XK} {tk : TA} (h : EvA C tk δ fun ds => pre ds P fun _ => False) : Ev C (tCallK (spX C CB pre) gK E tNil tk) δ P := fun B F H σ w Q k => by
  refine h B F H σ w _ fun zs F2 H2 ds p g2 w2 d2 => ?_
  exact ⟨F2, ds, P, _, w2.sub, d2, p, fun r v F3 H3 pr g3 su d3 => k v F3 H3 r pr (g2.trans g3.any) (w2.pure g3 su) d3, fun n F3 H3 z => z.elim⟩
/-- asked: what is told -/
theorem asked_told {N : NetM} {d : Dat} {es : List Dat} {ws : List Wld} {P : Dat → Prop} (hN : N.Ok) (hd : Sq d es) (hl : es.length ≤ 70) (hr : ∀ e, e ∈ es → RawOk e) (hp : play N 0 N.start es = .ok ws) (p : P (.tup [.str "told", .tup ((N.start :: ws).map Wld.enc)])) : pre__law_asked [N.obj, d] P :=
  ⟨_, _, rfl, N, d, rfl, hN, .inr ⟨es, hd, hl, hr, by rw [hp]; exact p⟩⟩
theorem asked_step {N : NetM} {d : Dat} {es : List Dat} {n : Nat} {P : Dat → Prop} (hN : N.Ok) (hd : Sq d es) (hl : es.length ≤ 70) (hr : ∀ e, e ∈ es → RawOk e) (hp : play N 0 N.start es = .error n) (p : P (.tup [.str "step", .int (n : Int)])) : pre__law_asked [N.obj, d] P :=
  ⟨_, _, rfl, N, d, rfl, hN, .inr ⟨es, hd, hl, hr, by rw [hp]; exact p⟩⟩
theorem same_yes {d : Dat} {P : Bool → Prop} (h : Due 6 d) (p : P true) : preS 7 [d, d] (isB P) := ⟨d, rfl, h, isB_mk p⟩
theorem same_yes' {d : Dat} {P : Dat → Prop} (h : Due 6 d) (p : P (.bl true)) : preS 7 [d, d] P := ⟨d, rfl, h, p⟩
theorem raw_all {f : Deed → Dat} (hf : Cod f) {es : List Deed} : ∀ e, e ∈ es.map f → RawOk e := fun e he => by
  obtain ⟨d, _, rfl⟩ := List.mem_map.mp he
  exact raw_cod hf d
theorem x__law_agrees : ∀ ds Q, pre__law_agrees ds Q → Ex C CB noX (t__law_agrees K C CB kinds) (.pool :: slots ds 11) (RetP Q) := by
  rintro ds Q ⟨N, rfl, hN, p⟩
  unfold t__law_agrees
  walk_at "go"
  refine ex_asgG (vs := [3, 4]) ?_
  walk_at "go"
  refine ⟨N, 20, rfl, hN, by decide, fun es hel hleg => ?_⟩
  have hrl := run_len (N := N) (es := es) (w := N.start)
  have hw0 := start_ok N
  have hplay : ∀ {f : Deed → Dat}, Cod f → play N 0 N.start (es.map f) = .ok (runW N N.start es).tail := fun hf => play_all hN hf hleg (by omega)
  have hdue : Due 6 (.tup [.str "told", .tup ((runW N N.start es).map Wld.enc)]) := due_told (due_ws (N := N) (by omega) fun w hw => due_w hN (run_mem hw0 w hw) (by omega))
  have told : ∀ {f : Deed → Dat} {d : Dat} {P : Dat → Prop}, Cod f → Sq d (es.map f) → P (.tup [.str "told", .tup ((runW N N.start es).map Wld.enc)]) → pre__law_asked [N.obj, d] P := fun {f d P} hf hd hp =>
    asked_told hN hd (by rw [List.length_map]; omega) (raw_all hf) (hplay hf) (by rw [run_cons]; exact hp)
  refine ⟨_, gg_tup (vs := [3, 4]) (ggs_cons (gg_name (by simp)) (ggs_cons (gg_name (by simp)) ggs_nil)) rfl, ?_⟩
  walk_at "go"
  refine ex_asg ?_
  walk_at "go"
  refine EvN.ev (en_lcM (α := Wld) ?_)
  walk_at "go"
  refine ⟨by rw [List.length_map]; omega, runW N N.start es, Wld.encL, Wld.enc, rfl, fun w hw => ⟨_, gg_name (by simp), ?_⟩, ?_⟩
  · walk_at "go"
    have := (run_mem hw0 w hw).p
    have h8 := hN.c8
    exact ⟨w, rfl, by omega, rfl⟩
  walk_at "go"
  refine ex_asg ?_
  walk_at "go"
  refine ⟨2, rfl, by decide, by decide, fun t1 ht1 => ?_⟩
  refine rv_pick ht1 fun hd hhd => ?_
  have hh : Sq hd (es.map Deed.enc) := by
    simp only [List.mem_cons, List.not_mem_nil, or_false] at hhd
    exact hhd
  walk_at "go"
  refine told cod_enc hh ?_
  walk_at "go"
  refine same_yes hdue ?_
  walk_at "go"
  refine ⟨es.map Deed.enc, by rcases hh with e | e <;> rw [e] <;> simp, ?_⟩
  have hshp : Shp 2 (.lst (es.map Deed.enc)) := shp_lst (n := 1) (all_map fun d => (near_enc d).s)
  walk_at "go"
  refine rv_neD (hshp.eqd (by decide)) (hshp.eqd (by decide)) ?_
  rw [hshp.refl]
  walk_at "go"
  refine ex_asg ?_
  walk_at "go"
  refine ⟨2, rfl, by decide, by decide, fun t2 ht2 => ?_⟩
  refine rv_pick ht2 fun nd hnd => ?_
  have hno : ((tyN nd).isSome = true ∧ (∀ es, nd ≠ .lst es) ∧ (∀ es, nd ≠ .tup es)) := by
    simp only [List.mem_cons, List.not_mem_nil, or_false] at hnd
    rcases hnd with e | e
    · subst e; exact ⟨rfl, fun _ z => (by cases z), fun _ z => (by cases z)⟩
    · subst e; exact ⟨rfl, fun _ z => (by cases z), fun _ z => (by cases z)⟩
  walk_at "go"
  refine EvN.ev (en_lcM (α := Deed) ?_)
  walk_at "go"
  refine ⟨by rw [List.length_map]; omega, es, Deed.enc, fun d => .lst d.ds, rfl, fun d hd => ⟨_, gg_name (by simp), by walk_at "go"; rfl⟩, ?_⟩
  walk_at "go"
  refine told cod_lst (.inl rfl) ?_
  walk_at "go"
  refine same_yes hdue ?_
  walk_at "go"
  refine ⟨_, _, rfl, N, nd, rfl, hN, .inl ⟨hno, ?_⟩⟩
  walk_at "go"
  refine same_yes due_step ?_
  walk_at "go"
  refine ex_asg ?_
  walk_at "go"
  rw [List.length_map]
  refine ⟨es.length + 1, rfl, by omega, by omega, fun part hpart => ?_⟩
  walk_at "go"
  refine ev_callKX ?_
  walk_at "go"
  rw [cut_to, ← List.map_take]
  refine ⟨N, _, rfl, hN, .inr ⟨(es.take part).map Deed.enc, .inr rfl, by rw [List.length_map, List.length_take]; omega, raw_all cod_enc, ?_⟩⟩
  rw [play_all hN cod_enc (legal_take hleg) (by rw [List.length_take]; omega)]
  show EvA C _ _ _
  walk_at "go"
  refine rs_tup ?_
  walk_at "go"
  rw [show ((part : Int) + 1) = ((part + 1 : Nat) : Int) by omega, cut_to, ← List.map_take, run_cons, run_take (by omega)]
  have hdue2 : Due 6 (.tup (((runW N N.start es).take (part + 1)).map Wld.enc)) := (due_ws (N := N) (by rw [List.length_take]; omega) fun w hw => due_w hN (run_mem hw0 w (List.mem_of_mem_take hw)) (by omega)).mono (by decide)
  refine same_yes hdue2 ?_
  walk_at "go"
  refine ex_for ?_
  walk_at "go"
  refine mk_r (n := 3) (by decide) ?_
  refine ⟨fun i δ' => ∃ (s6 s8 s9 s10 s11 s12 s13 : Slot), δ' = [.pool, .val N.dict, .val N.obj, .val (.lst (es.map Deed.enc)), .val (.lst ((runW N N.start es).map Wld.encL)), .val (.tup ((runW N N.start es).map Wld.enc)), s6, .val hd, s8, s9, s10, s11, s12, s13], ⟨_, _, _, _, _, _, _, rfl⟩, fun i e δ' he hI => ?_, fun δ' hI => ?_⟩
  · obtain ⟨s6, s8, s9, s10, s11, s12, s13, rfl⟩ := hI
    obtain ⟨rfl, _⟩ := nats_get he
    refine ⟨[11], _, gg_name (by simp), ?_⟩
    walk_at "go"
    refine ex_asg ?_
    walk_at "go"
    rw [List.length_map]
    refine ⟨es.length + 1, rfl, by omega, by omega, fun at_ hat => ?_⟩
    have hle : at_ ≤ es.length := by omega
    have hwn := end_ok (es := es.take at_) hw0
    have hln : (es.take at_).length = at_ := by rw [List.length_take]; omega
    walk_at "go"
    refine ex_asg ?_
    walk_at "go"
    rw [cut_to, ← List.map_take]
    walk_at "go"
    refine rv_ixL (ixmap (run_get hle)) ?_
    walk_at "go"
    refine ⟨N, _, _, rfl, hN, hwn, by omega, fun x hx1 hx2 hx3 => ?_⟩
    walk_at "go"
    refine ⟨by rw [List.length_map, hln, List.length_singleton]; omega, ?_⟩
    walk_at "go"
    rw [cut_from, ← List.map_drop]
    refine ⟨by rw [List.length_append, List.length_map, List.length_map, List.length_singleton, List.length_drop]; omega, ?_⟩
    walk_at "go"
    refine asked_step hN (.inl rfl) (n := at_) (by rw [List.length_append, List.length_append, List.length_map, List.length_map, List.length_singleton, List.length_drop]; omega) (all_app (all_app (raw_all cod_enc) (all_cons hx1 all_nil)) (raw_all cod_enc)) ?_ ?_
    · rw [List.append_assoc, play_run hN cod_enc (legal_take hleg) (by omega), hln]
      show (match play N (0 + at_) _ (x :: _) with
        | .ok us => Except.ok _
        | .error n => Except.error n) = _
      rw [play_bad hx2 hx3, Nat.zero_add]
    walk_at "go"
    refine same_yes due_step ?_
    walk_at "go"
    exact ⟨_, _, _, _, _, _, _, rfl⟩
  · obtain ⟨s6, s8, s9, s10, s11, s12, s13, rfl⟩ := hI
    walk_at "go"
    refine told cod_enc hh ?_
    walk_at "go"
    exact same_yes' hdue p
end
end Dl


namespace Dl
open PySem L2 PyProof.Rows
section
variable {C CB CU kinds : Addr} {K : PySem.W.Frag} {W : WX} {R : Out → Prop} {δ : List Slot} {P : Dat → Prop}
local macro_rules | `(tactic| walk_at "ev") => `(tactic| first
  | ((with_reducible refine ex_norm (δ' := ?dn) ?he ?_); (case he => (simp only [slots, wipeS, List.map_cons, List.map_nil, List.replicate_succ, List.replicate_zero, List.cons_append, List.nil_append, List.set_cons_zero, List.set_cons_succ]; exact rfl)))
  | (with_reducible refine ex_seq ?_) | (with_reducible refine ex_if ?_) | ((with_reducible refine ex_retF (i := 2) (ds := ?dd) ?hf ?_); (case hf => exact rfl)) | ((with_reducible refine ex_retF (i := 3) (ds := ?dd) ?hf ?_); (case hf => exact rfl)) | ((with_reducible refine ex_retF (i := 4) (ds := ?dd) ?hf ?_); (case hf => exact rfl)) | ((with_reducible refine ex_retF (i := 5) (ds := ?dd) ?hf ?_); (case hf => exact rfl)) | ((with_reducible refine ex_retF (i := 8) (ds := ?dd) ?hf ?_); (case hf => exact rfl)) | (with_reducible refine ex_ret ?_) | (with_reducible refine ex_nx ?_) | (with_reducible refine ex_bk ?_)
  | (with_reducible refine ev_int ?_) | (with_reducible refine ev_str ?_) | (with_reducible refine ev_bl ?_) | (with_reducible refine ev_non ?_)
  | ((with_reducible refine ev_var (d := ?dd) ?hv ?_); (case hv => exact rfl))
  | (with_reducible refine ea_nil ?_) | (with_reducible refine ea_cons ?_) | (with_reducible refine ev_call ?_) | ((with_reducible refine ev_callS ?hv ?_); (case hv => exact rfl))
  | (with_reducible refine et_test ?_) | (with_reducible refine et_B ?_) | (with_reducible refine et_and ?_) | (with_reducible refine et_or ?_) | (with_reducible refine et_not ?_) | (with_reducible refine et_yes ?_)
  | (with_reducible refine ev_andV ?_) | (with_reducible refine ev_orV ?_) | (with_reducible refine ev_notV ?_) | (with_reducible refine ev_if ?_) | (with_reducible refine ev_chain ?_)
  | (with_reducible refine ev_isi ?_) | (with_reducible refine ev_isi2 ?_) | (with_reducible refine ev_tup ?_) | (with_reducible refine EvN.ev (en_sl ?_)) | (with_reducible refine ev_sl ?_) | (with_reducible refine eo_none ?_) | (with_reducible refine eo_some ?_)
  | (with_reducible refine isB_mk ?_)
  | (with_reducible refine rv_add ?_) | (with_reducible refine rv_sub ?_) | (with_reducible refine rv_lt ?_) | (with_reducible refine rv_le ?_) | (with_reducible refine rv_gt ?_) | (with_reducible refine rv_ge ?_)
  | (with_reducible refine rv_eqI ?_) | (with_reducible refine rv_neI ?_) | (with_reducible refine rv_eqS ?_) | (with_reducible refine rv_neS ?_) | (with_reducible refine rv_eqB ?_) | (with_reducible refine rv_isN ?_)
  | (with_reducible refine rc_lenL ?_) | (with_reducible refine rc_lenT ?_) | (with_reducible refine rc_intI ?_) | (with_reducible refine rc_intB ?_) | (with_reducible refine rc_tupT ?_) | (with_reducible refine rc_tupL ?_)
  | (with_reducible refine ev_getP ?_) | (with_reducible refine ev_getC ?_) | (with_reducible refine ev_getR ?_)
  | ((with_reducible refine rv_ixT (z := ?zz) ?hi ?_); (case hi => exact rfl)) | ((with_reducible refine rv_ixL (z := ?zz) ?hi ?_); (case hi => exact rfl))
  | ((with_reducible refine ev_lenO (ds := ?dd) ?hv ?_); (case hv => exact rfl)) | (with_reducible refine EvN.ev (en_lst ?_)) | (with_reducible refine EvN.ev (en_list ?_)) | (with_reducible refine EvN.ev (en_sl ?_)) | (with_reducible refine EvN.ev (en_cat ?_))
  | (with_reducible refine ev_cb ?_) | ((with_reducible refine ev_opO (ds := ?dd) ?hv ?_); (case hv => exact rfl)) | ((with_reducible refine ev_opP (ds := ?dd) ?hv ?_); (case hv => exact rfl)) | (with_reducible refine ev_op ?_)
  | (with_reducible refine ei_seq ?_) | (with_reducible refine ei_enum ?_) | (with_reducible refine ei_range ?_) | (with_reducible refine ei_str ?_)
  | (with_reducible refine mk_o ?_) | (with_reducible refine mk_n ?_) | (with_reducible refine mk_i ?_) | (with_reducible refine mk_s ?_) | (with_reducible refine mk_l ?_) | (with_reducible refine mk_b ?_)
  | (with_reducible refine mk_sl ?_) | (with_reducible refine mk_st ?_) | (with_reducible refine mk_al ?_) | (with_reducible refine mk_at ?_)
  | ((with_reducible refine and_len ?ll ?_); (case ll => exact Nat.le_of_ble_eq_true rfl)) | (refine br_t rfl ?_) | (refine br_f rfl ?_))
local macro_rules | `(tactic| walk_at "isi") => `(tactic| first | refine isi1 rfl kb_ii ?_ | refine isi1 rfl kb_is ?_ | refine isi1 rfl kb_ib ?_ | refine isi1 rfl kb_il ?_ | refine isi1 rfl kb_it ?_ | refine isi1 rfl kb_si ?_ | refine isi1 rfl kb_ss ?_ | refine isi1 rfl kb_sb ?_ | refine isi1 rfl kb_sl ?_ | refine isi1 rfl kb_st ?_ | refine isi1 rfl kb_ll ?_ | refine isi1 rfl kb_lt ?_ | refine isi1 rfl kb_li ?_ | refine isi1 rfl kb_ls ?_ | refine isi1 rfl kb_lb ?_ | refine isi1 rfl kb_tt ?_ | refine isi1 rfl kb_tl ?_ | refine isi1 rfl kb_ti ?_ | refine isi1 rfl kb_ts ?_ | refine isi1 rfl kb_tb ?_ | refine isi1 rfl kb_ni ?_ | refine isi1 rfl kb_ns ?_ | refine isi1 rfl kb_nb ?_ | refine isi1 rfl kb_nl ?_ | refine isi1 rfl kb_nt ?_)
local macro_rules | `(tactic| walk_at "go") => `(tactic| repeat (walk_at "ev"))
local macro_rules | `(tactic| walk_at "f1") => `(tactic| ((refine ex_freeze (i := 1) (ds := ?dd) ?hf ?_); (case hf => exact rfl)))
local macro_rules | `(tactic| walk_at "f2") => `(tactic| ((refine ex_freeze (i := 2) (ds := ?dd) ?hf ?_); (case hf => exact rfl)))
local macro_rules | `(tactic| walk_at "f3") => `(tactic| ((refine ex_freeze (i := 3) (ds := ?dd) ?hf ?_); (case hf => exact rfl)))
local macro_rules | `(tactic| walk_at "f4") => `(tactic| ((refine ex_freeze (i := 4) (ds := ?dd) ?hf ?_); (case hf => exact rfl)))
local macro_rules | `(tactic| walk_at "f5") => `(tactic| ((refine ex_freeze (i := 5) (ds := ?dd) ?hf ?_); (case hf => exact rfl)))
local macro_rules | `(tactic| walk_at "f6") => `(tactic| ((refine ex_freeze (i := 6) (ds := ?dd) ?hf ?_); (case hf => exact rfl)))
local macro_rules | `(tactic| walk_at "f7") => `(tactic| ((refine ex_freeze (i := 7) (ds := ?dd) ?hf ?_); (case hf => exact rfl)))
local macro_rules | `(tactic| walk_at "f8") => `(tactic| ((refine ex_freeze (i := 8) (ds := ?dd) ?hf ?_); (case hf => exact rfl)))
local macro_rules | `(tactic| walk_at "f9") => `(tactic| ((refine ex_freeze (i := 9) (ds := ?dd) ?hf ?_); (case hf => exact rfl)))
local macro_rules | `(tactic| walk_at "f10") => `(tactic| ((refine ex_freeze (i := 10) (ds := ?dd) ?hf ?_); (case hf => exact rfl)))
local macro_rules | `(tactic| walk_at "f11") => `(tactic| ((refine ex_freeze (i := 11) (ds := ?dd) ?hf ?_); (case hf => exact rfl)))
local macro_rules | `(tactic| walk_at "f12") => `(tactic| ((refine ex_freeze (i := 12) (ds := ?dd) ?hf ?_); (case hf => exact rfl)))
local macro_rules | `(tactic| walk_at "f13") => `(tactic| ((refine ex_freeze (i := 13) (ds := ?dd) ?hf ?_); (case hf => exact rfl)))
local macro_rules | `(tactic| walk_at "nf") => `(tactic| ((with_reducible refine ev_norm (δ' := ?dn) ?he ?_); (case he => (simp only [slots, wipeS, List.map_cons, List.map_nil, List.replicate_succ, List.replicate_zero, List.cons_append, List.nil_append, List.set_cons_zero, List.set_cons_succ]; exact rfl))))
theorem ev_make {E : XK} {tr : TA} (h : EvA C tr δ fun ds => ∃ (N : NetM) (d1 d2 d3 : Dat), N.Ok ∧ ds = [d1, d2, d3] ∧ (d1 = .lst (N.procs.map encP) ∨ d1 = .tup (N.procs.map encP)) ∧ (d2 = .lst (N.chans.map encC) ∨ d2 = .tup (N.chans.map encC)) ∧ (d3 = .lst (N.rules.map encR) ∨ d3 = .tup (N.rules.map encR)) ∧ P N.obj) :
    Ev C (tMake C (spNet C CB) [] E tr) δ P := fun B F H σ w Q k => h B F H σ w _ fun vs F1 H1 ds p g1 w1 dd => by
  obtain ⟨N, d1, d2, d3, hN, rfl, h1, h2, h3, p⟩ := p
  intro x dx n1 n2 ne
  cases dd with
  | @cons v1 _ _ _ a1 dd =>
    cases dd with
    | @cons v2 _ _ _ a2 dd =>
      cases dd with
      | @cons v3 _ _ _ a3 dd =>
        cases dd
        have fx : F1 x = none := none_of w1.sub n1
        have fdx : F1 dx = none := none_of w1.sub n2
        have old : ∀ a o, H1 a = some o → (upd (upd H1 dx (.own x)) x (.ins C dx [])) a = some o := fun a o e => by
          rw [upd_ne (ne_of_none e n1), upd_ne (ne_of_none e n2)]; exact e
        refine ⟨x, dx, F1, N, v1, v2, v3, d1, d2, d3, by simp, fun a o e => old a o (w1.sub a o e), upd_same, fx, a1, a2, a3, hN, h1, h2, h3, fun u1 u2 u3 F' H' g sub t1 t2 t3 => ⟨rfl, ?_⟩⟩
        have hx' : H' x = some (.ins C dx []) := g.h x _ (by simp) upd_same
        have fx' : F' x = none := g.fr x (by rw [upd_same]; simp) fx
        have fs : Same F' (upd F' x (.ins C dx [("processes", u1), ("channels", u2), ("rules", u3)])) := fun a u e => by rw [upd_ne (ne_of_none e fx')]; exact e
        have old2 : ∀ a, H1 a ≠ none → a ≠ x := fun a e z => e (by rw [z]; exact n1)
        have oldn : ∀ a, H1 a ≠ none → (upd (upd H1 dx (.own x)) x (.ins C dx [])) a ≠ none := fun a e => by
          obtain ⟨o, ho⟩ : ∃ o, H1 a = some o := by
            cases q : H1 a with
            | none => exact absurd q e
            | some o => exact ⟨o, rfl⟩
          rw [old a o ho]; simp
        have g2 : Gr none F1 H1 (upd F' x (.ins C dx [("processes", u1), ("channels", u2), ("rules", u3)])) (upd H' x (.ins C dx [("processes", u1), ("channels", u2), ("rules", u3)])) := by
          refine ⟨g.f.trans fs, fun a o _ e => ?_, fun a e => ?_, fun a e z => ?_⟩
          · rw [upd_ne (ne_of_none e n1)]; exact g.h a o (by simp) (old a o e)
          · rw [upd_ne (old2 a e)]; exact g.th a (oldn a e)
          · rw [upd_ne (old2 a e)]; exact g.fr a (oldn a e) z
        have sub2 : Same (upd F' x (.ins C dx [("processes", u1), ("channels", u2), ("rules", u3)])) (upd H' x (.ins C dx [("processes", u1), ("channels", u2), ("rules", u3)])) := fun a u e => by
          by_cases ha : a = x
          · rw [ha, upd_same] at e ⊢; exact e
          · rw [upd_ne ha] at e ⊢; exact sub a u e
        exact k (.ref x) _ _ N.obj p (g1.trans g2.any) (w1.pure g2 sub2) (.obj upd_same (t1.mono fs) (t2.mono fs) (t3.mono fs))
theorem x__law_made : ∀ ds Q, pre__law_made ds Q → Ex C CB noX (t__law_made K C CB kinds) (.pool :: slots ds 0) (RetP Q) := by
  rintro ds Q ⟨N, rfl, hN, p⟩
  unfold t__law_made
  walk_at "go"
  refine ⟨2, rfl, by decide, by decide, fun t ht => ?_⟩
  walk_at "go"
  refine ⟨fun _ => ?_, fun _ => ?_⟩
  · walk_at "go"
    refine ev_make ?_
    walk_at "go"
    exact ⟨N, _, _, _, hN, rfl, .inl rfl, .inl rfl, .inl rfl, p⟩
  · walk_at "go"
    refine ev_make ?_
    walk_at "go"
    exact ⟨N, _, _, _, hN, rfl, .inr rfl, .inr rfl, .inr rfl, p⟩
theorem long_step {xs : List PySem.Str} {r : Nat} (h : r < xs.length) : Deed.act r ∈ possible (longN xs) (longN xs).start ∧ step (longN xs) (longN xs).start (.act r) = (longN xs).start := by
  have hu : (longN xs).rules[r]? = some ⟨r, 0, .doo, 0⟩ := by
    show ((List.range xs.length).map fun p => (⟨p, 0, .doo, 0⟩ : Rul))[r]? = _
    rw [List.getElem?_map, List.getElem?_range h]; rfl
  refine ⟨can_poss ⟨_, hu, rfl⟩ ?_, ?_⟩
  · rw [canDo_act hu]
    show (List.replicate (longN xs).procs.length 0).getD r 0 == 0
    rw [List.getD_eq_getElem?_getD, List.getElem?_replicate]
    split <;> rfl
  · rw [step_act hu]
    show (⟨(List.replicate (longN xs).procs.length 0).set r 0, _, _⟩ : Wld) = ⟨List.replicate (longN xs).procs.length 0, _, _⟩
    congr 1
    refine List.ext_getElem? fun i => ?_
    by_cases e : r = i
    · subst e
      by_cases hl : r < (List.replicate (longN xs).procs.length 0).length
      · rw [List.getElem?_set_self hl, List.getElem?_eq_getElem hl, List.getElem_replicate]
      · rw [List.getElem?_eq_none (by rw [List.length_set]; omega), List.getElem?_eq_none (by omega)]
    · rw [List.getElem?_set_ne e]
theorem long_run {xs : List PySem.Str} : ∀ {rs : List Nat}, (∀ r, r ∈ rs → r < xs.length) → legal (longN xs) (longN xs).start (rs.map Deed.act) ∧ runW (longN xs) (longN xs).start (rs.map Deed.act) = List.replicate (rs.length + 1) (longN xs).start ∧ endW (longN xs) (longN xs).start (rs.map Deed.act) = (longN xs).start
  | [], _ => ⟨trivial, rfl, rfl⟩
  | r :: rs, h => by
    obtain ⟨a, b⟩ := long_step (h r List.mem_cons_self)
    obtain ⟨c, d, e⟩ := long_run (rs := rs) fun s hs => h s (List.mem_cons_of_mem _ hs)
    refine ⟨⟨a, by rw [b]; exact c⟩, ?_, ?_⟩
    · show _ :: runW _ (step _ _ _) _ = _
      rw [b, d]; rfl
    · show endW _ (step _ _ _) _ = _
      rw [b]; exact e
theorem x__law_sixty : ∀ ds Q, pre__law_sixty ds Q → Ex C CB noX (t__law_sixty K C CB kinds) (.pool :: slots ds 5) (RetP Q) := by
  rintro ds Q ⟨rfl, p⟩
  unfold t__law_sixty
  walk_at "go"
  refine ex_asgG (vs := [1, 2]) ?_
  walk_at "go"
  refine ⟨rfl, fun xs rs hN hrl hrs => ?_⟩
  obtain ⟨hleg, hrun, hend⟩ := long_run hrs
  generalize hNN : longN xs = N at hN hleg hrun hend
  have hw0 := start_ok N
  have hml : (rs.map Deed.act).length = 60 := by rw [List.length_map]; exact hrl
  have h8 := hN.c8
  refine ⟨_, gg_tup (vs := [1, 2]) (ggs_cons (gg_name (by simp)) (ggs_cons (gg_name (by simp)) ggs_nil)) rfl, ?_⟩
  walk_at "go"
  refine ex_asg ?_
  walk_at "go"
  refine ⟨N, rfl, hN, ?_⟩
  walk_at "go"
  refine ex_asg ?_
  walk_at "go"
  refine EvN.ev (en_lcM (α := Nat) ?_)
  walk_at "go"
  refine mk_r (n := 61) (by decide) ?_
  refine ⟨by rw [nats_len]; decide, List.range 61, fun i : Nat => .int (i : Int), fun _ => N.start.enc, rfl, fun q hq => ⟨_, gg_name (by simp), ?_⟩, ?_⟩
  · walk_at "go"
    refine ⟨N, rfl, hN, ?_⟩
    walk_at "go"
    exact ⟨N.start, rfl, by rw [hw0.p]; omega, rfl⟩
  walk_at "go"
  have e1 : ((List.range 61).map fun _ => N.start.enc) = (N.start :: (runW N N.start (rs.map Deed.act)).tail).map Wld.enc := by
    rw [run_cons, hrun, hrl, map_const, List.length_range, List.map_replicate]
  have hdue : Due 6 (.tup [.str "told", .tup ((N.start :: (runW N N.start (rs.map Deed.act)).tail).map Wld.enc)]) := by
    rw [run_cons]
    exact due_told (due_ws (N := N) (by rw [run_len, hml]; decide) fun w hw => due_w hN (run_mem hw0 w hw) (by omega))
  have e2 : (rs.map fun r => (Deed.act r).enc) = (rs.map Deed.act).map Deed.enc := by rw [List.map_map]; rfl
  rw [e1]
  refine asked_told hN (.inl rfl) (by rw [List.length_map]; omega) (by rw [e2]; exact raw_all cod_enc) (by rw [e2]; exact play_all hN cod_enc hleg (by omega)) ?_
  walk_at "go"
  refine same_yes hdue ?_
  walk_at "go"
  rw [show (1 : Int) = ((1 : Nat) : Int) from rfl, cut_to]
  refine ⟨by rw [List.length_map, List.length_take, List.length_map]; omega, ?_⟩
  walk_at "go"
  obtain ⟨r, hr⟩ : ∃ r, rs[0]? = some r := ⟨_, List.getElem?_eq_getElem (by omega)⟩
  have e3 : (rs.map fun r => (Deed.act r).enc).take 1 = [(Deed.act r).enc] := by
    cases rs with
    | nil => simp at hr
    | cons a as => cases hr; rfl
  rw [e3]
  refine asked_step hN (.inl rfl) (n := 60) (by rw [List.length_append, List.length_map, List.length_singleton]; omega) (all_app (by rw [e2]; exact raw_all cod_enc) (all_cons (raw_cod cod_enc _) all_nil)) ?_ ?_
  · rw [e2, play_run hN cod_enc hleg (by omega), hml]
    show (match play N (0 + 60) _ ((Deed.act r).enc :: []) with
      | .ok us => Except.ok _
      | .error n => Except.error n) = _
    rw [play]
    cases asDeed N (Deed.act r).enc with
    | none => rfl
    | some d => simp
  walk_at "go"
  exact same_yes' due_step p
/-- the law, from the script on -/
def spLaw (K : PySem.W.Frag) : Sp := fun vs H Q _ => ∃ (a : Addr) (ns : List Int), vs = [.ref a] ∧ SqL K H a (ns.map V.int) ∧ ns.length ≤ 63 ∧ ∀ H', Q (.bl true) H'
theorem law_rest (CB : Addr) {B : Bs} {F H : Hp} {p : Addr} {σ : L2.St} {D : Ends} (w : Wd C B F H σ [.emp, .pool, .emp, .emp]) (k : ∀ H', D.rt (.bl true) H') : 
    (tSeq (tAsg (tCall (spS C pre__law_net) [] E0 (tCons (tVar 1) tNil)) (gName 2))
    (tSeq (tAsg (tCall (spS C pre__law_made) [] E0 (tCons (tVar 1) (tCons (tVar 2) tNil))) (gName 3))
    (tSeq (tIfS (tOr (tNot (tB (tCall (spS C pre__law_agrees) [] E0 (tCons (tVar 1) (tCons (tVar 2) (tCons (tVar 3) tNil)))))) (tNot (tB (tCall (spS C pre__law_agrees) [] E0 (tCons (tVar 1) (tCons (tVar 2) (tCons (tVar 3) tNil))))))) (tRet (tC (.bl false))) tNext)
    (tRet (tOrV (tOp rGtI (tCall (spS C pre__law_take) [] E0 (tCons (tVar 1) (tCons (tC (.int 4)) tNil))) (tC (.int 0))) (tCall (spS C pre__law_sixty) [] E0 (tCons (tVar 1) tNil))))))) D σ H := by
  have h : Ex C CB noX (tSeq (tAsg (tCall (spS C pre__law_net) [] E0 (tCons (tVar 1) tNil)) (gName 2))
    (tSeq (tAsg (tCall (spS C pre__law_made) [] E0 (tCons (tVar 1) (tCons (tVar 2) tNil))) (gName 3))
    (tSeq (tIfS (tOr (tNot (tB (tCall (spS C pre__law_agrees) [] E0 (tCons (tVar 1) (tCons (tVar 2) (tCons (tVar 3) tNil)))))) (tNot (tB (tCall (spS C pre__law_agrees) [] E0 (tCons (tVar 1) (tCons (tVar 2) (tCons (tVar 3) tNil))))))) (tRet (tC (.bl false))) tNext)
    (tRet (tOrV (tOp rGtI (tCall (spS C pre__law_take) [] E0 (tCons (tVar 1) (tCons (tC (.int 4)) tNil))) (tC (.int 0))) (tCall (spS C pre__law_sixty) [] E0 (tCons (tVar 1) tNil))))))) [.emp, .pool, .emp, .emp] (fun o => o = .rt (.bl true)) := by
    walk_at "go"
    refine ex_asg ?_
    walk_at "go"
    refine ⟨rfl, fun N hN => ?_⟩
    walk_at "go"
    refine ex_asg ?_
    walk_at "go"
    refine ⟨N, rfl, hN, ?_⟩
    walk_at "go"
    refine ⟨N, rfl, hN, isB_mk ?_⟩
    walk_at "go"
    refine ⟨N, rfl, hN, isB_mk ?_⟩
    walk_at "go"
    refine ⟨4, rfl, by decide, by decide, fun t ht => ?_⟩
    walk_at "go"
    refine ⟨fun _ => rfl, fun _ => ?_⟩
    walk_at "go"
    exact ⟨rfl, rfl⟩
  refine h B F H σ w D ⟨fun δ e => (by cases e), fun δ e => (by cases e), fun δ e => (by cases e), fun d e v F1 H1 σ1 δ1 w1 hd => ?_, fun n e => (by cases e)⟩
  cases e
  cases hd
  exact k H1
theorem law_raw {a : Addr} {ns : List Int} {H : Hp} {D : Ends} (hS : SqL K H a (ns.map V.int)) (hl : ns.length ≤ 63) (k : ∀ H', D.rt (.bl true) H') : t_law K C CB kinds D [some (.ref a), none, none, none] H := by
  unfold t_law
  refine ⟨.ref a, rfl, a, ns, rfl, hS, by omega, fun p vc s F' H' fp dc hp sub => ?_⟩
  have w : Wd C ⟨some p, F', H'⟩ F' H' [some (.ref a), some (.ref p), none, none] [.emp, .pool, .emp, .emp] := by
    refine ⟨sub, Gr.refl _ _ _, fun j k e => ?_, fun i j di dj q e1 e2 _ _ => ?_, fun q e => ?_⟩
    · match j, e with
      | 0, e => cases e; exact ⟨_, rfl, trivial⟩
      | 1, e => cases e; exact ⟨_, rfl, p, rfl, rfl⟩
      | 2, e => cases e; exact ⟨_, rfl, trivial⟩
      | 3, e => cases e; exact ⟨_, rfl, trivial⟩
      | j + 4, e => simp at e
    · match i, e1 with
      | 0, e => cases e
      | 1, e => cases e
      | 2, e => cases e
      | 3, e => cases e
      | j + 4, e => simp at e
    · cases e
      exact ⟨s, fp, vc, dc, hp⟩
  exact law_rest (C := C) CB (p := p) w k
end
end Dl


namespace Dl
open PySem L2 PyProof.Rows
section
variable {P : Program} {w : World} {K : PySem.W.Frag} {mg : PySem.Str → Option Value} {base : Heap} {C CB CU fI kinds : Addr}
theorem ok_take (CB : Addr) (T : Bt K mg C kinds) {f fm : Addr} {fd fdm : FuncData} (F : Fun K "_law_take" "_law_take" s__law_take f fd) (cm : Cal K mg "_law_mixed" fm fdm ["_law_number", "_law_turn", "_law_many"]) (Gm : FnOk P w K mg base CX0 1 fm fdm ["_law_number", "_law_turn", "_law_many"] (spP C pre__law_mixed)) :
    FnOk P w K mg base CX0 2 f fd ["_law_pool_here", "_law_many"] (spS C pre__law_take) := by
  refine F.ok sc__law_take (fun vs H Q E h => ?_) (fun cdv A outer s H vs Q E hr h => ?_)
  · obtain ⟨p, ws, F', ds, Q', rfl, sf, pl, hv, ⟨m, rfl, _⟩, _⟩ := h
    rw [List.length_cons, hv.length]; rfl
  · obtain ⟨p, ws, F', ds, Q', rfl, sf, ⟨s0, pl⟩, hv, ⟨m, rfl, hm, hm2, hq⟩, q⟩ := h
    refine ⟨t__law_take K C CB kinds, d__law_take T cm Gm hr, ?_⟩
    cases hv with
    | cons a b =>
      cases b
      cases a
      refine x_take (p := p) (m := m) (s := s0) hm hm2 hq F' H F' H _ ⟨sf, Gr.refl _ _ _, pl, rfl, rfl, fun d e => (by cases e), by show 2 < 3; decide⟩ _ (fun z' s' F1 H1 σ1 e => e.elim) (fun d v z' s' F1 H1 σ1 e w1 hd => ?_)
      exact q d v F1 H1 e w1.gr w1.sub ⟨s', w1.pl⟩ hd
theorem ok_pool (CB : Addr) (T : Bt K mg C kinds) {f : Addr} {fd : FuncData} (F : Fun K "_law_pool" "_law_pool" s__law_pool f fd) : FnOk P w K mg base CX0 1 f fd ["_law_script"] (spN C K) := by
  refine F.ok sc__law_pool (fun vs H Q E h => ?_) (fun cdv A outer s H vs Q E hr h => ?_)
  · obtain ⟨a, ns, rfl, _⟩ := h; rfl
  · obtain ⟨a, ns, rfl, hS, hl, q⟩ := h
    exact ⟨t__law_pool K C CB kinds, d__law_pool T hr, pool_raw (C := C) (CB := CB) (kinds := kinds) hS hl fun p vc s0 F' H' h1 h2 h3 h4 => q p vc s0 F' H' h1 h2 h3 h4⟩
theorem ok_Net (n : NetC K C) {f : Addr} {fd : FuncData} (F : Fun K "__init__" "Net.__init__" s_Net_init f fd)
    (hd : ∀ (cdv : Value) (A : Around) (outer : List Env) (s : Shared) (H : Hp) (E : XK), Room 5 (A.deeper (envOfC "Net.__init__" (defScope s_Net_init) s.heap.objs.size f cdv)) → PSs (cxOf CX0 P w K mg base n_Net_init "Net.__init__" (defScope s_Net_init) f cdv A outer s H E).nox (defBody s_Net_init) (t_Net_init K C CB kinds)) :
    FnOk P w K mg base CX0 6 f fd ["self", "processes", "channels", "rules"] (spNet C CB) := by
  refine F.ok sc_Net_init (fun vs H Q E h => ?_) (fun cdv A outer s H vs Q E hr h => ?_)
  · obtain ⟨x, dx, F', N, v1, v2, v3, d1, d2, d3, rfl, _⟩ := h; rfl
  · obtain ⟨x, dx, F', N, v1, v2, v3, d1, d2, d3, rfl, sf, hx, fx, e1, e2, e3, hN, h1, h2, h3, k⟩ := h
    exact ⟨t_Net_init K C CB kinds, hd cdv A outer s H E hr, x_Net (Q := Q) n hN sf hx fx e1 e2 e3 h1 h2 h3 fun u1 u2 u3 F1 H1 g sub t1 t2 t3 _ => k u1 u2 u3 F1 H1 g sub t1 t2 t3⟩
theorem ok_asked (T : Bt K mg C kinds) (A1 : AskTxt K mg CB CU) {f fp : Addr} {fd fdp : FuncData} (F : Fun K "_law_asked" "_law_asked" s__law_asked f fd) (cp : Cal K mg "played" fp fdp ["net", "deeds"]) (Gp : FnOk P w K mg base (L2.CX P w) 5 fp fdp ["net", "deeds"] (spX C CB pre_played)) :
    FnOk P w K mg base CX0 7 f fd ["_law_made_here", "_law_deeds"] (spP C pre__law_asked) := by
  refine F.ok sc__law_asked (fun vs H Q E h => ?_) (fun cdv A outer s H vs Q E hr h => ?_)
  · obtain ⟨F', ds, Q', sf, hv, ⟨d, e, rfl, _⟩, _⟩ := h
    rw [hv.length]; rfl
  · obtain ⟨F', ds, Q', sf, hv, ⟨d, e, rfl, hp⟩, q⟩ := h
    refine ⟨t__law_asked K C CB CU, d__law_asked T A1 cp Gp hr, ?_⟩
    cases hv with
    | @cons v1 _ _ _ a1 hv =>
      cases hv with
      | @cons v2 _ _ _ a2 hv =>
        cases hv
        refine ⟨v1, rfl, v2, rfl, F', [d, e], _, _, sf, .cons a1 (.cons a2 .nil), hp, fun r v F1 H1 pr g sub dv => ?_, fun n F1 H1 px g sub dd hdd => ?_⟩
        · refine ⟨by show 2 ≤ sizeLine; decide, fun a ha => ?_⟩
          exact q _ (.ref a) (upd F1 a (.tup [.str "told", v])) _ pr (g.trans (Gr.newF sub ha)) (same_new sub ha) (.tup upd_same (.cons (.str _) (.cons (dv.mono (Gr.newF (P := none) (o := .tup [.str "told", v]) sub ha).f) .nil)))
        · refine ⟨true, A1.ex, fun _ a ha => ⟨dd, rfl, rfl, ?_⟩, fun z => (by cases z)⟩
          have g1 : Gr none F' H F1 (upd H1 dd (.xd [("at", .int n)])) := g.trans (Gr.newO hdd)
          have sub1 : Same F1 (upd H1 dd (.xd [("at", .int n)])) := same_newO sub (none_of sub hdd)
          refine ⟨.ref a, rfl, .ref CB, .ref CB, true, _, rfl, fun u hu => hu, upd_same, A1.k1, true, rfl, ?_⟩
          refine iteT ?_
          refine ⟨.ref a, rfl, .ty "Exception", .type "Exception", true, _, rfl, fun u hu => hu, upd_same, A1.k2, true, rfl, ?_⟩
          refine iteT ?_
          refine ⟨.ref a, rfl, rfl, rfl, dd, _, .int n, rfl, upd_same, by simp [List.lookup], by show 2 ≤ sizeLine; decide, fun a2 ha2 => ?_⟩
          exact q _ (.ref a2) (upd F1 a2 (.tup [.str "step", .int n])) _ px (g1.trans (Gr.newF sub1 ha2)) (same_new sub1 ha2) (.tup upd_same (.cons (.str _) (.cons (.int _) .nil)))
end
end Dl


namespace Dl
open PySem L2 PyProof.Rows
/-- a def of the text, as the module holds it -/
def DefIn (K : PySem.W.Frag) (mg : PySem.Str → Option Value) (x : PySem.Str) (st : Stmt) (ps : List PySem.Str) : Prop := ∃ (f : Addr) (fd : FuncData), Cal K mg x f fd ps ∧ Fun K x x st f fd
section
variable {P : Program} {w : World} {K : PySem.W.Frag} {mg : PySem.Str → Option Value} {base : Heap} {C CB CU fI kinds : Addr}
theorem fn_none {CX : CXT} {f : Addr} {fd : FuncData} {ps : List PySem.Str} {pre : Pre} (h : ∀ ds Q, ¬ pre ds Q) : FnOk P w K mg base CX 0 f fd ps (spP C pre) :=
  ⟨fun vs H Q E q => by obtain ⟨_, ds, Q', _, _, hp, _⟩ := q; exact absurd hp (h _ _), fun A outer s H args us vs Q E _ _ _ _ q => by obtain ⟨_, ds, Q', _, _, hp, _⟩ := q; exact absurd hp (h _ _)⟩

theorem all_ok (T : Bt K mg C kinds) (NC : NetC K C) (A1 : AskTxt K mg CB CU) (TB : PySem.BadX.BadTxt K mg CB CU fI) (hfile : ((P.main.file : PySem.Str) == "/claim/cut.py") = true) (htop : (P.main.scope.names.lookup ("super" : PySem.Str)).isSome = false)
    {fN : Addr} {fdN : FuncData} (MK : Mk K C fN) (FN : Fun K "__init__" "Net.__init__" s_Net_init fN fdN) (bN : Binds K fdN ["self", "processes", "channels", "rules"] [])
    (kbp : ∀ f fd, Fun K "played" "played" s_played f fd → KBinds K fd ["net", "deeds"] ["net", "deeds"] gK gK)
    (D_is_whole : DefIn K mg "is_whole" (topS 13) ["value"])
    (D_is_below : DefIn K mg "is_below" (topS 14) ["value", "top"])
    (D_is_name : DefIn K mg "is_name" (topS 15) ["value"])
    (D_is_process : DefIn K mg "is_process" (topS 16) ["value", "elder"])
    (D_is_channel : DefIn K mg "is_channel" (topS 17) ["value", "processes", "elder"])
    (D_is_act : DefIn K mg "is_act" (topS 18) ["act", "process", "channels"])
    (D_is_rule : DefIn K mg "is_rule" (topS 19) ["value", "processes", "channels"])
    (D__frozen : DefIn K mg "_frozen" (topS 20) ["value", "depth"])
    (D__rows : DefIn K mg "_rows" (topS 21) ["value", "least", "most"])
    (D_start : DefIn K mg "start" (topS 24) ["net"])
    (D_is_lossy : DefIn K mg "is_lossy" (topS 25) ["net", "channel"])
    (D_is_ordered : DefIn K mg "is_ordered" (topS 26) ["net", "channel"])
    (D_as_deed : DefIn K mg "as_deed" (topS 27) ["net", "deed"])
    (D_open_messages_of : DefIn K mg "open_messages_of" (topS 28) ["net", "world", "channel"])
    (D_can_do : DefIn K mg "can_do" (topS 29) ["net", "world", "deed"])
    (D__with_part : DefIn K mg "_with_part" (topS 30) ["row", "at", "part"])
    (D__without_message : DefIn K mg "_without_message" (topS 31) ["present", "channel", "k"])
    (D_behind : DefIn K mg "behind" (topS 32) ["net", "world", "deed"])
    (D_played : DefIn K mg "played" (topS 35) ["net", "deeds"])
    (D__law_mixed : DefIn K mg "_law_mixed" (topS 37) ["_law_number", "_law_turn", "_law_many"])
    (D__law_pool : DefIn K mg "_law_pool" (topS 38) ["_law_script"])
    (D__law_take : DefIn K mg "_law_take" (topS 39) ["_law_pool_here", "_law_many"])
    (D__law_names : DefIn K mg "_law_names" (topS 40) ["_law_pool_here", "_law_many"])
    (D__law_rule : DefIn K mg "_law_rule" (topS 41) ["_law_pool_here", "_law_processes", "_law_channels"])
    (D__law_net : DefIn K mg "_law_net" (topS 42) ["_law_pool_here"])
    (D__law_made : DefIn K mg "_law_made" (topS 43) ["_law_pool_here", "_law_net_here"])
    (D__law_start : DefIn K mg "_law_start" (topS 44) ["_law_net_here"])
    (D__law_told : DefIn K mg "_law_told" (topS 45) ["_law_world"])
    (D__law_first : DefIn K mg "_law_first" (topS 46) ["_law_net_here", "_law_world", "_law_c"])
    (D__law_possible : DefIn K mg "_law_possible" (topS 47) ["_law_net_here", "_law_world"])
    (D__law_done : DefIn K mg "_law_done" (topS 49) ["_law_net_here", "_law_world", "_law_deed"])
    (D__law_run : DefIn K mg "_law_run" (topS 50) ["_law_pool_here", "_law_net_here", "_law_most"])
    (D__law_near : DefIn K mg "_law_near" (topS 51) ["_law_pool_here", "_law_net_here", "_law_world"])
    (D__law_same : DefIn K mg "_law_same" (topS 52) ["_law_actual", "_law_due"])
    (D__law_asked : DefIn K mg "_law_asked" (topS 53) ["_law_made_here", "_law_deeds"])
    (D__law_agrees : DefIn K mg "_law_agrees" (topS 54) ["_law_pool_here", "_law_net_here", "_law_made_here"])
    (D__law_long : DefIn K mg "_law_long" (topS 55) ["_law_pool_here"])
    (D__law_sixty : DefIn K mg "_law_sixty" (topS 56) ["_law_pool_here"]) {fl : Addr} {fdl : FuncData} (F_law : Fun K "law" "law" s_law fl fdl) : FnOk P w K mg base CX0 11 fl fdl ["_law_script"] (spLaw K) := by
  obtain ⟨f_is_whole, fd_is_whole, c_is_whole, F_is_whole⟩ := D_is_whole
  have G_is_whole : FnOk P w K mg base CX0 1 f_is_whole fd_is_whole ["value"] (spP C pre_is_whole) := okP (t := t_is_whole K C CB kinds) F_is_whole sc_is_whole 0 rfl (by intro ds Q h; obtain ⟨_, rfl, _⟩ := h; rfl) (fun cdv A outer s H E hr => d_is_whole T hr) x_is_whole
  obtain ⟨f_is_below, fd_is_below, c_is_below, F_is_below⟩ := D_is_below
  have G_is_below : FnOk P w K mg base CX0 2 f_is_below fd_is_below ["value", "top"] (spP C pre_is_below) := okP (t := t_is_below K C CB kinds) F_is_below sc_is_below 0 rfl (by intro ds Q h; obtain ⟨_, _, rfl, _⟩ := h; rfl) (fun cdv A outer s H E hr => d_is_below T c_is_whole G_is_whole hr) x_is_below
  obtain ⟨f_is_name, fd_is_name, c_is_name, F_is_name⟩ := D_is_name
  have G_is_name : FnOk P w K mg base CX0 1 f_is_name fd_is_name ["value"] (spP C pre_is_name) := okP (t := t_is_name K C CB kinds) F_is_name sc_is_name 1 rfl (by intro ds Q h; obtain ⟨_, rfl, _⟩ := h; rfl) (fun cdv A outer s H E hr => d_is_name T hr) x_is_name
  obtain ⟨f_is_process, fd_is_process, c_is_process, F_is_process⟩ := D_is_process
  have G_is_process : FnOk P w K mg base CX0 2 f_is_process fd_is_process ["value", "elder"] (spP C pre_is_process) := okP (t := t_is_process K C CB kinds) F_is_process sc_is_process 1 rfl (by intro ds Q h; obtain ⟨_, _, rfl, _⟩ := h; rfl) (fun cdv A outer s H E hr => d_is_process T c_is_name G_is_name c_is_whole G_is_whole hr) x_is_process
  obtain ⟨f_is_channel, fd_is_channel, c_is_channel, F_is_channel⟩ := D_is_channel
  have G_is_channel : FnOk P w K mg base CX0 3 f_is_channel fd_is_channel ["value", "processes", "elder"] (spP C pre_is_channel) := okP (t := t_is_channel K C CB kinds) F_is_channel sc_is_channel 1 rfl (by intro ds Q h; obtain ⟨_, _, _, rfl, _⟩ := h; rfl) (fun cdv A outer s H E hr => d_is_channel T c_is_name G_is_name c_is_below G_is_below hr) (x_is_channel T.kinds)
  obtain ⟨f_is_act, fd_is_act, c_is_act, F_is_act⟩ := D_is_act
  have G_is_act : FnOk P w K mg base CX0 3 f_is_act fd_is_act ["act", "process", "channels"] (spP C pre_is_act) := okP (t := t_is_act K C CB kinds) F_is_act sc_is_act 0 rfl (by intro ds Q h; obtain ⟨_, _, _, rfl, _⟩ := h; rfl) (fun cdv A outer s H E hr => d_is_act T c_is_below G_is_below hr) x_is_act
  obtain ⟨f_is_rule, fd_is_rule, c_is_rule, F_is_rule⟩ := D_is_rule
  have G_is_rule : FnOk P w K mg base CX0 4 f_is_rule fd_is_rule ["value", "processes", "channels"] (spP C pre_is_rule) := okP (t := t_is_rule K C CB kinds) F_is_rule sc_is_rule 1 rfl (by intro ds Q h; obtain ⟨_, _, _, rfl, _⟩ := h; rfl) (fun cdv A outer s H E hr => d_is_rule T c_is_below G_is_below c_is_act G_is_act hr) x_is_rule
  obtain ⟨f__frozen, fd__frozen, c__frozen, F__frozen⟩ := D__frozen
  have G__frozen : ∀ m, FnOk P w K mg base CX0 m f__frozen fd__frozen ["value", "depth"] (spP C (preF m)) := fun m => by
    induction m with
    | zero => exact fn_none fun _ _ h => h
    | succ m ih => exact okP (pre := preF (m + 1)) (t := t__frozen K C CB kinds m) F__frozen sc__frozen 1 rfl (by intro ds Q h; obtain ⟨_, _, rfl, _⟩ := h; rfl) (fun cdv A outer s H E hr => d__frozen T m c__frozen ih hr) (x__frozen m)
  have G__frozen := G__frozen 4
  obtain ⟨f__rows, fd__rows, c__rows, F__rows⟩ := D__rows
  have G__rows : FnOk P w K mg base CX0 5 f__rows fd__rows ["value", "least", "most"] (spP C pre__rows) := okP (t := t__rows K C CB kinds) F__rows sc__rows 2 rfl (by intro ds Q h; obtain ⟨_, _, _, _, rfl, _⟩ := h; rfl) (fun cdv A outer s H E hr => d__rows T c__frozen G__frozen hr) x__rows
  obtain ⟨f_start, fd_start, c_start, F_start⟩ := D_start
  have G_start : FnOk P w K mg base CX0 1 f_start fd_start ["net"] (spP C pre_start) := okP (t := t_start K C CB kinds) F_start sc_start 1 rfl (by intro ds Q h; obtain ⟨_, rfl, _⟩ := h; rfl) (fun cdv A outer s H E hr => d_start T hr) (x_start NC)
  obtain ⟨f_is_lossy, fd_is_lossy, c_is_lossy, F_is_lossy⟩ := D_is_lossy
  have G_is_lossy : FnOk P w K mg base CX0 1 f_is_lossy fd_is_lossy ["net", "channel"] (spP C pre_is_lossy) := okP (t := t_is_lossy K C CB kinds) F_is_lossy sc_is_lossy 0 rfl (by intro ds Q h; obtain ⟨_, _, rfl, _⟩ := h; rfl) (fun cdv A outer s H E hr => d_is_lossy T hr) (x_is_lossy NC)
  obtain ⟨f_is_ordered, fd_is_ordered, c_is_ordered, F_is_ordered⟩ := D_is_ordered
  have G_is_ordered : FnOk P w K mg base CX0 1 f_is_ordered fd_is_ordered ["net", "channel"] (spP C pre_is_ordered) := okP (t := t_is_ordered K C CB kinds) F_is_ordered sc_is_ordered 0 rfl (by intro ds Q h; obtain ⟨_, _, rfl, _⟩ := h; rfl) (fun cdv A outer s H E hr => d_is_ordered T hr) (x_is_ordered NC)
  obtain ⟨f_as_deed, fd_as_deed, c_as_deed, F_as_deed⟩ := D_as_deed
  have G_as_deed : FnOk P w K mg base CX0 3 f_as_deed fd_as_deed ["net", "deed"] (spP C pre_as_deed) := okP (t := t_as_deed K C CB kinds) F_as_deed sc_as_deed 3 rfl (by intro ds Q h; obtain ⟨_, _, rfl, _⟩ := h; rfl) (fun cdv A outer s H E hr => d_as_deed T c_is_whole G_is_whole c_is_below G_is_below c_is_lossy G_is_lossy hr) (x_as_deed NC)
  obtain ⟨f_open_messages_of, fd_open_messages_of, c_open_messages_of, F_open_messages_of⟩ := D_open_messages_of
  have G_open_messages_of : FnOk P w K mg base CX0 2 f_open_messages_of fd_open_messages_of ["net", "world", "channel"] (spP C pre_open_messages_of) := okP (t := t_open_messages_of K C CB kinds) F_open_messages_of sc_open_messages_of 2 rfl (by intro ds Q h; obtain ⟨_, _, _, _, rfl, _⟩ := h; rfl) (fun cdv A outer s H E hr => d_open_messages_of T c_is_ordered G_is_ordered hr) (x_open_messages_of NC)
  obtain ⟨f_can_do, fd_can_do, c_can_do, F_can_do⟩ := D_can_do
  have G_can_do : FnOk P w K mg base CX0 3 f_can_do fd_can_do ["net", "world", "deed"] (spP C pre_can_do) := okP (t := t_can_do K C CB kinds) F_can_do sc_can_do 5 rfl (by intro ds Q h; obtain ⟨_, _, _, _, rfl, _⟩ := h; rfl) (fun cdv A outer s H E hr => d_can_do T c_open_messages_of G_open_messages_of hr) (x_can_do NC)
  obtain ⟨f__with_part, fd__with_part, c__with_part, F__with_part⟩ := D__with_part
  have G__with_part : FnOk P w K mg base CX0 1 f__with_part fd__with_part ["row", "at", "part"] (spP C pre__with_part) := okP (t := t__with_part K C CB kinds) F__with_part sc__with_part 0 rfl (by intro ds Q h; obtain ⟨_, _, _, rfl, _⟩ := h; rfl) (fun cdv A outer s H E hr => d__with_part T hr) x__with_part
  obtain ⟨f__without_message, fd__without_message, c__without_message, F__without_message⟩ := D__without_message
  have G__without_message : FnOk P w K mg base CX0 2 f__without_message fd__without_message ["present", "channel", "k"] (spP C pre__without_message) := okP (t := t__without_message K C CB kinds) F__without_message sc__without_message 2 rfl (by intro ds Q h; obtain ⟨_, _, _, rfl, _⟩ := h; rfl) (fun cdv A outer s H E hr => d__without_message T c__with_part G__with_part hr) x__without_message
  obtain ⟨f_behind, fd_behind, c_behind, F_behind⟩ := D_behind
  have G_behind : FnOk P w K mg base CX0 3 f_behind fd_behind ["net", "world", "deed"] (spP C pre_behind) := okP (t := t_behind K C CB kinds) F_behind sc_behind 10 rfl (by intro ds Q h; obtain ⟨_, _, _, _, rfl, _⟩ := h; rfl) (fun cdv A outer s H E hr => d_behind T c__without_message G__without_message c__with_part G__with_part hr) (x_behind NC)
  obtain ⟨f_played, fd_played, c_played, F_played⟩ := D_played
  have G_played : FnOk P w K mg base (L2.CX P w) 5 f_played fd_played ["net", "deeds"] (spX C CB pre_played) := okX (t := t_played K C CB kinds) F_played sc_played 4 rfl (by intro ds Q X h; rcases h with ⟨_, _, rfl, _⟩; rfl) (fun cdv A outer s H E hr => d_played T c_start G_start c_as_deed G_as_deed c_can_do G_can_do c_behind G_behind TB hfile htop hr) x_played
  have kb_played := kbp f_played fd_played F_played
  obtain ⟨f__law_mixed, fd__law_mixed, c__law_mixed, F__law_mixed⟩ := D__law_mixed
  have G__law_mixed : FnOk P w K mg base CX0 1 f__law_mixed fd__law_mixed ["_law_number", "_law_turn", "_law_many"] (spP C pre__law_mixed) := okP (t := t__law_mixed K C CB kinds) F__law_mixed sc__law_mixed 3 rfl (by intro ds Q h; obtain ⟨_, _, _, rfl, _⟩ := h; rfl) (fun cdv A outer s H E hr => d__law_mixed T hr) x__law_mixed
  obtain ⟨f__law_pool, fd__law_pool, c__law_pool, F__law_pool⟩ := D__law_pool
  have G__law_pool : FnOk P w K mg base CX0 1 f__law_pool fd__law_pool ["_law_script"] (spN C K) := ok_pool CB T F__law_pool
  obtain ⟨f__law_take, fd__law_take, c__law_take, F__law_take⟩ := D__law_take
  have G__law_take : FnOk P w K mg base CX0 2 f__law_take fd__law_take ["_law_pool_here", "_law_many"] (spS C pre__law_take) := ok_take CB T F__law_take c__law_mixed G__law_mixed
  obtain ⟨f__law_names, fd__law_names, c__law_names, F__law_names⟩ := D__law_names
  have G__law_names : FnOk P w K mg base CX0 3 f__law_names fd__law_names ["_law_pool_here", "_law_many"] (spS C pre__law_names) := okS (t := t__law_names K C CB kinds) F__law_names sc__law_names 9 rfl (by intro ds Q h; obtain ⟨_, rfl, _⟩ := h; rfl) (fun cdv A outer s H E hr => d__law_names T c__law_take G__law_take hr) x__law_names
  obtain ⟨f__law_rule, fd__law_rule, c__law_rule, F__law_rule⟩ := D__law_rule
  have G__law_rule : FnOk P w K mg base CX0 3 f__law_rule fd__law_rule ["_law_pool_here", "_law_processes", "_law_channels"] (spS C pre__law_rule) := okS (t := t__law_rule K C CB kinds) F__law_rule sc__law_rule 6 rfl (by intro ds Q h; obtain ⟨_, _, rfl, _⟩ := h; rfl) (fun cdv A outer s H E hr => d__law_rule T c__law_take G__law_take hr) x__law_rule
  obtain ⟨f__law_net, fd__law_net, c__law_net, F__law_net⟩ := D__law_net
  have G__law_net : FnOk P w K mg base CX0 4 f__law_net fd__law_net ["_law_pool_here"] (spS C pre__law_net) := okS (t := t__law_net K C CB kinds) F__law_net sc__law_net 11 rfl (by intro ds Q h; obtain ⟨rfl, _⟩ := h; rfl) (fun cdv A outer s H E hr => d__law_net T c__law_take G__law_take c__law_names G__law_names c__law_rule G__law_rule hr) x__law_net
  have G_Net : FnOk P w K mg base CX0 6 fN fdN ["self", "processes", "channels", "rules"] (spNet C CB) := ok_Net NC FN (fun cdv A outer s H E hr => d_Net_init T c__rows G__rows c_is_process G_is_process c_is_channel G_is_channel c_is_rule G_is_rule hr)
  obtain ⟨f__law_made, fd__law_made, c__law_made, F__law_made⟩ := D__law_made
  have G__law_made : FnOk P w K mg base CX0 8 f__law_made fd__law_made ["_law_pool_here", "_law_net_here"] (spS C pre__law_made) := okS (t := t__law_made K C CB kinds) F__law_made sc__law_made 0 rfl (by intro ds Q h; obtain ⟨_, rfl, _⟩ := h; rfl) (fun cdv A outer s H E hr => d__law_made T c__law_take G__law_take MK G_Net bN hr) x__law_made
  obtain ⟨f__law_start, fd__law_start, c__law_start, F__law_start⟩ := D__law_start
  have G__law_start : FnOk P w K mg base CX0 1 f__law_start fd__law_start ["_law_net_here"] (spP C pre__law_start) := okP (t := t__law_start K C CB kinds) F__law_start sc__law_start 2 rfl (by intro ds Q h; obtain ⟨_, rfl, _⟩ := h; rfl) (fun cdv A outer s H E hr => d__law_start T hr) x__law_start
  obtain ⟨f__law_told, fd__law_told, c__law_told, F__law_told⟩ := D__law_told
  have G__law_told : FnOk P w K mg base CX0 1 f__law_told fd__law_told ["_law_world"] (spP C pre__law_told) := okP (t := t__law_told K C CB kinds) F__law_told sc__law_told 1 rfl (by intro ds Q h; obtain ⟨_, rfl, _⟩ := h; rfl) (fun cdv A outer s H E hr => d__law_told T hr) x__law_told
  obtain ⟨f__law_first, fd__law_first, c__law_first, F__law_first⟩ := D__law_first
  have G__law_first : FnOk P w K mg base CX0 1 f__law_first fd__law_first ["_law_net_here", "_law_world", "_law_c"] (spP C pre__law_first) := okP (t := t__law_first K C CB kinds) F__law_first sc__law_first 0 rfl (by intro ds Q h; obtain ⟨_, _, _, _, rfl, _⟩ := h; rfl) (fun cdv A outer s H E hr => d__law_first T hr) x__law_first
  obtain ⟨f__law_possible, fd__law_possible, c__law_possible, F__law_possible⟩ := D__law_possible
  have G__law_possible : FnOk P w K mg base CX0 2 f__law_possible fd__law_possible ["_law_net_here", "_law_world"] (spP C pre__law_possible) := okP (t := t__law_possible K C CB kinds) F__law_possible sc__law_possible 8 rfl (by intro ds Q h; obtain ⟨_, _, _, rfl, _⟩ := h; rfl) (fun cdv A outer s H E hr => d__law_possible T c__law_first G__law_first hr) x__law_possible
  obtain ⟨f__law_done, fd__law_done, c__law_done, F__law_done⟩ := D__law_done
  have G__law_done : FnOk P w K mg base CX0 1 f__law_done fd__law_done ["_law_net_here", "_law_world", "_law_deed"] (spP C pre__law_done) := okP (t := t__law_done K C CB kinds) F__law_done sc__law_done 9 rfl (by intro ds Q h; obtain ⟨_, _, _, _, rfl, _⟩ := h; rfl) (fun cdv A outer s H E hr => d__law_done T hr) x__law_done
  obtain ⟨f__law_run, fd__law_run, c__law_run, F__law_run⟩ := D__law_run
  have G__law_run : FnOk P w K mg base CX0 3 f__law_run fd__law_run ["_law_pool_here", "_law_net_here", "_law_most"] (spS C pre__law_run) := okS (t := t__law_run K C CB kinds) F__law_run sc__law_run 4 rfl (by intro ds Q h; obtain ⟨_, _, rfl, _⟩ := h; rfl) (fun cdv A outer s H E hr => d__law_run T c__law_start G__law_start c__law_take G__law_take c__law_possible G__law_possible c__law_done G__law_done hr) x__law_run
  obtain ⟨f__law_near, fd__law_near, c__law_near, F__law_near⟩ := D__law_near
  have G__law_near : FnOk P w K mg base CX0 3 f__law_near fd__law_near ["_law_pool_here", "_law_net_here", "_law_world"] (spS C pre__law_near) := okS (t := t__law_near K C CB kinds) F__law_near sc__law_near 9 rfl (by intro ds Q h; obtain ⟨_, _, _, rfl, _⟩ := h; rfl) (fun cdv A outer s H E hr => d__law_near T c__law_possible G__law_possible c__law_take G__law_take hr) x__law_near
  obtain ⟨f__law_same, fd__law_same, c__law_same, F__law_same⟩ := D__law_same
  have G__law_same : ∀ m, FnOk P w K mg base CX0 m f__law_same fd__law_same ["_law_actual", "_law_due"] (spP C (preS m)) := fun m => by
    induction m with
    | zero => exact fn_none fun _ _ h => h
    | succ m ih => exact okP (pre := preS (m + 1)) (t := t__law_same K C CB kinds m) F__law_same sc__law_same 1 rfl (by intro ds Q h; obtain ⟨_, rfl, _⟩ := h; rfl) (fun cdv A outer s H E hr => d__law_same T m c__law_same ih hr) (x__law_same m)
  have G__law_same := G__law_same 7
  obtain ⟨f__law_asked, fd__law_asked, c__law_asked, F__law_asked⟩ := D__law_asked
  have G__law_asked : FnOk P w K mg base CX0 7 f__law_asked fd__law_asked ["_law_made_here", "_law_deeds"] (spP C pre__law_asked) := ok_asked T A1 F__law_asked c_played G_played
  obtain ⟨f__law_agrees, fd__law_agrees, c__law_agrees, F__law_agrees⟩ := D__law_agrees
  have G__law_agrees : FnOk P w K mg base CX0 10 f__law_agrees fd__law_agrees ["_law_pool_here", "_law_net_here", "_law_made_here"] (spS C pre__law_agrees) := okS (t := t__law_agrees K C CB kinds) F__law_agrees sc__law_agrees 11 rfl (by intro ds Q h; obtain ⟨_, rfl, _⟩ := h; rfl) (fun cdv A outer s H E hr => d__law_agrees T c__law_run G__law_run c__law_told G__law_told c__law_take G__law_take c__law_asked G__law_asked c__law_same G__law_same c_played G_played c__law_near G__law_near kb_played hr) x__law_agrees
  obtain ⟨f__law_long, fd__law_long, c__law_long, F__law_long⟩ := D__law_long
  have G__law_long : FnOk P w K mg base CX0 4 f__law_long fd__law_long ["_law_pool_here"] (spS C pre__law_long) := okS (t := t__law_long K C CB kinds) F__law_long sc__law_long 6 rfl (by intro ds Q h; obtain ⟨rfl, _⟩ := h; rfl) (fun cdv A outer s H E hr => d__law_long T c__law_take G__law_take c__law_names G__law_names hr) x__law_long
  obtain ⟨f__law_sixty, fd__law_sixty, c__law_sixty, F__law_sixty⟩ := D__law_sixty
  have G__law_sixty : FnOk P w K mg base CX0 10 f__law_sixty fd__law_sixty ["_law_pool_here"] (spS C pre__law_sixty) := okS (t := t__law_sixty K C CB kinds) F__law_sixty sc__law_sixty 5 rfl (by intro ds Q h; obtain ⟨rfl, _⟩ := h; rfl) (fun cdv A outer s H E hr => d__law_sixty T c__law_long G__law_long c__law_made G__law_made c__law_start G__law_start c__law_told G__law_told c__law_asked G__law_asked c__law_same G__law_same hr) x__law_sixty
  refine F_law.ok sc_law (fun vs H Q E h => ?_) (fun cdv A outer s H vs Q E hr h => ?_)
  · obtain ⟨a, ns, rfl, _⟩ := h; rfl
  · obtain ⟨a, ns, rfl, hS, hl, q⟩ := h
    exact ⟨t_law K C CB kinds, d_law T c__law_pool G__law_pool c__law_net G__law_net c__law_made G__law_made c__law_agrees G__law_agrees c__law_take G__law_take c__law_sixty G__law_sixty hr, law_raw (C := C) (CB := CB) (kinds := kinds) hS hl fun H' => q H'⟩
end
end Dl


namespace Dl
open PySem L2 PyProof.Rows
theorem kb_played_of {K : PySem.W.Frag} {f : Addr} {fd : FuncData} (F : Fun K "played" "played" s_played f fd) : KBinds K fd ["net", "deeds"] ["net", "deeds"] gK gK := by
  obtain ⟨oc, od, kV, doc, pm, an, cdv, ct, osl, rfl, lk, hcd⟩ := F.ex
  exact kb_two fun s x y => .of_eq rfl
theorem exm_of {K : PySem.W.Frag} {S T : Addr} (h1 : PySem.W.subIn K (.ref S) (.type "BaseException") = some true) (h2 : PySem.W.isClsIn K S = true) (h3 : PySem.W.typeIn K (.ref S) = some (.type "type")) (h4 : PySem.W.subIn K (.ref T) (.ref S) = some true) :
    PySem.W.exmOne K (.ref T) (.ref S) = some true := by
  have a : (PySem.W.subIn K (.ref S) (.type "BaseException") == some true) = true := by rw [h1]; rfl
  have b : ((PySem.W.clsIn K S).isSome && PySem.W.typeIn K (.ref S) == some (.type "type")) = true := by
    rw [show (PySem.W.clsIn K S).isSome = true from h2, h3]; rfl
  show (if (PySem.W.subIn K (.ref S) (.type "BaseException") == some true) = true then (if ((PySem.W.clsIn K S).isSome && PySem.W.typeIn K (.ref S) == some (.type "type")) = true then PySem.W.subIn K (.ref T) (.ref S) else none) else none) = some true
  rw [if_pos a, if_pos b]
  exact h4
theorem ki1_of {K : PySem.W.Frag} {S : Addr} : PySem.W.kitOne K (.ref S) (.ref S) = some true := by
  unfold PySem.W.kitOne
  rw [if_pos (by simp)]
theorem ki2_of {K : PySem.W.Frag} {S : Addr} (h : PySem.W.subIn K (.ref S) (.type "Exception") = some true) : PySem.W.kitOne K (.ref S) (.type "Exception") = some true := by
  unfold PySem.W.kitOne
  rw [if_neg (by simp)]
  show (if PySem.W.kitMeta "Exception" = true then PySem.W.subIn K (.ref S) (.type "Exception") else none) = some true
  rw [if_pos (by decide +kernel)]
  exact h
theorem al_of {K : PySem.W.Frag} {U N : Addr} {nm q : PySem.Str} {bs : List Value} {sn : List PySem.Str} {sub : List Value} {ab : Bool} {col : Option Bool} {dd : Option Addr} {j0 j1 j2 j3 j5 : Option Value}
    (x : K.lookup U = some (excClassObj nm q U N bs [.type "Exception", .type "BaseException", .type "object"] true sn sub ab col dd j0 j1 j2 j3 j5 "Exception.__new__")) (f : PySem.W.findIn K (.ref U) "__init__" = some (some (.builtin "Exception.__init__"))) :
    PySem.W.alongIn K "__init__" (PySem.BadX.bmB U) = some (some (.builtin "Exception.__init__")) := by
  have f2 : (match K.lookup U with
      | some ⟨_, _, .cls cd, _⟩ => PySem.W.alongIn K "__init__" cd.mro
      | _ => none) = some (some (.builtin "Exception.__init__")) := f
  rw [x] at f2
  exact f2
theorem sqT_of {K : PySem.W.Frag} {H : Hp} {a : Addr} {od : Option Addr} {u1 u2 u3 u4 : Tok} {nK : Nat} {sl : Array (Option Value)} (l : K.lookup a = some ⟨.type "tuple", od, .seq #[.str "order" u1, .str "loose" u2, .str "order lossy" u3, .str "loose lossy" u4] nK, sl⟩) : SqT K H a (kinds4.map V.str) :=
  .inr ⟨_, _, nK, l, rfl, rfl, by show 4 ≤ sizeLine; decide, .cons ⟨u1, rfl⟩ (.cons ⟨u2, rfl⟩ (.cons ⟨u3, rfl⟩ (.cons ⟨u4, rfl⟩ .nil)))⟩

theorem all_mk {P : Program} {w : World} {K : PySem.W.Frag} {h : Heap} {mg : PySem.Str → Option Value} {fa : Addr} (X : K.In h) (G : h.Ns mainGlobals mg) (hfa : mg "law" = some (.ref fa)) (hfile : ((P.main.file : PySem.Str) == "/claim/cut.py") = true) (htop : (P.main.scope.names.lookup ("super" : PySem.Str)).isSome = false)
  {tk0 : Tok}
  {tk1 : Tok}
  {tk2 : Tok}
  {tk3 : Tok}
  {tk4 : Tok}
  {tk5 : Tok}
  {tk6 : Tok}
  {tkL : Tok}
  {kinds : Addr} {odK : Option Addr} {u1 u2 u3 u4 : Tok} {nK : Nat} {slK : Array (Option Value)}
  {C CB CU fN fI : Addr}
  {ocN : Value} {odN anN : Option Addr} {slN : Array (Option Value)} {kVN dcN pmN cdN ctN : Value}
  {nmB qB : PySem.Str} {NB : Addr} {bsB : List Value} {snB : List PySem.Str} {subB : List Value} {abB : Bool} {colB : Option Bool} {ddB : Option Addr} {m0 m1 m2 m3 m5 : Option Value}
  {nmU qU : PySem.Str} {NU : Addr} {bsU : List Value} {snU : List PySem.Str} {subU : List Value} {abU : Bool} {colU : Option Bool} {ddU : Option Addr} {j0 j1 j2 j3 j5 : Option Value}
  {ocI : Value} {odI : Option Addr} {dcI pmI : Value} {anI : Option Addr} {ctI : Value} {slI : Array (Option Value)} {cc cda : Addr} {ccl : Value} {cdd : Option Addr} {vsI : Array Value} {ccs : Array (Option Value)} {clI : Value} {cld : Option Addr} {csl : Array (Option Value)} {tfI : Tok}
  {f0 : Addr} {oc0 : Value} {od0 an0 : Option Addr} {sl0 : Array (Option Value)} {kV0 dc0 pm0 cd0 ct0 : Value}
  {f1 : Addr} {oc1 : Value} {od1 an1 : Option Addr} {sl1 : Array (Option Value)} {kV1 dc1 pm1 cd1 ct1 : Value}
  {f2 : Addr} {oc2 : Value} {od2 an2 : Option Addr} {sl2 : Array (Option Value)} {kV2 dc2 pm2 cd2 ct2 : Value}
  {f3 : Addr} {oc3 : Value} {od3 an3 : Option Addr} {sl3 : Array (Option Value)} {kV3 dc3 pm3 cd3 ct3 : Value}
  {f4 : Addr} {oc4 : Value} {od4 an4 : Option Addr} {sl4 : Array (Option Value)} {kV4 dc4 pm4 cd4 ct4 : Value}
  {f5 : Addr} {oc5 : Value} {od5 an5 : Option Addr} {sl5 : Array (Option Value)} {kV5 dc5 pm5 cd5 ct5 : Value}
  {f6 : Addr} {oc6 : Value} {od6 an6 : Option Addr} {sl6 : Array (Option Value)} {kV6 dc6 pm6 cd6 ct6 : Value}
  {f7 : Addr} {oc7 : Value} {od7 an7 : Option Addr} {sl7 : Array (Option Value)} {kV7 dc7 pm7 cd7 ct7 : Value}
  {f8 : Addr} {oc8 : Value} {od8 an8 : Option Addr} {sl8 : Array (Option Value)} {kV8 dc8 pm8 cd8 ct8 : Value}
  {f9 : Addr} {oc9 : Value} {od9 an9 : Option Addr} {sl9 : Array (Option Value)} {kV9 dc9 pm9 cd9 ct9 : Value}
  {f10 : Addr} {oc10 : Value} {od10 an10 : Option Addr} {sl10 : Array (Option Value)} {kV10 dc10 pm10 cd10 ct10 : Value}
  {f11 : Addr} {oc11 : Value} {od11 an11 : Option Addr} {sl11 : Array (Option Value)} {kV11 dc11 pm11 cd11 ct11 : Value}
  {f12 : Addr} {oc12 : Value} {od12 an12 : Option Addr} {sl12 : Array (Option Value)} {kV12 dc12 pm12 cd12 ct12 : Value}
  {f13 : Addr} {oc13 : Value} {od13 an13 : Option Addr} {sl13 : Array (Option Value)} {kV13 dc13 pm13 cd13 ct13 : Value}
  {f14 : Addr} {oc14 : Value} {od14 an14 : Option Addr} {sl14 : Array (Option Value)} {kV14 dc14 pm14 cd14 ct14 : Value}
  {f15 : Addr} {oc15 : Value} {od15 an15 : Option Addr} {sl15 : Array (Option Value)} {kV15 dc15 pm15 cd15 ct15 : Value}
  {f16 : Addr} {oc16 : Value} {od16 an16 : Option Addr} {sl16 : Array (Option Value)} {kV16 dc16 pm16 cd16 ct16 : Value}
  {f17 : Addr} {oc17 : Value} {od17 an17 : Option Addr} {sl17 : Array (Option Value)} {kV17 dc17 pm17 cd17 ct17 : Value}
  {f18 : Addr} {oc18 : Value} {od18 an18 : Option Addr} {sl18 : Array (Option Value)} {kV18 dc18 pm18 cd18 ct18 : Value}
  {f19 : Addr} {oc19 : Value} {od19 an19 : Option Addr} {sl19 : Array (Option Value)} {kV19 dc19 pm19 cd19 ct19 : Value}
  {f20 : Addr} {oc20 : Value} {od20 an20 : Option Addr} {sl20 : Array (Option Value)} {kV20 dc20 pm20 cd20 ct20 : Value}
  {f21 : Addr} {oc21 : Value} {od21 an21 : Option Addr} {sl21 : Array (Option Value)} {kV21 dc21 pm21 cd21 ct21 : Value}
  {f22 : Addr} {oc22 : Value} {od22 an22 : Option Addr} {sl22 : Array (Option Value)} {kV22 dc22 pm22 cd22 ct22 : Value}
  {f23 : Addr} {oc23 : Value} {od23 an23 : Option Addr} {sl23 : Array (Option Value)} {kV23 dc23 pm23 cd23 ct23 : Value}
  {f24 : Addr} {oc24 : Value} {od24 an24 : Option Addr} {sl24 : Array (Option Value)} {kV24 dc24 pm24 cd24 ct24 : Value}
  {f25 : Addr} {oc25 : Value} {od25 an25 : Option Addr} {sl25 : Array (Option Value)} {kV25 dc25 pm25 cd25 ct25 : Value}
  {f26 : Addr} {oc26 : Value} {od26 an26 : Option Addr} {sl26 : Array (Option Value)} {kV26 dc26 pm26 cd26 ct26 : Value}
  {f27 : Addr} {oc27 : Value} {od27 an27 : Option Addr} {sl27 : Array (Option Value)} {kV27 dc27 pm27 cd27 ct27 : Value}
  {f28 : Addr} {oc28 : Value} {od28 an28 : Option Addr} {sl28 : Array (Option Value)} {kV28 dc28 pm28 cd28 ct28 : Value}
  {f29 : Addr} {oc29 : Value} {od29 an29 : Option Addr} {sl29 : Array (Option Value)} {kV29 dc29 pm29 cd29 ct29 : Value}
  {f30 : Addr} {oc30 : Value} {od30 an30 : Option Addr} {sl30 : Array (Option Value)} {kV30 dc30 pm30 cd30 ct30 : Value}
  {f31 : Addr} {oc31 : Value} {od31 an31 : Option Addr} {sl31 : Array (Option Value)} {kV31 dc31 pm31 cd31 ct31 : Value}
  {f32 : Addr} {oc32 : Value} {od32 an32 : Option Addr} {sl32 : Array (Option Value)} {kV32 dc32 pm32 cd32 ct32 : Value}
  {f33 : Addr} {oc33 : Value} {od33 an33 : Option Addr} {sl33 : Array (Option Value)} {kV33 dc33 pm33 cd33 ct33 : Value}
  {f34 : Addr} {oc34 : Value} {od34 an34 : Option Addr} {sl34 : Array (Option Value)} {kV34 dc34 pm34 cd34 ct34 : Value}
  {f35 : Addr} {oc35 : Value} {od35 an35 : Option Addr} {sl35 : Array (Option Value)} {kV35 dc35 pm35 cd35 ct35 : Value}
  {f36 : Addr} {oc36 : Value} {od36 an36 : Option Addr} {sl36 : Array (Option Value)} {kV36 dc36 pm36 cd36 ct36 : Value}
  {f37 : Addr} {oc37 : Value} {od37 an37 : Option Addr} {sl37 : Array (Option Value)} {kV37 dc37 pm37 cd37 ct37 : Value}
  {f38 : Addr} {oc38 : Value} {od38 an38 : Option Addr} {sl38 : Array (Option Value)} {kV38 dc38 pm38 cd38 ct38 : Value}
  (kMOST_LETTERS : PySem.W.nsIn K mainGlobals "MOST_LETTERS" = some (some (.int 6 tk0)))
  (kMOST_PROCESSES : PySem.W.nsIn K mainGlobals "MOST_PROCESSES" = some (some (.int 5 tk1)))
  (kMOST_STATES : PySem.W.nsIn K mainGlobals "MOST_STATES" = some (some (.int 8 tk2)))
  (kMOST_CHANNELS : PySem.W.nsIn K mainGlobals "MOST_CHANNELS" = some (some (.int 8 tk3)))
  (kMOST_RULES : PySem.W.nsIn K mainGlobals "MOST_RULES" = some (some (.int 40 tk4)))
  (kTOKENS : PySem.W.nsIn K mainGlobals "TOKENS" = some (some (.int 10 tk5)))
  (kMOST_DEEDS : PySem.W.nsIn K mainGlobals "MOST_DEEDS" = some (some (.int 60 tk6)))
  (kLETTERS : PySem.W.nsIn K mainGlobals "LETTERS" = some (some (.str "abcdefghijklmnopqrstuvwxyz" tkL)))
  (kKINDS : PySem.W.nsIn K mainGlobals "KINDS" = some (some (.ref kinds)))
  (lKINDS : K.lookup kinds = some ⟨.type "tuple", odK, .seq #[.str "order" u1, .str "loose" u2, .str "order lossy" u3, .str "loose lossy" u4] nK, slK⟩)
  (z_len : PySem.W.nsIn K mainGlobals "len" = some none)
  (z_tuple : PySem.W.nsIn K mainGlobals "tuple" = some none)
  (z_list : PySem.W.nsIn K mainGlobals "list" = some none)
  (z_range : PySem.W.nsIn K mainGlobals "range" = some none)
  (z_int : PySem.W.nsIn K mainGlobals "int" = some none)
  (z_isinstance : PySem.W.nsIn K mainGlobals "isinstance" = some none)
  (z_all : PySem.W.nsIn K mainGlobals "all" = some none)
  (z_enumerate : PySem.W.nsIn K mainGlobals "enumerate" = some none)
  (z_str : PySem.W.nsIn K mainGlobals "str" = some none)
  (z_bool : PySem.W.nsIn K mainGlobals "bool" = some none)
  (z_Exception : PySem.W.nsIn K mainGlobals "Exception" = some none)
  (z_super : PySem.W.nsIn K mainGlobals "super" = some none)
  (aNet : PySem.W.nsIn K mainGlobals "Net" = some (some (.ref C)))
  (pgC : PySem.W.plainGet K C Str.empty = true)
  (hdC : PySem.W.hasDictIn K C = true)
  (poC : PySem.W.plainOver K C = true)
  (saC : PySem.W.findIn K (.ref C) "__setattr__" = some (some (.builtin "object.__setattr__")))
  (n_processes : PySem.W.findIn K (.ref C) "processes" = some none)
  (n_channels : PySem.W.findIn K (.ref C) "channels" = some none)
  (n_rules : PySem.W.findIn K (.ref C) "rules" = some none)
  (mkC : PySem.W.makesIn K C = true)
  (kcC : PySem.W.keepIn K (.ref C) = true)
  (iN : PySem.W.findIn K (.ref C) "__init__" = some (some (.ref fN)))
  (fnN : PySem.W.isFn K (.ref fN) = true)
  (lN : K.lookup fN = some ⟨ocN, odN, .func (PySem.W.fnOf "__init__" "Net.__init__" (defArgs s_Net_init) (defBody s_Net_init) (defScope s_Net_init) .none kVN dcN pmN anN cdN ctN), slN⟩)
  (cN : PySem.W.codeIn K cdN "Net.__init__" = true)
  (kN : PySem.W.keepIn K (.ref fN) = true)
  (aB : PySem.W.nsIn K mainGlobals "BadStep" = some (some (.ref CB)))
  (aU : PySem.W.nsIn K mainGlobals "CutError" = some (some (.ref CU)))
  (xB : K.lookup CB = some (excClassObj nmB qB CB NB bsB (PySem.BadX.bmB CU) true snB subB abB colB ddB m0 m1 m2 m3 m5 "Exception.__new__"))
  (saB : PySem.W.findIn K (.ref CB) "__setattr__" = some (some (.builtin "object.__setattr__")))
  (gaB : PySem.W.findIn K (.ref CB) "__getattribute__" = some (some (.builtin "BaseException.__getattribute__")))
  (ggB : PySem.W.findIn K (.ref CB) "__getattr__" = some none)
  (noB : PySem.W.findIn K (.ref CB) "at" = some none)
  (iB : PySem.W.findIn K (.ref CB) "__init__" = some (some (.ref fI)))
  (tI : PySem.W.typeIn K (.ref fI) = some (.type "function"))
  (kB : PySem.W.keepIn K (.ref CB) = true)
  (exB : PySem.W.subIn K (.ref CB) (.type "BaseException") = some true)
  (exE : PySem.W.subIn K (.ref CB) (.type "Exception") = some true)
  (mB : PySem.W.mroIn K CB (.ref CB) = some true)
  (tyB : PySem.W.typeIn K (.ref CB) = some (.type "type"))
  (hB : PySem.W.hasDictIn K CB = true)
  (xU : K.lookup CU = some (excClassObj nmU qU CU NU bsU [.type "Exception", .type "BaseException", .type "object"] true snU subU abU colU ddU j0 j1 j2 j3 j5 "Exception.__new__"))
  (fU : PySem.W.findIn K (.ref CU) "__init__" = some (some (.builtin "Exception.__init__")))
  (eU : PySem.W.subIn K (.ref CU) (.type "BaseException") = some true)
  (iU : PySem.W.isClsIn K CU = true)
  (tU : PySem.W.typeIn K (.ref CU) = some (.type "type"))
  (sU : PySem.W.subIn K (.ref CB) (.ref CU) = some true)
  (opB : PySem.W.nsIn K PySem.cStatics "thirdparty.any" = some none)
  (lI : K.lookup fI = some ⟨ocI, odI, .func (PySem.W.ksFn "__init__" "BadStep.__init__" PySem.BadX.iA PySem.BadX.iB PySem.BadX.iS .none .none dcI pmI anI (.ref cda) ctI cc), slI⟩)
  (cI : PySem.W.codeIn K (.ref cda) "BadStep.__init__" = true)
  (lD : K.lookup cda = some ⟨ccl, cdd, .fields vsI, ccs⟩)
  (vI : vsI[2]? = some (.str "/claim/cut.py" tfI))
  (lc : K.lookup cc = some ⟨clI, cld, .cell (some (.ref CB)), csl⟩)
  (haB : PySem.W.findIn K (.ref CB) "__class__" = some (some (.builtin "object.__class__")))
  (hnB : PySem.W.specialIn K (.builtin "object.__class__") "__get__" = some (some (.builtin "getset_descriptor.__get__")))
  (htB : PySem.W.takesIn K (.builtin "object.__class__") = some true)
  (moB : PySem.W.mroIn K CB (.type "object") = some true)
  (a0 : PySem.W.nsIn K mainGlobals "is_whole" = some (some (.ref f0)))
  (l0 : K.lookup f0 = some ⟨oc0, od0, .func (PySem.W.fnOf "is_whole" "is_whole" (defArgs s_is_whole) (defBody s_is_whole) (defScope s_is_whole) .none kV0 dc0 pm0 an0 cd0 ct0), sl0⟩)
  (c0 : PySem.W.codeIn K cd0 "is_whole" = true)
  (q0 : PySem.W.keepIn K (.ref f0) = true)
  (a1 : PySem.W.nsIn K mainGlobals "is_below" = some (some (.ref f1)))
  (l1 : K.lookup f1 = some ⟨oc1, od1, .func (PySem.W.fnOf "is_below" "is_below" (defArgs s_is_below) (defBody s_is_below) (defScope s_is_below) .none kV1 dc1 pm1 an1 cd1 ct1), sl1⟩)
  (c1 : PySem.W.codeIn K cd1 "is_below" = true)
  (q1 : PySem.W.keepIn K (.ref f1) = true)
  (a2 : PySem.W.nsIn K mainGlobals "is_name" = some (some (.ref f2)))
  (l2 : K.lookup f2 = some ⟨oc2, od2, .func (PySem.W.fnOf "is_name" "is_name" (defArgs s_is_name) (defBody s_is_name) (defScope s_is_name) .none kV2 dc2 pm2 an2 cd2 ct2), sl2⟩)
  (c2 : PySem.W.codeIn K cd2 "is_name" = true)
  (q2 : PySem.W.keepIn K (.ref f2) = true)
  (a3 : PySem.W.nsIn K mainGlobals "is_process" = some (some (.ref f3)))
  (l3 : K.lookup f3 = some ⟨oc3, od3, .func (PySem.W.fnOf "is_process" "is_process" (defArgs s_is_process) (defBody s_is_process) (defScope s_is_process) .none kV3 dc3 pm3 an3 cd3 ct3), sl3⟩)
  (c3 : PySem.W.codeIn K cd3 "is_process" = true)
  (q3 : PySem.W.keepIn K (.ref f3) = true)
  (a4 : PySem.W.nsIn K mainGlobals "is_channel" = some (some (.ref f4)))
  (l4 : K.lookup f4 = some ⟨oc4, od4, .func (PySem.W.fnOf "is_channel" "is_channel" (defArgs s_is_channel) (defBody s_is_channel) (defScope s_is_channel) .none kV4 dc4 pm4 an4 cd4 ct4), sl4⟩)
  (c4 : PySem.W.codeIn K cd4 "is_channel" = true)
  (q4 : PySem.W.keepIn K (.ref f4) = true)
  (a5 : PySem.W.nsIn K mainGlobals "is_act" = some (some (.ref f5)))
  (l5 : K.lookup f5 = some ⟨oc5, od5, .func (PySem.W.fnOf "is_act" "is_act" (defArgs s_is_act) (defBody s_is_act) (defScope s_is_act) .none kV5 dc5 pm5 an5 cd5 ct5), sl5⟩)
  (c5 : PySem.W.codeIn K cd5 "is_act" = true)
  (q5 : PySem.W.keepIn K (.ref f5) = true)
  (a6 : PySem.W.nsIn K mainGlobals "is_rule" = some (some (.ref f6)))
  (l6 : K.lookup f6 = some ⟨oc6, od6, .func (PySem.W.fnOf "is_rule" "is_rule" (defArgs s_is_rule) (defBody s_is_rule) (defScope s_is_rule) .none kV6 dc6 pm6 an6 cd6 ct6), sl6⟩)
  (c6 : PySem.W.codeIn K cd6 "is_rule" = true)
  (q6 : PySem.W.keepIn K (.ref f6) = true)
  (a7 : PySem.W.nsIn K mainGlobals "_frozen" = some (some (.ref f7)))
  (l7 : K.lookup f7 = some ⟨oc7, od7, .func (PySem.W.fnOf "_frozen" "_frozen" (defArgs s__frozen) (defBody s__frozen) (defScope s__frozen) .none kV7 dc7 pm7 an7 cd7 ct7), sl7⟩)
  (c7 : PySem.W.codeIn K cd7 "_frozen" = true)
  (q7 : PySem.W.keepIn K (.ref f7) = true)
  (a8 : PySem.W.nsIn K mainGlobals "_rows" = some (some (.ref f8)))
  (l8 : K.lookup f8 = some ⟨oc8, od8, .func (PySem.W.fnOf "_rows" "_rows" (defArgs s__rows) (defBody s__rows) (defScope s__rows) .none kV8 dc8 pm8 an8 cd8 ct8), sl8⟩)
  (c8 : PySem.W.codeIn K cd8 "_rows" = true)
  (q8 : PySem.W.keepIn K (.ref f8) = true)
  (a9 : PySem.W.nsIn K mainGlobals "start" = some (some (.ref f9)))
  (l9 : K.lookup f9 = some ⟨oc9, od9, .func (PySem.W.fnOf "start" "start" (defArgs s_start) (defBody s_start) (defScope s_start) .none kV9 dc9 pm9 an9 cd9 ct9), sl9⟩)
  (c9 : PySem.W.codeIn K cd9 "start" = true)
  (q9 : PySem.W.keepIn K (.ref f9) = true)
  (a10 : PySem.W.nsIn K mainGlobals "is_lossy" = some (some (.ref f10)))
  (l10 : K.lookup f10 = some ⟨oc10, od10, .func (PySem.W.fnOf "is_lossy" "is_lossy" (defArgs s_is_lossy) (defBody s_is_lossy) (defScope s_is_lossy) .none kV10 dc10 pm10 an10 cd10 ct10), sl10⟩)
  (c10 : PySem.W.codeIn K cd10 "is_lossy" = true)
  (q10 : PySem.W.keepIn K (.ref f10) = true)
  (a11 : PySem.W.nsIn K mainGlobals "is_ordered" = some (some (.ref f11)))
  (l11 : K.lookup f11 = some ⟨oc11, od11, .func (PySem.W.fnOf "is_ordered" "is_ordered" (defArgs s_is_ordered) (defBody s_is_ordered) (defScope s_is_ordered) .none kV11 dc11 pm11 an11 cd11 ct11), sl11⟩)
  (c11 : PySem.W.codeIn K cd11 "is_ordered" = true)
  (q11 : PySem.W.keepIn K (.ref f11) = true)
  (a12 : PySem.W.nsIn K mainGlobals "as_deed" = some (some (.ref f12)))
  (l12 : K.lookup f12 = some ⟨oc12, od12, .func (PySem.W.fnOf "as_deed" "as_deed" (defArgs s_as_deed) (defBody s_as_deed) (defScope s_as_deed) .none kV12 dc12 pm12 an12 cd12 ct12), sl12⟩)
  (c12 : PySem.W.codeIn K cd12 "as_deed" = true)
  (q12 : PySem.W.keepIn K (.ref f12) = true)
  (a13 : PySem.W.nsIn K mainGlobals "open_messages_of" = some (some (.ref f13)))
  (l13 : K.lookup f13 = some ⟨oc13, od13, .func (PySem.W.fnOf "open_messages_of" "open_messages_of" (defArgs s_open_messages_of) (defBody s_open_messages_of) (defScope s_open_messages_of) .none kV13 dc13 pm13 an13 cd13 ct13), sl13⟩)
  (c13 : PySem.W.codeIn K cd13 "open_messages_of" = true)
  (q13 : PySem.W.keepIn K (.ref f13) = true)
  (a14 : PySem.W.nsIn K mainGlobals "can_do" = some (some (.ref f14)))
  (l14 : K.lookup f14 = some ⟨oc14, od14, .func (PySem.W.fnOf "can_do" "can_do" (defArgs s_can_do) (defBody s_can_do) (defScope s_can_do) .none kV14 dc14 pm14 an14 cd14 ct14), sl14⟩)
  (c14 : PySem.W.codeIn K cd14 "can_do" = true)
  (q14 : PySem.W.keepIn K (.ref f14) = true)
  (a15 : PySem.W.nsIn K mainGlobals "_with_part" = some (some (.ref f15)))
  (l15 : K.lookup f15 = some ⟨oc15, od15, .func (PySem.W.fnOf "_with_part" "_with_part" (defArgs s__with_part) (defBody s__with_part) (defScope s__with_part) .none kV15 dc15 pm15 an15 cd15 ct15), sl15⟩)
  (c15 : PySem.W.codeIn K cd15 "_with_part" = true)
  (q15 : PySem.W.keepIn K (.ref f15) = true)
  (a16 : PySem.W.nsIn K mainGlobals "_without_message" = some (some (.ref f16)))
  (l16 : K.lookup f16 = some ⟨oc16, od16, .func (PySem.W.fnOf "_without_message" "_without_message" (defArgs s__without_message) (defBody s__without_message) (defScope s__without_message) .none kV16 dc16 pm16 an16 cd16 ct16), sl16⟩)
  (c16 : PySem.W.codeIn K cd16 "_without_message" = true)
  (q16 : PySem.W.keepIn K (.ref f16) = true)
  (a17 : PySem.W.nsIn K mainGlobals "behind" = some (some (.ref f17)))
  (l17 : K.lookup f17 = some ⟨oc17, od17, .func (PySem.W.fnOf "behind" "behind" (defArgs s_behind) (defBody s_behind) (defScope s_behind) .none kV17 dc17 pm17 an17 cd17 ct17), sl17⟩)
  (c17 : PySem.W.codeIn K cd17 "behind" = true)
  (q17 : PySem.W.keepIn K (.ref f17) = true)
  (a18 : PySem.W.nsIn K mainGlobals "played" = some (some (.ref f18)))
  (l18 : K.lookup f18 = some ⟨oc18, od18, .func (PySem.W.fnOf "played" "played" (defArgs s_played) (defBody s_played) (defScope s_played) .none kV18 dc18 pm18 an18 cd18 ct18), sl18⟩)
  (c18 : PySem.W.codeIn K cd18 "played" = true)
  (q18 : PySem.W.keepIn K (.ref f18) = true)
  (a19 : PySem.W.nsIn K mainGlobals "_law_mixed" = some (some (.ref f19)))
  (l19 : K.lookup f19 = some ⟨oc19, od19, .func (PySem.W.fnOf "_law_mixed" "_law_mixed" (defArgs s__law_mixed) (defBody s__law_mixed) (defScope s__law_mixed) .none kV19 dc19 pm19 an19 cd19 ct19), sl19⟩)
  (c19 : PySem.W.codeIn K cd19 "_law_mixed" = true)
  (q19 : PySem.W.keepIn K (.ref f19) = true)
  (a20 : PySem.W.nsIn K mainGlobals "_law_pool" = some (some (.ref f20)))
  (l20 : K.lookup f20 = some ⟨oc20, od20, .func (PySem.W.fnOf "_law_pool" "_law_pool" (defArgs s__law_pool) (defBody s__law_pool) (defScope s__law_pool) .none kV20 dc20 pm20 an20 cd20 ct20), sl20⟩)
  (c20 : PySem.W.codeIn K cd20 "_law_pool" = true)
  (q20 : PySem.W.keepIn K (.ref f20) = true)
  (a21 : PySem.W.nsIn K mainGlobals "_law_take" = some (some (.ref f21)))
  (l21 : K.lookup f21 = some ⟨oc21, od21, .func (PySem.W.fnOf "_law_take" "_law_take" (defArgs s__law_take) (defBody s__law_take) (defScope s__law_take) .none kV21 dc21 pm21 an21 cd21 ct21), sl21⟩)
  (c21 : PySem.W.codeIn K cd21 "_law_take" = true)
  (q21 : PySem.W.keepIn K (.ref f21) = true)
  (a22 : PySem.W.nsIn K mainGlobals "_law_names" = some (some (.ref f22)))
  (l22 : K.lookup f22 = some ⟨oc22, od22, .func (PySem.W.fnOf "_law_names" "_law_names" (defArgs s__law_names) (defBody s__law_names) (defScope s__law_names) .none kV22 dc22 pm22 an22 cd22 ct22), sl22⟩)
  (c22 : PySem.W.codeIn K cd22 "_law_names" = true)
  (q22 : PySem.W.keepIn K (.ref f22) = true)
  (a23 : PySem.W.nsIn K mainGlobals "_law_rule" = some (some (.ref f23)))
  (l23 : K.lookup f23 = some ⟨oc23, od23, .func (PySem.W.fnOf "_law_rule" "_law_rule" (defArgs s__law_rule) (defBody s__law_rule) (defScope s__law_rule) .none kV23 dc23 pm23 an23 cd23 ct23), sl23⟩)
  (c23 : PySem.W.codeIn K cd23 "_law_rule" = true)
  (q23 : PySem.W.keepIn K (.ref f23) = true)
  (a24 : PySem.W.nsIn K mainGlobals "_law_net" = some (some (.ref f24)))
  (l24 : K.lookup f24 = some ⟨oc24, od24, .func (PySem.W.fnOf "_law_net" "_law_net" (defArgs s__law_net) (defBody s__law_net) (defScope s__law_net) .none kV24 dc24 pm24 an24 cd24 ct24), sl24⟩)
  (c24 : PySem.W.codeIn K cd24 "_law_net" = true)
  (q24 : PySem.W.keepIn K (.ref f24) = true)
  (a25 : PySem.W.nsIn K mainGlobals "_law_made" = some (some (.ref f25)))
  (l25 : K.lookup f25 = some ⟨oc25, od25, .func (PySem.W.fnOf "_law_made" "_law_made" (defArgs s__law_made) (defBody s__law_made) (defScope s__law_made) .none kV25 dc25 pm25 an25 cd25 ct25), sl25⟩)
  (c25 : PySem.W.codeIn K cd25 "_law_made" = true)
  (q25 : PySem.W.keepIn K (.ref f25) = true)
  (a26 : PySem.W.nsIn K mainGlobals "_law_start" = some (some (.ref f26)))
  (l26 : K.lookup f26 = some ⟨oc26, od26, .func (PySem.W.fnOf "_law_start" "_law_start" (defArgs s__law_start) (defBody s__law_start) (defScope s__law_start) .none kV26 dc26 pm26 an26 cd26 ct26), sl26⟩)
  (c26 : PySem.W.codeIn K cd26 "_law_start" = true)
  (q26 : PySem.W.keepIn K (.ref f26) = true)
  (a27 : PySem.W.nsIn K mainGlobals "_law_told" = some (some (.ref f27)))
  (l27 : K.lookup f27 = some ⟨oc27, od27, .func (PySem.W.fnOf "_law_told" "_law_told" (defArgs s__law_told) (defBody s__law_told) (defScope s__law_told) .none kV27 dc27 pm27 an27 cd27 ct27), sl27⟩)
  (c27 : PySem.W.codeIn K cd27 "_law_told" = true)
  (q27 : PySem.W.keepIn K (.ref f27) = true)
  (a28 : PySem.W.nsIn K mainGlobals "_law_first" = some (some (.ref f28)))
  (l28 : K.lookup f28 = some ⟨oc28, od28, .func (PySem.W.fnOf "_law_first" "_law_first" (defArgs s__law_first) (defBody s__law_first) (defScope s__law_first) .none kV28 dc28 pm28 an28 cd28 ct28), sl28⟩)
  (c28 : PySem.W.codeIn K cd28 "_law_first" = true)
  (q28 : PySem.W.keepIn K (.ref f28) = true)
  (a29 : PySem.W.nsIn K mainGlobals "_law_possible" = some (some (.ref f29)))
  (l29 : K.lookup f29 = some ⟨oc29, od29, .func (PySem.W.fnOf "_law_possible" "_law_possible" (defArgs s__law_possible) (defBody s__law_possible) (defScope s__law_possible) .none kV29 dc29 pm29 an29 cd29 ct29), sl29⟩)
  (c29 : PySem.W.codeIn K cd29 "_law_possible" = true)
  (q29 : PySem.W.keepIn K (.ref f29) = true)
  (a30 : PySem.W.nsIn K mainGlobals "_law_done" = some (some (.ref f30)))
  (l30 : K.lookup f30 = some ⟨oc30, od30, .func (PySem.W.fnOf "_law_done" "_law_done" (defArgs s__law_done) (defBody s__law_done) (defScope s__law_done) .none kV30 dc30 pm30 an30 cd30 ct30), sl30⟩)
  (c30 : PySem.W.codeIn K cd30 "_law_done" = true)
  (q30 : PySem.W.keepIn K (.ref f30) = true)
  (a31 : PySem.W.nsIn K mainGlobals "_law_run" = some (some (.ref f31)))
  (l31 : K.lookup f31 = some ⟨oc31, od31, .func (PySem.W.fnOf "_law_run" "_law_run" (defArgs s__law_run) (defBody s__law_run) (defScope s__law_run) .none kV31 dc31 pm31 an31 cd31 ct31), sl31⟩)
  (c31 : PySem.W.codeIn K cd31 "_law_run" = true)
  (q31 : PySem.W.keepIn K (.ref f31) = true)
  (a32 : PySem.W.nsIn K mainGlobals "_law_near" = some (some (.ref f32)))
  (l32 : K.lookup f32 = some ⟨oc32, od32, .func (PySem.W.fnOf "_law_near" "_law_near" (defArgs s__law_near) (defBody s__law_near) (defScope s__law_near) .none kV32 dc32 pm32 an32 cd32 ct32), sl32⟩)
  (c32 : PySem.W.codeIn K cd32 "_law_near" = true)
  (q32 : PySem.W.keepIn K (.ref f32) = true)
  (a33 : PySem.W.nsIn K mainGlobals "_law_same" = some (some (.ref f33)))
  (l33 : K.lookup f33 = some ⟨oc33, od33, .func (PySem.W.fnOf "_law_same" "_law_same" (defArgs s__law_same) (defBody s__law_same) (defScope s__law_same) .none kV33 dc33 pm33 an33 cd33 ct33), sl33⟩)
  (c33 : PySem.W.codeIn K cd33 "_law_same" = true)
  (q33 : PySem.W.keepIn K (.ref f33) = true)
  (a34 : PySem.W.nsIn K mainGlobals "_law_asked" = some (some (.ref f34)))
  (l34 : K.lookup f34 = some ⟨oc34, od34, .func (PySem.W.fnOf "_law_asked" "_law_asked" (defArgs s__law_asked) (defBody s__law_asked) (defScope s__law_asked) .none kV34 dc34 pm34 an34 cd34 ct34), sl34⟩)
  (c34 : PySem.W.codeIn K cd34 "_law_asked" = true)
  (q34 : PySem.W.keepIn K (.ref f34) = true)
  (a35 : PySem.W.nsIn K mainGlobals "_law_agrees" = some (some (.ref f35)))
  (l35 : K.lookup f35 = some ⟨oc35, od35, .func (PySem.W.fnOf "_law_agrees" "_law_agrees" (defArgs s__law_agrees) (defBody s__law_agrees) (defScope s__law_agrees) .none kV35 dc35 pm35 an35 cd35 ct35), sl35⟩)
  (c35 : PySem.W.codeIn K cd35 "_law_agrees" = true)
  (q35 : PySem.W.keepIn K (.ref f35) = true)
  (a36 : PySem.W.nsIn K mainGlobals "_law_long" = some (some (.ref f36)))
  (l36 : K.lookup f36 = some ⟨oc36, od36, .func (PySem.W.fnOf "_law_long" "_law_long" (defArgs s__law_long) (defBody s__law_long) (defScope s__law_long) .none kV36 dc36 pm36 an36 cd36 ct36), sl36⟩)
  (c36 : PySem.W.codeIn K cd36 "_law_long" = true)
  (q36 : PySem.W.keepIn K (.ref f36) = true)
  (a37 : PySem.W.nsIn K mainGlobals "_law_sixty" = some (some (.ref f37)))
  (l37 : K.lookup f37 = some ⟨oc37, od37, .func (PySem.W.fnOf "_law_sixty" "_law_sixty" (defArgs s__law_sixty) (defBody s__law_sixty) (defScope s__law_sixty) .none kV37 dc37 pm37 an37 cd37 ct37), sl37⟩)
  (c37 : PySem.W.codeIn K cd37 "_law_sixty" = true)
  (q37 : PySem.W.keepIn K (.ref f37) = true)
  (a38 : PySem.W.nsIn K mainGlobals "law" = some (some (.ref f38)))
  (l38 : K.lookup f38 = some ⟨oc38, od38, .func (PySem.W.fnOf "law" "law" (defArgs s_law) (defBody s_law) (defScope s_law) .none kV38 dc38 pm38 an38 cd38 ct38), sl38⟩)
  (c38 : PySem.W.codeIn K cd38 "law" = true)
  (q38 : PySem.W.keepIn K (.ref f38) = true) :
    ∃ fd : FuncData, (∀ (s : Shared) (v : Value), BindsTo s fd ⟨[v], []⟩ [("_law_script", v)]) ∧ ∀ base : Heap, K.In base → base.Ns mainGlobals mg → FnOk P w K mg base CX0 11 fa fd ["_law_script"] (spLaw K) := by
  have e := hfa.symm.trans (PySem.W.mg_of X G a38)
  cases e

  have T : Bt K mg C kinds := { b_len := PySem.W.mg_none_of X G z_len, b_tuple := PySem.W.mg_none_of X G z_tuple, b_list := PySem.W.mg_none_of X G z_list, b_range := PySem.W.mg_none_of X G z_range, b_int := PySem.W.mg_none_of X G z_int, b_isinstance := PySem.W.mg_none_of X G z_isinstance, b_all := PySem.W.mg_none_of X G z_all, b_enumerate := PySem.W.mg_none_of X G z_enumerate, b_str := PySem.W.mg_none_of X G z_str, b_bool := PySem.W.mg_none_of X G z_bool, cMOST_LETTERS := ⟨_, PySem.W.mg_of X G kMOST_LETTERS⟩, cMOST_PROCESSES := ⟨_, PySem.W.mg_of X G kMOST_PROCESSES⟩, cMOST_STATES := ⟨_, PySem.W.mg_of X G kMOST_STATES⟩, cMOST_CHANNELS := ⟨_, PySem.W.mg_of X G kMOST_CHANNELS⟩, cMOST_RULES := ⟨_, PySem.W.mg_of X G kMOST_RULES⟩, cTOKENS := ⟨_, PySem.W.mg_of X G kTOKENS⟩, cMOST_DEEDS := ⟨_, PySem.W.mg_of X G kMOST_DEEDS⟩, cLETTERS := ⟨_, PySem.W.mg_of X G kLETTERS⟩, cKINDS := PySem.W.mg_of X G kKINDS, kinds := fun _ => sqT_of lKINDS, gNet := PySem.W.mg_of X G aNet }
  have NC : NetC K C := ⟨⟨pgC, hdC, poC, saC⟩, n_processes, n_channels, n_rules⟩
  have A1 : AskTxt K mg CB CU := ⟨⟨gaB, ggB, exB, hB, haB, hnB, htB, moB⟩, ⟨gaB, ggB, exB, hB⟩, noB, PySem.W.mg_of X G aB, PySem.W.mg_of X G aU, PySem.W.mg_none_of X G z_Exception, exm_of eU iU tU sU, ki1_of, ki2_of exE⟩
  have TB : PySem.BadX.BadTxt K mg CB CU fI := ⟨PySem.W.mg_of X G aB, PySem.W.mg_of X G aU, ⟨_, _, _, _, _, _, _, _, _, _, _, _, _, _, xB⟩, saB, gaB, ggB, noB, iB, tI, kB, exB, exE, mB, tyB, hB, al_of xU fU, opB, PySem.W.mg_none_of X G z_super, ⟨_, _, _, _, _, _, _, _, _, _, _, _, _, _, _, _, _, lI, cI, lD, vI, lc⟩⟩
  have FN := fun_mk (st := s_Net_init) lN cN kN
  have bN := FN.binds (ps := ["self", "processes", "channels", "rules"]) fun _ _ _ _ _ _ us hl => match us, hl with | [_, _, _, _], _ => rfl
  have F0 := fun_mk (st := s_is_whole) l0 c0 q0
  have D0 : DefIn K mg "is_whole" (topS 13) ["value"] := ⟨_, _, ⟨PySem.W.mg_of X G a0, q0, F0.binds fun _ _ _ _ _ _ us hl => match us, hl with | [_], _ => rfl⟩, F0⟩
  have F1 := fun_mk (st := s_is_below) l1 c1 q1
  have D1 : DefIn K mg "is_below" (topS 14) ["value", "top"] := ⟨_, _, ⟨PySem.W.mg_of X G a1, q1, F1.binds fun _ _ _ _ _ _ us hl => match us, hl with | [_, _], _ => rfl⟩, F1⟩
  have F2 := fun_mk (st := s_is_name) l2 c2 q2
  have D2 : DefIn K mg "is_name" (topS 15) ["value"] := ⟨_, _, ⟨PySem.W.mg_of X G a2, q2, F2.binds fun _ _ _ _ _ _ us hl => match us, hl with | [_], _ => rfl⟩, F2⟩
  have F3 := fun_mk (st := s_is_process) l3 c3 q3
  have D3 : DefIn K mg "is_process" (topS 16) ["value", "elder"] := ⟨_, _, ⟨PySem.W.mg_of X G a3, q3, F3.binds fun _ _ _ _ _ _ us hl => match us, hl with | [_, _], _ => rfl⟩, F3⟩
  have F4 := fun_mk (st := s_is_channel) l4 c4 q4
  have D4 : DefIn K mg "is_channel" (topS 17) ["value", "processes", "elder"] := ⟨_, _, ⟨PySem.W.mg_of X G a4, q4, F4.binds fun _ _ _ _ _ _ us hl => match us, hl with | [_, _, _], _ => rfl⟩, F4⟩
  have F5 := fun_mk (st := s_is_act) l5 c5 q5
  have D5 : DefIn K mg "is_act" (topS 18) ["act", "process", "channels"] := ⟨_, _, ⟨PySem.W.mg_of X G a5, q5, F5.binds fun _ _ _ _ _ _ us hl => match us, hl with | [_, _, _], _ => rfl⟩, F5⟩
  have F6 := fun_mk (st := s_is_rule) l6 c6 q6
  have D6 : DefIn K mg "is_rule" (topS 19) ["value", "processes", "channels"] := ⟨_, _, ⟨PySem.W.mg_of X G a6, q6, F6.binds fun _ _ _ _ _ _ us hl => match us, hl with | [_, _, _], _ => rfl⟩, F6⟩
  have F7 := fun_mk (st := s__frozen) l7 c7 q7
  have D7 : DefIn K mg "_frozen" (topS 20) ["value", "depth"] := ⟨_, _, ⟨PySem.W.mg_of X G a7, q7, F7.binds fun _ _ _ _ _ _ us hl => match us, hl with | [_, _], _ => rfl⟩, F7⟩
  have F8 := fun_mk (st := s__rows) l8 c8 q8
  have D8 : DefIn K mg "_rows" (topS 21) ["value", "least", "most"] := ⟨_, _, ⟨PySem.W.mg_of X G a8, q8, F8.binds fun _ _ _ _ _ _ us hl => match us, hl with | [_, _, _], _ => rfl⟩, F8⟩
  have F9 := fun_mk (st := s_start) l9 c9 q9
  have D9 : DefIn K mg "start" (topS 24) ["net"] := ⟨_, _, ⟨PySem.W.mg_of X G a9, q9, F9.binds fun _ _ _ _ _ _ us hl => match us, hl with | [_], _ => rfl⟩, F9⟩
  have F10 := fun_mk (st := s_is_lossy) l10 c10 q10
  have D10 : DefIn K mg "is_lossy" (topS 25) ["net", "channel"] := ⟨_, _, ⟨PySem.W.mg_of X G a10, q10, F10.binds fun _ _ _ _ _ _ us hl => match us, hl with | [_, _], _ => rfl⟩, F10⟩
  have F11 := fun_mk (st := s_is_ordered) l11 c11 q11
  have D11 : DefIn K mg "is_ordered" (topS 26) ["net", "channel"] := ⟨_, _, ⟨PySem.W.mg_of X G a11, q11, F11.binds fun _ _ _ _ _ _ us hl => match us, hl with | [_, _], _ => rfl⟩, F11⟩
  have F12 := fun_mk (st := s_as_deed) l12 c12 q12
  have D12 : DefIn K mg "as_deed" (topS 27) ["net", "deed"] := ⟨_, _, ⟨PySem.W.mg_of X G a12, q12, F12.binds fun _ _ _ _ _ _ us hl => match us, hl with | [_, _], _ => rfl⟩, F12⟩
  have F13 := fun_mk (st := s_open_messages_of) l13 c13 q13
  have D13 : DefIn K mg "open_messages_of" (topS 28) ["net", "world", "channel"] := ⟨_, _, ⟨PySem.W.mg_of X G a13, q13, F13.binds fun _ _ _ _ _ _ us hl => match us, hl with | [_, _, _], _ => rfl⟩, F13⟩
  have F14 := fun_mk (st := s_can_do) l14 c14 q14
  have D14 : DefIn K mg "can_do" (topS 29) ["net", "world", "deed"] := ⟨_, _, ⟨PySem.W.mg_of X G a14, q14, F14.binds fun _ _ _ _ _ _ us hl => match us, hl with | [_, _, _], _ => rfl⟩, F14⟩
  have F15 := fun_mk (st := s__with_part) l15 c15 q15
  have D15 : DefIn K mg "_with_part" (topS 30) ["row", "at", "part"] := ⟨_, _, ⟨PySem.W.mg_of X G a15, q15, F15.binds fun _ _ _ _ _ _ us hl => match us, hl with | [_, _, _], _ => rfl⟩, F15⟩
  have F16 := fun_mk (st := s__without_message) l16 c16 q16
  have D16 : DefIn K mg "_without_message" (topS 31) ["present", "channel", "k"] := ⟨_, _, ⟨PySem.W.mg_of X G a16, q16, F16.binds fun _ _ _ _ _ _ us hl => match us, hl with | [_, _, _], _ => rfl⟩, F16⟩
  have F17 := fun_mk (st := s_behind) l17 c17 q17
  have D17 : DefIn K mg "behind" (topS 32) ["net", "world", "deed"] := ⟨_, _, ⟨PySem.W.mg_of X G a17, q17, F17.binds fun _ _ _ _ _ _ us hl => match us, hl with | [_, _, _], _ => rfl⟩, F17⟩
  have F18 := fun_mk (st := s_played) l18 c18 q18
  have D18 : DefIn K mg "played" (topS 35) ["net", "deeds"] := ⟨_, _, ⟨PySem.W.mg_of X G a18, q18, F18.binds fun _ _ _ _ _ _ us hl => match us, hl with | [_, _], _ => rfl⟩, F18⟩
  have F19 := fun_mk (st := s__law_mixed) l19 c19 q19
  have D19 : DefIn K mg "_law_mixed" (topS 37) ["_law_number", "_law_turn", "_law_many"] := ⟨_, _, ⟨PySem.W.mg_of X G a19, q19, F19.binds fun _ _ _ _ _ _ us hl => match us, hl with | [_, _, _], _ => rfl⟩, F19⟩
  have F20 := fun_mk (st := s__law_pool) l20 c20 q20
  have D20 : DefIn K mg "_law_pool" (topS 38) ["_law_script"] := ⟨_, _, ⟨PySem.W.mg_of X G a20, q20, F20.binds fun _ _ _ _ _ _ us hl => match us, hl with | [_], _ => rfl⟩, F20⟩
  have F21 := fun_mk (st := s__law_take) l21 c21 q21
  have D21 : DefIn K mg "_law_take" (topS 39) ["_law_pool_here", "_law_many"] := ⟨_, _, ⟨PySem.W.mg_of X G a21, q21, F21.binds fun _ _ _ _ _ _ us hl => match us, hl with | [_, _], _ => rfl⟩, F21⟩
  have F22 := fun_mk (st := s__law_names) l22 c22 q22
  have D22 : DefIn K mg "_law_names" (topS 40) ["_law_pool_here", "_law_many"] := ⟨_, _, ⟨PySem.W.mg_of X G a22, q22, F22.binds fun _ _ _ _ _ _ us hl => match us, hl with | [_, _], _ => rfl⟩, F22⟩
  have F23 := fun_mk (st := s__law_rule) l23 c23 q23
  have D23 : DefIn K mg "_law_rule" (topS 41) ["_law_pool_here", "_law_processes", "_law_channels"] := ⟨_, _, ⟨PySem.W.mg_of X G a23, q23, F23.binds fun _ _ _ _ _ _ us hl => match us, hl with | [_, _, _], _ => rfl⟩, F23⟩
  have F24 := fun_mk (st := s__law_net) l24 c24 q24
  have D24 : DefIn K mg "_law_net" (topS 42) ["_law_pool_here"] := ⟨_, _, ⟨PySem.W.mg_of X G a24, q24, F24.binds fun _ _ _ _ _ _ us hl => match us, hl with | [_], _ => rfl⟩, F24⟩
  have F25 := fun_mk (st := s__law_made) l25 c25 q25
  have D25 : DefIn K mg "_law_made" (topS 43) ["_law_pool_here", "_law_net_here"] := ⟨_, _, ⟨PySem.W.mg_of X G a25, q25, F25.binds fun _ _ _ _ _ _ us hl => match us, hl with | [_, _], _ => rfl⟩, F25⟩
  have F26 := fun_mk (st := s__law_start) l26 c26 q26
  have D26 : DefIn K mg "_law_start" (topS 44) ["_law_net_here"] := ⟨_, _, ⟨PySem.W.mg_of X G a26, q26, F26.binds fun _ _ _ _ _ _ us hl => match us, hl with | [_], _ => rfl⟩, F26⟩
  have F27 := fun_mk (st := s__law_told) l27 c27 q27
  have D27 : DefIn K mg "_law_told" (topS 45) ["_law_world"] := ⟨_, _, ⟨PySem.W.mg_of X G a27, q27, F27.binds fun _ _ _ _ _ _ us hl => match us, hl with | [_], _ => rfl⟩, F27⟩
  have F28 := fun_mk (st := s__law_first) l28 c28 q28
  have D28 : DefIn K mg "_law_first" (topS 46) ["_law_net_here", "_law_world", "_law_c"] := ⟨_, _, ⟨PySem.W.mg_of X G a28, q28, F28.binds fun _ _ _ _ _ _ us hl => match us, hl with | [_, _, _], _ => rfl⟩, F28⟩
  have F29 := fun_mk (st := s__law_possible) l29 c29 q29
  have D29 : DefIn K mg "_law_possible" (topS 47) ["_law_net_here", "_law_world"] := ⟨_, _, ⟨PySem.W.mg_of X G a29, q29, F29.binds fun _ _ _ _ _ _ us hl => match us, hl with | [_, _], _ => rfl⟩, F29⟩
  have F30 := fun_mk (st := s__law_done) l30 c30 q30
  have D30 : DefIn K mg "_law_done" (topS 49) ["_law_net_here", "_law_world", "_law_deed"] := ⟨_, _, ⟨PySem.W.mg_of X G a30, q30, F30.binds fun _ _ _ _ _ _ us hl => match us, hl with | [_, _, _], _ => rfl⟩, F30⟩
  have F31 := fun_mk (st := s__law_run) l31 c31 q31
  have D31 : DefIn K mg "_law_run" (topS 50) ["_law_pool_here", "_law_net_here", "_law_most"] := ⟨_, _, ⟨PySem.W.mg_of X G a31, q31, F31.binds fun _ _ _ _ _ _ us hl => match us, hl with | [_, _, _], _ => rfl⟩, F31⟩
  have F32 := fun_mk (st := s__law_near) l32 c32 q32
  have D32 : DefIn K mg "_law_near" (topS 51) ["_law_pool_here", "_law_net_here", "_law_world"] := ⟨_, _, ⟨PySem.W.mg_of X G a32, q32, F32.binds fun _ _ _ _ _ _ us hl => match us, hl with | [_, _, _], _ => rfl⟩, F32⟩
  have F33 := fun_mk (st := s__law_same) l33 c33 q33
  have D33 : DefIn K mg "_law_same" (topS 52) ["_law_actual", "_law_due"] := ⟨_, _, ⟨PySem.W.mg_of X G a33, q33, F33.binds fun _ _ _ _ _ _ us hl => match us, hl with | [_, _], _ => rfl⟩, F33⟩
  have F34 := fun_mk (st := s__law_asked) l34 c34 q34
  have D34 : DefIn K mg "_law_asked" (topS 53) ["_law_made_here", "_law_deeds"] := ⟨_, _, ⟨PySem.W.mg_of X G a34, q34, F34.binds fun _ _ _ _ _ _ us hl => match us, hl with | [_, _], _ => rfl⟩, F34⟩
  have F35 := fun_mk (st := s__law_agrees) l35 c35 q35
  have D35 : DefIn K mg "_law_agrees" (topS 54) ["_law_pool_here", "_law_net_here", "_law_made_here"] := ⟨_, _, ⟨PySem.W.mg_of X G a35, q35, F35.binds fun _ _ _ _ _ _ us hl => match us, hl with | [_, _, _], _ => rfl⟩, F35⟩
  have F36 := fun_mk (st := s__law_long) l36 c36 q36
  have D36 : DefIn K mg "_law_long" (topS 55) ["_law_pool_here"] := ⟨_, _, ⟨PySem.W.mg_of X G a36, q36, F36.binds fun _ _ _ _ _ _ us hl => match us, hl with | [_], _ => rfl⟩, F36⟩
  have F37 := fun_mk (st := s__law_sixty) l37 c37 q37
  have D37 : DefIn K mg "_law_sixty" (topS 56) ["_law_pool_here"] := ⟨_, _, ⟨PySem.W.mg_of X G a37, q37, F37.binds fun _ _ _ _ _ _ us hl => match us, hl with | [_], _ => rfl⟩, F37⟩
  have F38 := fun_mk (st := s_law) l38 c38 q38
  refine ⟨_, fun s v => .of_eq ?_, fun base _ _ => all_ok T NC A1 TB hfile htop ⟨mkC, iN, fnN, kcC⟩ FN bN (fun f fd F => kb_played_of F) D0 D1 D2 D3 D4 D5 D6 D7 D8 D9 D10 D11 D12 D13 D14 D15 D16 D17 D18 D19 D20 D21 D22 D23 D24 D25 D26 D27 D28 D29 D30 D31 D32 D33 D34 D35 D36 D37 F38⟩
  rfl
theorem walk {l : PySem.W.OpenLaw} {q : Program} {loose : List PySem.Str} {XP : (PySem.Str → Option Value) → Heap → Prop} {YP : World → Heap → Prop} {d : DefRec} {K : Params → PySem.W.Frag} (hn : l.most = some 63) (hdf : d.params.defaults = [])
    (hY : ∀ (w : World) (h : Heap), YP w h → (K w.params).In h)
    (F : ∀ (w : World) (mg : PySem.Str → Option Value) (fa : Addr) (h : Heap), (K w.params).In h → h.Ns mainGlobals mg → mg d.name = some (.ref fa) →
      ∃ fd : FuncData, (∀ (s : Shared) (u : Value), BindsTo s fd ⟨[u], []⟩ [("_law_script", u)]) ∧ ∀ base : Heap, (K w.params).In base → base.Ns mainGlobals mg → FnOk l.prog w (K w.params) mg base CX0 11 fa fd ["_law_script"] (spLaw (K w.params))) :
    PySem.W.WalkO q loose XP YP l.row.toRowW d [] (fun f vs => PySem.call f vs) :=
  L2.walk_of (n := 63) (k := 11) (x := "_law_script") (CX := fun _ => CX0) (sp := fun w => spLaw (K w.params)) hn (by decide) hdf ⟨rfl, by decide, by decide⟩ hY F (fun _ _ a ns hl _ hS => ⟨a, ns, rfl, hS, hl, fun _ => rfl⟩) fun _ _ _ _ _ z => z
end Dl


open PySem PySem.W PyProof.Rows in
set_option maxRecDepth 100000 in
set_option maxHeartbeats 0 in
theorem PySem.Challenge.cw_cutweave_k06_whole_played_runs_holds : PySem.Challenge.rw_cutweave_k06_whole_played_runs.Holds := by
  w_on; o_law; k_head; (case hw => w_witness2)
  k_fill
  refine Dl.walk (l := PySem.Challenge.rw_cutweave_k06_whole_played_runs) rfl rfl (fun w h Y => PySem.W.kIn_of Y) ?F
  case F =>
    intro w mg fa h KX G hmg
    refine' Dl.all_mk KX G hmg ?hfile ?htop ?kMOST_LETTERS ?kMOST_PROCESSES ?kMOST_STATES ?kMOST_CHANNELS ?kMOST_RULES ?kTOKENS ?kMOST_DEEDS ?kLETTERS ?kKINDS ?lKINDS ?z_len ?z_tuple ?z_list ?z_range ?z_int ?z_isinstance ?z_all ?z_enumerate ?z_str ?z_bool ?z_Exception ?z_super ?aNet ?pgC ?hdC ?poC ?saC ?n_processes ?n_channels ?n_rules ?mkC ?kcC ?iN ?fnN ?lN ?cN ?kN ?aB ?aU ?xB ?saB ?gaB ?ggB ?noB ?iB ?tI ?kB ?exB ?exE ?mB ?tyB ?hB ?xU ?fU ?eU ?iU ?tU ?sU ?opB ?lI ?cI ?lD ?vI ?lc ?haB ?hnB ?htB ?moB ?a0 ?l0 ?c0 ?q0 ?a1 ?l1 ?c1 ?q1 ?a2 ?l2 ?c2 ?q2 ?a3 ?l3 ?c3 ?q3 ?a4 ?l4 ?c4 ?q4 ?a5 ?l5 ?c5 ?q5 ?a6 ?l6 ?c6 ?q6 ?a7 ?l7 ?c7 ?q7 ?a8 ?l8 ?c8 ?q8 ?a9 ?l9 ?c9 ?q9 ?a10 ?l10 ?c10 ?q10 ?a11 ?l11 ?c11 ?q11 ?a12 ?l12 ?c12 ?q12 ?a13 ?l13 ?c13 ?q13 ?a14 ?l14 ?c14 ?q14 ?a15 ?l15 ?c15 ?q15 ?a16 ?l16 ?c16 ?q16 ?a17 ?l17 ?c17 ?q17 ?a18 ?l18 ?c18 ?q18 ?a19 ?l19 ?c19 ?q19 ?a20 ?l20 ?c20 ?q20 ?a21 ?l21 ?c21 ?q21 ?a22 ?l22 ?c22 ?q22 ?a23 ?l23 ?c23 ?q23 ?a24 ?l24 ?c24 ?q24 ?a25 ?l25 ?c25 ?q25 ?a26 ?l26 ?c26 ?q26 ?a27 ?l27 ?c27 ?q27 ?a28 ?l28 ?c28 ?q28 ?a29 ?l29 ?c29 ?q29 ?a30 ?l30 ?c30 ?q30 ?a31 ?l31 ?c31 ?q31 ?a32 ?l32 ?c32 ?q32 ?a33 ?l33 ?c33 ?q33 ?a34 ?l34 ?c34 ?q34 ?a35 ?l35 ?c35 ?q35 ?a36 ?l36 ?c36 ?q36 ?a37 ?l37 ?c37 ?q37 ?a38 ?l38 ?c38 ?q38
    (case hfile => rfl)
    (case htop => rfl)
    (case kMOST_LETTERS => k_is)
    (case kMOST_PROCESSES => k_is)
    (case kMOST_STATES => k_is)
    (case kMOST_CHANNELS => k_is)
    (case kMOST_RULES => k_is)
    (case kTOKENS => k_is)
    (case kMOST_DEEDS => k_is)
    (case kLETTERS => k_is)
    (case kKINDS => k_is)
    (case lKINDS => k_is)
    (case z_len => k_is)
    (case z_tuple => k_is)
    (case z_list => k_is)
    (case z_range => k_is)
    (case z_int => k_is)
    (case z_isinstance => k_is)
    (case z_all => k_is)
    (case z_enumerate => k_is)
    (case z_str => k_is)
    (case z_bool => k_is)
    (case z_Exception => k_is)
    (case z_super => k_is)
    (case aNet => k_is)
    (case pgC => k_is)
    (case hdC => k_is)
    (case poC => k_is)
    (case saC => k_is)
    (case n_processes => k_is)
    (case n_channels => k_is)
    (case n_rules => k_is)
    (case mkC => k_is)
    (case kcC => k_is)
    (case iN => k_is)
    (case fnN => k_is)
    (case lN => k_is)
    (case cN => k_is)
    (case kN => k_is)
    (case aB => k_is)
    (case aU => k_is)
    (case xB => k_is)
    (case saB => k_is)
    (case gaB => k_is)
    (case ggB => k_is)
    (case noB => k_is)
    (case iB => k_is)
    (case tI => k_is)
    (case kB => k_is)
    (case exB => k_is)
    (case exE => k_is)
    (case mB => k_is)
    (case tyB => k_is)
    (case hB => k_is)
    (case xU => k_is)
    (case fU => k_is)
    (case eU => k_is)
    (case iU => k_is)
    (case tU => k_is)
    (case sU => first | k_is | rfl)
    (case opB => k_is)
    (case lI => k_is)
    (case cI => k_is)
    (case lD => k_is)
    (case vI => rfl)
    (case lc => k_is)
    (case haB => k_is)
    (case hnB => k_is)
    (case htB => k_is)
    (case moB => k_is)
    (case a0 => k_is)
    (case l0 => k_is)
    (case c0 => k_is)
    (case q0 => k_is)
    (case a1 => k_is)
    (case l1 => k_is)
    (case c1 => k_is)
    (case q1 => k_is)
    (case a2 => k_is)
    (case l2 => k_is)
    (case c2 => k_is)
    (case q2 => k_is)
    (case a3 => k_is)
    (case l3 => k_is)
    (case c3 => k_is)
    (case q3 => k_is)
    (case a4 => k_is)
    (case l4 => k_is)
    (case c4 => k_is)
    (case q4 => k_is)
    (case a5 => k_is)
    (case l5 => k_is)
    (case c5 => k_is)
    (case q5 => k_is)
    (case a6 => k_is)
    (case l6 => k_is)
    (case c6 => k_is)
    (case q6 => k_is)
    (case a7 => k_is)
    (case l7 => k_is)
    (case c7 => k_is)
    (case q7 => k_is)
    (case a8 => k_is)
    (case l8 => k_is)
    (case c8 => k_is)
    (case q8 => k_is)
    (case a9 => k_is)
    (case l9 => k_is)
    (case c9 => k_is)
    (case q9 => k_is)
    (case a10 => k_is)
    (case l10 => k_is)
    (case c10 => k_is)
    (case q10 => k_is)
    (case a11 => k_is)
    (case l11 => k_is)
    (case c11 => k_is)
    (case q11 => k_is)
    (case a12 => k_is)
    (case l12 => k_is)
    (case c12 => k_is)
    (case q12 => k_is)
    (case a13 => k_is)
    (case l13 => k_is)
    (case c13 => k_is)
    (case q13 => k_is)
    (case a14 => k_is)
    (case l14 => k_is)
    (case c14 => k_is)
    (case q14 => k_is)
    (case a15 => k_is)
    (case l15 => k_is)
    (case c15 => k_is)
    (case q15 => k_is)
    (case a16 => k_is)
    (case l16 => k_is)
    (case c16 => k_is)
    (case q16 => k_is)
    (case a17 => k_is)
    (case l17 => k_is)
    (case c17 => k_is)
    (case q17 => k_is)
    (case a18 => k_is)
    (case l18 => k_is)
    (case c18 => k_is)
    (case q18 => k_is)
    (case a19 => k_is)
    (case l19 => k_is)
    (case c19 => k_is)
    (case q19 => k_is)
    (case a20 => k_is)
    (case l20 => k_is)
    (case c20 => k_is)
    (case q20 => k_is)
    (case a21 => k_is)
    (case l21 => k_is)
    (case c21 => k_is)
    (case q21 => k_is)
    (case a22 => k_is)
    (case l22 => k_is)
    (case c22 => k_is)
    (case q22 => k_is)
    (case a23 => k_is)
    (case l23 => k_is)
    (case c23 => k_is)
    (case q23 => k_is)
    (case a24 => k_is)
    (case l24 => k_is)
    (case c24 => k_is)
    (case q24 => k_is)
    (case a25 => k_is)
    (case l25 => k_is)
    (case c25 => k_is)
    (case q25 => k_is)
    (case a26 => k_is)
    (case l26 => k_is)
    (case c26 => k_is)
    (case q26 => k_is)
    (case a27 => k_is)
    (case l27 => k_is)
    (case c27 => k_is)
    (case q27 => k_is)
    (case a28 => k_is)
    (case l28 => k_is)
    (case c28 => k_is)
    (case q28 => k_is)
    (case a29 => k_is)
    (case l29 => k_is)
    (case c29 => k_is)
    (case q29 => k_is)
    (case a30 => k_is)
    (case l30 => k_is)
    (case c30 => k_is)
    (case q30 => k_is)
    (case a31 => k_is)
    (case l31 => k_is)
    (case c31 => k_is)
    (case q31 => k_is)
    (case a32 => k_is)
    (case l32 => k_is)
    (case c32 => k_is)
    (case q32 => k_is)
    (case a33 => k_is)
    (case l33 => k_is)
    (case c33 => k_is)
    (case q33 => k_is)
    (case a34 => k_is)
    (case l34 => k_is)
    (case c34 => k_is)
    (case q34 => k_is)
    (case a35 => k_is)
    (case l35 => k_is)
    (case c35 => k_is)
    (case q35 => k_is)
    (case a36 => k_is)
    (case l36 => k_is)
    (case c36 => k_is)
    (case q36 => k_is)
    (case a37 => k_is)
    (case l37 => k_is)
    (case c37 => k_is)
    (case q37 => k_is)
    (case a38 => k_is)
    (case l38 => k_is)
    (case c38 => k_is)
    (case q38 => k_is)
