import PyProof.Rows.All
import Wide.All
import OpenK.AllK
import Wide.FinOn
import HandS.ForMost
import HandS.Exc
import HandS.Lambda
import HandS.TupAny
import HandS.Wide
import HandS.Flow
import HandS.IsInst
import HandS.Text
import HandS.More
import HandS.ClsMeth
import HandS.Property
import HandS.WordsExc
import HandS.ExcOwn
import HandS.Zip
import PyProof.EqAt
import PyProof.EqKinds
import PyProof.TupleCall
import KE.KExcSuper
import HandS.ExcInit
import HandS.FStrTup
import PyProof.ReprHeads
import HandS.FStr
import KE.KTryMore
import HandS.ExcField
import HandS.HotCalls
import HandS.OwnEq
import PyProof.InstNe
import KE.KUnpackStar
import PyProof.MakeMany
import HandS.Small
import HandS.Style
import HandS.Ends
import HandS.HeadEnd
import HandS.HeadHook4
import HandS.Head2
import HandS.EndBits
import HandS.EndTab
import PySem.Challenge.RW_coinroads_k06_bouquets
set_option Elab.async false
set_option linter.all false
set_option maxRecDepth 100000
set_option maxHeartbeats 0
namespace Z
open PySem PySem.Spec PyProof.Rows L2

/-- my values -/
inductive U where
  | non | bl (b : Bool) | int (i : Int) | str (x : Str) | tup (xs : List U) | fro (xs : List U) | ref (n : Nat) | glb (x : Str)

/-- my objects -/
inductive GO where
  | lst (xs : List U)
  | dK (kvs : List (Key × U))
  | ins (C : Str) (fs : List (Str × U))

abbrev Gp := List GO
abbrev SS := L2.St
abbrev Rho := List (Option U)

/-- the written part and the module's names -/
structure Wr where
  K : PySem.W.Frag
  mg : Str → Option Value
  kd : Str → Option (List (Str × U))

/-- a list that is only read -/
def SqF (K : PySem.W.Frag) (H : Hp) (a : Addr) (xs : List V) : Prop := (∃ o, H a = some (.frz o (.lst xs))) ∨
  ∃ (o : Obj) (its : Array Value) (n : Nat), K.lookup a = some o ∧ o.cls = .type "list" ∧ o.dict = none ∧ o.data = .seq its n ∧ its.size ≤ sizeLine ∧ Vals xs its.toList
theorem SqF.sq {K H a xs} (h : SqF K H a xs) : SqL K H a xs := by
  rcases h with ⟨o, h⟩ | h
  · exact .inl (.inr ⟨o, h⟩)
  · exact .inr h
mutual
def RU (Y : Wr) (H : Hp) (f : Nat → Addr) (n : Nat) : U → V → Prop
  | .non, v => v = .non
  | .bl b, v => v = .bl b
  | .int i, v => v = .int i
  | .str x, v => v = .str x
  | .tup xs, v => ∃ a ys, v = .ref a ∧ SqT Y.K H a ys ∧ RUs Y H f n xs ys
  | .fro xs, v => ∃ a ys, v = .ref a ∧ SqF Y.K H a ys ∧ RUs Y H f n xs ys
  | .ref i, v => i < n ∧ v = .ref (f i)
  | .glb x, v => ∃ u, Y.mg x = some u ∧ RelV v u
def RUs (Y : Wr) (H : Hp) (f : Nat → Addr) (n : Nat) : List U → List V → Prop
  | [], ys => ys = []
  | x :: xs, ys => ∃ y r, ys = y :: r ∧ RU Y H f n x y ∧ RUs Y H f n xs r
end

/-- the tables of code objects of the module's defs, each with the name of the lambdas made there -/
def tb3 (K : PySem.W.Frag) : List (Addr × Addr × Str) := match K.lookup mainGlobals with
  | some ⟨_, _, .dict es _, _⟩ => es.toList.filterMap fun e => match e.val with
    | .ref f => (match K.lookup f with
      | some ⟨_, _, .func fd, _⟩ => (match fd.code with
        | .ref c => (match K.lookup c with
          | some ⟨_, _, Data.fields vs, _⟩ => (match (vs[11]? : Option Value) with
            | some (Value.ref P) => some (c, P, fd.qualname ++ ".<locals>." ++ "<lambda>")
            | _ => none)
          | _ => none)
        | _ => none)
      | _ => none)
    | _ => none
  | _ => []
def tbOf (K : PySem.W.Frag) : List (Addr × Str) := (tb3 K).map fun x => (x.2.1, x.2.2)
def csOf (K : PySem.W.Frag) : List (Addr × Addr) := (tb3 K).map fun x => (x.1, x.2.1)
theorem Tabs.keep {T : List (Addr × Str)} {H H' : Hp} (t : LamX.Tabs T H) (e : ∀ b o, H b = some o → ((∃ ps, o = .tbl ps) ∨ ∃ q, o = LamX.CodeO b q) → H' b = some o) : LamX.Tabs T H' := fun p hp => by
  obtain ⟨ps, h1, h2, h3⟩ := t p hp
  exact ⟨ps, e _ _ h1 (.inl ⟨ps, rfl⟩), h2, fun pos cv hc => let ⟨c, e1, e2⟩ := h3 pos cv hc; ⟨c, e1, e _ _ e2 (.inr ⟨_, rfl⟩)⟩⟩
/-- what goes on: more objects, the tuples as they were -/
structure Ex0 (H : Hp) (f : Nat → Addr) (n : Nat) (H' : Hp) (f' : Nat → Addr) (n' : Nat) : Prop where
  le : n ≤ n'
  fn : ∀ i, i < n → f' i = f i
  tup : ∀ a xs, H a = some (.tup xs) → H' a = some (.tup xs)
  frz : ∀ a o u, H a = some (.frz o u) → H' a = some (.frz o u)
/-- .. and what is not mine too -/
structure Ext (H : Hp) (f : Nat → Addr) (n : Nat) (H' : Hp) (f' : Nat → Addr) (n' : Nat) : Prop extends Ex0 H f n H' f' n' where
  fr : ∀ a u, H a = some u → (∀ ps, u ≠ .tbl ps) → (∀ i, i < n → f i ≠ a) → H' a = some u ∧ ∀ i, i < n' → f' i ≠ a
theorem Ex0.refl {H f n} : Ex0 H f n H f n := ⟨Nat.le_refl _, fun _ _ => rfl, fun _ _ h => h, fun _ _ _ h => h⟩
theorem Ext.refl {H f n} : Ext H f n H f n := ⟨Ex0.refl, fun _ _ h _ k => ⟨h, k⟩⟩
theorem Ext.trans {H f n H1 f1 n1 H2 f2 n2} (a : Ext H f n H1 f1 n1) (b : Ext H1 f1 n1 H2 f2 n2) : Ext H f n H2 f2 n2 :=
  ⟨⟨Nat.le_trans a.le b.le, fun i h => (b.fn i (Nat.lt_of_lt_of_le h a.le)).trans (a.fn i h), fun x y h => b.tup x y (a.tup x y h), fun x y z h => b.frz x y z (a.frz x y z h)⟩, fun x y h t k => let ⟨h1, k1⟩ := a.fr x y h t k; b.fr x y h1 t k1⟩
theorem Ex0.sqF {H f n H' f' n' K a xs} (e : Ex0 H f n H' f' n') (h : SqF K H a xs) : SqF K H' a xs := by
  rcases h with ⟨o, h⟩ | h
  · exact .inl ⟨o, e.frz _ _ _ h⟩
  · exact .inr h
theorem Ex0.sqT {H f n H' f' n' K a xs} (e : Ex0 H f n H' f' n') (h : SqT K H a xs) : SqT K H' a xs := by
  rcases h with (h | ⟨o, h⟩) | h
  · exact .inl (.inl (e.tup _ _ h))
  · exact .inl (.inr ⟨o, e.frz _ _ _ h⟩)
  · exact .inr h
mutual
theorem RU.ext {Y H f n H' f' n'} (e : Ex0 H f n H' f' n') : ∀ {u : U} {v : V}, RU Y H f n u v → RU Y H' f' n' u v
  | .non, _, h => by simpa [RU] using h
  | .bl _, _, h => by simpa [RU] using h
  | .int _, _, h => by simpa [RU] using h
  | .str _, _, h => by simpa [RU] using h
  | .glb _, _, h => by simpa [RU] using h
  | .ref i, v, h => by
    simp only [RU] at h ⊢
    exact ⟨Nat.lt_of_lt_of_le h.1 e.le, by rw [e.fn i h.1]; exact h.2⟩
  | .tup xs, v, h => by
    simp only [RU] at h ⊢
    obtain ⟨a, ys, hv, hs, hr⟩ := h
    exact ⟨a, ys, hv, e.sqT hs, RUs.ext e hr⟩
  | .fro xs, v, h => by
    simp only [RU] at h ⊢
    obtain ⟨a, ys, hv, hs, hr⟩ := h
    exact ⟨a, ys, hv, e.sqF hs, RUs.ext e hr⟩
theorem RUs.ext {Y H f n H' f' n'} (e : Ex0 H f n H' f' n') : ∀ {u : List U} {v : List V}, RUs Y H f n u v → RUs Y H' f' n' u v
  | [], _, h => by simpa [RUs] using h
  | x :: xs, v, h => by
    simp only [RUs] at h ⊢
    obtain ⟨y, r, hv, h1, h2⟩ := h
    exact ⟨y, r, hv, RU.ext e h1, RUs.ext e h2⟩
end
theorem RUs.iff {Y H f n} : ∀ {us : List U} {vs : List V}, RUs Y H f n us vs ↔ Paired (RU Y H f n) us vs
  | [], vs => by
    simp only [RUs]
    exact ⟨fun h => h ▸ .nil, fun h => by cases h; rfl⟩
  | x :: xs, vs => by
    simp only [RUs]
    constructor
    · rintro ⟨y, r, rfl, h1, h2⟩; exact .cons h1 (RUs.iff.mp h2)
    · intro h; cases h with | cons h1 h2 => exact ⟨_, _, rfl, h1, RUs.iff.mpr h2⟩

abbrev RKs (Y : Wr) (H : Hp) (f : Nat → Addr) (n : Nat) {κ : Type} : List (κ × U) → List (κ × V) → Prop := Paired fun p q => p.1 = q.1 ∧ RU Y H f n p.2 q.2
theorem RKs.ext {Y H f n H' f' n'} {κ : Type} (e : Ex0 H f n H' f' n') {a : List (κ × U)} {b : List (κ × V)} (h : RKs Y H f n a b) : RKs Y H' f' n' a b :=
  Paired.mapP h fun _ _ q => ⟨q.1, q.2.ext e⟩

/-- an object of mine at an address -/
def RO (Y : Wr) (H : Hp) (f : Nat → Addr) (n : Nat) (a : Addr) : GO → Prop
  | .lst xs => ∃ ys, H a = some (.lst ys) ∧ RUs Y H f n xs ys
  | .dK kvs => ∃ ws, H a = some (.dK ws) ∧ RKs Y H f n kvs ws
  | .ins C fs => ∃ A dx ws, Y.mg C = some (.ref A) ∧ H a = some (.ins A dx ws) ∧ RKs Y H f n fs ws

structure Sim (Y : Wr) (H : Hp) (f : Nat → Addr) (G : Gp) : Prop where
  inj : ∀ i j, i < G.length → j < G.length → f i = f j → i = j
  ob : ∀ i o, G[i]? = some o → RO Y H f G.length (f i) o
  tab : LamX.Tabs (tbOf Y.K) H

/-- slots -/
def RSt (Y : Wr) (H : Hp) (f : Nat → Addr) (n : Nat) (ρ : Rho) (σ : SS) : Prop :=
  ρ.length = σ.length ∧ ∀ (i : Nat) (u : U), ρ[i]? = some (some u) → ∃ v, σ[i]? = some (some v) ∧ RU Y H f n u v
theorem RSt.ext {Y H f n H' f' n' ρ σ} (e : Ex0 H f n H' f' n') (h : RSt Y H f n ρ σ) : RSt Y H' f' n' ρ σ :=
  ⟨h.1, fun i u q => let ⟨v, a, b⟩ := h.2 i u q; ⟨v, a, b.ext e⟩⟩
theorem RSt.set {Y H f n ρ σ} (h : RSt Y H f n ρ σ) {i : Nat} {u : U} {v : V} (r : RU Y H f n u v) : RSt Y H f n (ρ.set i (some u)) (σ.set i (some v)) := by
  refine ⟨by simp [h.1], fun j w q => ?_⟩
  by_cases e : i = j
  · subst e
    by_cases hi : i < ρ.length
    · rw [List.getElem?_set_self hi] at q
      cases q
      exact ⟨v, List.getElem?_set_self (by rw [← h.1]; exact hi), r⟩
    · rw [List.getElem?_eq_none (by simpa using hi)] at q; cases q
  · rw [List.getElem?_set_ne e] at q ⊢
    exact h.2 j w q

inductive Out (α : Type) where
  | ok (a : α) (G : Gp)
  | exc (c : Str) (fs : List (Str × U)) (G : Gp)
  | stuck
def Out.bind {α β : Type} : Out α → (α → Gp → Out β) → Out β
  | .ok a G, k => k a G
  | .exc c fs G, _ => .exc c fs G
  | .stuck, _ => .stuck
def Out.of {α : Type} : Option (α × Gp) → Out α
  | some (a, G) => .ok a G
  | none => .stuck

/-- what an outcome asks -/
def Rs {α : Type} (Y : Wr) (W : WX) (out : Out α) (H : Hp) (f : Nat → Addr) (n : Nat) (σ : SS) (k : α → (Nat → Addr) → Gp → Hp → Prop) : Prop :=
  match out with
  | .ok a G' => ∀ f' H', Ext H f n H' f' G'.length → Sim Y H' f' G' → k a f' G' H'
  | .exc c fs G' => ∀ f' H' C d ws, Ext H f n H' f' G'.length → Sim Y H' f' G' → Y.mg c = some (.ref C) → H' d = some (.xd ws) → RKs Y H' f' G'.length fs ws → W (.ref C) (some d) σ H'
  | .stuck => False

section
variable {α β : Type} {Y : Wr} {W : WX} {H H1 : Hp} {f f1 : Nat → Addr} {n n1 : Nat} {σ : SS}
theorem Rs.ext {out : Out α} {k : α → (Nat → Addr) → Gp → Hp → Prop} (e : Ext H f n H1 f1 n1) (h : Rs Y W out H f n σ k) : Rs Y W out H1 f1 n1 σ k := by
  cases out with
  | ok a G' => exact fun f' H' e' S => h f' H' (e.trans e') S
  | exc c fs G' => exact fun f' H' C d ws e' S => h f' H' C d ws (e.trans e') S
  | stuck => exact h
theorem Rs.bind {m : Out α} {g : α → Gp → Out β} {k : β → (Nat → Addr) → Gp → Hp → Prop} (h : Rs Y W (m.bind g) H f n σ k) :
    Rs Y W m H f n σ fun a f1 G1 H1 => Rs Y W (g a G1) H1 f1 G1.length σ k := by
  cases m with
  | ok a G' => exact fun f1 H1 e S => Rs.ext e h
  | exc c fs G' => exact h
  | stuck => exact h
theorem Rs.imp {out : Out α} {k k' : α → (Nat → Addr) → Gp → Hp → Prop} (h : Rs Y W out H f n σ k) (i : ∀ a f1 G1 H1, Ext H f n H1 f1 G1.length → Sim Y H1 f1 G1 → k a f1 G1 H1 → k' a f1 G1 H1) : Rs Y W out H f n σ k' := by
  cases out with
  | ok a G' => exact fun f1 H1 e S => i a f1 G' H1 e S (h f1 H1 e S)
  | exc c fs G' => exact h
  | stuck => exact h
theorem Rs.ok {a : α} {G : Gp} {k : α → (Nat → Addr) → Gp → Hp → Prop} (S : Sim Y H f G) (h : Rs Y W (.ok a G) H f G.length σ k) : k a f G H := h f H Ext.refl S
theorem Rs.of {o : Option (α × Gp)} {k : α → (Nat → Addr) → Gp → Hp → Prop} (h : Rs Y W (.of o) H f n σ k) : ∃ a G', o = some (a, G') ∧ Rs Y W (.ok a G') H f n σ k := by
  cases o with
  | none => exact h.elim
  | some p => obtain ⟨a, G'⟩ := p; exact ⟨a, G', rfl, h⟩
end

abbrev kV' (Y : Wr) (Q : VK) : U → (Nat → Addr) → Gp → Hp → Prop := fun u f G H => ∀ v, RU Y H f G.length u v → Q v H
abbrev kB' (Q : Bool → Hp → Prop) : Bool → (Nat → Addr) → Gp → Hp → Prop := fun b _ _ H => Q b H
abbrev kL' (Y : Wr) (Q : List V → Hp → Prop) : List U → (Nat → Addr) → Gp → Hp → Prop := fun us f G H => ∀ vs, RUs Y H f G.length us vs → Q vs H
abbrev ME := Rho → Gp → Out U
abbrev MB := Rho → Gp → Out Bool
abbrev ML := Rho → Gp → Out (List U)

def tE (Y : Wr) (W : WX) (m : ME) : TE := fun σ H Q => ∃ f G ρ, Sim Y H f G ∧ RSt Y H f G.length ρ σ ∧ Rs Y W (m ρ G) H f G.length σ (kV' Y Q)
def tT (Y : Wr) (W : WX) (m : MB) : TT := fun σ H Q => ∃ f G ρ, Sim Y H f G ∧ RSt Y H f G.length ρ σ ∧ Rs Y W (m ρ G) H f G.length σ (kB' Q)
def tL (Y : Wr) (W : WX) (m : ML) : TA := fun σ H Q => ∃ f G ρ, Sim Y H f G ∧ RSt Y H f G.length ρ σ ∧ Rs Y W (m ρ G) H f G.length σ (kL' Y Q)

theorem PE.imp {X : Cx} {e : Expr} {t t' : TE} (h : PE X e t) (i : ∀ σ H Q, t' σ H Q → t σ H Q) : PE X e t' := ⟨fun p s σ H Q I q => h.run p s σ H Q I (i σ H Q q)⟩
theorem PT.imp {X : Cx} {e : Expr} {t t' : TT} (h : PT X e t) (i : ∀ σ H Q, t' σ H Q → t σ H Q) : PT X e t' := ⟨fun p s σ H Q I q => h.run p s σ H Q I (i σ H Q q)⟩
theorem PW.imp {X : Cx} {e : Expr} {t t' : TT} (h : PW X e t) (i : ∀ σ H Q, t' σ H Q → t σ H Q) : PW X e t' := ⟨fun wh p s σ H Q I q => h.run wh p s σ H Q I (i σ H Q q)⟩
theorem PA.imp {X : Cx} {e : List Expr} {t t' : TA} (h : PA X e t) (i : ∀ σ H Q, t' σ H Q → t σ H Q) : PA X e t' := ⟨fun pos p s σ H Q I q => h.run pos p s σ H Q I (i σ H Q q)⟩
theorem PS.imp {X : Cx} {e : Stmt} {t t' : TS} (h : PS X e t) (i : ∀ D σ H, t' D σ H → t D σ H) : PS X e t' := ⟨fun p s σ H D I q => h.run p s σ H D I (i D σ H q)⟩
theorem PSs.imp {X : Cx} {e : List Stmt} {t t' : TS} (h : PSs X e t) (i : ∀ D σ H, t' D σ H → t D σ H) : PSs X e t' := ⟨fun p s σ H D I q => h.run p s σ H D I (i D σ H q)⟩

/-- ways to hand on: from an outcome that begins with m's -/
theorem tE.mk {Y W} {m : ME} {σ H Q f G ρ} (S : Sim Y H f G) (R : RSt Y H f G.length ρ σ) (h : Rs Y W (m ρ G) H f G.length σ (kV' Y Q)) : tE Y W m σ H Q := ⟨f, G, ρ, S, R, h⟩
theorem tE.go {Y W} {m : ME} {α : Type} {g : U → Gp → Out α} {k : α → (Nat → Addr) → Gp → Hp → Prop} {σ H f G ρ} {Q : VK} (S : Sim Y H f G) (R : RSt Y H f G.length ρ σ)
    (h : Rs Y W ((m ρ G).bind g) H f G.length σ k)
    (i : ∀ u f1 G1 H1, Ext H f G.length H1 f1 G1.length → Sim Y H1 f1 G1 → RSt Y H1 f1 G1.length ρ σ → Rs Y W (g u G1) H1 f1 G1.length σ k → ∀ v, RU Y H1 f1 G1.length u v → Q v H1) : tE Y W m σ H Q :=
  ⟨f, G, ρ, S, R, h.bind.imp fun u f1 G1 H1 e S1 h1 v r => i u f1 G1 H1 e S1 (R.ext e.toEx0) h1 v r⟩
theorem tT.go {Y W} {m : MB} {α : Type} {g : Bool → Gp → Out α} {k : α → (Nat → Addr) → Gp → Hp → Prop} {σ H f G ρ} {Q : Bool → Hp → Prop} (S : Sim Y H f G) (R : RSt Y H f G.length ρ σ)
    (h : Rs Y W ((m ρ G).bind g) H f G.length σ k)
    (i : ∀ b f1 G1 H1, Ext H f G.length H1 f1 G1.length → Sim Y H1 f1 G1 → RSt Y H1 f1 G1.length ρ σ → Rs Y W (g b G1) H1 f1 G1.length σ k → Q b H1) : tT Y W m σ H Q :=
  ⟨f, G, ρ, S, R, h.bind.imp fun u f1 G1 H1 e S1 h1 => i u f1 G1 H1 e S1 (R.ext e.toEx0) h1⟩
theorem tL.go {Y W} {m : ML} {α : Type} {g : List U → Gp → Out α} {k : α → (Nat → Addr) → Gp → Hp → Prop} {σ H f G ρ} {Q : List V → Hp → Prop} (S : Sim Y H f G) (R : RSt Y H f G.length ρ σ)
    (h : Rs Y W ((m ρ G).bind g) H f G.length σ k)
    (i : ∀ u f1 G1 H1, Ext H f G.length H1 f1 G1.length → Sim Y H1 f1 G1 → RSt Y H1 f1 G1.length ρ σ → Rs Y W (g u G1) H1 f1 G1.length σ k → ∀ v, RUs Y H1 f1 G1.length u v → Q v H1) : tL Y W m σ H Q :=
  ⟨f, G, ρ, S, R, h.bind.imp fun u f1 G1 H1 e S1 h1 v r => i u f1 G1 H1 e S1 (R.ext e.toEx0) h1 v r⟩

/-- by values -/
def r2 (Y : Wr) (op : U → U → Gp → Option (U × Gp)) : R2 := fun v w H Q => ∃ f G x y u G', Sim Y H f G ∧ RU Y H f G.length x v ∧ RU Y H f G.length y w ∧ op x y G = some (u, G') ∧
  ∀ f' H', Ext H f G.length H' f' G'.length → Sim Y H' f' G' → kV' Y Q u f' G' H'
def rN (Y : Wr) (op : List U → Gp → Option (U × Gp)) : List V → Hp → VK → Prop := fun vs H Q => ∃ f G xs u G', Sim Y H f G ∧ RUs Y H f G.length xs vs ∧ op xs G = some (u, G') ∧
  ∀ f' H', Ext H f G.length H' f' G'.length → Sim Y H' f' G' → kV' Y Q u f' G' H'

/-! ### the heap's steps -/
section
variable {Y : Wr} {H : Hp} {f : Nat → Addr} {G : Gp}
def fx (f : Nat → Addr) (n : Nat) (p : Addr) : Nat → Addr := fun i => if i = n then p else f i
theorem fx_at {f n p} : fx f n p n = p := if_pos rfl
theorem fx_ne {f n p i} (h : i ≠ n) : fx f n p i = f i := if_neg h
theorem RO.move {H' : Hp} {f' : Nat → Addr} {n n' : Nat} {a a' : Addr} {o : GO} (e : Ex0 H f n H' f' n') (ha : H' a = H a) (ea : a' = a) (h : RO Y H f n a o) : RO Y H' f' n' a' o := by
  subst ea
  cases o with
  | lst xs => obtain ⟨ys, h1, h2⟩ := h; exact ⟨ys, by rw [ha]; exact h1, h2.ext e⟩
  | dK kvs => obtain ⟨ws, h1, h2⟩ := h; exact ⟨ws, by rw [ha]; exact h1, RKs.ext e h2⟩
  | ins C fs => obtain ⟨A, dx, ws, h0, h1, h2⟩ := h; exact ⟨A, dx, ws, h0, by rw [ha]; exact h1, RKs.ext e h2⟩
theorem RO.has {n : Nat} {a : Addr} {o : GO} (h : RO Y H f n a o) : ∃ u, H a = some u ∧ (∀ xs, u ≠ .tup xs) ∧ (∀ b v, u ≠ .frz b v) ∧ (∀ ps, u ≠ .tbl ps) ∧ ∀ q, u ≠ LamX.CodeO a q := by
  cases o with
  | lst xs => obtain ⟨ys, h1, h2⟩ := h; exact ⟨_, h1, (fun _ z => by cases z), (fun _ _ z => by cases z), (fun _ z => by cases z), fun q z => by unfold LamX.CodeO at z; cases z⟩
  | dK kvs => obtain ⟨ws, h1, h2⟩ := h; exact ⟨_, h1, (fun _ z => by cases z), (fun _ _ z => by cases z), (fun _ z => by cases z), fun q z => by unfold LamX.CodeO at z; cases z⟩
  | ins C fs => obtain ⟨A, dx, ws, h0, h1, h2⟩ := h; exact ⟨_, h1, (fun _ z => by cases z), (fun _ _ z => by cases z), (fun _ z => by cases z), fun q z => by unfold LamX.CodeO at z; cases z⟩
theorem Sim.has (S : Sim Y H f G) {i : Nat} (hi : i < G.length) : ∃ u, H (f i) = some u ∧ (∀ xs, u ≠ .tup xs) ∧ (∀ b v, u ≠ .frz b v) ∧ (∀ ps, u ≠ .tbl ps) ∧ ∀ q, u ≠ LamX.CodeO (f i) q := (S.ob i _ (List.getElem?_eq_getElem hi)).has
theorem Sim.far (S : Sim Y H f G) {p : Addr} (hp : H p = none) : ∀ i, i < G.length → f i ≠ p := fun i hi z => by
  obtain ⟨u, hu, _⟩ := S.has hi
  rw [z, hp] at hu; cases hu
/-- a thing that is not mine is made or written -/
theorem Sim.other {p : Addr} {o : HO} (S : Sim Y H f G) (hp : ∀ i, i < G.length → f i ≠ p) (h1 : ∀ xs, H p ≠ some (.tup xs)) (h2 : ∀ b v, H p ≠ some (.frz b v)) (h3 : ∀ ps, H p ≠ some (.tbl ps)) (h4 : ∀ q, H p ≠ some (LamX.CodeO p q)) : Sim Y (upd H p o) f G := by
  have e : Ex0 H f G.length (upd H p o) f G.length := ⟨Nat.le_refl _, fun _ _ => rfl,
      fun a xs q => by rw [upd_ne (fun z => by subst z; exact h1 _ q)]; exact q,
      fun a xs u q => by rw [upd_ne (fun z => by subst z; exact h2 _ _ q)]; exact q⟩
  exact ⟨S.inj, fun i a h => (S.ob i a h).move e (upd_ne (hp i (List.getElem?_eq_some_iff.mp h).1)) rfl, Tabs.keep S.tab fun b u q k => by
    rw [upd_ne (fun z => by
      subst z
      rcases k with ⟨ps, rfl⟩ | ⟨w, rfl⟩
      · exact h3 _ q
      · exact h4 _ q)]
    exact q⟩
theorem Sim.fresh {p : Addr} {o : HO} (S : Sim Y H f G) (hp : H p = none) : Sim Y (upd H p o) f G :=
  S.other (S.far hp) (fun _ z => by rw [hp] at z; cases z) (fun _ _ z => by rw [hp] at z; cases z) (fun _ z => by rw [hp] at z; cases z) (fun _ z => by rw [hp] at z; cases z)
theorem ext_fresh {p : Addr} {o : HO} (S : Sim Y H f G) (hp : H p = none) : Ext H f G.length (upd H p o) f G.length :=
  ⟨⟨Nat.le_refl _, fun _ _ => rfl, fun a xs h => by rw [upd_ne (ne_of_none h hp)]; exact h, fun a xs u h => by rw [upd_ne (ne_of_none h hp)]; exact h⟩, fun a u h _ k => ⟨by rw [upd_ne (ne_of_none h hp)]; exact h, k⟩⟩
theorem get_app {g a : GO} {i : Nat} (h : (G ++ [g])[i]? = some a) : (i < G.length ∧ G[i]? = some a) ∨ (i = G.length ∧ a = g) := by
  by_cases hi : i < G.length
  · rw [List.getElem?_append_left hi] at h; exact .inl ⟨hi, h⟩
  · rw [List.getElem?_append_right (by omega)] at h
    have z : i - G.length = 0 := by
      rcases Nat.eq_zero_or_pos (i - G.length) with z | z
      · exact z
      · rw [List.getElem?_eq_none (by simp only [List.length_cons, List.length_nil]; omega)] at h; cases h
    rw [z] at h
    simp at h
    exact .inr ⟨by omega, h.symm⟩
/-- an object of mine is made at a fresh address, or at one that is known to be free of mine -/
theorem Sim.take {p : Addr} {g : GO} (S : Sim Y H f G) (far : ∀ i, i < G.length → f i ≠ p) (ho : RO Y H (fx f G.length p) (G.length + 1) p g) : Sim Y H (fx f G.length p) (G ++ [g]) := by
  have e : Ex0 H f G.length H (fx f G.length p) (G ++ [g]).length := by
    rw [List.length_append]; exact ⟨Nat.le_succ _, fun i h => fx_ne (Nat.ne_of_lt h), fun a xs h => h, fun a xs u h => h⟩
  refine ⟨fun i j h1 h2 q => ?_, fun i a h => ?_, S.tab⟩
  · rw [List.length_append] at h1 h2
    simp only [List.length_cons, List.length_nil] at h1 h2
    by_cases hi : i < G.length <;> by_cases hj : j < G.length
    · rw [fx_ne (Nat.ne_of_lt hi), fx_ne (Nat.ne_of_lt hj)] at q; exact S.inj i j hi hj q
    · rw [fx_ne (Nat.ne_of_lt hi), show j = G.length by omega, fx_at] at q; exact (far i hi q).elim
    · rw [show i = G.length by omega, fx_at, fx_ne (Nat.ne_of_lt hj)] at q; exact (far j hj q.symm).elim
    · omega
  · rcases get_app h with ⟨hi, g1⟩ | ⟨hi, g1⟩
    · exact (S.ob i a g1).move e rfl (fx_ne (Nat.ne_of_lt hi))
    · subst g1; subst hi
      rw [fx_at, List.length_append]
      exact ho
theorem ext_take {p : Addr} {g : GO} {u : HO} (S : Sim Y H f G) (hu : H p = none) : Ext H f G.length (upd H p u) (fx f G.length p) (G ++ [g]).length := by
  rw [List.length_append]
  exact ⟨⟨Nat.le_succ _, fun i h => fx_ne (Nat.ne_of_lt h), fun a xs h => by rw [upd_ne (ne_of_none h hu)]; exact h, fun a xs u h => by rw [upd_ne (ne_of_none h hu)]; exact h⟩,
    fun a v h _ k => ⟨by rw [upd_ne (ne_of_none h hu)]; exact h, fun i hi => by
      by_cases hj : i < G.length
      · rw [fx_ne (Nat.ne_of_lt hj)]; exact k i hj
      · have : i = G.length := by simp only [List.length_cons, List.length_nil] at hi; omega
        rw [this, fx_at]; exact fun z => by rw [← z, hu] at h; cases h⟩⟩
theorem Sim.alloc {p : Addr} {o : HO} {g : GO} (S : Sim Y H f G) (hp : H p = none) (ho : RO Y (upd H p o) (fx f G.length p) (G.length + 1) p g) :
    Sim Y (upd H p o) (fx f G.length p) (G ++ [g]) ∧ Ext H f G.length (upd H p o) (fx f G.length p) (G ++ [g]).length :=
  ⟨(S.fresh hp).take (S.far hp) ho, ext_take S hp⟩
/-- an object of mine is written -/
theorem Sim.write {i : Nat} {o : HO} {g : GO} (S : Sim Y H f G) (hi : i < G.length) (ho : ∀ H', Ex0 H f G.length H' f G.length → H' (f i) = some o → RO Y H' f G.length (f i) g) :
    Sim Y (upd H (f i) o) f (G.set i g) ∧ Ext H f G.length (upd H (f i) o) f (G.set i g).length := by
  obtain ⟨u, hu, ht, hz, htb, hco⟩ := S.has hi
  have hl : (G.set i g).length = G.length := List.length_set
  have e0 : Ext H f G.length (upd H (f i) o) f G.length :=
    ⟨⟨Nat.le_refl _, fun _ _ => rfl, fun b xs q => by rw [upd_ne (fun z => by rw [z, hu] at q; exact ht _ (Option.some.inj q))]; exact q, fun b x y q => by rw [upd_ne (fun z => by rw [z, hu] at q; exact hz _ _ (Option.some.inj q))]; exact q⟩,
      fun b v q _ k => ⟨by rw [upd_ne (fun z => k i hi z.symm)]; exact q, k⟩⟩
  refine ⟨⟨fun j k h1 h2 q => S.inj j k (by rw [hl] at h1; exact h1) (by rw [hl] at h2; exact h2) q, fun j b h => ?_, Tabs.keep S.tab fun b v q k => by
    rw [upd_ne (fun z => by
      subst z
      rw [hu] at q
      cases q
      rcases k with ⟨ps, rfl⟩ | ⟨w, rfl⟩
      · exact htb _ rfl
      · exact hco _ rfl)]
    exact q⟩, by rw [hl]; exact e0⟩
  rw [hl]
  by_cases hj : i = j
  · subst hj
    rw [List.getElem?_set_self hi] at h
    cases h
    exact ho _ e0.toEx0 upd_same
  · rw [List.getElem?_set_ne hj] at h
    have hk := (List.getElem?_eq_some_iff.mp h).1
    exact (S.ob j b h).move e0.toEx0 (upd_ne fun z => hj (S.inj j i hk hi z).symm) rfl
end
section
variable {Y : Wr} {H H1 : Hp} {f : Nat → Addr} {G : Gp}
/-- all but the tables stay -/
theorem ext_N {n : Nat} (e : LamX.ExtN H H1) : Ext H f n H1 f n :=
  ⟨⟨Nat.le_refl _, fun _ _ => rfl, fun a xs h => e a _ h (fun ps z => by cases z), fun a o u h => e a _ h (fun ps z => by cases z)⟩, fun a u h t k => ⟨e a u h t, k⟩⟩
theorem sim_N (S : Sim Y H f G) (e : LamX.ExtN H H1) (t : LamX.Tabs (tbOf Y.K) H1) : Sim Y H1 f G :=
  ⟨S.inj, fun i o h => by
    have z := S.ob i o h
    have e0 : Ex0 H f G.length H1 f G.length := (ext_N e).toEx0
    cases o with
    | lst xs => obtain ⟨ys, h1, h2⟩ := z; exact ⟨ys, e _ _ h1 (fun ps z => by cases z), h2.ext e0⟩
    | dK kvs => obtain ⟨ws, h1, h2⟩ := z; exact ⟨ws, e _ _ h1 (fun ps z => by cases z), RKs.ext e0 h2⟩
    | ins C fs => obtain ⟨A, dx, ws, h0, h1, h2⟩ := z; exact ⟨A, dx, ws, h0, e _ _ h1 (fun ps z => by cases z), RKs.ext e0 h2⟩, t⟩
end
end Z
namespace Z
open PySem PySem.Spec PyProof.Rows L2

/-! ## the texts of programs, without places -/
inductive Ty where
  | tnone | tint | tbool | tstr | tlist | ttup | tdict | own (C : Str)
  deriving DecidableEq
inductive Bf where
  | blen | ball | bany | bsum | bmin | bmax | babs | bsorted | bint | bstr | blist | btuple | bbool
  deriving DecidableEq
inductive Bm where
  | append | pop | popAt | clear | insert | extend | index | join | split | get2 | get1
  deriving DecidableEq
inductive Tg where
  | nm (i : Nat)
  | tp (is : List Nat)
/-! ### a def that tells the field of an error -/
inductive FR where
  | fld (n : Str) | ife (w n m : Str) | ifn (w n : Str)
def FR.names : FR → List Str
  | .fld n => [n]
  | .ife _ n m => [n, m]
  | .ifn _ n => [n]
def FR.valG {α : Type} (non : α) (z : Str) (fs : List (Str × α)) : FR → Option α
  | .fld n => fs.lookup n
  | .ife w n m => if (z == w) = true then fs.lookup n else fs.lookup m
  | .ifn w n => if (z == w) = true then fs.lookup n else some non
def fbG {α : Type} (non : α) (z : Str) (fs : List (Str × α)) (r : FR) : List (List Str × FR) → Option α
  | [] => r.valG non z fs
  | (ws, q) :: bs => if (ws.any fun w => w == z) = true then q.valG non z fs else fbG non z fs r bs
theorem lookG {α β : Type} {R : α → β → Prop} {n : Str} {u : α} : ∀ {fs : List (Str × α)} {ws : List (Str × β)}, Paired (fun p q => p.1 = q.1 ∧ R p.2 q.2) fs ws → fs.lookup n = some u → ∃ v, ws.lookup n = some v ∧ R u v
  | [], _, .nil, h => by cases h
  | (a, x) :: r, _, .cons (b := (b, y)) h t, e => by
    have e1 : a = b := h.1
    subst e1
    simp only [List.lookup_cons] at e ⊢
    cases q : n == a with
    | true => rw [q] at e; cases e; exact ⟨y, rfl, h.2⟩
    | false => rw [q] at e; exact lookG t e
theorem valG_at {α β : Type} {R : α → β → Prop} {non : α} {non' : β} (h0 : R non non') {z : Str} {fs : List (Str × α)} {ws : List (Str × β)} (h : Paired (fun p q => p.1 = q.1 ∧ R p.2 q.2) fs ws) {r : FR} {u : α} (e : r.valG non z fs = some u) : ∃ v, r.valG non' z ws = some v ∧ R u v := by
  cases r with
  | fld n => exact lookG h e
  | ife w n m =>
    simp only [FR.valG] at e ⊢
    split at e
    · rename_i c; rw [if_pos c]; exact lookG h e
    · rename_i c; rw [if_neg c]; exact lookG h e
  | ifn w n =>
    simp only [FR.valG] at e ⊢
    split at e
    · rename_i c; rw [if_pos c]; exact lookG h e
    · rename_i c; rw [if_neg c]; cases e; exact ⟨_, rfl, h0⟩
theorem fbG_at {α β : Type} {R : α → β → Prop} {non : α} {non' : β} (h0 : R non non') {z : Str} {fs : List (Str × α)} {ws : List (Str × β)} (h : Paired (fun p q => p.1 = q.1 ∧ R p.2 q.2) fs ws) {r : FR} {u : α} : ∀ {bs : List (List Str × FR)}, fbG non z fs r bs = some u → ∃ v, fbG non' z ws r bs = some v ∧ R u v
  | [], e => valG_at h0 h e
  | (wl, q) :: bs, e => by
    simp only [fbG] at e ⊢
    split at e
    · rename_i c; rw [if_pos c]; exact valG_at h0 h e
    · rename_i c; rw [if_neg c]; exact fbG_at h0 h e
mutual
inductive Ex where
  | loc (i : Nat)
  | gl (x : Str)
  | non | bl (b : Bool) | int (i : Int) | str (x : Str)
  | bin (op : Operator) (a b : Ex)
  | neg (a : Ex)
  | cmp (op : CmpOp) (a b : Ex)
  | chain (o1 o2 : CmpOp) (a b c : Ex)
  | bop (op : BoolOp) (es : List Ex)
  | not (a : Ex)
  | ite (c : Tx) (a b : Ex)
  | lst (es : List Ex)
  | tup (es : List Ex)
  | dict0
  | ix (a b : Ex)
  | sl (a : Ex) (lo hi : Option Ex)
  | call (f : Str) (es : List Ex)
  | callk (f : Str) (es : List Ex) (kn : List Str) (ke : List Ex)
  | make (C : Str) (es : List Ex)
  | makek (C : Str) (es : List Ex) (kn : List Str) (ke : List Ex)
  | bf (b : Bf) (es : List Ex)
  | isi (a : Ex) (ts : List Ty) (one : Bool)
  | bm (m : Bm) (o : Ex) (es : List Ex)
  | meth (o : Ex) (m : Str) (es : List Ex)
  | attr (o : Ex) (f : Str)
  | prop (o : Ex) (f : Str)
  | lc (elt : Ex) (tg : Tg) (it : List Ex) (kind : Nat) (test : Option Tx) (own : List Nat)
  | why (e : Ex)
  | smeth (C m : Str) (es : List Ex)
  | smetk (C m kn : Str) (e : Ex)
/-- tests -/
inductive Tx where
  | not (t : Tx)
  | bop (op : BoolOp) (ts : List Tx)
  | val (e : Ex)
end

/-! ## the machine of mine -/
def asInts : List U → Option (List Int)
  | [] => some []
  | .int i :: r => (asInts r).map (i :: ·)
  | _ => none
def asBls : List U → Option (List Bool)
  | [] => some []
  | .bl i :: r => (asBls r).map (i :: ·)
  | _ => none
def asStrs : List U → Option (List Str)
  | [] => some []
  | .str i :: r => (asStrs r).map (i :: ·)
  | _ => none
def trav {α β : Type} (g : α → Option β) : List α → Option (List β)
  | [] => some []
  | x :: r => (g x).bind fun y => (trav g r).map (y :: ·)
def toD (G : Gp) : Nat → U → Option PyData
  | 0, _ => none
  | n + 1, u => match u with
    | .non => some .none
    | .bl b => some (.bool b)
    | .int i => some (.int i)
    | .str x => some (.str x)
    | .tup xs => (trav (toD G n) xs).map .tuple
    | .fro xs => (trav (toD G n) xs).map .list
    | .ref i => match G[i]? with
      | some (.lst xs) => (trav (toD G n) xs).map .list
      | _ => none
    | .glb _ => none
def truthy (G : Gp) : U → Option Bool
  | .non => some false
  | .bl b => some b
  | .int i => some (i != 0)
  | .str x => if x.length ≤ sizeLine then some ((x.length : Int) != 0) else none
  | .tup xs => some (!xs.isEmpty)
  | .fro xs => some (!xs.isEmpty)
  | .ref i => match G[i]? with
    | some (.lst xs) => some (!xs.isEmpty)
    | some (.dK kvs) => some (!kvs.isEmpty)
    | _ => none
  | .glb _ => none
/-- the items of a list or tuple -/
def items (G : Gp) : U → Option (List U)
  | .tup xs => some xs
  | .fro xs => some xs
  | .ref i => match G[i]? with
    | some (.lst xs) => some xs
    | _ => none
  | _ => none
def binop (op : Operator) (x y : U) (G : Gp) : Option (U × Gp) :=
  match op, x, y with
  | .Add, .int i, .int j => some (.int (i + j), G)
  | .Sub, .int i, .int j => some (.int (i - j), G)
  | .Mult, .int i, .int j => if i.natAbs.log2 + j.natAbs.log2 < 1000000 then some (.int (i * j), G) else none
  | .FloorDiv, .int i, .int j => if 0 < j ∧ j.natAbs.log2 < 9000 then some (.int (i / j), G) else none
  | .Mod, .int i, .int j => if 0 < j then some (.int (i % j), G) else none
  | .Pow, .int i, .int j => if 0 ≤ j ∧ j ≤ 1000000 ∧ i.natAbs < 2 ^ 64 then some (.int (i ^ j.toNat), G) else none
  | .Add, .str a, .str b => if a.length + b.length ≤ sizeLine then some (.str (a ++ b), G) else none
  | .Add, .tup xs, .tup ys => if xs.length + ys.length ≤ sizeLine then some (.tup (xs ++ ys), G) else none
  | .Add, .ref i, .ref j => match G[i]?, G[j]? with
    | some (.lst xs), some (.lst ys) => if xs.length + ys.length ≤ sizeLine then some (.ref G.length, G ++ [.lst (xs ++ ys)]) else none
    | _, _ => none
  | .Mult, .ref i, .int k => match G[i]? with
    | some (.lst xs) => if k < 2 ^ 63 ∧ -(2 ^ 63) ≤ k ∧ xs.length * k.toNat ≤ sizeLine then some (.ref G.length, G ++ [.lst (List.replicate k.toNat xs).flatten]) else none
    | _ => none
  | _, _, _ => none
def eqData (x y : U) (G : Gp) : Option Bool :=
  (toD G 70 x).bind fun d => (toD G 70 y).bind fun e => if SeqAt.shaped d = true ∧ SeqAt.shaped e = true then some (PyData.eqv d e) else none
def flatU : U → Bool
  | .non => true | .bl _ => true | .int _ => true | .str _ => true
  | _ => false
def eqU' : U → U → Bool
  | .non, .non => true
  | .bl a, .bl b => a == b
  | .bl a, .int b => (if a then 1 else 0) == b
  | .int a, .bl b => a == (if b then 1 else 0)
  | .int a, .int b => a == b
  | .str a, .str b => a == b
  | _, _ => false
def keyOf : U → Option Key
  | .int i => some (.inl i)
  | .str x => some (.inr x)
  | _ => none
def inSeq (x : U) (ys : List U) : Option Bool := if flatU x = true ∧ ys.all flatU = true then some (ys.any fun y => eqU' y x) else none
def inDict (x : U) (kvs : List (Key × U)) : Option Bool := (keyOf x).map fun k => (kvs.find? fun kv => decide (kv.1 = k)).isSome
def inop (kd : Str → Option (List (Str × U))) (x y : U) (G : Gp) : Option Bool :=
  match y with
  | .glb d => match kd d, x with
    | some kvs, .str z => some (kvs.lookup z).isSome
    | _, _ => none
  | .str b => match x with
    | .str a => some (!(Builtin.Str.occurrences b a 0 b.length 1).isEmpty)
    | _ => none
  | .tup ys => inSeq x ys
  | .fro ys => inSeq x ys
  | .ref j => match G[j]? with
    | some (.lst ys) => inSeq x ys
    | some (.dK kvs) => inDict x kvs
    | _ => none
  | _ => none
def isNon : U → Option Bool
  | .non => some true
  | .glb _ => none
  | _ => some false
def cmpop (kd : Str → Option (List (Str × U))) (op : CmpOp) (x y : U) (G : Gp) : Option Bool :=
  match op with
  | .Eq => eqData x y G
  | .NotEq => (eqData x y G).map (!·)
  | .Lt => match x, y with
    | .int i, .int j => some (decide (i < j))
    | .tup xs, .tup ys => (asInts xs).bind fun ns => (asInts ys).map fun ms => HT.lexLt ns ms
    | _, _ => none
  | .LtE => match x, y with
    | .int i, .int j => some (decide (i ≤ j))
    | _, _ => none
  | .Gt => match x, y with
    | .int i, .int j => some (decide (j < i))
    | _, _ => none
  | .GtE => match x, y with
    | .int i, .int j => some (decide (j ≤ i))
    | _, _ => none
  | .Is => match y with
    | .non => isNon x
    | _ => none
  | .IsNot => match y with
    | .non => (isNon x).map (!·)
    | _ => none
  | .In => inop kd x y G
  | .NotIn => (inop kd x y G).map (!·)
def cutU {α : Type} (xs : List α) (lo hi : Option Int) : List α := (xs.drop (HT.sIx xs.length 0 lo)).take (HT.sIx xs.length xs.length hi - HT.sIx xs.length 0 lo)
def ixop (kd : Str → Option (List (Str × U))) (x y : U) (G : Gp) : Option (U × Gp) :=
  match x, y with
  | .str z, .int i => if z.length ≤ sizeLine then (atI z.cps.toList i).map fun c => (.str ⟨#[c]⟩, G) else none
  | .tup xs, .int i => (atI xs i).map fun u => (u, G)
  | .fro xs, .int i => (atI xs i).map fun u => (u, G)
  | .ref n, y => match G[n]?, y with
    | some (.lst xs), .int i => (atI xs i).map fun u => (u, G)
    | some (.dK kvs), y => (keyOf y).bind fun k => (kvs.find? fun kv => decide (kv.1 = k)).map fun kv => (kv.2, G)
    | _, _ => none
  | .glb d, .str z => match kd d with
    | some kvs => (kvs.lookup z).map fun u => (u, G)
    | none => none
  | _, _ => none
def slop (x : U) (lo hi : Option Int) (G : Gp) : Option (U × Gp) :=
  match x with
  | .str z => if z.length ≤ sizeLine then some (.str (cutS z lo hi), G) else none
  | .tup xs => some (.tup (cutU xs lo hi), G)
  | .fro xs => some (.ref G.length, G ++ [.lst (cutU xs lo hi)])
  | .ref n => match G[n]? with
    | some (.lst xs) => some (.ref G.length, G ++ [.lst (cutU xs lo hi)])
    | _ => none
  | _ => none
def lenU (G : Gp) : U → Option Nat
  | .str x => if x.length ≤ sizeLine then some x.length else none
  | .tup xs => some xs.length
  | .fro xs => some xs.length
  | .ref n => match G[n]? with
    | some (.lst xs) => some xs.length
    | some (.dK kvs) => some kvs.length
    | _ => none
  | _ => none
def maxI : List Int → Option Int
  | [] => none
  | x :: r => some (r.foldl (fun a b => if a < b then b else a) x)
def minI : List Int → Option Int
  | [] => none
  | x :: r => some (r.foldl (fun a b => if b < a then b else a) x)
def lstInts (G : Gp) : U → Option (List Int)
  | .ref n => match G[n]? with
    | some (.lst xs) => asInts xs
    | _ => none
  | _ => none
def lstBls (G : Gp) : U → Option (List Bool)
  | .ref n => match G[n]? with
    | some (.lst xs) => asBls xs
    | _ => none
  | _ => none
def bfop (b : Bf) (vs : List U) (G : Gp) : Option (U × Gp) :=
  match b, vs with
  | .blen, [x] => (lenU G x).map fun (n : Nat) => (U.int (n : Int), G)
  | .ball, [x] => (lstBls G x).map fun bs => (.bl (bs.all id), G)
  | .bany, [x] => (lstBls G x).map fun bs => (.bl (bs.any id), G)
  | .bsum, [x] => (lstInts G x).map fun ns => (.int ns.sum, G)
  | .bmax, [x] => (lstInts G x).bind fun ns => (maxI ns).map fun m => (.int m, G)
  | .bmin, [x] => (lstInts G x).bind fun ns => (minI ns).map fun m => (.int m, G)
  | .bmax, [.int i, .int j] => some (.int (if j > i then j else i), G)
  | .bmin, [.int i, .int j] => some (.int (if j < i then j else i), G)
  | .babs, [.int i] => some (.int (if i < 0 then -i else i), G)
  | .bint, [.int i] => some (.int i, G)
  | .bint, [.bl k] => some (.int (if k then 1 else 0), G)
  | .bint, [.str a] => if a.length ≤ 640 then (PySem.intText? a).map fun n => (.int n, G) else none
  | .bstr, [.int i] => if i.natAbs.log2 < 1920 then some (.str (toString i), G) else none
  | .blist, [x] => (items G x).map fun xs => (.ref G.length, G ++ [.lst xs])
  | .btuple, [.tup xs] => some (.tup xs, G)
  | .btuple, [x] => (items G x).map fun xs => (.tup xs, G)
  | _, _ => none
def lstOf (G : Gp) : U → Option (Nat × List U)
  | .ref n => match G[n]? with
    | some (.lst xs) => some (n, xs)
    | _ => none
  | _ => none
def opAppend (n : Nat) (xs : List U) (G : Gp) : List U → Option (U × Gp)
  | [y] => if xs.length < sizeLine then some (.non, G.set n (.lst (xs ++ [y]))) else none
  | _ => none
def opClear (n : Nat) (xs : List U) (G : Gp) : List U → Option (U × Gp)
  | [] => some (.non, G.set n (.lst []))
  | _ => none
def opPop (n : Nat) (xs : List U) (G : Gp) : List U → Option (U × Gp)
  | [] => (xs[xs.length - 1]?).map fun y => (y, G.set n (.lst xs.dropLast))
  | _ => none
def opExtend (n : Nat) (xs : List U) (G : Gp) : List U → Option (U × Gp)
  | [u] => (lstOf G u).bind fun p => if xs.length + p.2.length ≤ sizeLine then some (.non, G.set n (.lst (xs ++ p.2))) else none
  | _ => none
def opJoin (a : Str) (G : Gp) : List U → Option (U × Gp)
  | [x] => (items G x).bind fun xs => (asStrs xs).bind fun ys => if (ys.map (·.length)).sum + ys.length * a.length ≤ 16777216 then some (.str (Txt.join a ys), G) else none
  | _ => none
def opSplit (a : Str) (G : Gp) : List U → Option (U × Gp)
  | [.str b] => if (b.length == 0) = false ∧ a.length + 2 ≤ sizeLine then some (.ref G.length, G ++ [.lst ((Txt.split a b).map .str)]) else none
  | _ => none
def bmop (m : Bm) (o : U) (vs : List U) (G : Gp) : Option (U × Gp) :=
  match m with
  | .append => (lstOf G o).bind fun p => opAppend p.1 p.2 G vs
  | .clear => (lstOf G o).bind fun p => opClear p.1 p.2 G vs
  | .pop => (lstOf G o).bind fun p => opPop p.1 p.2 G vs
  | .extend => (lstOf G o).bind fun p => opExtend p.1 p.2 G vs
  | .join => match o with
    | .str a => opJoin a G vs
    | _ => none
  | .split => match o with
    | .str a => opSplit a G vs
    | _ => none
  | _ => none
def tyB (G : Gp) : U → Option Ty
  | .non => some .tnone
  | .bl _ => some .tbool
  | .int _ => some .tint
  | .str _ => some .tstr
  | .tup _ => some .ttup
  | .fro _ => some .tlist
  | .ref n => match G[n]? with
    | some (.lst _) => some .tlist
    | some (.dK _) => some .tdict
    | some (.ins C _) => some (.own C)
    | none => none
  | _ => none
end Z
namespace Z
open PySem PySem.Spec PyProof.Rows L2
/-! ## what my values stand for -/
section
variable {Y : Wr} {H : Hp} {f : Nat → Addr} {n : Nat} {G : Gp}
theorem RUs.len {us : List U} {vs : List V} (h : RUs Y H f n us vs) : us.length = vs.length := Paired.length (RUs.iff.mp h)
theorem RUs.get : ∀ {us : List U} {vs : List V} {i : Nat} {u : U}, RUs Y H f n us vs → us[i]? = some u → ∃ v, vs[i]? = some v ∧ RU Y H f n u v
  | [], _, _, _, _, e => by simp at e
  | x :: xs, _, 0, u, h, e => by
    simp only [RUs] at h
    obtain ⟨y, r, rfl, h1, h2⟩ := h
    simp at e; subst e
    exact ⟨y, rfl, h1⟩
  | x :: xs, _, i + 1, u, h, e => by
    simp only [RUs] at h
    obtain ⟨y, r, rfl, h1, h2⟩ := h
    obtain ⟨v, a, b⟩ := RUs.get (i := i) h2 (by simpa using e)
    exact ⟨v, by simpa using a, b⟩
theorem RUs.nil : RUs Y H f n [] [] := by simp [RUs]
theorem RUs.cons {u : U} {v : V} {us : List U} {vs : List V} (a : RU Y H f n u v) (b : RUs Y H f n us vs) : RUs Y H f n (u :: us) (v :: vs) := by
  simp only [RUs]; exact ⟨v, vs, rfl, a, b⟩
theorem RUs.append : ∀ {us ws : List U} {vs zs : List V}, RUs Y H f n us vs → RUs Y H f n ws zs → RUs Y H f n (us ++ ws) (vs ++ zs)
  | [], _, _, _, h, k => by simp only [RUs] at h; subst h; exact k
  | x :: xs, _, _, _, h, k => by
    simp only [RUs] at h
    obtain ⟨y, r, rfl, h1, h2⟩ := h
    exact RUs.cons h1 (RUs.append h2 k)
theorem RUs.take : ∀ {us : List U} {vs : List V} (k : Nat), RUs Y H f n us vs → RUs Y H f n (us.take k) (vs.take k)
  | _, _, 0, _ => by simp [RUs]
  | [], _, k + 1, h => by simp only [RUs] at h; subst h; simp [RUs]
  | x :: xs, _, k + 1, h => by
    simp only [RUs] at h
    obtain ⟨y, r, rfl, h1, h2⟩ := h
    exact RUs.cons h1 (RUs.take k h2)
theorem RUs.drop : ∀ {us : List U} {vs : List V} (k : Nat), RUs Y H f n us vs → RUs Y H f n (us.drop k) (vs.drop k)
  | _, _, 0, h => h
  | [], _, k + 1, h => by simp only [RUs] at h; subst h; simp [RUs]
  | x :: xs, _, k + 1, h => by
    simp only [RUs] at h
    obtain ⟨y, r, rfl, h1, h2⟩ := h
    exact RUs.drop k h2
theorem RUs.set : ∀ {us : List U} {vs : List V} (i : Nat) {u : U} {v : V}, RUs Y H f n us vs → RU Y H f n u v → RUs Y H f n (us.set i u) (vs.set i v)
  | [], _, _, _, _, h, _ => by simp only [RUs] at h; subst h; simp [RUs]
  | x :: xs, _, 0, _, _, h, k => by
    simp only [RUs] at h
    obtain ⟨y, r, rfl, h1, h2⟩ := h
    exact RUs.cons k h2
  | x :: xs, _, i + 1, _, _, h, k => by
    simp only [RUs] at h
    obtain ⟨y, r, rfl, h1, h2⟩ := h
    exact RUs.cons h1 (RUs.set i h2 k)
theorem RUs.cut {us : List U} {vs : List V} (h : RUs Y H f n us vs) (lo hi : Option Int) : RUs Y H f n (cutU us lo hi) (cutV vs lo hi) := by
  unfold cutU cutV; rw [h.len]; exact (h.drop _).take _
theorem RUs.dropLast {us : List U} {vs : List V} (h : RUs Y H f n us vs) : RUs Y H f n us.dropLast vs.dropLast := by
  rw [List.dropLast_eq_take, List.dropLast_eq_take, h.len]; exact h.take _
theorem RUs.rep {us : List U} {vs : List V} (h : RUs Y H f n us vs) : ∀ k : Nat, RUs Y H f n (List.replicate k us).flatten (List.replicate k vs).flatten
  | 0 => RUs.nil
  | k + 1 => by rw [List.replicate_succ, List.replicate_succ, List.flatten_cons, List.flatten_cons]; exact h.append (RUs.rep h k)
theorem RUs.ints : ∀ {us : List U} {vs : List V} {ns : List Int}, RUs Y H f n us vs → asInts us = some ns → vs = ns.map V.int
  | [], _, _, h, e => by simp only [RUs] at h; simp [asInts] at e; subst h; subst e; rfl
  | x :: xs, _, ns, h, e => by
    simp only [RUs] at h
    obtain ⟨y, r, rfl, h1, h2⟩ := h
    cases x <;> simp [asInts] at e
    obtain ⟨ms, e1, rfl⟩ := e
    simp only [RU] at h1
    subst h1
    rw [RUs.ints h2 e1]; rfl
theorem RUs.bls : ∀ {us : List U} {vs : List V} {ns : List Bool}, RUs Y H f n us vs → asBls us = some ns → vs = ns.map V.bl
  | [], _, _, h, e => by simp only [RUs] at h; simp [asBls] at e; subst h; subst e; rfl
  | x :: xs, _, ns, h, e => by
    simp only [RUs] at h
    obtain ⟨y, r, rfl, h1, h2⟩ := h
    cases x <;> simp [asBls] at e
    obtain ⟨ms, e1, rfl⟩ := e
    simp only [RU] at h1
    subst h1
    rw [RUs.bls h2 e1]; rfl
theorem RUs.strs : ∀ {us : List U} {vs : List V} {ns : List Str}, RUs Y H f n us vs → asStrs us = some ns → vs = ns.map V.str
  | [], _, _, h, e => by simp only [RUs] at h; simp [asStrs] at e; subst h; subst e; rfl
  | x :: xs, _, ns, h, e => by
    simp only [RUs] at h
    obtain ⟨y, r, rfl, h1, h2⟩ := h
    cases x <;> simp [asStrs] at e
    obtain ⟨ms, e1, rfl⟩ := e
    simp only [RU] at h1
    subst h1
    rw [RUs.strs h2 e1]; rfl
theorem RUs.ofStrs : ∀ ns : List Str, RUs Y H f n (ns.map U.str) (ns.map V.str)
  | [] => RUs.nil
  | x :: r => RUs.cons (by simp [RU]) (RUs.ofStrs r)
theorem RUs.isEmpty {us : List U} {vs : List V} (h : RUs Y H f n us vs) : us.isEmpty = vs.isEmpty := by
  cases us with
  | nil => simp only [RUs] at h; subst h; rfl
  | cons x xs => simp only [RUs] at h; obtain ⟨y, r, rfl, _⟩ := h; rfl
theorem RUs.atI {us : List U} {vs : List V} {i : Int} {u : U} (h : RUs Y H f n us vs) (e : L2.atI us i = some u) : ∃ v, L2.atI vs i = some v ∧ RU Y H f n u v := by
  unfold L2.atI at e ⊢
  rw [← h.len]
  cases q : ixN us.length i with
  | none => rw [q] at e; cases e
  | some j => rw [q] at e; exact h.get e
theorem lst_at {i : Nat} {xs : List U} {v : V} (S : Sim Y H f G) (e : G[i]? = some (.lst xs)) (r : RU Y H f G.length (.ref i) v) : ∃ ys, v = .ref (f i) ∧ H (f i) = some (.lst ys) ∧ RUs Y H f G.length xs ys := by
  simp only [RU] at r
  obtain ⟨ys, h1, h2⟩ := S.ob i _ e
  exact ⟨ys, r.2, h1, h2⟩
theorem dK_at {i : Nat} {kvs : List (Key × U)} {v : V} (S : Sim Y H f G) (e : G[i]? = some (.dK kvs)) (r : RU Y H f G.length (.ref i) v) : ∃ ws, v = .ref (f i) ∧ H (f i) = some (.dK ws) ∧ RKs Y H f G.length kvs ws := by
  simp only [RU] at r
  obtain ⟨ys, h1, h2⟩ := S.ob i _ e
  exact ⟨ys, r.2, h1, h2⟩
theorem ins_at {i : Nat} {C : Str} {fs : List (Str × U)} {v : V} (S : Sim Y H f G) (e : G[i]? = some (.ins C fs)) (r : RU Y H f G.length (.ref i) v) :
    ∃ A dx ws, v = .ref (f i) ∧ Y.mg C = some (.ref A) ∧ H (f i) = some (.ins A dx ws) ∧ RKs Y H f G.length fs ws := by
  simp only [RU] at r
  obtain ⟨A, dx, ws, h0, h1, h2⟩ := S.ob i _ e
  exact ⟨A, dx, ws, r.2, h0, h1, h2⟩
theorem tup_at {xs : List U} {v : V} (r : RU Y H f n (.tup xs) v) : ∃ a ys, v = .ref a ∧ SqT Y.K H a ys ∧ RUs Y H f n xs ys := by simpa only [RU] using r
theorem fro_at {xs : List U} {v : V} (r : RU Y H f n (.fro xs) v) : ∃ a ys, v = .ref a ∧ SqF Y.K H a ys ∧ RUs Y H f n xs ys := by simpa only [RU] using r
theorem items_at {u : U} {xs : List U} {v : V} (S : Sim Y H f G) (e : items G u = some xs) (r : RU Y H f G.length u v) : ∃ a ys, v = .ref a ∧ (SqL Y.K H a ys ∨ SqT Y.K H a ys) ∧ RUs Y H f G.length xs ys := by
  cases u <;> simp only [items] at e <;> try cases e
  · obtain ⟨a, ys, h1, h2, h3⟩ := tup_at r; exact ⟨a, ys, h1, .inr h2, h3⟩
  · obtain ⟨a, ys, h1, h2, h3⟩ := fro_at r; exact ⟨a, ys, h1, .inl h2.sq, h3⟩
  · split at e
    · rename_i q
      cases e
      obtain ⟨ys, h1, h2, h3⟩ := lst_at S q r
      exact ⟨_, ys, h1, .inl (SqL.of h2), h3⟩
    · cases e
theorem dpAll {g : U → Option PyData} (hg : ∀ u v d, g u = some d → RU Y H f n u v → Dp Y.K H v d) : ∀ {us : List U} {vs : List V} {ds : List PyData}, trav g us = some ds → RUs Y H f n us vs → DpAll Y.K H vs ds
  | [], _, _, e, h => by simp only [RUs] at h; simp [trav] at e; subst h; subst e; exact .nil
  | x :: xs, _, ds, e, h => by
    simp only [RUs] at h
    obtain ⟨y, r, rfl, h1, h2⟩ := h
    simp only [trav, Option.bind_eq_some_iff, Option.map_eq_some_iff] at e
    obtain ⟨d, e1, rest, e2, rfl⟩ := e
    exact .cons (hg _ _ _ e1 h1) (dpAll hg e2 h2)
theorem toD_ok (S : Sim Y H f G) : ∀ (k : Nat) (u : U) (v : V) (d : PyData), toD G k u = some d → RU Y H f G.length u v → Dp Y.K H v d
  | 0, _, _, _, e, _ => by simp [toD] at e
  | k + 1, u, v, d, e, r => by
    cases u with
    | non => simp [toD] at e; simp only [RU] at r; subst e; subst r; exact .non
    | bl b => simp [toD] at e; simp only [RU] at r; subst e; subst r; exact .bl b
    | int b => simp [toD] at e; simp only [RU] at r; subst e; subst r; exact .int b
    | str b => simp [toD] at e; simp only [RU] at r; subst e; subst r; exact .str b
    | tup xs =>
      simp only [toD, Option.map_eq_some_iff] at e
      obtain ⟨ds, e, rfl⟩ := e
      obtain ⟨a, ys, rfl, h2, h3⟩ := tup_at r
      exact .tup h2 (dpAll (fun u v d => toD_ok S k u v d) e h3)
    | fro xs =>
      simp only [toD, Option.map_eq_some_iff] at e
      obtain ⟨ds, e, rfl⟩ := e
      obtain ⟨a, ys, rfl, h2, h3⟩ := fro_at r
      exact .lst h2.sq (dpAll (fun u v d => toD_ok S k u v d) e h3)
    | ref i =>
      simp only [toD] at e
      split at e
      · rename_i q
        simp only [Option.map_eq_some_iff] at e
        obtain ⟨ds, e, rfl⟩ := e
        obtain ⟨ys, rfl, h2, h3⟩ := lst_at S q r
        exact .lst (SqL.of h2) (dpAll (fun u v d => toD_ok S k u v d) e h3)
      · cases e
    | glb x => simp [toD] at e
/-- a new list, a new tuple -/
theorem new_lst {us : List U} {vs : List V} {p : Addr} {Q : VK} (S : Sim Y H f G) (r : RUs Y H f G.length us vs) (hp : H p = none)
    (k : ∀ f' H', Ext H f G.length H' f' (G ++ [GO.lst us]).length → Sim Y H' f' (G ++ [GO.lst us]) → kV' Y Q (.ref G.length) f' (G ++ [GO.lst us]) H') : Q (.ref p) (upd H p (.lst vs)) := by
  have e0 : Ex0 H f G.length (upd H p (.lst vs)) (fx f G.length p) (G.length + 1) := by have := (ext_take (g := GO.lst us) (u := .lst vs) S hp).toEx0; rwa [List.length_append] at this
  obtain ⟨S', e⟩ := S.alloc (o := .lst vs) (g := .lst us) hp ⟨vs, upd_same, r.ext e0⟩
  refine k _ _ e S' _ ?_
  simp only [RU]
  exact ⟨by rw [List.length_append]; exact Nat.lt_succ_self _, by rw [fx_at]⟩
theorem new_tup {us : List U} {vs : List V} {p : Addr} {Q : VK} (S : Sim Y H f G) (r : RUs Y H f G.length us vs) (hp : H p = none)
    (k : ∀ f' H', Ext H f G.length H' f' G.length → Sim Y H' f' G → kV' Y Q (.tup us) f' G H') : Q (.ref p) (upd H p (.tup vs)) := by
  refine k _ _ (ext_fresh S hp) (S.fresh hp) _ ?_
  simp only [RU]
  exact ⟨p, vs, rfl, .inl (.inl upd_same), r.ext (ext_fresh S hp).toEx0⟩
theorem set_lst {i : Nat} {us : List U} {vs : List V} (S : Sim Y H f G) (hi : i < G.length) (r : RUs Y H f G.length us vs) : Sim Y (upd H (f i) (.lst vs)) f (G.set i (.lst us)) ∧ Ext H f G.length (upd H (f i) (.lst vs)) f (G.set i (.lst us)).length :=
  S.write hi fun H' e q => ⟨vs, q, r.ext e⟩
end

/-! ## operators by values -/
theorem opImp {X : Cx} {g : Value → Value → Sem Value} {r r' : R2} (h : OpR X g r) (i : ∀ x y H Q, r' x y H Q → r x y H Q) : OpR X g r' := fun pins s σ H x y v u Q I rx ry q => h pins s σ H x y v u Q I rx ry (i x y H Q q)
theorem callImp {X : Cx} {g : Value} {r r' : List V → Hp → VK → Prop} (h : CallR X g r) (i : ∀ xs H Q, r' xs H Q → r xs H Q) : CallR X g r' := fun pins s σ H xs us Q I rx q => h pins s σ H xs us Q I rx (i xs H Q q)
theorem ixImp {X : Cx} {r r' : R2} (h : IxR X r) (i : ∀ x y H Q, r' x y H Q → r x y H Q) : IxR X r' := fun va sl pins s σ H x y v u Q I rx ry q => h va sl pins s σ H x y v u Q I rx ry (i x y H Q q)
theorem slImp {X : Cx} {r r' : V → Option Int → Option Int → Hp → VK → Prop} (h : SlR X r) (i : ∀ x lo hi H Q, r' x lo hi H Q → r x lo hi H Q) : SlR X r' := fun pins s σ H x v vl vu lo hi sl Q I rx hs pl pu q => h pins s σ H x v vl vu lo hi sl Q I rx hs pl pu (i x lo hi H Q q)
theorem mtImp {X : Cx} {id : String} {r r' : V → List V → Hp → VK → Prop} (h : MtR X id r) (i : ∀ x xs H Q, r' x xs H Q → r x xs H Q) : MtR X id r' := fun pins s σ H x xs v us Q I rx rs q => h pins s σ H x xs v us Q I rx rs (i x xs H Q q)
/-- the truth value of an answer -/
def r2b (Y : Wr) (op : U → U → Gp → Option Bool) : R2 := r2 Y fun x y G => (op x y G).map fun b => (.bl b, G)
theorem r2b.un {Y : Wr} {op : U → U → Gp → Option Bool} {v w : V} {H : Hp} {Q : VK} (h : r2b Y op v w H Q) : ∃ f G x y b, Sim Y H f G ∧ RU Y H f G.length x v ∧ RU Y H f G.length y w ∧ op x y G = some b ∧ Q (.bl b) H := by
  obtain ⟨f, G, x, y, u, G', S, rx, ry, e, k⟩ := h
  obtain ⟨b, e1, e2⟩ := Option.map_eq_some_iff.mp e
  cases e2
  exact ⟨f, G, x, y, b, S, rx, ry, e1, k f H Ext.refl S _ (by simp [RU])⟩

section
variable {X : Cx} {kd : Str → Option (List (Str × U))}
abbrev wr (X : Cx) (kd : Str → Option (List (Str × U))) : Wr := ⟨X.K, X.mg, kd⟩
theorem o_add : OpR X (binaryOp .Add) (r2 (wr X kd) (binop .Add)) := by
  refine opImp (op_add.or (op_add_str.or (op_catA.or op_cat))) ?_
  rintro v w H Q ⟨f, G, x, y, u, G', S, rx, ry, e, k⟩
  cases x <;> cases y <;> simp only [binop] at e <;> try (cases e; done)
  · cases e; simp only [RU] at rx ry; subst rx; subst ry
    exact .inl ⟨_, _, rfl, rfl, k f H Ext.refl S _ (by simp [RU])⟩
  · split at e
    · cases e; simp only [RU] at rx ry; subst rx; subst ry
      exact .inr (.inl ⟨_, _, rfl, rfl, by assumption, k f H Ext.refl S _ (by simp [RU])⟩)
    · cases e
  · split at e
    · cases e
      rename_i xs ys hz
      obtain ⟨a, vs, rfl, h1, h2⟩ := tup_at rx
      obtain ⟨b, ws, rfl, h3, h4⟩ := tup_at ry
      refine .inr (.inr (.inl ⟨a, b, vs, ws, rfl, rfl, h1, h3, by rw [← h2.len, ← h4.len]; exact hz, fun q => ?_, fun _ q => ?_, fun _ _ p hp => ?_⟩))
      · subst q
        have : xs = [] := by have := h2.len; cases xs with | nil => rfl | cons _ _ => simp at this
        subst this
        exact k f H Ext.refl S _ ry
      · subst q
        have : ys = [] := by have := h4.len; cases ys with | nil => rfl | cons _ _ => simp at this
        subst this
        rw [List.append_nil] at k
        exact k f H Ext.refl S _ rx
      · exact new_tup S (h2.append h4) hp k
    · cases e
  · split at e
    · rename_i q1 q2
      split at e
      · cases e
        rename_i hz
        obtain ⟨vs, rfl, h1, h2⟩ := lst_at S q1 rx
        obtain ⟨ws, rfl, h3, h4⟩ := lst_at S q2 ry
        exact .inr (.inr (.inr ⟨_, _, vs, ws, rfl, rfl, h1, h3, by rw [← h2.len, ← h4.len]; exact hz, fun p hp => new_lst S (h2.append h4) hp k⟩))
      · cases e
    · cases e
theorem o_sub : OpR X (binaryOp .Sub) (r2 (wr X kd) (binop .Sub)) := by
  refine opImp op_sub ?_
  rintro v w H Q ⟨f, G, x, y, u, G', S, rx, ry, e, k⟩
  cases x <;> cases y <;> simp only [binop] at e <;> try (cases e; done)
  cases e; simp only [RU] at rx ry; subst rx; subst ry
  exact ⟨_, _, rfl, rfl, k f H Ext.refl S _ (by simp [RU])⟩
theorem o_mul : OpR X (binaryOp .Mult) (r2 (wr X kd) (binop .Mult)) := by
  refine opImp (op_mulW.or op_rep) ?_
  rintro v w H Q ⟨f, G, x, y, u, G', S, rx, ry, e, k⟩
  cases x <;> cases y <;> simp only [binop] at e <;> try (cases e; done)
  · split at e
    · cases e; simp only [RU] at rx ry; subst rx; subst ry
      exact .inl ⟨_, _, rfl, rfl, by assumption, k f H Ext.refl S _ (by simp [RU])⟩
    · cases e
  · split at e
    · rename_i q1
      split at e
      · cases e
        rename_i hz
        obtain ⟨vs, rfl, h1, h2⟩ := lst_at S q1 rx
        simp only [RU] at ry
        subst ry
        exact .inr ⟨_, _, vs, rfl, rfl, h1, hz.2.1, hz.1, by rw [← h2.len]; exact hz.2.2, fun p hp => new_lst S (h2.rep _) hp k⟩
      · cases e
    · cases e
theorem o_fdiv : OpR X (binaryOp .FloorDiv) (r2 (wr X kd) (binop .FloorDiv)) := by
  refine opImp op_fdivW ?_
  rintro v w H Q ⟨f, G, x, y, u, G', S, rx, ry, e, k⟩
  cases x <;> cases y <;> simp only [binop] at e <;> try (cases e; done)
  split at e
  · cases e; simp only [RU] at rx ry; subst rx; subst ry
    exact ⟨_, _, rfl, rfl, by assumption, k f H Ext.refl S _ (by simp [RU])⟩
  · cases e
theorem o_mod : OpR X (binaryOp .Mod) (r2 (wr X kd) (binop .Mod)) := by
  refine opImp op_mod ?_
  rintro v w H Q ⟨f, G, x, y, u, G', S, rx, ry, e, k⟩
  cases x <;> cases y <;> simp only [binop] at e <;> try (cases e; done)
  split at e
  · cases e; simp only [RU] at rx ry; subst rx; subst ry
    exact ⟨_, _, rfl, rfl, by assumption, k f H Ext.refl S _ (by simp [RU])⟩
  · cases e
theorem o_pow : OpR X (binaryOp .Pow) (r2 (wr X kd) (binop .Pow)) := by
  refine opImp op_pow ?_
  rintro v w H Q ⟨f, G, x, y, u, G', S, rx, ry, e, k⟩
  cases x <;> cases y <;> simp only [binop] at e <;> try (cases e; done)
  split at e
  · cases e; simp only [RU] at rx ry; subst rx; subst ry
    exact ⟨_, _, rfl, rfl, by assumption, k f H Ext.refl S _ (by simp [RU])⟩
  · cases e
theorem o_bin (op : Operator) (h : op = .Add ∨ op = .Sub ∨ op = .Mult ∨ op = .FloorDiv ∨ op = .Mod ∨ op = .Pow) : OpR X (binaryOp op) (r2 (wr X kd) (binop op)) := by
  rcases h with rfl | rfl | rfl | rfl | rfl | rfl
  · exact o_add
  · exact o_sub
  · exact o_mul
  · exact o_fdiv
  · exact o_mod
  · exact o_pow

theorem RU.flat {Y H f n} {u : U} {v : V} (r : RU Y H f n u v) (h : flatU u = true) : flatV v = true ∧ (u = .non → v = .non) ∧ (∀ b, u = .bl b → v = .bl b) ∧ (∀ b, u = .int b → v = .int b) ∧ (∀ b, u = .str b → v = .str b) := by
  cases u <;> simp only [flatU] at h <;> (try cases h) <;> simp only [RU] at r <;> subst r <;> simp [flatV]
theorem eqU_V {Y H f n} {u w : U} {v z : V} (r : RU Y H f n u v) (q : RU Y H f n w z) (h : flatU u = true) (k : flatU w = true) : eqU' u w = eqV v z := by
  cases u <;> simp only [flatU] at h <;> (try cases h) <;> cases w <;> simp only [flatU] at k <;> (try cases k) <;> simp only [RU] at r q <;> subst r <;> subst q <;> rfl
theorem any_V {Y H f n} {x : U} {xv : V} (r : RU Y H f n x xv) (h : flatU x = true) : ∀ {us : List U} {vs : List V}, RUs Y H f n us vs → us.all flatU = true → vs.all flatV = true ∧ (us.any fun y => eqU' y x) = inV xv vs
  | [], _, q, _ => by simp only [RUs] at q; subst q; exact ⟨rfl, rfl⟩
  | u :: us, _, q, k => by
    simp only [RUs] at q
    obtain ⟨v, vs, rfl, h1, h2⟩ := q
    simp only [List.all_cons, Bool.and_eq_true] at k
    obtain ⟨a, b⟩ := any_V r h h2 k.2
    refine ⟨by simp only [List.all_cons, Bool.and_eq_true]; exact ⟨(h1.flat k.1).1, a⟩, ?_⟩
    simp only [List.any_cons, inV]
    rw [b, eqU_V h1 r k.1 h]
    rfl
theorem RKs.find {Y H f n} {k : Key} : ∀ {us : List (Key × U)} {vs : List (Key × V)}, RKs Y H f n us vs → match us.find? (fun kv => decide (kv.1 = k)) with
    | some p => ∃ v, valV vs k = some v ∧ RU Y H f n p.2 v
    | none => valV vs k = none
  | [], _, q => by cases q; rfl
  | u :: us, _, q => by
    cases q with
    | cons h1 h2 =>
      rename_i v vs
      have ih := RKs.find (k := k) h2
      by_cases e : u.1 = k
      · rw [List.find?_cons_of_pos (by simpa using e)]
        exact ⟨v.2, valV_pos (by rw [← h1.1]; exact e), h1.2⟩
      · rw [List.find?_cons_of_neg (by simpa using e), valV_neg (by rw [← h1.1]; exact e)]
        exact ih
theorem keyOf_at {Y H f n} {u : U} {v : V} {k : Key} (r : RU Y H f n u v) (e : keyOf u = some k) : v = kV k := by
  cases u <;> simp only [keyOf] at e <;> (try cases e) <;> simp only [RU] at r <;> subst r <;> rfl

/-- the dicts of the top -/
def KdOk (X : Cx) (kd : Str → Option (List (Str × U))) : Prop := ∀ x kvs, kd x = some kvs → ∃ d es n, X.mg x = some (.ref d) ∧ KDict X.K X.w d es n ∧
  ∀ z, ∃ r, PySem.W.nsIn X.K d z = some r ∧ match kvs.lookup z with
    | some u => ∃ u0 v0, r = some u0 ∧ RelV v0 u0 ∧ ∀ H f n, RU (wr X kd) H f n u v0
    | none => r = none
theorem o_in (hu : X.A.units + 64 < cLine) (D : KdOk X kd) : OpR X (compareOp .In) (r2b (wr X kd) (cmpop kd .In)) := by
  intro pins s σ H v w a b Q I ra rb h
  obtain ⟨f, G, x, y, c, S, rx, ry, e, q⟩ := h.un
  simp only [cmpop] at e
  cases y <;> simp only [inop] at e <;> try (cases e; done)
  · rename_i z
    cases x <;> simp only [] at e <;> try (cases e; done)
    cases e
    simp only [RU] at rx ry; subst rx; subst ry
    exact op_in_str pins s σ H _ _ a b Q I ra rb ⟨_, _, rfl, rfl, q⟩
  · rename_i ys
    unfold inSeq at e
    split at e
    · rename_i hf
      cases e
      obtain ⟨p, vs, rfl, h1, h2⟩ := tup_at ry
      obtain ⟨e1, e2⟩ := any_V rx hf.1 h2 hf.2
      exact op_in_seq pins s σ H _ _ a b Q I ra rb ⟨p, vs, rfl, .inr h1, (rx.flat hf.1).1, e1, by rw [e2] at q; exact q⟩
    · cases e
  · rename_i ys
    unfold inSeq at e
    split at e
    · rename_i hf
      cases e
      obtain ⟨p, vs, rfl, h1, h2⟩ := fro_at ry
      obtain ⟨e1, e2⟩ := any_V rx hf.1 h2 hf.2
      exact op_in_seq pins s σ H _ _ a b Q I ra rb ⟨p, vs, rfl, .inl h1.sq, (rx.flat hf.1).1, e1, by rw [e2] at q; exact q⟩
    · cases e
  · rename_i j
    split at e
    · rename_i ys hg
      unfold inSeq at e
      split at e
      · rename_i hf
        cases e
        obtain ⟨vs, rfl, h1, h2⟩ := lst_at S hg ry
        obtain ⟨e1, e2⟩ := any_V rx hf.1 h2 hf.2
        exact op_in_seq pins s σ H _ _ a b Q I ra rb ⟨_, vs, rfl, .inl (SqL.of h1), (rx.flat hf.1).1, e1, by rw [e2] at q; exact q⟩
      · cases e
    · rename_i kvs hg
      unfold inDict at e
      obtain ⟨k, hk, rfl⟩ := Option.map_eq_some_iff.mp e
      obtain ⟨ws, rfl, h1, h2⟩ := dK_at S hg ry
      have hv := keyOf_at rx hk
      subst hv
      cases rb
      have z := RKs.find (k := k) h2
      refine d_in (by omega) I (.inl ⟨ws, k, .inl h1, rfl, rfl⟩) ra fun s' I' => ⟨.bl _, H, I', rfl, ?_⟩
      cases hfind : kvs.find? fun kv => decide (kv.1 = k) with
      | none => rw [hfind] at z q; rw [z]; exact q
      | some p => rw [hfind] at z q; obtain ⟨v, z1, _⟩ := z; rw [z1]; exact q
    · cases e
  · rename_i d
    split at e
    · rename_i kvs z hk
      cases e
      simp only [RU] at rx
      subst rx
      simp only [RU] at ry
      obtain ⟨u, hu1, hr⟩ := ry
      obtain ⟨dd, es, n, h1, h2, h3⟩ := D d _ hk
      rw [show X.mg d = some u from hu1] at h1
      cases h1
      have : w = .ref dd := (Option.some.inj (L2.RelV.abs hr)).symm
      subst this
      obtain ⟨r, hr1, hr2⟩ := h3 z
      refine op_in_kd h2 pins s σ H _ _ a b Q I ra rb ⟨z, r, rfl, rfl, hr1, ?_⟩
      cases hl : kvs.lookup z with
      | none => rw [hl] at hr2 q; rw [hr2]; exact q
      | some u => rw [hl] at hr2 q; obtain ⟨u0, v0, e0, _⟩ := hr2; rw [e0]; exact q
    · cases e
/-- a test turned about -/
theorem o_notin (hu : X.A.units + 64 < cLine) (D : KdOk X kd) : OpR X (compareOp .NotIn) (r2b (wr X kd) (cmpop kd .NotIn)) := by
  intro pins s σ H v w a b Q I ra rb h
  obtain ⟨f, G, x, y, c, S, rx, ry, e, q⟩ := h.un
  simp only [cmpop] at e
  obtain ⟨c, e', rfl⟩ := Option.map_eq_some_iff.mp e
  clear e
  have e := e'
  clear e'
  cases y <;> simp only [inop] at e <;> try (cases e; done)
  · rename_i z
    cases x <;> simp only [] at e <;> try (cases e; done)
    cases e
    simp only [RU] at rx ry; subst rx; subst ry
    exact op_notin_str pins s σ H _ _ a b Q I ra rb ⟨_, _, rfl, rfl, q⟩
  · rename_i ys
    unfold inSeq at e
    split at e
    · rename_i hf
      cases e
      obtain ⟨p, vs, rfl, h1, h2⟩ := tup_at ry
      obtain ⟨e1, e2⟩ := any_V rx hf.1 h2 hf.2
      exact op_notIn_seq pins s σ H _ _ a b Q I ra rb ⟨p, vs, rfl, .inr h1, (rx.flat hf.1).1, e1, by rw [e2] at q; exact q⟩
    · cases e
  · rename_i ys
    unfold inSeq at e
    split at e
    · rename_i hf
      cases e
      obtain ⟨p, vs, rfl, h1, h2⟩ := fro_at ry
      obtain ⟨e1, e2⟩ := any_V rx hf.1 h2 hf.2
      exact op_notIn_seq pins s σ H _ _ a b Q I ra rb ⟨p, vs, rfl, .inl h1.sq, (rx.flat hf.1).1, e1, by rw [e2] at q; exact q⟩
    · cases e
  · rename_i j
    split at e
    · rename_i ys hg
      unfold inSeq at e
      split at e
      · rename_i hf
        cases e
        obtain ⟨vs, rfl, h1, h2⟩ := lst_at S hg ry
        obtain ⟨e1, e2⟩ := any_V rx hf.1 h2 hf.2
        exact op_notIn_seq pins s σ H _ _ a b Q I ra rb ⟨_, vs, rfl, .inl (SqL.of h1), (rx.flat hf.1).1, e1, by rw [e2] at q; exact q⟩
      · cases e
    · rename_i kvs hg
      unfold inDict at e
      obtain ⟨k, hk, rfl⟩ := Option.map_eq_some_iff.mp e
      obtain ⟨ws, rfl, h1, h2⟩ := dK_at S hg ry
      have hv := keyOf_at rx hk
      subst hv
      cases rb
      have z := RKs.find (k := k) h2
      refine d_notIn (by omega) I (.inl ⟨ws, k, .inl h1, rfl, rfl⟩) ra fun s' I' => ⟨.bl _, H, I', rfl, ?_⟩
      cases hfind : kvs.find? fun kv => decide (kv.1 = k) with
      | none => rw [hfind] at z q; rw [z]; exact q
      | some p => rw [hfind] at z q; obtain ⟨v, z1, _⟩ := z; rw [z1]; exact q
    · cases e
  · rename_i d
    split at e
    · rename_i kvs z hk
      cases e
      simp only [RU] at rx
      subst rx
      simp only [RU] at ry
      obtain ⟨u, hu1, hr⟩ := ry
      obtain ⟨dd, es, n, h1, h2, h3⟩ := D d _ hk
      rw [show X.mg d = some u from hu1] at h1
      cases h1
      have : w = .ref dd := (Option.some.inj (L2.RelV.abs hr)).symm
      subst this
      obtain ⟨r, hr1, hr2⟩ := h3 z
      refine op_notIn_kd h2 pins s σ H _ _ a b Q I ra rb ⟨z, r, rfl, rfl, hr1, ?_⟩
      cases hl : kvs.lookup z with
      | none => rw [hl] at hr2 q; rw [hr2]; exact q
      | some u => rw [hl] at hr2 q; obtain ⟨u0, v0, e0, _⟩ := hr2; rw [e0]; exact q
    · cases e
theorem eqData_at {Y : Wr} {H f G} {x y : U} {v w : V} {b : Bool} (S : Sim Y H f G) (rx : RU Y H f G.length x v) (ry : RU Y H f G.length y w) (e : eqData x y G = some b) :
    ∃ d d', Dp Y.K H v d ∧ Dp Y.K H w d' ∧ SeqAt.shaped d = true ∧ SeqAt.shaped d' = true ∧ PyData.eqv d d' = b := by
  unfold eqData at e
  obtain ⟨d, e1, e⟩ := Option.bind_eq_some_iff.mp e
  obtain ⟨d', e2, e⟩ := Option.bind_eq_some_iff.mp e
  split at e
  · rename_i hs
    cases e
    exact ⟨d, d', toD_ok S _ _ _ _ e1 rx, toD_ok S _ _ _ _ e2 ry, hs.1, hs.2, rfl⟩
  · cases e
theorem o_eq (hu : X.A.units + 64 < cLine) : OpR X (compareOp .Eq) (r2b (wr X kd) (cmpop kd .Eq)) := by
  refine opImp (op_eqD hu) ?_
  intro v w H Q h
  obtain ⟨f, G, x, y, c, S, rx, ry, e, q⟩ := h.un
  obtain ⟨d, d', h1, h2, h3, h4, h5⟩ := eqData_at S rx ry e
  exact ⟨d, d', h1, h2, h3, h4, by rw [h5]; exact q⟩
theorem o_ne (hu : X.A.units + 64 < cLine) : OpR X (compareOp .NotEq) (r2b (wr X kd) (cmpop kd .NotEq)) := by
  refine opImp (op_neD hu) ?_
  intro v w H Q h
  obtain ⟨f, G, x, y, c, S, rx, ry, e, q⟩ := h.un
  simp only [cmpop] at e
  obtain ⟨c, e', rfl⟩ := Option.map_eq_some_iff.mp e
  clear e
  have e := e'
  clear e'
  obtain ⟨d, d', h1, h2, h3, h4, h5⟩ := eqData_at S rx ry e
  exact ⟨d, d', h1, h2, h3, h4, by rw [h5]; exact q⟩
theorem o_lt (hu : X.A.units + 64 < cLine) : OpR X (compareOp .Lt) (r2b (wr X kd) (cmpop kd .Lt)) := by
  refine opImp (op_lt.or (op_ltT (by omega))) ?_
  intro v w H Q h
  obtain ⟨f, G, x, y, c, S, rx, ry, e, q⟩ := h.un
  simp only [cmpop] at e
  cases x <;> cases y <;> simp only [] at e <;> try (cases e; done)
  · cases e; simp only [RU] at rx ry; subst rx; subst ry
    exact .inl ⟨_, _, rfl, rfl, q⟩
  · obtain ⟨ns, e1, e⟩ := Option.bind_eq_some_iff.mp e
    obtain ⟨ms, e2, rfl⟩ := Option.map_eq_some_iff.mp e
    obtain ⟨a, vs, rfl, h1, h2⟩ := tup_at rx
    obtain ⟨b, ws, rfl, h3, h4⟩ := tup_at ry
    rw [h2.ints e1] at h1
    rw [h4.ints e2] at h3
    exact .inr ⟨a, b, ns, ms, rfl, rfl, h1, h3, q⟩
theorem o_le : OpR X (compareOp .LtE) (r2b (wr X kd) (cmpop kd .LtE)) := by
  refine opImp op_le ?_
  intro v w H Q h
  obtain ⟨f, G, x, y, c, S, rx, ry, e, q⟩ := h.un
  simp only [cmpop] at e
  cases x <;> cases y <;> simp only [] at e <;> try (cases e; done)
  cases e; simp only [RU] at rx ry; subst rx; subst ry
  exact ⟨_, _, rfl, rfl, q⟩
theorem o_gt : OpR X (compareOp .Gt) (r2b (wr X kd) (cmpop kd .Gt)) := by
  refine opImp op_gt ?_
  intro v w H Q h
  obtain ⟨f, G, x, y, c, S, rx, ry, e, q⟩ := h.un
  simp only [cmpop] at e
  cases x <;> cases y <;> simp only [] at e <;> try (cases e; done)
  cases e; simp only [RU] at rx ry; subst rx; subst ry
  exact ⟨_, _, rfl, rfl, q⟩
theorem o_ge : OpR X (compareOp .GtE) (r2b (wr X kd) (cmpop kd .GtE)) := by
  refine opImp op_ge ?_
  intro v w H Q h
  obtain ⟨f, G, x, y, c, S, rx, ry, e, q⟩ := h.un
  simp only [cmpop] at e
  cases x <;> cases y <;> simp only [] at e <;> try (cases e; done)
  cases e; simp only [RU] at rx ry; subst rx; subst ry
  exact ⟨_, _, rfl, rfl, q⟩
theorem nonV {Y : Wr} {H f n} {x : U} {v : V} {c : Bool} (r : RU Y H f n x v) (e : isNon x = some c) : decide (v = .non) = c := by
  cases x with
  | glb z => cases e
  | non => cases e; simp only [RU] at r; subst r; rfl
  | bl b => cases e; simp only [RU] at r; subst r; rfl
  | int b => cases e; simp only [RU] at r; subst r; rfl
  | str b => cases e; simp only [RU] at r; subst r; rfl
  | ref b => cases e; simp only [RU] at r; obtain ⟨_, rfl⟩ := r; rfl
  | tup b => cases e; obtain ⟨a, ys, rfl, _⟩ := tup_at r; rfl
  | fro b => cases e; obtain ⟨a, ys, rfl, _⟩ := fro_at r; rfl
theorem o_is : OpR X (compareOp .Is) (r2b (wr X kd) (cmpop kd .Is)) := by
  refine opImp op_isN ?_
  intro v w H Q h
  obtain ⟨f, G, x, y, c, S, rx, ry, e, q⟩ := h.un
  simp only [cmpop] at e
  cases y <;> simp only [] at e <;> try (cases e; done)
  exact ⟨by simpa only [RU] using ry, by rw [nonV rx e]; exact q⟩
theorem o_isnot : OpR X (compareOp .IsNot) (r2b (wr X kd) (cmpop kd .IsNot)) := by
  refine opImp op_notN ?_
  intro v w H Q h
  obtain ⟨f, G, x, y, c, S, rx, ry, e, q⟩ := h.un
  simp only [cmpop] at e
  cases y <;> simp only [] at e <;> try (cases e; done)
  obtain ⟨c', e', rfl⟩ := Option.map_eq_some_iff.mp e
  exact ⟨by simpa only [RU] using ry, by rw [nonV rx e']; exact q⟩
theorem o_cmp (hu : X.A.units + 64 < cLine) (D : KdOk X kd) (op : CmpOp) : OpR X (compareOp op) (r2b (wr X kd) (cmpop kd op)) := by
  cases op
  · exact o_eq hu
  · exact o_ne hu
  · exact o_lt hu
  · exact o_le
  · exact o_gt
  · exact o_ge
  · exact o_is
  · exact o_isnot
  · exact o_in hu D
  · exact o_notin hu D
/-! ### items, slices -/
theorem o_ix (hu : X.A.units + 64 < cLine) (D : KdOk X kd) : IxR X (r2 (wr X kd) (ixop kd)) := by
  intro value slice pins s σ H v w a b Q I ra rb h hs
  obtain ⟨f, G, x, y, u, G', S, rx, ry, e, k⟩ := h
  cases x <;> simp only [ixop] at e <;> try (cases e; done)
  · rename_i z
    cases y <;> simp only [] at e <;> try (cases e; done)
    split at e
    · rename_i hz
      obtain ⟨c, e1, e2⟩ := Option.map_eq_some_iff.mp e
      cases e2
      simp only [RU] at rx ry; subst rx; subst ry
      exact ix_seq value slice pins s σ H _ _ a b Q I ra rb (.inr (.inr ⟨z, _, c, rfl, rfl, hz, e1, k f H Ext.refl S _ (by simp [RU])⟩)) hs
    · cases e
  · rename_i xs
    cases y <;> simp only [] at e <;> try (cases e; done)
    obtain ⟨c, e1, e2⟩ := Option.map_eq_some_iff.mp e
    cases e2
    obtain ⟨p, vs, rfl, h1, h2⟩ := tup_at rx
    simp only [RU] at ry; subst ry
    obtain ⟨v, hv, rv⟩ := h2.atI e1
    exact ix_seq value slice pins s σ H _ _ a b Q I ra rb (.inr (.inl ⟨p, vs, _, v, rfl, rfl, h1, hv, k f H Ext.refl S _ rv⟩)) hs
  · rename_i xs
    cases y <;> simp only [] at e <;> try (cases e; done)
    obtain ⟨c, e1, e2⟩ := Option.map_eq_some_iff.mp e
    cases e2
    obtain ⟨p, vs, rfl, h1, h2⟩ := fro_at rx
    simp only [RU] at ry; subst ry
    obtain ⟨v, hv, rv⟩ := h2.atI e1
    exact ix_seq value slice pins s σ H _ _ a b Q I ra rb (.inl ⟨p, vs, _, v, rfl, rfl, h1.sq, hv, k f H Ext.refl S _ rv⟩) hs
  · rename_i n
    split at e
    · rename_i xs i hg
      obtain ⟨c, e1, e2⟩ := Option.map_eq_some_iff.mp e
      cases e2
      obtain ⟨vs, rfl, h1, h2⟩ := lst_at S hg rx
      simp only [RU] at ry; subst ry
      obtain ⟨v, hv, rv⟩ := h2.atI e1
      exact ix_seq value slice pins s σ H _ _ a b Q I ra rb (.inl ⟨_, vs, _, v, rfl, rfl, SqL.of h1, hv, k f H Ext.refl S _ rv⟩) hs
    · rename_i kvs hg
      obtain ⟨kk, e1, e2⟩ := Option.bind_eq_some_iff.mp e
      obtain ⟨p, e3, e4⟩ := Option.map_eq_some_iff.mp e2
      cases e4
      obtain ⟨ws, rfl, h1, h2⟩ := dK_at S hg rx
      have hv := keyOf_at ry e1
      subst hv
      cases ra
      have z := RKs.find (k := kk) h2
      rw [e3] at z
      obtain ⟨v, z1, z2⟩ := z
      have g : DGet H (f n) (kV kk) (some v) := .inl ⟨ws, kk, .inl h1, rfl, z1.symm⟩
      exact tail_any (dict_typeIs I g) slot_dict_getitem.lookup (d_getItem (by omega) I g rb fun w' s' I' r => ⟨v, H, I', r, k f H Ext.refl S _ z2⟩) hs
    · cases e
  · rename_i d
    cases y <;> simp only [] at e <;> try (cases e; done)
    rename_i z
    split at e
    · rename_i kvs hk
      obtain ⟨c, e1, e2⟩ := Option.map_eq_some_iff.mp e
      cases e2
      simp only [RU] at ry
      subst ry
      simp only [RU] at rx
      obtain ⟨u, hu1, hr⟩ := rx
      obtain ⟨dd, es, n, h1, h2, h3⟩ := D d _ hk
      rw [show X.mg d = some u from hu1] at h1
      cases h1
      have : v = .ref dd := (Option.some.inj (L2.RelV.abs hr)).symm
      subst this
      obtain ⟨r, hr1, hr2⟩ := h3 z
      rw [e1] at hr2
      obtain ⟨u0, v0, e0, e5, e6⟩ := hr2
      subst e0
      exact tail_any (by cases ra; exact kd_type h2 I) slot_dict_getitem.lookup (op_item_kd h2 pins s σ H _ _ a b Q I ra rb ⟨z, u0, v0, rfl, rfl, hr1, e5, k f H Ext.refl S _ (e6 _ _ _)⟩) hs
    · cases e
theorem o_sl (op : Unit) : SlR X (fun v lo hi H Q => ∃ f G x u G', Sim (wr X kd) H f G ∧ RU (wr X kd) H f G.length x v ∧ slop x lo hi G = some (u, G') ∧
    ∀ f' H', Ext H f G.length H' f' G'.length → Sim (wr X kd) H' f' G' → kV' (wr X kd) Q u f' G' H') := by
  refine slImp (sl_str.or (sl_tupA.or sl_list)) ?_
  rintro v lo hi H Q ⟨f, G, x, u, G', S, rx, e, k⟩
  cases x <;> simp only [slop] at e <;> try (cases e; done)
  · split at e
    · cases e
      simp only [RU] at rx; subst rx
      exact .inl ⟨_, rfl, by assumption, k f H Ext.refl S _ (by simp [RU])⟩
    · cases e
  · cases e
    obtain ⟨a, vs, rfl, h1, h2⟩ := tup_at rx
    refine .inr (.inl ⟨a, vs, rfl, h1, fun q => ?_, fun _ p hp => new_tup S (h2.cut lo hi) hp k⟩)
    refine k f H Ext.refl S _ ?_
    simp only [RU]
    refine ⟨a, vs, rfl, h1, ?_⟩
    have := h2.cut lo hi
    unfold cutV at this
    rw [q.1, q.2, List.drop_zero, Nat.sub_zero, List.take_length] at this
    exact this
  · cases e
    obtain ⟨a, vs, rfl, h1, h2⟩ := fro_at rx
    exact .inr (.inr ⟨a, vs, rfl, h1.sq, fun p hp => new_lst S (h2.cut lo hi) hp k⟩)
  · split at e
    · cases e
      rename_i q
      obtain ⟨vs, rfl, h1, h2⟩ := lst_at S q rx
      exact .inr (.inr ⟨_, vs, rfl, SqL.of h1, fun p hp => new_lst S (h2.cut lo hi) hp k⟩)
    · cases e
end
end Z
namespace Z
open PySem PySem.Spec PyProof.Rows L2
section
variable {Y : Wr} {H : Hp} {f : Nat → Addr} {n : Nat} {G : Gp}
theorem truthy_at {u : U} {v : V} {b : Bool} (S : Sim Y H f G) (e : truthy G u = some b) (r : RU Y H f G.length u v) : TruV Y.K v H b := by
  cases u <;> simp only [truthy] at e <;> try (cases e; done)
  · cases e; simp only [RU] at r; subst r; rfl
  · cases e; simp only [RU] at r; subst r; rfl
  · cases e; simp only [RU] at r; subst r; rfl
  · split at e
    · cases e; simp only [RU] at r; subst r; exact ⟨by assumption, rfl⟩
    · cases e
  · cases e; obtain ⟨a, ys, rfl, h1, h2⟩ := tup_at r; exact .inr (.inl ⟨ys, h1, by rw [h2.isEmpty]⟩)
  · cases e; obtain ⟨a, ys, rfl, h1, h2⟩ := fro_at r; exact .inl ⟨ys, h1.sq, by rw [h2.isEmpty]⟩
  · split at e
    · rename_i q; cases e; obtain ⟨ys, rfl, h1, h2⟩ := lst_at S q r; exact .inl ⟨ys, SqL.of h1, by rw [h2.isEmpty]⟩
    · rename_i q; cases e; obtain ⟨ys, rfl, h1, h2⟩ := dK_at S q r; exact .inr (.inr ⟨ys, h1, by cases h2 <;> rfl⟩)
    · cases e
theorem len_at {u : U} {v : V} {k : Nat} (S : Sim Y H f G) (e : lenU G u = some k) (r : RU Y H f G.length u v) : LenV Y.K v H k ∨ ∃ a kvs, v = .ref a ∧ H a = some (.dK kvs) ∧ k = kvs.length := by
  cases u <;> simp only [lenU] at e <;> try (cases e; done)
  · split at e
    · cases e; simp only [RU] at r; subst r; exact .inl ⟨by assumption, rfl⟩
    · cases e
  · cases e; obtain ⟨a, ys, rfl, h1, h2⟩ := tup_at r; exact .inl (.inr ⟨ys, h1, h2.len⟩)
  · cases e; obtain ⟨a, ys, rfl, h1, h2⟩ := fro_at r; exact .inl (.inl ⟨ys, h1.sq, h2.len⟩)
  · split at e
    · rename_i q; cases e; obtain ⟨ys, rfl, h1, h2⟩ := lst_at S q r; exact .inl (.inl ⟨ys, SqL.of h1, h2.len⟩)
    · rename_i q; cases e; obtain ⟨ys, rfl, h1, h2⟩ := dK_at S q r; exact .inr ⟨_, ys, rfl, h1, Paired.length h2⟩
    · cases e
theorem lstInts_at {u : U} {v : V} {ns : List Int} (S : Sim Y H f G) (e : lstInts G u = some ns) (r : RU Y H f G.length u v) : ∃ a, v = .ref a ∧ SqL Y.K H a (ns.map V.int) := by
  cases u <;> simp only [lstInts] at e <;> try (cases e; done)
  split at e
  · rename_i q; obtain ⟨ys, rfl, h1, h2⟩ := lst_at S q r; rw [h2.ints e] at h1; exact ⟨_, rfl, SqL.of h1⟩
  · cases e
theorem lstBls_at {u : U} {v : V} {ns : List Bool} (S : Sim Y H f G) (e : lstBls G u = some ns) (r : RU Y H f G.length u v) : ∃ a, v = .ref a ∧ SqL Y.K H a (ns.map V.bl) := by
  cases u <;> simp only [lstBls] at e <;> try (cases e; done)
  split at e
  · rename_i q; obtain ⟨ys, rfl, h1, h2⟩ := lst_at S q r; rw [h2.bls e] at h1; exact ⟨_, rfl, SqL.of h1⟩
  · cases e
theorem RUs.one {u : U} {vs : List V} (h : RUs Y H f n [u] vs) : ∃ v, vs = [v] ∧ RU Y H f n u v := by
  simp only [RUs] at h; obtain ⟨y, r, rfl, h1, rfl⟩ := h; exact ⟨y, rfl, h1⟩
theorem RUs.two {u w : U} {vs : List V} (h : RUs Y H f n [u, w] vs) : ∃ v z, vs = [v, z] ∧ RU Y H f n u v ∧ RU Y H f n w z := by
  simp only [RUs] at h; obtain ⟨y, r, rfl, h1, y2, r2, rfl, h2, rfl⟩ := h; exact ⟨y, y2, rfl, h1, h2⟩
end
theorem foldmax : ∀ (r : List Int) (x m : Int), r.foldl (fun a b => if a < b then b else a) x = m → (m = x ∨ m ∈ r) ∧ x ≤ m ∧ ∀ y ∈ r, y ≤ m
  | [], x, m, h => by subst h; exact ⟨.inl rfl, Int.le_refl _, by simp⟩
  | a :: r, x, m, h => by
    obtain ⟨h1, h2, h3⟩ := foldmax r _ m h
    dsimp only at h1 h2
    split at h1 <;> split at h2 <;> try omega
    · refine ⟨.inr (by rcases h1 with e | e <;> simp [e]), by omega, fun y hy => ?_⟩
      rcases List.mem_cons.mp hy with e | e
      · subst e; exact h2
      · exact h3 y e
    · refine ⟨by rcases h1 with e | e; exact .inl e; exact .inr (by simp [e]), h2, fun y hy => ?_⟩
      rcases List.mem_cons.mp hy with e | e
      · subst e; omega
      · exact h3 y e
theorem foldmin : ∀ (r : List Int) (x m : Int), r.foldl (fun a b => if b < a then b else a) x = m → (m = x ∨ m ∈ r) ∧ m ≤ x ∧ ∀ y ∈ r, m ≤ y
  | [], x, m, h => by subst h; exact ⟨.inl rfl, Int.le_refl _, by simp⟩
  | a :: r, x, m, h => by
    obtain ⟨h1, h2, h3⟩ := foldmin r _ m h
    dsimp only at h1 h2
    split at h1 <;> split at h2 <;> try omega
    · refine ⟨.inr (by rcases h1 with e | e <;> simp [e]), by omega, fun y hy => ?_⟩
      rcases List.mem_cons.mp hy with e | e
      · subst e; exact h2
      · exact h3 y e
    · refine ⟨by rcases h1 with e | e; exact .inl e; exact .inr (by simp [e]), h2, fun y hy => ?_⟩
      rcases List.mem_cons.mp hy with e | e
      · subst e; omega
      · exact h3 y e

section
variable {X : Cx} {kd : Str → Option (List (Str × U))}
def bfV : Bf → Value
  | .blen => .builtin "len" | .ball => .builtin "all" | .bany => .builtin "any" | .bsum => .builtin "sum" | .bmin => .builtin "min" | .bmax => .builtin "max"
  | .babs => .builtin "abs" | .bsorted => .builtin "sorted" | .bint => .type "int" | .bstr => .type "str" | .blist => .type "list" | .btuple => .type "tuple" | .bbool => .type "bool"
theorem len_any : CallR X (.builtin "len") (fun xs H Q => ∃ x k, xs = [x] ∧ (LenV X.K x H k ∨ ∃ a kvs, x = .ref a ∧ H a = some (.dK kvs) ∧ k = kvs.length) ∧ Q (.int (k : Nat)) H) := by
  intro pins s σ H xs us Q I r h
  obtain ⟨x, k, rfl, h | ⟨a, kvs, rfl, h, rfl⟩, q⟩ := h
  · exact call_len pins s σ H _ us Q I r ⟨x, k, rfl, h, q⟩
  · rw [Vals.ref1 r]
    exact d_len I (.inl h) fun t s' I' => ⟨.int _, H, I', ⟨t, rfl⟩, q⟩
theorem c_bf (hc : X.calm = true) (b : Bf) : CallR X (bfV b) (rN (wr X kd) (bfop b)) := by
  cases b
  case blen =>
    refine callImp len_any ?_
    rintro vs H Q ⟨f, G, xs, u, G', S, rs, e, k⟩
    match xs, rs, e with
    | [x], rs, e =>
      obtain ⟨v, rfl, r⟩ := rs.one
      obtain ⟨m, e1, e2⟩ := Option.map_eq_some_iff.mp e
      cases e2
      exact ⟨v, m, rfl, len_at S e1 r, k f H Ext.refl S _ (by simp [RU])⟩
    | [], rs, e => cases e
    | _ :: _ :: _, rs, e => cases e
  case ball =>
    refine callImp (cr_all hc) ?_
    rintro vs H Q ⟨f, G, xs, u, G', S, rs, e, k⟩
    match xs, rs, e with
    | [x], rs, e =>
      obtain ⟨v, rfl, r⟩ := rs.one
      obtain ⟨m, e1, e2⟩ := Option.map_eq_some_iff.mp e
      cases e2
      obtain ⟨a, rfl, h⟩ := lstBls_at S e1 r
      exact ⟨a, m, rfl, h, k f H Ext.refl S _ (by simp [RU])⟩
    | [], rs, e => cases e
    | _ :: _ :: _, rs, e => cases e
  case bany =>
    refine callImp (cr_any hc) ?_
    rintro vs H Q ⟨f, G, xs, u, G', S, rs, e, k⟩
    match xs, rs, e with
    | [x], rs, e =>
      obtain ⟨v, rfl, r⟩ := rs.one
      obtain ⟨m, e1, e2⟩ := Option.map_eq_some_iff.mp e
      cases e2
      obtain ⟨a, rfl, h⟩ := lstBls_at S e1 r
      exact ⟨a, m, rfl, h, k f H Ext.refl S _ (by simp [RU])⟩
    | [], rs, e => cases e
    | _ :: _ :: _, rs, e => cases e
  case bsum =>
    refine callImp (cr_sum hc) ?_
    rintro vs H Q ⟨f, G, xs, u, G', S, rs, e, k⟩
    match xs, rs, e with
    | [x], rs, e =>
      obtain ⟨v, rfl, r⟩ := rs.one
      obtain ⟨m, e1, e2⟩ := Option.map_eq_some_iff.mp e
      cases e2
      obtain ⟨a, rfl, h⟩ := lstInts_at S e1 r
      exact ⟨a, m, rfl, h, k f H Ext.refl S _ (by simp [RU])⟩
    | [], rs, e => cases e
    | _ :: _ :: _, rs, e => cases e
  case bmax =>
    refine callImp ((cr_max hc).or (call_max2 hc)) ?_
    rintro vs H Q ⟨f, G, xs, u, G', S, rs, e, k⟩
    match xs, rs, e with
    | [x], rs, e =>
      obtain ⟨v, rfl, r⟩ := rs.one
      have e : (lstInts G x).bind (fun ns => (maxI ns).map fun m => (U.int m, G)) = some (u, G') := by cases x <;> exact e
      obtain ⟨m, e1, e2⟩ := Option.bind_eq_some_iff.mp e
      obtain ⟨w, e3, e4⟩ := Option.map_eq_some_iff.mp e2
      cases e4
      obtain ⟨a, rfl, h⟩ := lstInts_at S e1 r
      refine .inl ⟨a, m, rfl, h, ?_⟩
      cases m with
      | nil => cases e3
      | cons x0 r0 =>
        simp only [maxI, Option.some.injEq] at e3
        obtain ⟨h1, h2, h3⟩ := foldmax r0 x0 w e3
        refine ⟨by simp, fun z hz1 hz2 => ?_⟩
        have : z = w := by
          apply Int.le_antisymm
          · rcases List.mem_cons.mp hz1 with q | q
            · rw [q]; exact h2
            · exact h3 z q
          · exact hz2 w (by rcases h1 with q | q <;> simp [q])
        subst this
        exact k f H Ext.refl S _ (by simp [RU])
    | [x, y], rs, e =>
      obtain ⟨v, w, rfl, r1, r2⟩ := rs.two
      cases x <;> cases y <;> simp only [bfop] at e <;> try (cases e; done)
      cases e
      simp only [RU] at r1 r2; subst r1; subst r2
      exact .inr ⟨_, _, rfl, k f H Ext.refl S _ (by simp [RU])⟩
    | [], rs, e => cases e
    | _ :: _ :: _ :: _, rs, e => simp only [bfop] at e; cases e
  case bmin =>
    refine callImp ((cr_min hc).or (call_min2 hc)) ?_
    rintro vs H Q ⟨f, G, xs, u, G', S, rs, e, k⟩
    match xs, rs, e with
    | [x], rs, e =>
      obtain ⟨v, rfl, r⟩ := rs.one
      have e : (lstInts G x).bind (fun ns => (minI ns).map fun m => (U.int m, G)) = some (u, G') := by cases x <;> exact e
      obtain ⟨m, e1, e2⟩ := Option.bind_eq_some_iff.mp e
      obtain ⟨w, e3, e4⟩ := Option.map_eq_some_iff.mp e2
      cases e4
      obtain ⟨a, rfl, h⟩ := lstInts_at S e1 r
      refine .inl ⟨a, m, rfl, h, ?_⟩
      cases m with
      | nil => cases e3
      | cons x0 r0 =>
        simp only [minI, Option.some.injEq] at e3
        obtain ⟨h1, h2, h3⟩ := foldmin r0 x0 w e3
        refine ⟨by simp, fun z hz1 hz2 => ?_⟩
        have : z = w := by
          apply Int.le_antisymm
          · exact hz2 w (by rcases h1 with q | q <;> simp [q])
          · rcases List.mem_cons.mp hz1 with q | q
            · rw [q]; exact h2
            · exact h3 z q
        subst this
        exact k f H Ext.refl S _ (by simp [RU])
    | [x, y], rs, e =>
      obtain ⟨v, w, rfl, r1, r2⟩ := rs.two
      cases x <;> cases y <;> simp only [bfop] at e <;> try (cases e; done)
      cases e
      simp only [RU] at r1 r2; subst r1; subst r2
      exact .inr ⟨_, _, rfl, k f H Ext.refl S _ (by simp [RU])⟩
    | [], rs, e => cases e
    | _ :: _ :: _ :: _, rs, e => simp only [bfop] at e; cases e
  case babs =>
    refine callImp call_abs ?_
    rintro vs H Q ⟨f, G, xs, u, G', S, rs, e, k⟩
    match xs, rs, e with
    | [x], rs, e =>
      obtain ⟨v, rfl, r⟩ := rs.one
      cases x <;> simp only [bfop] at e <;> try (cases e; done)
      cases e
      simp only [RU] at r; subst r
      exact ⟨_, rfl, k f H Ext.refl S _ (by simp [RU])⟩
    | [], rs, e => cases e
    | _ :: _ :: _, rs, e => simp only [bfop] at e; cases e
  case bsorted =>
    intro pins s σ H vs us Q I r h
    obtain ⟨f, G, xs, u, G', S, rs, e, k⟩ := h
    simp only [bfop] at e; cases e
  case bbool =>
    intro pins s σ H vs us Q I r h
    obtain ⟨f, G, xs, u, G', S, rs, e, k⟩ := h
    simp only [bfop] at e; cases e
  case bint =>
    refine callImp (call_int1.or call_int_str) ?_
    rintro vs H Q ⟨f, G, xs, u, G', S, rs, e, k⟩
    match xs, rs, e with
    | [x], rs, e =>
      obtain ⟨v, rfl, r⟩ := rs.one
      cases x <;> simp only [bfop] at e <;> try (cases e; done)
      · cases e
        simp only [RU] at r; subst r
        exact .inl (.inr ⟨_, rfl, k f H Ext.refl S _ (by simp [RU])⟩)
      · cases e
        simp only [RU] at r; subst r
        exact .inl (.inl ⟨_, rfl, k f H Ext.refl S _ (by simp [RU])⟩)
      · split at e
        · rename_i hz
          obtain ⟨m, e1, e2⟩ := Option.map_eq_some_iff.mp e
          cases e2
          simp only [RU] at r; subst r
          exact .inr ⟨_, _, rfl, e1, hz, k f H Ext.refl S _ (by simp [RU])⟩
        · cases e
    | [], rs, e => cases e
    | _ :: _ :: _, rs, e => simp only [bfop] at e; cases e
  case bstr =>
    refine callImp call_str_int ?_
    rintro vs H Q ⟨f, G, xs, u, G', S, rs, e, k⟩
    match xs, rs, e with
    | [x], rs, e =>
      obtain ⟨v, rfl, r⟩ := rs.one
      cases x <;> simp only [bfop] at e <;> try (cases e; done)
      split at e
      · cases e
        simp only [RU] at r; subst r
        exact ⟨_, rfl, by assumption, k f H Ext.refl S _ (by simp [RU])⟩
      · cases e
    | [], rs, e => cases e
    | _ :: _ :: _, rs, e => simp only [bfop] at e; cases e
  case blist =>
    refine callImp call_list_of ?_
    rintro vs H Q ⟨f, G, xs, u, G', S, rs, e, k⟩
    match xs, rs, e with
    | [x], rs, e =>
      obtain ⟨v, rfl, r⟩ := rs.one
      simp only [bfop] at e
      obtain ⟨m, e1, e2⟩ := Option.map_eq_some_iff.mp e
      cases e2
      obtain ⟨a, ys, rfl, h1, h2⟩ := items_at S e1 r
      exact ⟨a, ys, rfl, h1, fun p hp => new_lst S h2 hp k⟩
    | [], rs, e => cases e
    | _ :: _ :: _, rs, e => simp only [bfop] at e; cases e
  case btuple =>
    refine callImp call_tuple_of ?_
    rintro vs H Q ⟨f, G, xs, u, G', S, rs, e, k⟩
    match xs, rs, e with
    | [x], rs, e =>
      obtain ⟨v, rfl, r⟩ := rs.one
      cases x <;> simp only [bfop, items, Option.map_none, Option.map_some] at e <;> try (cases e; done)
      · cases e
        obtain ⟨a, ys, rfl, h1, h2⟩ := tup_at r
        exact ⟨a, ys, rfl, .inr ⟨h1, k f H Ext.refl S _ r⟩⟩
      · cases e
        obtain ⟨a, ys, rfl, h1, h2⟩ := fro_at r
        exact ⟨a, ys, rfl, .inl ⟨h1.sq, fun p hp => new_tup S h2 hp k⟩⟩
      · split at e
        · rename_i q
          cases e
          obtain ⟨ys, rfl, h1, h2⟩ := lst_at S q r
          exact ⟨_, ys, rfl, .inl ⟨SqL.of h1, fun p hp => new_tup S h2 hp k⟩⟩
        · cases e
    | [], rs, e => cases e
    | _ :: _ :: _, rs, e => simp only [bfop] at e; cases e
end
end Z
namespace Z
open PySem PySem.Spec PyProof.Rows L2
structure Pg where
  kd : Str → Option (List (Str × U))
  gv : Str → Option U
  meth : Str → Str → Option Str
  prop : Str → Str → Option Str
  con : Str → Str → Option U
  isa : Ty → Ty → Option Bool
  kws : Str → List U → List U → List Str → Option (List U)
  own : Str → Bool
  gf : Str → Bool
  fld : Str → Str → Bool
  cls : Str → Bool
  eqm : Str → Option Str
  lnm : Str → Option Str
  exn : Str → Option (Str × List Str)
  why : Option (List (List Str × FR) × FR)
  smet : Str → Str → Option Str
  smek : Str → Str → Option (Str × Str)
abbrev Cf := Str → List U → Gp → Out U

inductive ItV where
  | seq (u : U) | str (x : Str) | rng (lo : Int) (n : Nat) | enum (u : U) | zip (u w : U)
def item (it : ItV) (i : Nat) (G : Gp) : Option (Option U) :=
  match it with
  | .seq u => (items G u).map fun xs => xs[i]?
  | .str x => some ((x.cps[i]?).map fun c => .str ⟨#[c]⟩)
  | .rng lo n => some (if i < n then some (.int (lo + i)) else none)
  | .enum u => (items G u).map fun xs => (xs[i]?).map fun x => .tup [.int i, x]
  | .zip u w => (items G u).bind fun xs => (items G w).map fun ys => match xs[i]?, ys[i]? with
    | some x, some y => some (.tup [x, y])
    | _, _ => none
def isTupU : U → Bool
  | .tup _ => true
  | _ => false
def it0 (G : Gp) : List U → Option ItV
  | [u] => match u with
    | .str x => some (.str x)
    | u => (items G u).map fun _ => .seq u
  | _ => none
def it1 : List U → Option ItV
  | [.int n] => if -(2 ^ 62) ≤ n ∧ n < 2 ^ 62 then some (.rng 0 n.toNat) else none
  | _ => none
def it2 : List U → Option ItV
  | [.int a, .int b] => if -(2 ^ 62) ≤ a ∧ a < 2 ^ 62 ∧ -(2 ^ 62) ≤ b ∧ b < 2 ^ 62 then some (.rng a (b - a).toNat) else none
  | _ => none
def it3 (G : Gp) : List U → Option ItV
  | [u] => if isTupU u = true then none else (items G u).map fun _ => .enum u
  | _ => none
def it4 (G : Gp) : List U → Option ItV
  | [u, w] => if isTupU u = isTupU w then (items G u).bind fun _ => (items G w).map fun _ => .zip u w else none
  | _ => none
def iterOf (kind : Nat) (vs : List U) (G : Gp) : Option ItV :=
  match kind with
  | 0 => it0 G vs
  | 1 => it1 vs
  | 2 => it2 vs
  | 3 => it3 G vs
  | 4 => it4 G vs
  | _ => none
def setAll : List Nat → List U → Rho → Option Rho
  | [], [], ρ => some ρ
  | i :: is, u :: us, ρ => setAll is us (ρ.set i (some u))
  | _, _, _ => none
def assignU (tg : Tg) (u : U) (ρ : Rho) : Option Rho :=
  match tg, u with
  | .nm i, u => some (ρ.set i (some u))
  | .tp is, .tup us => setAll is us ρ
  | _, _ => none
def wipeU (ρ : Rho) : List Nat → Rho
  | [] => ρ
  | v :: vs => (wipeU ρ vs).set v none
def ofO {α : Type} (o : Option α) (G : Gp) : Out α := match o with
  | some a => .ok a G
  | none => .stuck
/-- in a comprehension's block nothing is raised -/
def nox {α : Type} : Out α → Out α
  | .exc _ _ _ => .stuck
  | o => o
/-- a comprehension's turns; the list that is made stands at d -/
def lcL (it : ItV) (tg : Tg) (own : List Nat) (ρ : Rho) (d : Nat) (test : Rho → Gp → Out Bool) (elt : Rho → Gp → Out U) : Nat → Nat → Gp → Out Unit
  | 0, _, _ => .stuck
  | m + 1, i, G => match item it i G with
    | none => .stuck
    | some none => .ok () G
    | some (some u) => (ofO (assignU tg u (wipeU ρ own)) G).bind fun ρ1 G => (nox (test ρ1 G)).bind fun b G =>
      if b = true then (nox (elt ρ1 G)).bind fun y G => match G[d]? with
        | some (.lst acc) => if acc.length < sizeLine then lcL it tg own ρ d test elt m (i + 1) (G.set d (.lst (acc ++ [y]))) else .stuck
        | _ => .stuck
      else lcL it tg own ρ d test elt m (i + 1) G
def isLst (G : Gp) : U → Bool
  | .ref n => match G[n]? with
    | some (.lst _) => true
    | _ => false
  | _ => false
def isTxt : U → Bool
  | .str _ => true
  | _ => false
def tyOkM (m : Bm) (u : U) (G : Gp) : Bool := match m with
  | .join => isTxt u
  | .split => isTxt u
  | _ => isLst G u
def clsOk (cls : Str → Bool) : Ty → Bool
  | .own C => cls C
  | _ => true
def isaAny (isa : Ty → Ty → Option Bool) (t : Ty) : List Ty → Option Bool
  | [] => some false
  | c :: r => (isa t c).bind fun b => (isaAny isa t r).map fun b' => b || b'
/-- an instance's class -/
def clsU (G : Gp) : U → Option (Str × List (Str × U))
  | .ref n => match G[n]? with
    | some (.ins C fs) => some (C, fs)
    | _ => none
  | _ => none
def FU : Nat := 100000000
def zipK : List Str → List U → List (Str × U)
  | k :: ks, u :: us => (k, u) :: zipK ks us
  | _, _ => []

/-- == and != of instances whose class has its own __eq__ -/
def ownEq (T : Pg) (G : Gp) (op : CmpOp) (x y : U) : Option (Option (Str × Bool)) :=
  if op = .Eq ∨ op = .NotEq then match clsU G x with
    | none => none
    | some (C, _) => match T.eqm C with
      | none => none
      | some q => match clsU G y with
        | some (D, _) => if D = C then some (some (q, decide (op = .NotEq))) else some none
        | none => match y with
          | .tup _ => if op = .Eq then some (some (q, false)) else some none
          | _ => some none
  else none
def eqBack (neg : Bool) (r : U) (G : Gp) : Out Bool := match r with
  | .bl c => .ok (if neg = true then !c else c) G
  | _ => .stuck
def cmpK (T : Pg) (cf : Cf) (op : CmpOp) (x y : U) (G : Gp) : Out Bool := match ownEq T G op x y with
  | none => ofO (cmpop T.kd op x y G) G
  | some none => .stuck
  | some (some (q, neg)) => (cf q [x, y] G).bind (eqBack neg)
/-- a builtin function; len of an instance by its class -/
def ownLen (T : Pg) (G : Gp) (b : Bf) (us : List U) : Option Str := match b, us with
  | .blen, [x] => (clsU G x).bind fun c => T.lnm c.1
  | _, _ => none
def lenBack (r : U) (G : Gp) : Out U := match r with
  | .int n => if 0 ≤ n ∧ n < 2 ^ 63 then .ok (.int n) G else .stuck
  | _ => .stuck
def bfK (T : Pg) (cf : Cf) (b : Bf) (us : List U) (G : Gp) : Out U := match ownLen T G b us with
  | none => .of (bfop b us G)
  | some q => (cf q us G).bind lenBack

/-- the tag and the field of what was raised, or an empty text and the value -/
def whyX (T : Pg) (c : Str) (fs : List (Str × U)) (G : Gp) : Out U := match T.why, T.exn c, fs.lookup ("tag" : Str) with
  | some (bs, r), some _, some (.str z) => if PyData.strOk z = true then match fbG U.non z fs r bs with
    | some u => .ok (.tup [.str z, u]) G
    | none => .stuck
    else .stuck
  | _, _, _ => .stuck
def whyK (T : Pg) (o : Out U) : Out U := match o with
  | .ok u G => if T.why.isSome = true then .ok (.tup [.str Str.empty, u]) G else .stuck
  | .exc c fs G => whyX T c fs G
  | .stuck => .stuck
mutual
def evE (T : Pg) (cf : Cf) : Ex → Rho → Gp → Out U
  | .loc i, ρ, G => match ρ[i]? with
    | some (some u) => .ok u G
    | _ => .stuck
  | .gl x, _, G => ofO (T.gv x) G
  | .non, _, G => .ok .non G
  | .bl b, _, G => .ok (.bl b) G
  | .int i, _, G => .ok (.int i) G
  | .str x, _, G => .ok (.str x) G
  | .bin op a b, ρ, G => (evE T cf a ρ G).bind fun x G => (evE T cf b ρ G).bind fun y G => .of (binop op x y G)
  | .neg a, ρ, G => (evE T cf a ρ G).bind fun x G => match x with
    | .int i => .ok (.int (-i)) G
    | _ => .stuck
  | .cmp op a b, ρ, G => (evE T cf a ρ G).bind fun x G => (evE T cf b ρ G).bind fun y G => (cmpK T cf op x y G).bind fun b G => .ok (.bl b) G
  | .chain o1 o2 a b c, ρ, G => (evE T cf a ρ G).bind fun x G => (evE T cf b ρ G).bind fun y G => (ofO (cmpop T.kd o1 x y G) G).bind fun r G =>
      if r = true then (evE T cf c ρ G).bind fun z G => .of ((cmpop T.kd o2 y z G).map fun b => (.bl b, G)) else .ok (.bl false) G
  | .bop op es, ρ, G => evB T cf op es ρ G
  | .not a, ρ, G => (evE T cf a ρ G).bind fun x G => (ofO (truthy G x) G).bind fun b G => .ok (.bl (!b)) G
  | .ite c a b, ρ, G => (evT T cf c ρ G).bind fun r G => if r = true then evE T cf a ρ G else evE T cf b ρ G
  | .lst es, ρ, G => (evL T cf es ρ G).bind fun us G => if us.length ≤ sizeLine then .ok (.ref G.length) (G ++ [.lst us]) else .stuck
  | .tup es, ρ, G => (evL T cf es ρ G).bind fun us G => if us.length ≤ sizeLine then .ok (.tup us) G else .stuck
  | .dict0, _, G => .ok (.ref G.length) (G ++ [.dK []])
  | .ix a b, ρ, G => (evE T cf a ρ G).bind fun x G => (evE T cf b ρ G).bind fun y G => .of (ixop T.kd x y G)
  | .sl a lo hi, ρ, G => (evE T cf a ρ G).bind fun x G => (evO T cf lo ρ G).bind fun l G => (evO T cf hi ρ G).bind fun h G => .of (slop x l h G)
  | .call f es, ρ, G => if T.gf f = true then (evL T cf es ρ G).bind fun us G => cf f us G else .stuck
  | .callk f es kn ke, ρ, G => (evL T cf es ρ G).bind fun us G => (evL T cf ke ρ G).bind fun ks G => match T.kws f us ks kn with
    | some us => cf f us G
    | none => .stuck
  | .make C es, ρ, G => if T.own C = true then (evL T cf es ρ G).bind fun us G => (cf (C ++ ".__init__") (.ref G.length :: us) (G ++ [.ins C []])).bind fun r G' => match r with
    | .non => .ok (.ref G.length) G'
    | _ => .stuck
    else .stuck
  | .makek C es kn ke, ρ, G => .stuck
  | .bf b es, ρ, G => (evL T cf es ρ G).bind fun us G => bfK T cf b us G
  | .isi a ts _, ρ, G => if ts.all (clsOk T.cls) = true then (evE T cf a ρ G).bind fun x G => (ofO (tyB G x) G).bind fun t G => (ofO (isaAny T.isa t ts) G).bind fun b G => .ok (.bl b) G else .stuck
  | .bm m o es, ρ, G => (evE T cf o ρ G).bind fun x G => if tyOkM m x G = true then (evL T cf es ρ G).bind fun us G => .of (bmop m x us G) else .stuck
  | .meth o m es, ρ, G => (evE T cf o ρ G).bind fun x G => (ofO (clsU G x) G).bind fun c G => match c.2.lookup m, T.meth c.1 m with
    | none, some q => (evL T cf es ρ G).bind fun us G => cf q (x :: us) G
    | _, _ => .stuck
  | .attr o f, ρ, G => (evE T cf o ρ G).bind fun x G => (ofO (clsU G x) G).bind fun c G => match c.2.lookup f with
    | some u => if T.fld c.1 f = true then .ok u G else .stuck
    | none => match T.con c.1 f with
      | some u => .ok u G
      | none => .stuck
  | .prop o f, ρ, G => (evE T cf o ρ G).bind fun x G => (ofO (clsU G x) G).bind fun c G => match T.prop c.1 f with
    | some q => nox (cf q [x] G)
    | none => .stuck
  | .lc elt tg it kind test own, ρ, G => (evL T cf it ρ G).bind fun vs G => (ofO (iterOf kind vs G) G).bind fun J G =>
      (lcL J tg own ρ G.length (evTo T cf test) (evE T cf elt) FU 0 (G ++ [.lst []])).bind fun _ G' => .ok (.ref G.length) G'
  | .why e, ρ, G => whyK T (evE T cf e ρ G)
  | .smeth C m es, ρ, G => match T.smet C m with
    | some q => (evL T cf es ρ G).bind fun us G => cf q us G
    | none => .stuck
  | .smetk C m kn e, ρ, G => match T.smek C m with
    | some (q, k) => if k = kn then (evE T cf e ρ G).bind fun u G => cf q [u] G else .stuck
    | none => .stuck
def evT (T : Pg) (cf : Cf) : Tx → Rho → Gp → Out Bool
  | .not a, ρ, G => (evT T cf a ρ G).bind fun b G => .ok (!b) G
  | .bop op es, ρ, G => evTB T cf op es ρ G
  | .val e, ρ, G => (evE T cf e ρ G).bind fun x G => ofO (truthy G x) G
def evTo (T : Pg) (cf : Cf) : Option Tx → Rho → Gp → Out Bool
  | none, _, G => .ok true G
  | some e, ρ, G => evT T cf e ρ G
def evB (T : Pg) (cf : Cf) (op : BoolOp) : List Ex → Rho → Gp → Out U
  | [], _, _ => .stuck
  | [e], ρ, G => evE T cf e ρ G
  | e :: r, ρ, G => (evE T cf e ρ G).bind fun x G => (ofO (truthy G x) G).bind fun b G => match op, b with
    | .And, true | .Or, false => evB T cf op r ρ G
    | _, _ => .ok x G
def evTB (T : Pg) (cf : Cf) (op : BoolOp) : List Tx → Rho → Gp → Out Bool
  | [], _, _ => .stuck
  | [e], ρ, G => evT T cf e ρ G
  | e :: r, ρ, G => (evT T cf e ρ G).bind fun b G => match op, b with
    | .And, true | .Or, false => evTB T cf op r ρ G
    | _, b => .ok b G
def evL (T : Pg) (cf : Cf) : List Ex → Rho → Gp → Out (List U)
  | [], _, G => .ok [] G
  | e :: r, ρ, G => (evE T cf e ρ G).bind fun x G => (evL T cf r ρ G).bind fun xs G => .ok (x :: xs) G
def evO (T : Pg) (cf : Cf) : Option Ex → Rho → Gp → Out (Option Int)
  | none, _, G => .ok none G
  | some e, ρ, G => (evE T cf e ρ G).bind fun x G => match x with
    | .int i => .ok (some i) G
    | _ => .stuck
end

def setItem' (o i v : U) (G : Gp) : Option Gp :=
  match o with
  | .ref n => match G[n]? with
    | some (.lst xs) => match i with
      | .int k => (ixN xs.length k).map fun j => G.set n (.lst (xs.set j v))
      | _ => none
    | some (.dK kvs) => if kvs.length < sizeLine then (keyOf i).map fun k => G.set n (.dK (if kvs.any fun kv => decide (kv.1 = k) then kvs.map fun kv => if kv.1 = k then (kv.1, v) else kv else kvs ++ [(k, v)])) else none
    | _ => none
  | _ => none
def putU (f : Str) (v : U) : List (Str × U) → List (Str × U)
  | [] => [(f, v)]
  | (g, u) :: r => if g = f then (g, v) :: r else (g, u) :: putU f v r

def startU (N : List Str) (us : List U) : Rho := us.map some ++ List.replicate (N.length - us.length) none
end Z
namespace Z
open PySem PySem.Spec PyProof.Rows L2
/-! ## a text of theirs is one of mine -/
/-- a block's scope; the flag (here: within a lambda) is handed on -/
abbrev inS (sc s : Scope) : Scope := { s with isCoroutine := sc.isCoroutine }
def gl? (sc : Scope) (x : Str) : Bool := sc.names.lookup x == some .globalImplicit && x != "__debug__" && x != "__name__"
def vi? (sc : Scope) (x : Str) : Bool := (match sc.names.lookup x with
  | some .local | some .cell | some .free => true
  | _ => false) && x != "__debug__" && x != "__classdict__"
def lo? (sc : Scope) (x : Str) : Bool := (match sc.names.lookup x with
  | some .local | some .cell => true
  | _ => false)
def bfN : Bf → Str
  | .blen => "len" | .ball => "all" | .bany => "any" | .bsum => "sum" | .bmin => "min" | .bmax => "max"
  | .babs => "abs" | .bsorted => "sorted" | .bint => "int" | .bstr => "str" | .blist => "list" | .btuple => "tuple" | .bbool => "bool"
def tyN : Ty → Str
  | .tnone => "" | .tint => "int" | .tbool => "bool" | .tstr => "str" | .tlist => "list" | .ttup => "tuple" | .tdict => "dict" | .own C => C
def bmN : Bm → Str
  | .append => "append" | .pop => "pop" | .popAt => "pop" | .clear => "clear" | .insert => "insert" | .extend => "extend" | .index => "index" | .join => "join" | .split => "split" | .get2 => "get" | .get1 => "get"
def bm? : Bm → Bool
  | .append | .clear | .pop | .extend | .join | .split => true
  | _ => false
def base? : PySem.Expr → Bool
  | .Call (.Name id _) [] [] _ => id != "super"
  | _ => true
def bin? (op : Operator) : Bool := op == .Add || op == .Sub || op == .Mult || op == .FloorDiv || op == .Mod || op == .Pow
def nm? (sc : Scope) (x : Str) : PySem.Expr → Bool
  | .Name y _ => x == y && gl? sc x
  | _ => false
def star? : PySem.Expr → Bool
  | .Starred _ _ => true
  | _ => false
def slice? : PySem.Expr → Bool
  | .Slice _ _ _ _ => true
  | _ => false
/-- plain expressions as tests -/
def ptest? : PySem.Expr → Bool
  | .UnaryOp .Not _ _ | .BoolOp _ _ _ | .IfExp _ _ _ _ | .Compare _ _ _ _ => false
  | _ => true
def mTys (sc : Scope) : List Ty → List PySem.Expr → Bool
  | [], [] => true
  | t :: ts, e :: es => nm? sc (tyN t) e && t != .tnone && mTys sc ts es
  | _, _ => false
def mIx (N : List Str) (sc : Scope) : List Nat → List PySem.Expr → Bool
  | [], [] => true
  | i :: is, e :: es => (match e with
    | .Name x _ => N[i]? == some x && lo? sc x
    | _ => false) && mIx N sc is es
  | _, _ => false
def mTg (N : List Str) (sc : Scope) (tg : Tg) (e : PySem.Expr) : Bool := match tg, e with
  | .nm i, .Name x _ => N[i]? == some x && lo? sc x
  | .tp is, .Tuple es _ _ => mIx N sc is es
  | _, _ => false
def pairs (N : List Str) (own : List Nat) : List (Str × Nat) := own.map fun i => (N.getD i "", i)
def tgIn (own : List Nat) : Tg → Bool
  | .nm i => own.contains i
  | .tp is => is.all own.contains
def tgKind (kind : Nat) (tg : Tg) : Bool := match kind, tg with
  | 3, .nm _ => false
  | 4, .nm _ => false
  | _, _ => true
mutual
def mE (N : List Str) (sc : Scope) : Ex → PySem.Expr → Bool
  | .loc i, .Name x _ => N[i]? == some x && vi? sc x
  | .gl x, .Name y _ => x == y && gl? sc x
  | .non, .Constant .none _ _ => true
  | .bl b, .Constant (.bool c) _ _ => b == c
  | .int i, .Constant (.int j) _ _ => i == j
  | .str x, .Constant (.str y) _ _ => x == y
  | .bin op a b, .BinOp l o r _ => op == o && bin? op && mE N sc a l && mE N sc b r
  | .neg a, .UnaryOp .USub x _ => mE N sc a x
  | .cmp op a b, .Compare l [o] [r] _ => op == o && mE N sc a l && mE N sc b r && !behindInMarks o r
  | .chain o1 o2 a b c, .Compare l [p1, p2] [m, r] _ => o1 == p1 && o2 == p2 && mE N sc a l && mE N sc b m && mE N sc c r && !lastMarks [o1, o2] [m, r]
  | .bop op es, .BoolOp o vs _ => op == o && mB N sc es vs
  | .not a, .UnaryOp .Not x _ => mE N sc a x
  | .ite c a b, .IfExp t x y _ => mT N sc c t && mE N sc a x && mE N sc b y
  | .lst es, .List xs _ => mL N sc es xs
  | .tup es, .Tuple xs _ _ => mL N sc es xs
  | .dict0, .Dict [] [] _ => true
  | .ix a b, .Subscript x y _ => mE N sc a x && mE N sc b y && !slice? y
  | .sl a lo hi, .Subscript x (.Slice l h none _) _ => mE N sc a x && mO N sc lo l && mO N sc hi h
  | .call f es, .Call g xs [] _ => nm? sc f g && mL N sc es xs
  | .make C es, .Call g xs [] _ => nm? sc C g && mL N sc es xs
  | .bf b es, .Call g xs [] _ => nm? sc (bfN b) g && mL N sc es xs && !xs.isEmpty
  | .isi a ts true, .Call g [x, c] [] _ => nm? sc "isinstance" g && mE N sc a x && mTys sc ts [c] && !star? x
  | .isi a ts false, .Call g [x, .Tuple cs _ _] [] _ => nm? sc "isinstance" g && mE N sc a x && mTys sc ts cs && !star? x && decide (ts.length < 25) && !ts.isEmpty
  | .bm m o es, .Call (.Attribute x y ap) xs [] p => y == bmN m && mE N sc o x && mL N sc es xs && base? x && ap.endLine == p.line && decide (xs.length < 25) && bm? m
  | .meth o m es, .Call (.Attribute x y ap) xs [] p => y == m && mE N sc o x && mL N sc es xs && base? x && ap.endLine == p.line && decide (xs.length < 25)
  | .attr o f, .Attribute x y _ => y == f && mE N sc o x && base? x
  | .prop o f, .Attribute x y _ => y == f && mE N sc o x && base? x
  | .lc elt tg it kind test own, .ListComp e [⟨t, i, fs, 0⟩] s _ => mE N (inS sc s) elt e && mTg N (inS sc s) tg t && mIt N sc kind it i && tgKind kind tg && mFs N (inS sc s) test fs && blkC N sc s (pairs N own) && tgIn own tg
  | .why e, .Call (.Name g _) [.Lambda ⟨[], [], none, [], [], none, []⟩ x s _] [] _ => g == "_law_why" && gl? sc g && !sc.isCoroutine && LamX.lamSB sc s && mE N { s with isCoroutine := true } e x
  | .smeth C m es, .Call (.Attribute x y ap) xs [] p => y == m && nm? sc C x && mL N sc es xs && ap.endLine == p.line && decide (xs.length < 25)
  | .smetk C m kn e, .Call (.Attribute x y ap) [] [⟨some k, z, _⟩] p => y == m && nm? sc C x && k == kn && mE N sc e z && ap.endLine == p.line
  | _, _ => false
def mT (N : List Str) (sc : Scope) : Tx → PySem.Expr → Bool
  | .not a, .UnaryOp .Not x _ => mT N sc a x
  | .bop op es, .BoolOp o vs _ => op == o && mTB N sc es vs
  | .val e, x => mE N sc e x && (ptest? x || match x with | .Compare _ _ _ _ => true | _ => false)
  | _, _ => false
def mFs (N : List Str) (sc : Scope) : Option Tx → List PySem.Expr → Bool
  | none, [] => true
  | some t, [x] => mT N sc t x
  | _, _ => false
def mB (N : List Str) (sc : Scope) : List Ex → List PySem.Expr → Bool
  | [e], [x] => mE N sc e x
  | e :: r, x :: y :: s => mE N sc e x && mB N sc r (y :: s)
  | _, _ => false
def mTB (N : List Str) (sc : Scope) : List Tx → List PySem.Expr → Bool
  | [e], [x] => mT N sc e x
  | e :: r, x :: y :: s => mT N sc e x && mTB N sc r (y :: s)
  | _, _ => false
def mL (N : List Str) (sc : Scope) : List Ex → List PySem.Expr → Bool
  | [], [] => true
  | e :: r, x :: s => mE N sc e x && !star? x && mL N sc r s
  | _, _ => false
def mO (N : List Str) (sc : Scope) : Option Ex → Option PySem.Expr → Bool
  | none, none => true
  | some e, some x => mE N sc e x
  | _, _ => false
def mIt (N : List Str) (sc : Scope) (kind : Nat) (it : List Ex) (x : PySem.Expr) : Bool := match kind, it, x with
  | 0, [e], x => mE N sc e x
  | 1, [e], .Call g [a] [] _ => nm? sc "range" g && mE N sc e a && !star? a
  | 2, [e, h], .Call g [a, b] [] _ => nm? sc "range" g && mE N sc e a && !star? a && mE N sc h b && !star? b
  | 3, [e], .Call g [a] [] _ => nm? sc "enumerate" g && mE N sc e a && !star? a
  | 4, [e, h], .Call g [a, b] [] _ => nm? sc "zip" g && mE N sc e a && !star? a && mE N sc h b && !star? b
  | _, _, _ => false
end
end Z
namespace Z
open PySem PySem.Spec PyProof.Rows L2

/-! ### a method that says super(): its closure is the class's cell -/
def cxS (CX : CXT) (P : Program) (w : World) (K : PySem.W.Frag) (mg : Str → Option Value) (base : Heap) (N : List Str) (qual : Str) (scope : Scope) (f : Addr) (cd : Value) (cc : Addr) (A : Around) (outer : List Env) (s : Shared) (H : Hp) (E : XK) : Cx where
  prog := P
  w := w
  K := K
  mg := mg
  base := base
  A := A.deeper (PySem.W.ksEnv qual scope s.heap.objs.size f cd cc)
  N := N
  s_0 := s
  H_0 := H
  env := PySem.W.ksEnv qual scope s.heap.objs.size f cd cc
  outer := outer
  stack := PySem.W.ksEnv qual scope s.heap.objs.size f cd cc :: outer
  ex := []
  calm := true
  fn := fun _ => false
  pn := []
  xe := fun e s' => wpAny (model P w) (A.deeper (PySem.W.ksEnv qual scope s.heap.objs.size f cd cc)) (leaving (PySem.W.ksEnv qual scope s.heap.objs.size f cd cc) e) (fun _ s'' => CX outer H s E e s'') (fun e' s'' => CX outer H s E e' s'') s'

structure KsScope (N P : List Str) (sc : Scope) : Prop where
  kind : sc.kind = .function
  co : sc.isCoroutine = false
  gen : sc.isGenerator = false
  nd : N.Nodup
  pre : N.take P.length = P
  par : ∀ x ∈ P, sc.names.lookup x = some .local
  nocell : ∀ y ∈ sc.names, y.2 ≠ .cell
  free : ∀ y ∈ sc.names, y.2 = .free → y.1 = ("__class__" : Str)

theorem look_of {y : Str} {u : Value} : ∀ {l : List (Str × Value)}, (y, u) ∈ l → (∀ u', (y, u') ∈ l → u' = u) → l.lookup y = some u
  | [], h, _ => absurd h (by simp)
  | (z, w) :: l, h, k => by
    by_cases e : y = z
    · subst e
      have := k w (List.mem_cons_self ..)
      subst this
      simp [List.lookup]
    · have b : (y == z) = false := by simpa using e
      simp only [List.lookup, b]
      refine look_of ?_ fun u' h' => k u' (List.mem_cons_of_mem _ h')
      rcases List.mem_cons.mp h with q | q
      · cases q; exact absurd rfl e
      · exact q
theorem rev_look {ps : List Str} {us : List Value} {i : Nat} {y : Str} {u : Value} (nd : ps.Nodup) (h1 : ps[i]? = some y) (h2 : us[i]? = some u) : (ps.zip us).reverse.lookup y = some u := by
  refine look_of (List.mem_reverse.mpr ?_) fun u' h' => ?_
  · exact List.mem_of_getElem? (List.getElem?_zip_eq_some.mpr ⟨h1, h2⟩ : (ps.zip us)[i]? = some (y, u))
  · obtain ⟨j, hj⟩ := List.getElem?_of_mem (List.mem_reverse.mp h')
    obtain ⟨a, b⟩ := List.getElem?_zip_eq_some.mp hj
    have e := nodup_ix nd a h1
    subst e
    rw [h2] at b
    exact (Option.some.inj b).symm

theorem inv_startS {CX : CXT} {P : Program} {w : World} {K : PySem.W.Frag} {mg : Str → Option Value} {base : Heap} {N ps : List Str} {qual : Str} {scope : Scope} {f cc : Addr} {cd : Value} {A : Around} {outer : List Env} {s : Shared} {h1 : Heap} {tk : Nat} {H : Hp} {E : XK} {us : List Value} {vs : List V}
    {cl : Value} {cld : Option Addr} {cv : Option Value} {csl : Array (Option Value)}
    (S : KsScope N ps scope) (lc : K.lookup cc = some ⟨cl, cld, .cell cv, csl⟩) (hd : A.handled = none) (e0 : Env0 P w K mg base A outer s H) (hl : vs.length = ps.length) (r : Vals vs us)
    (hns : h1.Ns s.heap.objs.size (fun x => (ps.zip us).reverse.lookup x)) (hk : ∀ b o, s.heap.get? b = some o → h1.get? b = some o) :
    Inv (cxS CX P w K mg base N qual scope f cd cc A outer s H E) [] (L2.start N vs) H { s with heap := h1, toks := tk } := by
  have hpl : ps.length ≤ N.length := by have := congrArg List.length S.pre; rw [List.length_take] at this; omega
  have noA : ∀ b : Addr, b ∉ (cxS CX P w K mg base N qual scope f cd cc A outer s H E).ex := fun b z => absurd (show b ∈ ([] : List Addr) from z) (by simp)
  have one : ∀ {x : Str} {c : Addr}, (cxS CX P w K mg base N qual scope f cd cc A outer s H E).env.cells.lookup x = some c → x = ("__class__" : Str) ∧ c = cc := fun {x c} h => by
    have h' : ([(("__class__" : Str), cc)] : List (Str × Addr)).lookup x = some c := h
    by_cases e : x = ("__class__" : Str)
    · rw [e] at h'
      have : some cc = some c := h'
      exact ⟨e, (Option.some.inj this).symm⟩
    · have b : (x == ("__class__" : Str)) = false := by simpa using e
      simp only [List.lookup, b] at h'
      cases h'
  have bc : base.get? cc = some ⟨cl, cld, .cell cv, csl⟩ := e0.mod.kin _ _ lc
  refine ⟨⟨e0.mod, S.kind, rfl, rfl, Nat.le_refl _, fun y z c h1 h2 => (one h1).1.trans (one h2).1.symm, fun y hy => ?_, fun y c h _ => (by cases h), fun _ => hd, Around.frames_deeper e0.frames, .inr ⟨rfl, rfl⟩, fun b z => absurd z (noA b), e0.bs, e0.bsz, fun b _ _ => noA b, fun b z => absurd z (noA b), e0.funs, e0.frf⟩,
    rfl, e0.bare, Un.kept hk, ⟨_, hns, fun i y v h1 h2 h3 => ?_⟩, fun y c h => ?_, e0.hok.fresh (Nat.le_refl _), fun y c h => ?_, fun p hp => absurd (show p ∈ ([] : List (Addr × Obj)) from hp) (by simp), e0.hok.kept hk, ?_⟩
  · have hy : scope.names.lookup y = some .cell ∨ scope.names.lookup y = some .free := hy
    rcases hy with hy | hy
    · exact absurd rfl (S.nocell _ (PySem.mem_of_lookup hy))
    · have e := S.free _ (PySem.mem_of_lookup hy) rfl
      have e' : y = ("__class__" : Str) := e
      exact ⟨cc, by rw [e']; rfl⟩
  · have hi : i < vs.length := by
      unfold L2.start at h2
      by_cases hi : i < vs.length
      · exact hi
      · rw [List.getElem?_append_right (by simpa using hi)] at h2
        rw [List.getElem?_replicate] at h2
        split at h2 <;> cases h2
    have ha : vs[i]? = some v := by
      unfold L2.start at h2
      rw [List.getElem?_append_left (by simpa using hi), List.getElem?_map] at h2
      cases e : vs[i]? with
      | none => rw [e] at h2; cases h2
      | some a => rw [e] at h2; cases h2; rfl
    obtain ⟨u, hu, rv⟩ := r.get ha
    have hp : ps[i]? = some y := by
      rw [← S.pre, List.getElem?_take_of_lt (by omega)]; exact h1
    have ndP : ps.Nodup := by rw [← S.pre]; exact S.nd.sublist (List.take_sublist _ _)
    exact ⟨u, rv, .inl ⟨S.par y (List.mem_of_getElem? hp), rev_look ndP hp hu⟩⟩
  · obtain ⟨_, rfl⟩ := one h
    exact ⟨cv, ⟨_, hk _ _ (e0.bs _ _ bc).1, rfl⟩⟩
  · obtain ⟨_, rfl⟩ := one h
    exact (e0.bs _ _ bc).2
  · unfold L2.start
    show _ = N.length
    rw [List.length_append, List.length_map, List.length_replicate]
    omega

/-- a method with the class's cell, by its body -/
theorem fn_ofS {CX : CXT} {P : Program} {w : World} {K : PySem.W.Frag} {mg : Str → Option Value} {base : Heap} {k : Nat} {f cc : Addr} {name qual : Str} {params : Arguments} {body : List Stmt} {scope : Scope} {dV kV doc pm cdv ct oc cl : Value} {cv : Option Value} {an od cld : Option Addr}
    {osl csl : Array (Option Value)} {N ps : List Str} {sp : Sp} (lk : K.lookup f = some ⟨oc, od, .func (PySem.W.ksFn name qual params body scope dV kV doc pm an cdv ct cc), osl⟩) (hcd : PySem.W.codeIn K cdv qual = true) (lc : K.lookup cc = some ⟨cl, cld, .cell cv, csl⟩) (S : KsScope N ps scope)
    (len : ∀ vs H Q E, sp vs H Q E → vs.length = ps.length)
    (hbody : ∀ (A : Around) (outer : List Env) (s : Shared) (H : Hp) (vs : List V) (Q : VK) (E : XK) (s1 : Shared), A.units + 64 < cLine → sp vs H Q E →
      Inv (cxS CX P w K mg base N qual scope f cdv cc A outer s H E) [] (L2.start N vs) H s1 →
      _root_.PySem.wpAt (model P w) (cxS CX P w K mg base N qual scope f cdv cc A outer s H E).A (.func body (PySem.W.ksEnv qual scope s.heap.objs.size f cdv cc)) (execs body (PySem.W.ksEnv qual scope s.heap.objs.size f cdv cc))
        (SP (cxS CX P w K mg base N qual scope f cdv cc A outer s H E) [] { nx := fun _ H' => Q .non H', rt := Q }) (cxS CX P w K mg base N qual scope f cdv cc A outer s H E).xe s1) :
    FnOk P w K mg base CX k f (PySem.W.ksFn name qual params body scope dV kV doc pm an cdv ct cc) ps sp := by
  refine ⟨len, fun A outer s H args us vs Q E hr e0 hb r hsp => ?_⟩
  have hl := len _ _ _ _ hsp
  have KX : K.In s.heap := e0.mod.kin.keeps fun b o e => (e0.bs b o e).1
  have lim : s.heap.NoLimit := e0.mod.nolimit.keeps fun b o e => (e0.bs b o e).1
  refine PySem.ks_codeAny_call_defAt (body := body) (binds := ps.zip us) hr.depth (KX _ _ lk) rfl lim (PySem.W.codeRec_of KX hcd) rfl hb S.nocell (fun ⟨n, v⟩ hy => S.par n (List.of_mem_zip hy).1) (fun h1 hns hk => ?_) S.co S.gen S.kind
  have I : Inv (cxS CX P w K mg base N qual scope f cdv cc A outer s H E) [] (L2.start N vs) H { s with heap := h1, toks := s.toks + (ps.zip us).length } := inv_startS S lc hr.hd e0 hl r hns hk
  refine PySem.ks_wpAt_mono (hbody A outer s H vs Q E _ hr.units hsp I) (fun fl s' hs => ?_) fun e s' hs => hs
  have fin : ∀ {σ' : L2.St} {H' : Hp} {v : V} {u : Value}, Inv (cxS CX P w K mg base N qual scope f cdv cc A outer s H E) [] σ' H' s' → RelV v u → Q v H' → CE outer P w H s Q u s' :=
    fun {σ' H' v u} J rv q => ⟨v, H', J.os, J.bare, J.base, J.hok, rv, q⟩
  cases fl with
  | ret u =>
    obtain ⟨v, σ', H', J, rv, q⟩ := hs
    exact fin J rv q
  | next =>
    obtain ⟨σ', H', J, q⟩ := hs
    exact fin (v := V.non) (u := Value.none) J rfl q
  | brk =>
    obtain ⟨_, _, _, q⟩ := hs
    exact False.elim q
  | cont =>
    obtain ⟨_, _, _, q⟩ := hs
    exact False.elim q
end Z
namespace Z
open PySem PySem.Spec PyProof.Rows L2

/-- super().__init__ of ValueError, bound, called -/
theorem call_mw {prog : Program} {w : World} {A : Around} {E : Value → Shared → Prop} {h : Heap} {g : Array GenState} {d : Drawn} {t : Nat} {os : OsState}
    {nm q : Str} {C N : Addr} {bs bm bmB : List Value} {hdct : Bool} {sn : List Str} {sub : List Value} {ab : Bool} {col : Option Bool} {dd : Option Addr} {k0 k1 k2 k3 k5 : Option Value} {B newId i : String} {u e t0 : Addr} {rest : List Value} {Q : Value → Shared → Prop}
    (FB : ExcBaseFacts B newId i bmB)
    (hC : h.get? C = some (excClassObj nm q C N bs bm hdct sn sub ab col dd k0 k1 k2 k3 k5 newId)) (he : h.get? e = some (PySem.W.excObj C t0 none .none)) (hu : h.get? u = some (PySem.W.kxs_mw i e)) (hrest : rest.length ≤ sizeLine)
    (hq : ∀ h' t1, (∀ b o, b ≠ e → h.get? b = some o → h'.get? b = some o) → h'.get? e = some (PySem.W.excObj C t1 none .none) → Q .none ⟨h', g, d, t, os⟩) :
    wpAny (model prog w) A (call (.ref u) rest) Q E ⟨h, g, d, t, os⟩ := by
  refine wpAny_call (codeAny_of_tree ?_)
  show wpAny _ A.in1 (callAny (.ref u) ⟨rest, []⟩) _ _ _
  simp only [callAny]
  refine wpAny_bind (wpAny_load hu ?_)
  simp only [PySem.W.kxs_mw, show (Value.type "method-wrapper" == Value.type "method" || Value.type "method-wrapper" == Value.type "builtin_function_or_method" || Value.type "method-wrapper" == Value.type "method-wrapper") = true by decide, if_true]
  refine PySem.W.KFB.if_so (by decide) ?_
  refine wpAny_bind (PySem.W.check_bound_init FB.toExcCallFacts hC he rfl ?_)
  refine wpAny_bind (wpAny_pure (wpAny_pure ?_))
  refine ⟨plainId_quiet FB.init.plain _, codeAny_builtin FB.initEntry ?_⟩
  exact PySem.W.exc_init_tree (cls := .ref C) (t0 := t0) (dv := none) (c2 := .none) (c3 := .none) (b4 := .bool false) he hrest fun h' k e' _ => hq h' _ k e'

/-- what the text and the class say of an __init__ with super() -/
structure KsInit (P : Program) (K : PySem.W.Frag) (mg : Str → Option Value) (N : List Str) (scope : Scope) (f cc cda C : Addr) (sf : Str) : Prop where
  fd : ∃ oc od fd osl ar, K.lookup f = some ⟨oc, od, .func fd, osl⟩ ∧ (fd.params.posonlyargs ++ fd.params.args).head? = some ar ∧ ar.arg = sf
  n0 : N[0]? = some sf
  loc : scope.names.lookup sf = some .local
  sup : scope.names.lookup ("super" : Str) = some .globalImplicit
  cls : scope.names.lookup ("__class__" : Str) = some .free
  code : ∃ ccl cdd vs ccs file tf, K.lookup cda = some ⟨ccl, cdd, .fields vs, ccs⟩ ∧ vs[2]? = some (.str file tf) ∧ ((P.main.file : Str) == file) = true
  cell : ∃ cl cld csl, K.lookup cc = some ⟨cl, cld, .cell (some (.ref C)), csl⟩
  mgs : mg ("super" : Str) = none
  top : (P.main.scope.names.lookup ("super" : Str)).isSome = false
  thd : PySem.W.nsIn K cStatics "thirdparty.any" = some none
  oex : OexC K C
  sin : PySem.W.ks_superIn K C C "__init__" = some (some (.builtin "ValueError.__init__"))
  own : PySem.W.mroIn K C (.ref C) = some true
  sub : PySem.W.subIn K (.ref C) (.type "ValueError") = some true

theorem st_super {CX : CXT} {P : Program} {w : World} {K : PySem.W.Frag} {mg : Str → Option Value} {base : Heap} {N : List Str} {qual : Str} {scope : Scope} {f cc cda C a : Addr} {sf : Str} {A : Around} {outer : List Env} {s0 s : Shared} {H0 H : Hp} {E0 : XK} {σ : L2.St}
    {body : List Stmt} {e : Expr} {te : TE} {p0 p1 p2 p3 p4 : Pos} {pl : Sem Bool} {Q : Hp → Prop}
    (F : KsInit P K mg N scope f cc cda C sf) (I : Inv (cxS CX P w K mg base N qual scope f (.ref cda) cc A outer s0 H0 E0) [] σ H s) (hσ : σ[0]? = some (some (.ref a))) (ea : H a = some (exo a C none))
    (he : PE (cxS CX P w K mg base N qual scope f (.ref cda) cc A outer s0 H0 E0) e te)
    (h : te σ H fun v H1 => [v].length = 1 ∧ H1 a = some (exo a C none) ∧ Q H1)
    (hev : eval (.Call (.Attribute (.Call (.Name "super" p0) [] [] p1) "__init__" p2) [e] [] p3) (cxS CX P w K mg base N qual scope f (.ref cda) cc A outer s0 H0 E0).env = (do
      let ov ← attributeBase (.Call (.Name "super" p0) [] [] p1) "__init__" (cxS CX P w K mg base N qual scope f (.ref cda) cc A outer s0 H0 E0).env (eval (.Call (.Name "super" p0) [] [] p1) (cxS CX P w K mg base N qual scope f (.ref cda) cc A outer s0 H0 E0).env)
      standAt p2.atName
      let (fx, first) ← holding [ov] (getMethod ov "__init__" pl)
      callWith p3 fx first (backTo p3 (starEach [e] (cxS CX P w K mg base N qual scope f (.ref cda) cc A outer s0 H0 E0).env)) []))
    (hsw : swapsWith (.Call (.Attribute (.Call (.Name "super" p0) [] [] p1) "__init__" p2) [e] [] p3) none p4.line (cxS CX P w K mg base N qual scope f (.ref cda) cc A outer s0 H0 E0).env = pure false)
    (hst : starEach [e] (cxS CX P w K mg base N qual scope f (.ref cda) cc A outer s0 H0 E0).env = (false, eval e (cxS CX P w K mg base N qual scope f (.ref cda) cc A outer s0 H0 E0).env) :: starEach [] (cxS CX P w K mg base N qual scope f (.ref cda) cc A outer s0 H0 E0).env) :
    _root_.PySem.wpAt (model P w) (cxS CX P w K mg base N qual scope f (.ref cda) cc A outer s0 H0 E0).A (.func body (PySem.W.ksEnv qual scope s0.heap.objs.size f (.ref cda) cc))
      (exec (.Expr (.Call (.Attribute (.Call (.Name "super" p0) [] [] p1) "__init__" p2) [e] [] p3) p4) (PySem.W.ksEnv qual scope s0.heap.objs.size f (.ref cda) cc))
      (fun fl s' => fl = .next ∧ ∃ H', Inv (cxS CX P w K mg base N qual scope f (.ref cda) cc A outer s0 H0 E0) [] σ H' s' ∧ Q H') (cxS CX P w K mg base N qual scope f (.ref cda) cc A outer s0 H0 E0).xe s := by
  obtain ⟨oc, od, fd, osl, ar, lkf, hp, har⟩ := F.fd
  obtain ⟨ccl, cdd, vs, ccs, file, tf, lkd, hvs, hfile⟩ := F.code
  obtain ⟨cl, cld, csl, lkc⟩ := F.cell
  obtain ⟨⟨nm, q, Na, bs, bm, sn, sub, ab, col, dd, k0, k1, k2, k3, k5, hC, hbm⟩, sa, exC, tyC, kC⟩ := F.oex
  have X := I.kIn
  have X' : K.In s.heap := X
  obtain ⟨t1, hx⟩ := exo_at I.hok ea
  have hkd : scope.kind = .function := I.ok.kind
  have hcl : PySem.W.clsIn K C = some { name := nm, bases := bs, mro := .ref C :: bm, ns := Na, qualname := q, hasDict := true, slotNames := sn, subclasses := sub, abstract := ab, collection := col, hasDel := false } := by unfold PySem.W.clsIn; rw [hC] <;> rfl
  obtain ⟨m, hns, hlo⟩ := I.loc
  obtain ⟨u, ru, lu⟩ := hlo 0 sf (.ref a) F.n0 hσ (.inl F.loc)
  obtain rfl : u = Value.ref a := ru
  have hma : m sf = some (.ref a) := by
    rcases lu with ⟨_, z⟩ | ⟨z, _⟩
    · exact z
    · have z' : scope.names.lookup sf = some .cell ∨ scope.names.lookup sf = some .free := z
      rw [F.loc] at z'
      rcases z' with z' | z' <;> cases z'
  obtain ⟨mb, hb1, hb2⟩ := I.mod.blt
  refine PySem.ks_wpAt_Expr_any (PySem.ks_wpAt_mono (Q := fun _ s' => ∃ H', Inv (cxS CX P w K mg base N qual scope f (.ref cda) cc A outer s0 H0 E0) [] σ H' s' ∧ Q H') (PySem.ks_wpAt_MethodCall ?_ hev) (fun _ s' z => ⟨rfl, z⟩) (fun _ _ z => z)) (by show ((scope.kind == .module) && _) = false; rw [hkd]; rfl) hsw
  refine PySem.ks_wpAt_super_base (env := PySem.W.ksEnv qual scope s0.heap.objs.size f (.ref cda) cc) F.sup F.cls (by decide) rfl (X' _ _ lkf) rfl hp rfl (X' _ _ lkd) rfl hvs hfile F.top ?_
  rw [har]
  refine PySem.W.ks_loadName_global hkd F.sup (Calls.loadGlobal_builtin (env := PySem.W.ksEnv qual scope s0.heap.objs.size f (.ref cda) cc) (I.mod.glob.keeps I.bk) F.mgs (hb1.keeps I.bk) ((hb2 "super" (by decide)).trans rfl) ⟨rfl, ?_⟩)
  refine wpAny_loadName_free hkd F.cls rfl ⟨_, X' _ _ lkc, rfl⟩ ?_
  refine wpAny_loadName_local hkd F.loc hns hma ?_
  have hCh : s.heap.get? C = some (excClassObj nm q C Na bs bm true sn sub ab col dd k0 k1 k2 k3 k5 "ValueError.__new__") := X' _ _ hC
  refine PySem.ks_wpAny_isType_cls hCh rfl ⟨rfl, ?_⟩
  obtain ⟨hh, g, d, t, os⟩ := s
  refine PySem.ks_wpAny_call_super hCh rfl hx rfl (fun c z => (by cases z)) (PySem.W.looks_mroIn X' F.own) (fun h' e1 k1 => ?_)
  have I1 : Inv (cxS CX P w K mg base N qual scope f (.ref cda) cc A outer s0 H0 E0) [] σ H ⟨h', g, d, t, os⟩ := I.kept (t' := t) k1
  have X1 : K.In h' := I1.kIn
  have IA : PySem.W.InstAt h' a ({ cls := .ref C, dict := none, data := .fields #[.ref t1, .none, .none, .none, .bool false, .none] } : Obj) C none := ⟨k1 _ _ hx, rfl, rfl, trivial⟩
  have hsin : PySem.W.alongIn K "__init__" (((Value.ref C :: bm).dropWhile (· != .ref C)).drop 1) = some (some (.builtin "ValueError.__init__")) := by
    have z := F.sin
    unfold PySem.W.ks_superIn at z
    rw [hcl] at z
    exact z
  refine PySem.W.kxs_getMethod (K := K) PySem.W.kxs_ValueError (l₀ := Value.ref C :: bm) e1 (PySem.W.looks_opaque X1 F.thd) (fun A Q E s k q => wpAny_bind ((PySem.W.looks_clsIn X1 hcl) A _ E s k (wpAny_pure q))) rfl X1 hsin
    (IA.type.andThen (PySem.W.looks_subIn X1 F.sub)) (PySem.W.ks_ne X1 IA hcl) (by decide) ?_
  have k2 : ∀ b o, h'.get? b = some o → (h'.push (PySem.W.kxs_mw "ValueError.__init__" a)).get? b = some o := fun b o z => Heap.get?_push_of_some _ z
  have I2 : Inv (cxS CX P w K mg base N qual scope f (.ref cda) cc A outer s0 H0 E0) [(h'.objs.size, PySem.W.kxs_mw "ValueError.__init__" a)] σ H ⟨h'.push (PySem.W.kxs_mw "ValueError.__init__" a), g, d, t + 1, os⟩ :=
    ClX.pin_new (t' := t + 1) I1 k2 (Nat.le_refl _) (Heap.get?_push_size h' rfl) (fun v z => nomatch z)
  have hpl : (backTo p3 (starEach [] (cxS CX P w K mg base N qual scope f (.ref cda) cc A outer s0 H0 E0).env)).any (·.1) = false := rfl
  show wpAny (model P w) _ (callWith p3 (.ref h'.objs.size) [] (backTo p3 (starEach [e] (cxS CX P w K mg base N qual scope f (.ref cda) cc A outer s0 H0 E0).env)) []) _ _ _
  have hrun := (pa_cons (X := cxS CX P w K mg base N qual scope f (.ref cda) cc A outer s0 H0 E0) he pa_nil hst).run p3 _ _ σ H (fun vs H1 => vs.length = 1 ∧ H1 a = some (exo a C none) ∧ Q H1) I2 h
  refine PySem.W.kxs_callWith (i := "ValueError.__init__") (x := a) (by rw [hst]; exact hpl) ?_
  rw [hst] at hrun ⊢
  refine Calls.evalArgs_plain (thn hrun fun us s1 ⟨vs, H1, I3, r, hl, ea1, hq⟩ => ?_)
  have hu := ClX.pin_at I3
  obtain ⟨t2, hx2⟩ := exo_at I3.hok ea1
  refine ⟨hu, ?_⟩
  obtain ⟨h3, g3, d3, t3, os3⟩ := s1
  have hlen : us.length ≤ sizeLine := by
    rw [← Paired.length r, hl]
    decide
  refine call_mw PySem.F.excBase_ValueError (I3.kIn _ _ hC) hx2 hu hlen fun h4 t4 k4 e4 => ?_
  have J := I3.write (t' := t3) (x := a) (e := a) (o := exo a C none) (by rw [ea1]; exact True.intro) (.inl rfl) k4 ⟨_, e4⟩ (exo_ok e4)
  have eu : upd H1 a (exo a C none) = H1 := by
    funext b
    by_cases hb : b = a
    · rw [hb, upd_same, ea1]
    · rw [upd_ne hb]
  rw [eu] at J
  exact ⟨H1, ClX.unpin J, hq⟩
end Z
namespace Z
open PySem PySem.Spec PyProof.Rows L2
section
variable {prog : Program} {w : World} {A : Around} {E : Value → Shared → Prop} {s : Shared}
theorem list_way : ("[...]" : Str).length ≤ 5 := by decide +kernel
open PySem.Sem in
theorem list_repr_any {a : Addr} {oa : Obj} {x : Value} {l : List Value} {na : Nat} {ts : List Str} {R : Result → Shared → Prop}
    (ha : s.heap.get? a = some oa) (hda : oa.data = .seq (x :: l).toArray na) (hlen : ts.length = (x :: l).toArray.size)
    (hT : ∀ (i : Nat) (y : Value), (x :: l).toArray[i]? = some y → ∃ t, ts[i]? = some t ∧ ReprIs prog w y t)
    (hR : ∀ (m : Str) h' u tk, m.length ≤ (listText ts).length + 5 → (∀ b o, s.heap.get? b = some o → h'.get? b = some o) → R (.ok (.ret (.str m u))) { s with heap := h', toks := tk })
    (hsz : (listText ts).length ≤ sizeLine) :
    wpAny (model prog w) A.in1 (Builtin.listReprAt 0 ⟨[.ref a], []⟩)
      (fun fin s' => match fin with | .done f => R (.ok f) s' | .again c' => c'.quiet = true ∧ codeAny (model prog w) A c' R s') (fun e s' => R (.error e) s') s := by
  have go : wpAny (model prog w) A.in1 (do PySem.again (.builtin "list.__repr__.loop" ⟨[.ref a, rawInt 0, ← newList [], rawInt 0], []⟩) : Sem Fin)
      (fun fin s' => match fin with | .done f => R (.ok f) s' | .again c' => c'.quiet = true ∧ codeAny (model prog w) A c' R s') (fun e s' => R (.error e) s') s := by
    refine wpAny_bind (m := newList []) (wpAny_newObj_type ?_)
    refine wpAny_pure ⟨F.quiet_list_repr_loop _, ?_⟩
    refine codeAny_list_repr_start (P := s.heap.objs.size) (b := 0) (Nat.ne_of_lt (Heap.lt_size ha)) hlen hT (Heap.get?_push_of_some _ ha) hda (Heap.get?_push_size _ rfl) (fun h' u tk hk => ?_) (by omega)
    exact hR _ h' u tk (Nat.le_add_right _ _) fun b o e => hk b o (Nat.ne_of_lt (Heap.lt_size e)) (Heap.get?_push_of_some _ e)
  intro Γ p hΓ
  have h1 := go Γ p hΓ
  unfold Builtin.listReprAt
  simp [slotArgs, Builtin.List.listItems, seqItems?, wp_load_of (h := ha), hda, PySem.stack]
  show wp _ Γ (if (Γ.below.any _) = true then _ else _) _ _ p s
  split
  · have h2 : wpAny (model prog w) A.in1 (do PySem.rule "list.__repr__.in-itself"; PySem.retStr "[...]" : Sem Fin)
        (fun fin s' => match fin with | .done f => R (.ok f) s' | .again c' => c'.quiet = true ∧ codeAny (model prog w) A c' R s') (fun e s' => R (.error e) s') s := by
      refine wpAny_bind (wpAny_rule ?_)
      refine wpAny_bind (wpAny_mkStr (wpAny_pure ?_) (by decide +kernel))
      exact hR "[...]" s.heap _ _ (Nat.le_trans list_way (Nat.le_add_left _ _)) fun _ _ h => h
    exact h2 Γ p hΓ
  · exact h1
theorem call_list_any {a : Addr} {oa : Obj} {x : Value} {l : List Value} {na : Nat} {ts : List Str} {Q : Value → Shared → Prop}
    (ha : s.heap.get? a = some oa) (hc : oa.cls = .type "list") (hda : oa.data = .seq (x :: l).toArray na) (hlen : ts.length = (x :: l).toArray.size)
    (hT : ∀ (i : Nat) (y : Value), (x :: l).toArray[i]? = some y → ∃ t, ts[i]? = some t ∧ ReprIs prog w y t)
    (hQ : ∀ (m : Str) h' u tk, m.length ≤ (listText ts).length + 5 → (∀ b o, s.heap.get? b = some o → h'.get? b = some o) → Q (.str m u) { s with heap := h', toks := tk })
    (hsz : (listText ts).length ≤ sizeLine) : wpAny (model prog w) A (call (.builtin "list.__repr__") [.ref a]) Q E s :=
  wpAny_call (codeAny_call_builtin PySem.F.slot_list_repr.plain PySem.F.entry_list_repr (PySem.F.slot_list_repr.check _ _ _ _ _ _ _ _ ⟨oa, ha, hc⟩ (PySem.F.args_list_repr_1 _)
    (list_repr_any (R := fun r s' => match r with | .ok (.ret v) => Q v s' | .ok _ => False | .error e => E e s') ha hda hlen hT hQ hsz)))
theorem fmt_list {a : Addr} {oa : Obj} {x : Value} {l : List Value} {na : Nat} {ts : List Str} {Q : Value → Shared → Prop} (hu : A.units + 2 < cLine)
    (ha : s.heap.get? a = some oa) (hc : oa.cls = .type "list") (hda : oa.data = .seq (x :: l).toArray na) (hlen : ts.length = (x :: l).toArray.size)
    (hT : ∀ (i : Nat) (y : Value), (x :: l).toArray[i]? = some y → ∃ t, ts[i]? = some t ∧ ReprIs prog w y t)
    (hQ : ∀ (m : Str) h' u tk, m.length ≤ (listText ts).length + 5 → (∀ b o, s.heap.get? b = some o → h'.get? b = some o) → Q (.str m u) { s with heap := h', toks := tk })
    (hsz : (listText ts).length ≤ sizeLine) : wpAny (model prog w) A (formatField (.ref a) Str.empty) Q E s :=
  wpAny_formatField_slot (fun _ _ => nofun) hu ⟨oa, ha, hc⟩ PySem.F.slot_list_format PySem.F.slot_list_str PySem.F.slot_list_repr.toG
    (call_list_any (s := { s with toks := s.toks + 1 }) ha hc hda hlen hT (fun m h' u tk hm k => ⟨m, u, rfl, hQ m h' u tk hm k⟩) hsz)
end
end Z
namespace Z
open PySem PySem.Spec PyProof.Rows L2

/-- a value that an f-string tells in a bounded text -/
def PrV (K : PySem.W.Frag) (H : Hp) : V → Prop
  | .str y => y.length ≤ 1000000
  | .int i => i.natAbs.log2 < 1920
  | .non => True
  | .bl _ => True
  | .ref a => ∃ i : Int, i.natAbs.log2 < 1920 ∧ (SqL K H a [.int i] ∨ SqT K H a [.int i])
  | _ => False
theorem PrV.ext {K : PySem.W.Frag} {H H' : Hp} {v : V} (h : PrV K H v) (e : ∀ b o, H b = some o → H' b = some o) : PrV K H' v := by
  cases v with
  | ref a =>
    obtain ⟨i, hi, h⟩ := h
    refine ⟨i, hi, ?_⟩
    rcases h with (((h | ⟨o, h⟩) | h) | ((h | ⟨o, h⟩) | h))
    · exact .inl (.inl (.inl (e _ _ h)))
    · exact .inl (.inl (.inr ⟨o, e _ _ h⟩))
    · exact .inl (.inr h)
    · exact .inr (.inl (.inl (e _ _ h)))
    · exact .inr (.inl (.inr ⟨o, e _ _ h⟩))
    · exact .inr (.inr h)
  | _ => exact h
def tFmtS (K : PySem.W.Frag) (te : TE) : TE := fun σ H Q => te σ H fun x H1 => PrV K H1 x ∧ ∀ y : Str, y.length ≤ 1000000 → Q (.str y) H1
theorem len1 (t : Str) (h : t.length ≤ 2000) : (listText [t]).length + 5 ≤ 1000000 ∧ (tupleText [t]).length + 5 ≤ 1000000 := by
  have e1 : (listText [t]).length = t.length + 2 := by
    unfold listText
    simp only [textFrom]
    rw [PySem.Str.length_append, PySem.Str.length_append, PySem.Str.length_append]
    have z1 : ((("[" : String) : Str)).length = 1 := rfl
    have z2 : ((("]" : String) : Str)).length = 1 := rfl
    have z3 : ((("" : String) : Str)).length = 0 := rfl
    simp [z1, z2, z3]
    omega
  have e2 : (tupleText [t]).length = t.length + 3 := by
    unfold tupleText
    rw [PySem.Str.length_append, PySem.Str.length_append]
    have z1 : ((("(" : String) : Str)).length = 1 := rfl
    have z2 : (Str.join ", " [t]).length + 2 = t.length + 2 := by rw [join_length_add [t] (by simp)]; simp [piled]
    have z3 : (((if ([t] : List Str).length == 1 then ",)" else ")" : String) : Str)).length = 2 := rfl
    rw [z1, z3]
    omega
  omega
section
variable {X : Cx}
theorem pe_fmtS {e : PySem.Expr} {te : TE} {pos : Pos} (hu : X.A.units + 2 < cLine) (he : PE X e te) : PE X (.FormattedValue e (-1) none pos) (tFmtS X.K te) := by
  refine ⟨fun pins s σ H Q I h => ?_⟩
  refine wpAny_FormattedValue_plain (thn (he.run pins s σ H _ I h) fun v s1 hv => ?_)
  obtain ⟨x, H1, I1, r1, hp, q⟩ := hv
  cases x with
  | str y =>
    obtain ⟨t, rfl⟩ := r1
    exact wpAny_formatField_str ⟨.str y, H1, I1, ⟨t, rfl⟩, q y hp⟩ ⟨.str y, H1, I1.tok _, ⟨_, rfl⟩, q y hp⟩ (Nat.le_trans hp (by rw [sizeLine_eq]; decide))
  | int i =>
    obtain ⟨t, rfl⟩ := r1
    refine wpAny_formatField_int hp ⟨.str (toString i), H1, I1.tok _, ⟨_, rfl⟩, q _ ?_⟩
    have e := PySem.int_text_length_le (k := 1920) (by decide) hp
    rw [PySem.ofString_length]
    omega
  | non =>
    obtain rfl := r1
    exact wpAny_formatField_none ⟨.str "None", H1, I1.tok _, ⟨_, rfl⟩, q _ (by decide)⟩
  | bl b =>
    obtain rfl := r1
    exact wpAny_formatField_bool ⟨.str (if b then "True" else "False"), H1, I1.tok _, ⟨_, rfl⟩, q _ (by cases b <;> decide)⟩
  | ref a =>
    obtain rfl : v = Value.ref a := r1
    obtain ⟨i, hi, hp⟩ := hp
    have e := PySem.int_text_length_le (k := 1920) (by decide) hi
    have e2 : ((toString i : String) : Str).length ≤ 2000 := by rw [PySem.ofString_length]; omega
    obtain ⟨l1, l2⟩ := len1 _ e2
    rcases hp with hp | hp
    · obtain ⟨its, rv, ⟨o, n, ho, hcl, _, hd⟩, _⟩ := I1.list hp
      cases rv with
      | cons r1 r2 =>
        cases r2
        obtain ⟨t, rfl⟩ := r1
        refine fmt_list (ts := [((toString i : String) : Str)]) hu ho hcl hd rfl (fun j y hj => ?_) (fun m h' u tk hm hk => ?_) (by rw [sizeLine_eq]; omega)
        · cases j with
          | zero => simp at hj; subst hj; exact ⟨_, rfl, ReprIs.int t hi⟩
          | succ j => simp at hj
        · exact ⟨.str m, H1, I1.kept hk, ⟨_, rfl⟩, q m (by omega)⟩
    · obtain ⟨its, rv, ⟨o, ho, hcl, n, hd⟩, _⟩ := I1.tuple hp
      cases rv with
      | cons r1 r2 =>
        cases r2
        obtain ⟨t, rfl⟩ := r1
        exact fmt_tuple (ts := [((toString i : String) : Str)]) hu ho hcl hd (.cons (ReprIs.int t hi) .nil) (by rw [sizeLine_eq]; omega) fun m u tk hm => ⟨.str m, H1, I1.tok _, ⟨u, rfl⟩, q m (by omega)⟩
  | _ => exact hp.elim
/-- a text and one value -/
theorem pe_msg {m : Str} {i : Nat} {x : Str} {j : Nat} {p0 p1 p2 pos : Pos} (hu : X.A.units + 2 < cLine) (hN : X.N[i]? = some x) (hv : Vis X.env.scope x) (hm : m.length ≤ 1000) (hd : (x == ("__debug__" : Str)) = false := by decide) (hcd : (x == ("__classdict__" : Str)) = false := by decide) :
    PE X (.JoinedStr [.Constant (.str m) j p1, .FormattedValue (.Name x p0) (-1) none p2] pos) (fun σ H Q => ∃ v, σ[i]? = some (some v) ∧ PrV X.K H v ∧ ∀ y : Str, Q (.str y) H) := by
  refine ⟨fun pins s σ H Q I ⟨v, h1, h2, h3⟩ => ?_⟩
  refine (pe_joined (X := X) (ts := [tC (.str m), tFmtS X.K (tVar i)]) (.cons pe_str (.cons (pe_fmtS hu (pe_var hN hv hd hcd)) .nil))).run pins s σ H Q I ?_
  have l0 : (Str.empty ++ m).length ≤ 1000 := by
    rw [PySem.Str.length_append]
    show 0 + m.length ≤ 1000
    omega
  refine ⟨m, rfl, Nat.le_trans l0 (by rw [sizeLine_eq]; decide), v, h1, h2, fun y hy => ⟨y, rfl, ?_, h3 _⟩⟩
  rw [PySem.Str.length_append, sizeLine_eq]
  omega
end

theorem ev_meth {o e : PySem.Expr} {name : Str} {apos pos : Pos} {env : Env} (hst : starEach [e] env = (false, eval e env) :: starEach [] env) (hl : (apos.endLine == pos.line) = true) :
    eval (.Call (.Attribute o name apos) [e] [] pos) env = (do
      let ov ← attributeBase o name env (eval o env)
      standAt apos.atName
      let (fx, first) ← holding [ov] (getMethod ov name (do return (← importBound o env).getD true))
      callWith pos fx first (backTo pos (starEach [e] env)) []) := by
  have hform : methodCallForm ([e].length + ([] : List Keyword).length) (backTo pos (starEach [e] env)) (backToKw pos (keywordEach [] env)) = true := by
    rw [hst]
    rfl
  have hpos : methodCallPos true o env apos pos = pure pos := by unfold methodCallPos; simp [hl]
  rw [arm_eval_Call]
  unfold methodCall
  rw [hform, hpos]
  have hk : backToKw pos (keywordEach [] env) = [] := rfl
  rw [hk]
  simp only [calleeOf, if_true, pure_bind]
  try rfl

/-- the text of an own error with one field (or none): where its code lies -/
abbrev Msg1 (m fld : Str) (j : Nat) (p1 p2 p3 p4 : Pos) : PySem.Expr := .JoinedStr [.Constant (.str m) j p1, .FormattedValue (.Name fld p3) (-1) none p2] p4
abbrev superCall (e : PySem.Expr) (q0 q1 q2 q3 : Pos) : PySem.Expr := .Call (.Attribute (.Call (.Name "super" q0) [] [] q1) "__init__" q2) [e] [] q3
abbrev body1 (m sf fld tag : Str) (j j2 : Nat) (p1 p2 p3 p4 q0 q1 q2 q3 q4 r0 r1 r2 r3 s0 s1 s2 s3 : Pos) : List Stmt :=
  [.Expr (superCall (Msg1 m fld j p1 p2 p3 p4) q0 q1 q2 q3) q4, .Assign [.Attribute (.Name sf r0) "tag" r1] (.Constant (.str tag) j2 r2) r3, .Assign [.Attribute (.Name sf s0) fld s1] (.Name fld s2) s3]
abbrev body0 (m sf tag : Str) (j j2 : Nat) (p1 q0 q1 q2 q3 q4 r0 r1 r2 r3 : Pos) : List Stmt :=
  [.Expr (superCall (.Constant (.str m) j p1) q0 q1 q2 q3) q4, .Assign [.Attribute (.Name sf r0) "tag" r1] (.Constant (.str tag) j2 r2) r3]
/-- what an __init__ with one field keeps -/
def spI1 (K : PySem.W.Frag) (C : Addr) (tag fld : Str) : Sp := fun vs H Q _ => ∃ a v, vs = [.ref a, v] ∧ PrV K H v ∧ H a = some (exo a C none) ∧ ∀ dx, H dx = none → dx ≠ a →
  Q .non (upd (upd (upd H dx (exd dx [("tag", .str tag)])) a (exo a C (some dx))) dx (exd dx [(fld, v), ("tag", .str tag)]))
def spI0 (C : Addr) (tag : Str) : Sp := fun vs H Q _ => ∃ a, vs = [.ref a] ∧ H a = some (exo a C none) ∧ ∀ dx, H dx = none → dx ≠ a →
  Q .non (upd (upd H dx (exd dx [("tag", .str tag)])) a (exo a C (some dx)))

section
variable {P : Program} {w : World} {K : PySem.W.Frag} {mg : Str → Option Value} {base : Heap} {k : Nat} {CX : CXT} {f cc cda C : Addr} {name qual : Str} {params : Arguments} {scope : Scope} {dV kV doc pm ct oc : Value} {an od : Option Addr}
    {osl : Array (Option Value)} {m sf fld tag : Str} {j j2 : Nat}
theorem fn_init1 {p1 p2 p3 p4 q0 q1 q2 q3 q4 r0 r1 r2 r3 s0 s1 s2 s3 : Pos}
    (lk : K.lookup f = some ⟨oc, od, .func (PySem.W.ksFn name qual params (body1 m sf fld tag j j2 p1 p2 p3 p4 q0 q1 q2 q3 q4 r0 r1 r2 r3 s0 s1 s2 s3) scope dV kV doc pm an (.ref cda) ct cc), osl⟩) (hcd : PySem.W.codeIn K (.ref cda) qual = true)
    (F : KsInit P K mg [sf, fld] scope f cc cda C sf) (S : KsScope [sf, fld] [sf, fld] scope) (hm : m.length ≤ 1000) (h1 : PySem.W.findIn K (.ref C) "tag" = some none) (h2 : PySem.W.findIn K (.ref C) fld = some none)
    (hd : (fld == ("__debug__" : Str)) = false) (hd2 : (fld == ("__classdict__" : Str)) = false) (he : (sf == ("__debug__" : Str)) = false) (he2 : (sf == ("__classdict__" : Str)) = false) (hln : (q2.endLine == q3.line) = true) :
    FnOk P w K mg base CX k f (PySem.W.ksFn name qual params (body1 m sf fld tag j j2 p1 p2 p3 p4 q0 q1 q2 q3 q4 r0 r1 r2 r3 s0 s1 s2 s3) scope dV kV doc pm an (.ref cda) ct cc) [sf, fld] (spI1 K C tag fld) := by
  obtain ⟨cl, cld, csl, lc⟩ := F.cell
  refine fn_ofS lk hcd lc S (fun vs H Q E ⟨a, v, e, _⟩ => by rw [e]; rfl) fun A outer s H vs Q E s1' hun ⟨a, v, e, hp, ha, q⟩ I => ?_
  subst e
  have HU : (cxS CX P w K mg base [sf, fld] qual scope f (.ref cda) cc A outer s H E).A.units + 2 < cLine := by
    show A.units + 3 + 2 < cLine
    omega
  have vf : Vis scope fld := .inl (S.par fld (by simp))
  have vs' : Vis scope sf := .inl (S.par sf (by simp))
  refine PySem.ks_wpAt_execs_cons (PySem.ks_wpAt_mono (st_super (Q := fun H1 => H1 = H) F I rfl ha (pe_msg (i := 1) HU rfl vf hm hd hd2) ⟨v, rfl, hp, fun y => ⟨rfl, ha, rfl⟩⟩ (ev_meth rfl hln) rfl rfl) ?_ fun _ _ z => z)
  · rintro fl s' ⟨rfl, H', J, rfl⟩
    have X0 := (pss_cons (ps_ost (f := "tag") (pe_var (X := cxS CX P w K mg base [sf, fld] qual scope f (.ref cda) cc A outer s H' E) (i := 0) (x := sf) (pos := r0) rfl vs' he he2) (pe_str (x := tag) (j := j2) (pos := r2)) (p' := r1) (pos := r3))
      (pss_one (ps_ost (f := fld) (pe_var (X := cxS CX P w K mg base [sf, fld] qual scope f (.ref cda) cc A outer s H' E) (i := 0) (x := sf) (pos := s0) rfl vs' he he2) (pe_var (i := 1) (x := fld) (pos := s2) rfl vf hd hd2) (p' := s1) (pos := s3))))
    refine wpAt_of_wpAny (X0.run [] s' _ H' { nx := fun _ H' => Q .non H', rt := Q } J ?_)
    refine ⟨.ref a, rfl, a, C, rfl, F.oex, h1, .inl ⟨ha, fun dx n ne => ?_⟩⟩
    refine ⟨v, rfl, .ref a, rfl, a, C, rfl, F.oex, h2, .inr ⟨dx, [("tag", .str tag)], ?_, ?_, (by show 1 ≤ 900; decide), q dx n ne⟩⟩
    · rw [upd_same]
    · rw [upd_ne ne, upd_same]

theorem fn_init0 {p1 q0 q1 q2 q3 q4 r0 r1 r2 r3 : Pos}
    (lk : K.lookup f = some ⟨oc, od, .func (PySem.W.ksFn name qual params (body0 m sf tag j j2 p1 q0 q1 q2 q3 q4 r0 r1 r2 r3) scope dV kV doc pm an (.ref cda) ct cc), osl⟩) (hcd : PySem.W.codeIn K (.ref cda) qual = true)
    (F : KsInit P K mg [sf] scope f cc cda C sf) (S : KsScope [sf] [sf] scope) (h1 : PySem.W.findIn K (.ref C) "tag" = some none)
    (he : (sf == ("__debug__" : Str)) = false) (he2 : (sf == ("__classdict__" : Str)) = false) (hln : (q2.endLine == q3.line) = true) :
    FnOk P w K mg base CX k f (PySem.W.ksFn name qual params (body0 m sf tag j j2 p1 q0 q1 q2 q3 q4 r0 r1 r2 r3) scope dV kV doc pm an (.ref cda) ct cc) [sf] (spI0 C tag) := by
  obtain ⟨cl, cld, csl, lc⟩ := F.cell
  refine fn_ofS lk hcd lc S (fun vs H Q E ⟨a, e, _⟩ => by rw [e]; rfl) fun A outer s H vs Q E s1' hun ⟨a, e, ha, q⟩ I => ?_
  subst e
  have vs' : Vis scope sf := .inl (S.par sf (by simp))
  refine PySem.ks_wpAt_execs_cons (PySem.ks_wpAt_mono (st_super (Q := fun H1 => H1 = H) F I rfl ha pe_str ⟨rfl, ha, rfl⟩ (ev_meth rfl hln) rfl rfl) ?_ fun _ _ z => z)
  · rintro fl s' ⟨rfl, H', J, rfl⟩
    have X0 := (pss_one (ps_ost (f := "tag") (pe_var (X := cxS CX P w K mg base [sf] qual scope f (.ref cda) cc A outer s H' E) (i := 0) (x := sf) (pos := r0) rfl vs' he he2) (pe_str (x := tag) (j := j2) (pos := r2)) (p' := r1) (pos := r3)))
    refine wpAt_of_wpAny (X0.run [] s' _ H' { nx := fun _ H' => Q .non H', rt := Q } J ?_)
    exact ⟨.ref a, rfl, a, C, rfl, F.oex, h1, .inl ⟨ha, fun dx n ne => q dx n ne⟩⟩
end
end Z
namespace Z
open PySem PySem.Spec PyProof.Rows L2

section
variable {X : Cx} {C fI : Addr} {k : Nat} {fd : FuncData} {ps : List Str} {sp : Sp} {CX : CXT} {pins : List (Addr × Obj)} {σ : L2.St} {H1 : Hp} {Q : XK} {s1 : Shared} {us : List Value} {vs : List V}
/-- (cfV tb.pg md tb.fns (..)), the arguments at hand -/
theorem run_oex (T : OexC X.K C) (iC : PySem.W.findIn X.K (.ref C) "__init__" = some (some (.ref fI))) (tI : PySem.W.typeIn X.K (.ref fI) = some (.type "function"))
    (F1 : FnOk X.prog X.w X.K X.mg X.base CX k fI fd ps sp) (hr : Room (k + 1) X.A) (hb : Binds X.K fd ps []) (hx : Passes CX X (fun _ _ _ => False)) (I1 : Inv X pins σ H1 s1) (r1 : Vals vs us) (hz : vs.length ≤ 1000)
    (q1 : ∀ a, H1 a = none → sp (.ref a :: vs) (upd H1 a (exo a C none)) (fun v H2 => v = .non ∧ ∃ (d : Addr) (fs : List (Str × V)), H2 a = some (exo a C (some d)) ∧ H2 d = some (exd d fs) ∧ H1 d = none ∧ Q (.ref C) (some d) (upd (del H2 a) d (.xd fs))) (fun _ _ _ => False)) :
    wpAny (model X.prog X.w) X.A (call (.ref C) us) (MkP X pins σ Q) X.xe s1 := by
  obtain ⟨nm, q, N, bs, bm, sn, sub, ab, col, dd, k0, k1, k2, k3, k5, hC, hbm⟩ := T.cls
  obtain ⟨hp, g, dr, tk, os⟩ := s1
  have hsz : hp.objs.size ≤ hp.objs.size + 1 := Nat.le_succ _
  have hn : H1 (hp.objs.size + 1) = none := I1.hok.fresh hsz
  have hq := q1 (hp.objs.size + 1) hn
  have kk : ∀ b o, hp.get? b = some o → ((hp.push (PySem.W.kdv_tup us)).push (PySem.HandSPX.excO C hp.objs.size)).get? b = some o := fun b o e => Heap.get?_push_of_some _ (Heap.get?_push_of_some _ e)
  have hget : ((hp.push (PySem.W.kdv_tup us)).push (PySem.HandSPX.excO C hp.objs.size)).get? (hp.objs.size + 1) = some (PySem.HandSPX.excO C hp.objs.size) := by heap_get
  have I2 : Inv X pins σ (upd H1 (hp.objs.size + 1) (exo (hp.objs.size + 1) C none)) ⟨(hp.push (PySem.W.kdv_tup us)).push (PySem.HandSPX.excO C hp.objs.size), g, dr, tk, os⟩ :=
    I1.laid (t' := tk) (a := hp.objs.size + 1) (o := exo (hp.objs.size + 1) C none) (h' := (hp.push (PySem.W.kdv_tup us)).push (PySem.HandSPX.excO C hp.objs.size)) kk hsz (exo_ok hget)
  have r2 : Vals (V.ref (hp.objs.size + 1) :: vs) (Value.ref (hp.objs.size + 1) :: us) := .cons rfl r1
  have hl : (Value.ref (hp.objs.size + 1) :: us ++ []).length = ps.length := by
    have e := r2.length
    rw [F1.len _ _ _ _ hq] at e
    rw [List.append_nil]
    exact e.symm
  have hus : us.length ≤ sizeLine := by
    rw [← Paired.length r1, sizeLine_eq]
    omega
  refine wpAny_call (PySem.HandSPX.call_own PySem.F.excBase_ValueError (fun Y => PySem.HandSPX.refsVE_contains Y bm hbm) (I1.kIn _ _ hC) (PySem.W.looks_findIn I1.kIn iC) (fun self => PySem.W.bind_fn I1.kIn self tI) hus
    (codeAny_mono (F1.run _ X.stack _ _ ⟨Value.ref (hp.objs.size + 1) :: us, []⟩ (Value.ref (hp.objs.size + 1) :: us) _ _ (fun _ _ _ => False) (hr.make C us []) (I2.env0.make C us []) (by
      have z := hb _ (Value.ref (hp.objs.size + 1) :: us) I2.kIn hl
      rw [List.append_nil] at z
      exact z) r2 hq) fun r s' hq' => ?_))
  cases r with
  | error er => exact hx pins σ _ _ er s' I2 hq'
  | ok fl =>
    cases fl with
    | ret u =>
      obtain ⟨v, H2, os2, bare2, un2, hok2, rv, ev, d, fs, ea, ed, hd1, q2⟩ := hq'
      subst ev
      obtain ⟨h2, g2, d2, t2, os'⟩ := s'
      exact ⟨rv, mk_end (raises_own T.exC T.tyC) I1 hsz kk un2 hok2 os2 bare2 ea ed hd1 q2⟩
    | next => exact False.elim hq'
    | brk => exact False.elim hq'
    | cont => exact False.elim hq'
end
end Z
namespace Z
open PySem PySem.Spec PyProof.Rows L2

/-- an own error: its name, its class, its tag, its fields -/
structure ErOk (P : Program) (w : World) (K : PySem.W.Frag) (mg : Str → Option Value) (base : Heap) (nm : Str) (C : Addr) (tag : Str) (flds : List Str) : Prop where
  mgc : mg nm = some (.ref C)
  keep : PySem.W.keepIn K (.ref C) = true
  oex : OexC K C
  init : ∃ fI fd ps, PySem.W.findIn K (.ref C) "__init__" = some (some (.ref fI)) ∧ PySem.W.typeIn K (.ref fI) = some (.type "function") ∧ Binds K fd ps [] ∧
    ((∃ fld, flds = [fld] ∧ FnOk P w K mg base (L2.CX P w) 0 fI fd ps (spI1 K C tag fld)) ∨ (flds = [] ∧ FnOk P w K mg base (L2.CX P w) 0 fI fd ps (spI0 C tag)))

section
variable {X : Cx} {C : Addr} {nm tag : Str} {flds : List Str} {pins : List (Addr × Obj)} {σ : L2.St} {H1 : Hp} {Q : XK} {s1 : Shared} {us : List Value} {vs : List V}
theorem no_exc : Passes (L2.CX X.prog X.w) X (fun _ _ _ => False) := fun _ _ _ _ _ _ _ ⟨_, _, _, _, _, _, _, _, _, _, _, _, z⟩ => z.elim
theorem upd_end {H1 : Hp} {a d : Addr} {o1 o2 o3 o4 : HO} {ob : HO} (hn : H1 a = none) (ne : d ≠ a) : upd (del (upd (upd (upd (upd H1 a o1) d o2) a o3) d o4) a) d ob = upd H1 d ob := by
  funext b
  by_cases e : b = d
  · rw [e, upd_same, upd_same]
  · rw [upd_ne e, upd_ne e]
    by_cases e2 : b = a
    · rw [e2, del_same, hn]
    · rw [del_ne e2, upd_ne e, upd_ne e2, upd_ne e, upd_ne e2]
theorem upd_end0 {H1 : Hp} {a d : Addr} {o1 o2 o3 : HO} {ob : HO} (hn : H1 a = none) (ne : d ≠ a) : upd (del (upd (upd (upd H1 a o1) d o2) a o3) a) d ob = upd H1 d ob := by
  funext b
  by_cases e : b = d
  · rw [e, upd_same, upd_same]
  · rw [upd_ne e, upd_ne e]
    by_cases e2 : b = a
    · rw [e2, del_same, hn]
    · rw [del_ne e2, upd_ne e2, upd_ne e, upd_ne e2]
theorem run_er (R : ErOk X.prog X.w X.K X.mg X.base nm C tag flds) (hr : Room 1 X.A) (I1 : Inv X pins σ H1 s1) (r1 : Vals vs us) (hl : vs.length = flds.length) (hp : ∀ v ∈ vs, PrV X.K H1 v)
    (q : ∀ d, H1 d = none → Q (.ref C) (some d) (upd H1 d (.xd (flds.zip vs ++ [((("tag" : Str), V.str tag) : Str × V)])))) :
    wpAny (model X.prog X.w) X.A (call (.ref C) us) (MkP X pins σ Q) X.xe s1 := by
  obtain ⟨fI, fd, ps, iC, tI, hb, h⟩ := R.init
  rcases h with ⟨fld, rfl, F⟩ | ⟨rfl, F⟩
  · obtain ⟨v, rfl⟩ : ∃ v, vs = [v] := by
      cases vs with
      | nil => cases hl
      | cons v r => cases r with
        | nil => exact ⟨v, rfl⟩
        | cons _ _ => cases hl
    refine run_oex (k := 0) R.oex iC tI F hr hb no_exc I1 r1 (by show 1 ≤ 1000; decide) fun a hn => ⟨a, v, rfl, (hp v (by simp)).ext fun b o hb => by rw [upd_ne (ne_of_none hb hn)]; exact hb, upd_same, fun dx n ne => ⟨rfl, dx, _, ?_, upd_same, ?_, ?_⟩⟩
    · rw [upd_ne (Ne.symm ne), upd_same]
    · rw [upd_ne ne] at n; exact n
    · rw [upd_end hn ne]
      rw [upd_ne ne] at n
      exact q dx n
  · obtain rfl : vs = [] := List.length_eq_zero_iff.mp hl
    refine run_oex (k := 0) R.oex iC tI F hr hb no_exc I1 r1 (by show 0 ≤ 1000; decide) fun a hn => ⟨a, rfl, upd_same, fun dx n ne => ⟨rfl, dx, [((("tag" : Str), V.str tag) : Str × V)], upd_same, ?_, ?_, ?_⟩⟩
    · rw [upd_ne ne, upd_same]
    · rw [upd_ne ne] at n; exact n
    · rw [upd_end0 hn ne]
      rw [upd_ne ne] at n
      exact q dx n

/-- (cfV tb.pg md tb.fns (e, ..)), an own error being made -/
def tEr (K : PySem.W.Frag) (C : Addr) (tag : Str) (flds : List Str) (ta : TA) : L2.St → Hp → XK → Prop := fun σ H Q => ta σ H fun vs H1 => vs.length = flds.length ∧ (∀ v ∈ vs, PrV K H1 v) ∧ ∀ d, H1 d = none → Q (.ref C) (some d) (upd H1 d (.xd (flds.zip vs ++ [((("tag" : Str), V.str tag) : Str × V)])))
theorem pmk_er {e : PySem.Expr} {es : List PySem.Expr} {ta : TA} {p pos : Pos} (R : ErOk X.prog X.w X.K X.mg X.base nm C tag flds) (hr : Room 1 X.A) (hg : Gl X nm) (ha : PA X (e :: es) ta)
    (hdb : (nm == ("__debug__" : Str)) = false) (he : starEach (e :: es) X.env = (false, eval e X.env) :: starEach es X.env) (hpl : (backTo pos (starEach es X.env)).any (·.1) = false) :
    PMk X (.Call (.Name nm p) (e :: es) [] pos) (tEr X.K C tag flds ta) := by
  intro pins s σ H Q I h
  refine wpAny_Call_Name_kw (ld_glob I hg R.mgc ?_ hdb)
  refine PySem.W.callWith_K (h₀ := X.base) I.ok.mod.kin R.keep (thn (ha.run pos pins s σ H _ I h) fun us s1 ⟨vs, H1, I1, r1, hl, hp, q1⟩ => ⟨I1.kIn, run_er R hr I1 r1 hl hp q1⟩) he hpl
theorem pmk_er0 {p pos : Pos} (R : ErOk X.prog X.w X.K X.mg X.base nm C tag []) (hr : Room 1 X.A) (hg : Gl X nm) (hdb : (nm == ("__debug__" : Str)) = false) :
    PMk X (.Call (.Name nm p) [] [] pos) (tEr X.K C tag [] tNil) := by
  intro pins s σ H Q I h
  refine wpAny_Call_Name_kw (ld_glob I hg R.mgc ?_ hdb)
  exact PySem.W.callWith_K0 I.kIn R.keep (run_er (us := []) R hr I .nil rfl (by simp) h.2.2)
end
end Z
namespace Z
open PySem PySem.Spec PyProof.Rows L2

theorem fly_keeps {B h h' : Heap} {l : List Env} {e : Addr} {Zp : Obj → Prop} (k : ∀ b o, h.get? b = some o → h'.get? b = some o) (f : HandSPX.FlyingZ B l e Zp h) : HandSPX.FlyingZ B l e Zp h' := by
  obtain ⟨f1, f2, f3, oe, vs, T, oT, ts, a1, a2, a3, a4, a5, a6, a7, a8, a9⟩ := f
  exact ⟨fun b o q => k b o (f1 b o q), f2, Heap.FunFrames.of_keeps (fun b o q _ => ⟨o, k b o q, rfl⟩) f3, oe, vs, T, oT, ts, k _ _ a1, a2, a3, a4, a5, a6, k _ _ a7, a8, a9⟩

/-- what 'except (x, y, z) as n' wishes of an exception of the body: it is caught -/
def wAs3 (K : PySem.W.Frag) (cs : List Value) (i : Nat) (ts : Addr → Value → Option Addr → TS) (D : Ends) : WX := fun cls d σ H =>
  PySem.W.exmAny K cls cs = some true ∧ ∀ a, H a = none → ts a cls d { nx := fun σ' H' => D.nx (σ'.set i none) H', rt := D.rt, bk := fun σ' H' => D.bk (σ'.set i none) H', ct := fun σ' H' => D.ct (σ'.set i none) H' } (σ.set i (some (.ref a))) H

section
variable {X : Cx} {x1 x2 x3 n : Str} {c1 c2 c3 : Value} {i kk : Nat} {body suite : List Stmt} {b₀ : Stmt} {np1 np2 np3 np pos pos' : Pos} {tb : WX → TS} {ts : Addr → Value → Option Addr → TS}
theorem ps_try_as3 (hs : X.stack = X.env :: X.outer) (hf : X.env.frame = some X.env.locals) (hN : X.N.Nodup) (hi : X.N[i]? = some n) (hln : X.env.kindOf n = some .local) (hc1 : Names X x1 c1) (hc2 : Names X x2 c2) (hc3 : Names X x3 c3)
    (hb : ∀ (W : WX) (pn : List (Addr × Obj)) (xe : Value → Shared → Prop), Takes (X.tr pn xe) W → PassesOwn (model X.prog X.w) X.A X.env xe → PSs (X.tr pn xe) body (tb W))
    (hsu : ∀ (a : Addr) (oe : Obj) (cls : Value) (d : Option Addr) (pn : List (Addr × Obj)), Zc cls d oe → (∃ vs, oe.data = .fields vs) → PSs (X.suite a ((a, oe) :: pn)) (b₀ :: suite) (ts a cls d)) :
    PS X (.Try body [.ExceptHandler (some (.Tuple [.Name x1 np1, .Name x2 np2, .Name x3 np3] kk np)) (some n) (b₀ :: suite) pos'] [] [] pos) (fun D σ H => tb (wAs3 X.K [c1, c2, c3] i ts D) D σ H) := by
  refine ⟨fun pins s σ H D I h => ?_⟩
  have ok := I.ok
  have hfr : X.A.frames = some (X.env :: X.outer) := by rw [ok.frames, hs]
  have hloc : Loc X.env.scope n := .inl hln
  refine wpAny_Try_except ?_
  refine wpAny_mono ((hb (wAs3 X.K [c1, c2, c3] i ts D) (X.pn ++ pins) (fun e s₁ => wpAny (model X.prog X.w) X.A (noteFrame e X.env) (fun _ s₂ => wpAny (model X.prog X.w) X.A (setFlight e none) (fun _ s₃ =>
    wpAny (model X.prog X.w) X.A (handleBy e X.env [.ExceptHandler (some (.Tuple [.Name x1 np1, .Name x2 np2, .Name x3 np3] kk np)) (some n) (b₀ :: suite) pos']) (SP X pins D) X.xe s₃) X.xe s₂) X.xe s₁) (fun u s' xx => ?_) PassesOwn.looking).run [] s σ H D (I.toTry _) h) (fun f s1 hsp => ?_) (fun e s1 he => he)
  · obtain ⟨a, B, sI, pins', σ', H', cls, d, rfl, J', nb, up, sky, na, os, ag, hb1, hyes⟩ := xx
    have J : Inv X pins σ' H' sI := J'.ofTry ok
    have sky' : Sky B (X.env :: X.outer) a (Zc cls d) X.env.locals s'.heap := by rw [← hs]; exact sky
    show wpAny (model X.prog X.w) X.A (noteFrame (.ref a) X.env) _ _ _
    refine Sky.land Zc.steady hfr hf sky' fun h3 fl3 up3 => ?_
    have J3 : Inv X pins σ' H' { s' with heap := h3 } := J.landed nb fl3.1 (up.trans up3) os ag
    obtain ⟨oe3, vs3, he3, hz3, hd3⟩ := fl3.there
    have notFr : ∀ {h : Heap} {o : Obj} {vs : Array Value}, h.FunFrames B (X.env :: X.outer) → h.get? a = some o → o.data = .fields vs → a ∉ frs (X.env :: X.outer) := fun {h o vs} ff e dd hm => by
      obtain ⟨_, o', e', hnf⟩ := ff.mem hm
      rw [e] at e'; cases e'
      exact hnf _ dd
    have nfr := notFr fl3.2.2.1 he3 hd3
    have nL : a ≠ X.env.locals := fun z => nfr (List.mem_filterMap.mpr ⟨X.env, List.mem_cons_self, by rw [hf, z]⟩)
    have nF : a ∉ X.fs := fun hm => by
      obtain ⟨e, he, q⟩ := List.mem_filterMap.mp hm
      exact nfr (List.mem_filterMap.mpr ⟨e, List.mem_cons_of_mem _ he, q⟩)
    have S3 := J3.suite he3 hd3 na nL nF
    refine wpAny_handleBy_cons (codeAny_handlers_test ?_) (by intro q; cases q)
    have kp : ∀ q o, h3.get? q = some o → (h3.push { cls := .type "tuple", data := .seq [c1, c2, c3].toArray }).get? q = some o := fun _ _ z => Heap.get?_push_of_some _ z
    have LT : PySem.W.Looks (model X.prog X.w) h3 (typeOf (.ref a)) cls := fun A Q E s k q => wpAny_typeOf_ref (k _ _ he3) (by rw [hz3.1]; exact q)
    have LM := PySem.W.exm_tup3 (M := model X.prog X.w) ((J3.kIn).keeps kp) (LT.keeps kp) (Heap.get?_push_size h3 rfl) hb1
    have test : ∀ {x : Str} {c : Value} {np : Pos} {Q : Value → Shared → Prop} {E : Value → Shared → Prop}, Names X x c → Q c { s' with heap := h3 } → wpAny (model X.prog X.w) (X.A.mark (some (.ref a))) (eval (.Name x np) X.env) Q E { s' with heap := h3 } := fun {x c np Q E} hc q => by
      obtain ⟨hg, hdbg, hm | ⟨hm, hv, hnn⟩⟩ := hc
      · exact ld_glob (X := X.suite a ((a, oe3) :: (X.pn ++ pins))) S3 hg hm q hdbg
      · exact ld_blt (X := X.suite a ((a, oe3) :: (X.pn ++ pins))) S3 hg hm hv q hnn hdbg
    refine wpAny_Tuple (wpAny_items_cons (test hc1 (wpAny_items_cons (test hc2 (wpAny_items_cons (test hc3 (wpAny_items_nil ⟨by size_fits, ?_⟩)))))))
    refine LM.here ?_
    have fl3 := fly_keeps kp fl3
    have up3 := up3.trans (Heap.UpToSlots.of_keeps kp)
    refine codeAny_handlers_suite_as ?_
    refine HandSPX.lands_againZ fl3 fun h4 fl4 up4 => ?_
    have J4 : Inv X pins σ' H' { s' with heap := h4 } := J.landed nb fl4.1 ((up.trans up3).trans up4) os ag
    obtain ⟨oe4, vs4, he4, hz4, hd4⟩ := fl4.there
    have S4 := J4.suite he4 hd4 na nL nF
    refine store_ok (X := X.suite a ((a, oe4) :: (X.pn ++ pins))) (v := .ref a) S4 hN hi hloc rfl (fun s5 S5 => ?_) (.inr hln)
    refine wpAny_mono ((hsu a oe4 cls d (X.pn ++ pins) hz4 ⟨_, hd4⟩).run [] s5 _ H' _ S5 (hyes a na)) (fun f s6 hsp => ?_) (fun _ _ z => False.elim z)
    have end_ : ∀ {σ6 : L2.St} {H6 : Hp} {Q : Shared → Prop}, Inv (X.suite a ((a, oe4) :: (X.pn ++ pins))) [] σ6 H6 s6 → (∀ s7, Inv X pins (σ6.set i none) H6 s7 → Q s7) →
        wpAny (model X.prog X.w) X.A (do bindName X.env n .none; unbindBehindTheSuite X.env n pos') (fun _ s7 => Q s7) X.xe s6 := fun {σ6 H6 Q} S6 hq => gone_ok (S6.unsuite ok) hN hi hln hq
    cases f with
    | next =>
      obtain ⟨σ6, H6, S6, q6⟩ := hsp
      exact end_ S6 fun s7 J7 => ⟨_, _, J7, q6⟩
    | brk =>
      obtain ⟨σ6, H6, S6, q6⟩ := hsp
      exact end_ S6 fun s7 J7 => ⟨_, _, J7, q6⟩
    | cont =>
      obtain ⟨σ6, H6, S6, q6⟩ := hsp
      exact end_ S6 fun s7 J7 => ⟨_, _, J7, q6⟩
    | ret u =>
      obtain ⟨v6, σ6, H6, S6, r6, q6⟩ := hsp
      exact end_ S6 fun s7 J7 => ⟨_, _, _, J7, r6, q6⟩
  · cases f with
    | next =>
      obtain ⟨σ', H', J', q⟩ := hsp
      exact wpAny_execs_nil ⟨σ', H', J'.ofTry ok, q⟩
    | brk =>
      obtain ⟨σ', H', J', q⟩ := hsp
      exact ⟨σ', H', J'.ofTry ok, q⟩
    | cont =>
      obtain ⟨σ', H', J', q⟩ := hsp
      exact ⟨σ', H', J'.ofTry ok, q⟩
    | ret u =>
      obtain ⟨v, σ', H', J', r, q⟩ := hsp
      exact ⟨v, σ', H', J'.ofTry ok, r, q⟩
end
end Z
namespace Z
open PySem PySem.Spec PyProof.Rows L2

/-! ### the fields of a caught error that stands in the context's pins -/
def kd0 : Str → Option (List (Str × U)) := fun _ => none
theorem kd0_ok {X : Cx} : KdOk X kd0 := fun _ _ h => by cases h
theorem sim0 {Y : Wr} {H : Hp} (t : LamX.Tabs (tbOf Y.K) H) : Sim Y H (fun _ => 0) [] := ⟨fun i j h => by simp at h, fun i o h => by simp at h, t⟩
section
variable {X : Cx} {a C dd : Addr} {oe : Obj} {n : Str} {e l r : PySem.Expr} {te ta tb : TE} {pos : Pos}
theorem pe_xfP (T : XfC X.K C) (hno : PySem.W.findIn X.K (.ref C) n = some none) (hz : Zc (.ref C) (some dd) oe) (hf : ∃ vs, oe.data = .fields vs) (hp : (a, oe) ∈ X.pn) (he : PE X e te) (hb : attributeBase e n X.env (eval e X.env) = eval e X.env) :
    PE X (.Attribute e n pos) (fun σ H Q => te σ H fun x H1 => x = .ref a ∧ ∃ fs v, H1 dd = some (.xd fs) ∧ fs.lookup n = some v ∧ Q v H1) := by
  refine ⟨fun pins s σ H Q I h => ?_⟩
  refine attr_of hb (thn (he.run pins s σ H _ I h) fun u s1 hh => ?_)
  obtain ⟨x, H1, I1, rx, ex, fs, v, ea, lk, q⟩ := hh
  subst ex
  obtain rfl : u = Value.ref a := rx
  obtain ⟨ha, _⟩ := I1.pin (a, oe) (List.mem_append_left _ hp)
  obtain ⟨vs, hd⟩ := hf
  have hx : ObjOk X.prog X.w H1 s1.heap dd (.xd fs) := I1.hok dd _ ea
  obtain ⟨mA, hns, hr⟩ := hx
  obtain ⟨od, ho, hl⟩ := lookIn_ns hns
  obtain ⟨u, hu, ru⟩ := RelO.some_of (v := v) (o := mA n) (by rw [← lk]; exact hr n)
  have J : PySem.W.InstAt s1.heap a oe C (some od) := ⟨ha, hz.1, by unfold PySem.W.notCls; rw [hd] <;> rfl, by rw [hz.2]; exact ho⟩
  exact HandSPX.exc_get I1.kIn J T.ga T.gg T.exC (PySem.W.findObj_own T.hdC hno rfl (by rw [hl, hu])) (handed_of ru) ⟨v, H1, I1.tok _, ru, q⟩
/-- a comparison by its operation -/
theorem pc_op {op : CmpOp} {R : R2} (ha : PE X l ta) (hb : PE X r tb) (o : OpR X (compareOp op) R) : PC X op l r (fun σ H Q => ta σ H fun v H1 => tb σ H1 fun w H2 => R v w H2 Q) := by
  refine ⟨fun pins s σ H Q I h => ?_⟩
  exact bin ha hb I h fun v u s2 x y H2 I2 rx ry q => o pins s2 σ H2 x y _ _ Q I2 rx ry q
end
/-- written texts -/
def strsT : List Str → TA := fun ws _ H Q => Q (ws.map V.str) H
theorem pa_strs {X : Cx} : ∀ {es : List PySem.Expr} {ws : List Str}, (∀ p ∈ es.zip ws, ∃ j q, p.1 = .Constant (.str p.2) j q) → es.length = ws.length → PA X es (strsT ws)
  | [], [], _, _ => pa_nil
  | [], _ :: _, _, h => by cases h
  | _ :: _, [], _, h => by cases h
  | e :: es, w :: ws, h, hl => by
    obtain ⟨j, q, e0⟩ := h (e, w) (by simp)
    have e0' : e = .Constant (.str w) j q := e0
    subst e0'
    have r := pa_strs (X := X) (es := es) (ws := ws) (fun p hp => h p (by simp only [List.zip_cons_cons, List.mem_cons]; exact .inr hp)) (by simpa using hl)
    exact pa_cons (pe_str (x := w) (j := j) (pos := q)) r
theorem strs_RU {Y : Wr} {H : Hp} {f : Nat → Addr} {n : Nat} : ∀ ws : List Str, RUs Y H f n (ws.map U.str) (ws.map V.str)
  | [] => by simp [RUs]
  | w :: ws => by
    simp only [List.map_cons, RUs]
    exact ⟨_, _, rfl, by simp only [RU], strs_RU ws⟩
theorem in_strs (z : Str) (ws : List Str) : inSeq (.str z) (ws.map U.str) = some (ws.any fun w => w == z) := by
  unfold inSeq
  rw [if_pos]
  · congr 1
    induction ws with
    | nil => rfl
    | cons w ws ih =>
      rw [List.map_cons, List.any_cons, List.any_cons, ih]
      rfl
  · refine ⟨rfl, ?_⟩
    rw [List.all_eq_true]
    intro u hu
    obtain ⟨w, _, rfl⟩ := List.mem_map.mp hu
    rfl
section
variable {X : Cx} {a C dd : Addr} {oe : Obj} {i : Nat} {sf : Str}
/-- the error's dict, seen from what is to come -/
def Seen (K : PySem.W.Frag) (a dd : Addr) (i : Nat) (fs : List (Str × V)) (σ : L2.St) (H : Hp) : Prop := σ[i]? = some (some (.ref a)) ∧ H dd = some (.xd fs) ∧ LamX.Tabs (tbOf K) H
def Later (K : PySem.W.Frag) (H H' : Hp) : Prop := (∀ b o, H b = some o → (∀ ps, o ≠ .tbl ps) → H' b = some o) ∧ (LamX.Tabs (tbOf K) H → LamX.Tabs (tbOf K) H')
theorem Later.refl {K : PySem.W.Frag} {H : Hp} : Later K H H := ⟨fun _ _ h _ => h, fun t => t⟩
theorem Later.trans {K : PySem.W.Frag} {H H1 H2 : Hp} (a : Later K H H1) (b : Later K H1 H2) : Later K H H2 := ⟨fun c o h n => b.1 c o (a.1 c o h n) n, fun t => b.2 (a.2 t)⟩
theorem Later.new {K : PySem.W.Frag} {H : Hp} {t : Addr} {o : HO} (h : H t = none) : Later K H (upd H t o) := ⟨fun b u e _ => by rw [upd_ne (ne_of_none e h)]; exact e, fun x => x.ext fun b u e => by rw [upd_ne (ne_of_none e h)]; exact e⟩
theorem Seen.later {fs σ H H'} {K : PySem.W.Frag} (s : Seen K a dd i fs σ H) (l : Later K H H') : Seen K a dd i fs σ H' := ⟨s.1, l.1 _ _ s.2.1 (fun ps z => by cases z), l.2 s.2.2⟩
variable (T : XfC X.K C) (hz : Zc (.ref C) (some dd) oe) (hf : ∃ vs, oe.data = .fields vs) (hp : (a, oe) ∈ X.pn) (hN : X.N[i]? = some sf) (hv : Vis X.env.scope sf) (hd : (sf == ("__debug__" : Str)) = false) (hcd : (sf == ("__classdict__" : Str)) = false)
include T hz hf hp hN hv hd hcd
theorem pe_fd {n : Str} {p1 p2 : Pos} (hno : PySem.W.findIn X.K (.ref C) n = some none) : PE X (.Attribute (.Name sf p1) n p2) (fun σ H Q => ∃ fs v, Seen X.K a dd i fs σ H ∧ fs.lookup n = some v ∧ Q v H) :=
  PE.imp (pe_xfP T hno hz hf hp (pe_var (i := i) (x := sf) (pos := p1) hN hv hd hcd) rfl) fun σ H Q ⟨fs, v, ⟨h1, h2, _⟩, h3, h4⟩ => ⟨.ref a, h1, rfl, fs, v, h2, h3, h4⟩
/-- e.tag in ("..", ..) -/
theorem pt_tagin {es : List PySem.Expr} {ws : List Str} {k : Nat} {p1 p2 p3 p4 : Pos} (hu : X.A.units + 64 < cLine) (hno : PySem.W.findIn X.K (.ref C) "tag" = some none) (hes : ∀ p ∈ es.zip ws, ∃ j q, p.1 = .Constant (.str p.2) j q) (hl : es.length = ws.length) (hs : ws.length ≤ 100) :
    PT X (.Compare (.Attribute (.Name sf p1) "tag" p2) [.In] [.Tuple es k p3] p4) (fun σ H Q => ∃ fs z, Seen X.K a dd i fs σ H ∧ fs.lookup ("tag" : Str) = some (V.str z) ∧ ∀ H', Later X.K H H' → Q (ws.any fun w => w == z) H') := by
  refine PT.imp (pt_cmp (pc_op (pe_fd T hz hf hp hN hv hd hcd (p1 := p1) (p2 := p2) hno) (pe_tup (pos := p3) (x1 := k) (pa_strs hes hl)) (o_in hu kd0_ok)) rfl) fun σ H Q ⟨fs, z, s, hk, q⟩ => ?_
  refine ⟨fs, .str z, s, hk, ?_, fun t ht => ?_⟩
  · rw [List.length_map, sizeLine_eq]; omega
  · refine ⟨fun _ => 0, [], .str z, .tup (ws.map U.str), .bl (ws.any fun w => w == z), [], sim0 ((Later.new (K := X.K) ht).2 s.2.2), by simp only [RU], ?_, ?_, ?_⟩
    · simp only [RU]
      exact ⟨t, _, rfl, .inl (.inl upd_same), strs_RU ws⟩
    · show ((inSeq (.str z) (ws.map U.str)).map fun b => (U.bl b, ([] : Gp))) = _
      rw [in_strs]; rfl
    · intro f' H' e S v rv
      simp only [RU] at rv
      rw [rv]
      exact ⟨_, rfl, q H' ((Later.new ht).trans ⟨fun b o hb nt => (e.fr b o hb nt fun i hi => absurd hi (Nat.not_lt_zero _)).1, fun _ => S.tab⟩)⟩

theorem pt_tageq {w : Str} {j : Nat} {p1 p2 p3 p4 : Pos} (hw : PyData.strOk w = true) (hu : X.A.units + 64 < cLine) (hno : PySem.W.findIn X.K (.ref C) "tag" = some none) :
    PT X (.Compare (.Attribute (.Name sf p1) "tag" p2) [.Eq] [.Constant (.str w) j p3] p4) (fun σ H Q => ∃ fs z, PyData.strOk z = true ∧ Seen X.K a dd i fs σ H ∧ fs.lookup ("tag" : Str) = some (V.str z) ∧ ∀ H', Later X.K H H' → Q (z == w) H') := by
  refine PT.imp (pt_cmp (pc_op (pe_fd T hz hf hp hN hv hd hcd (p1 := p1) (p2 := p2) hno) (pe_str (x := w) (j := j) (pos := p3)) (o_eq (kd := kd0) hu)) rfl) fun σ H Q ⟨fs, z, sz, s, hk, q⟩ => ?_
  refine ⟨fs, .str z, s, hk, ?_⟩
  refine ⟨fun _ => 0, [], .str z, .str w, .bl (z == w), [], sim0 s.2.2, by simp only [RU], by simp only [RU], ?_, ?_⟩
  · show ((eqData (.str z) (.str w) []).map fun b => (U.bl b, ([] : Gp))) = _
    have e : eqData (.str z) (.str w) [] = some (z == w) := by
      unfold eqData
      simp only [toD, Option.bind_some]
      first | rfl | (rw [if_pos ⟨rfl, rfl⟩]; simp only [PyData.eqv]) | simp [SeqAt.shaped, PyData.eqv, PyData.canLay0, PyData.depth, sz, hw]
    rw [e]; rfl
  · intro f' H' e S v rv
    simp only [RU] at rv
    rw [rv]
    exact ⟨_, rfl, q H' ⟨fun b o hb nt => (e.fr b o hb nt fun i hi => absurd hi (Nat.not_lt_zero _)).1, fun _ => S.tab⟩⟩
end
def FR.val (z : Str) (fs : List (Str × V)) : FR → Option V
  | .fld n => fs.lookup n
  | .ife w n m => if (z == w) = true then fs.lookup n else fs.lookup m
  | .ifn w n => if (z == w) = true then fs.lookup n else some .non
def frB (sf : Str) : FR → PySem.Expr → Bool
  | .fld n, .Attribute (.Name x _) m _ => x == sf && m == n
  | .ife w n m, .IfExp (.Compare (.Attribute (.Name x _) t _) [.Eq] [.Constant (.str w') _ _] _) (.Attribute (.Name y _) n' _) (.Attribute (.Name z _) m' _) _ => PyData.strOk w && (x == sf && (t == "tag" && (w' == w && (y == sf && (n' == n && (z == sf && m' == m))))))
  | .ifn w n, .IfExp (.Compare (.Attribute (.Name x _) t _) [.Eq] [.Constant (.str w') _ _] _) (.Attribute (.Name y _) n' _) (.Constant .none _ _) _ => PyData.strOk w && (x == sf && (t == "tag" && (w' == w && (y == sf && n' == n))))
  | _, _ => false
def strB : List Str → List PySem.Expr → Bool
  | [], [] => true
  | w :: ws, .Constant (.str x) _ _ :: es => x == w && strB ws es
  | _, _ => false
def fbB (sf : Str) : List (List Str × FR) → FR → List Stmt → Bool
  | [], r, [.Return (some e) _] => frB sf r e
  | (ws, q) :: bs, r, .If (.Compare (.Attribute (.Name x _) t _) [.In] [.Tuple es _ _] _) [.Return (some e) _] [] _ :: ss => x == sf && (t == "tag" && (strB ws es && (decide (ws.length ≤ 100) && (frB sf q e && fbB sf bs r ss))))
  | _, _, _ => false
def fbV (z : Str) (fs : List (Str × V)) (r : FR) : List (List Str × FR) → Option V
  | [] => r.val z fs
  | (ws, q) :: bs => if (ws.any fun w => w == z) = true then q.val z fs else fbV z fs r bs
theorem strB_ok : ∀ {ws : List Str} {es : List PySem.Expr}, strB ws es = true → (∀ p ∈ es.zip ws, ∃ j q, p.1 = .Constant (.str p.2) j q) ∧ es.length = ws.length
  | [], [], _ => ⟨fun p hp => by simp at hp, rfl⟩
  | [], _ :: _, h => by simp [strB] at h
  | w :: ws, es, h => by
    unfold strB at h
    split at h
    · rename_i e; cases e
    · rename_i w' ws' x j q es' e1
      cases e1
      simp only [Bool.and_eq_true, beq_iff_eq] at h
      obtain ⟨rfl, h2⟩ := h
      obtain ⟨i1, i2⟩ := strB_ok h2
      refine ⟨fun p hp => ?_, by simp [i2]⟩
      simp only [List.zip_cons_cons, List.mem_cons] at hp
      rcases hp with rfl | hp
      · exact ⟨j, q, rfl⟩
      · exact i1 p hp
    · cases h
section
variable {X : Cx} {a C dd : Addr} {oe : Obj} {i : Nat} {sf : Str}
variable (T : XfC X.K C) (hz : Zc (.ref C) (some dd) oe) (hf : ∃ vs, oe.data = .fields vs) (hp : (a, oe) ∈ X.pn) (hN : X.N[i]? = some sf) (hv : Vis X.env.scope sf) (hd : (sf == ("__debug__" : Str)) = false) (hcd : (sf == ("__classdict__" : Str)) = false)
include T hz hf hp hN hv hd hcd
theorem pe_fr (hu : X.A.units + 64 < cLine) (hno : PySem.W.findIn X.K (.ref C) "tag" = some none) {r : FR} (hns : ∀ n ∈ r.names, PySem.W.findIn X.K (.ref C) n = some none) {e : PySem.Expr} (h : frB sf r e = true) :
    PE X e (fun σ H Q => ∃ fs z v, PyData.strOk z = true ∧ Seen X.K a dd i fs σ H ∧ fs.lookup ("tag" : Str) = some (V.str z) ∧ r.val z fs = some v ∧ ∀ H', Later X.K H H' → Q v H') := by
  unfold frB at h
  split at h
  · simp only [Bool.and_eq_true, beq_iff_eq] at h
    obtain ⟨rfl, rfl⟩ := h
    exact PE.imp (pe_fd T hz hf hp hN hv hd hcd (hns _ (by simp [FR.names]))) fun σ H Q ⟨fs, z, v, sz, s, k, e, q⟩ => ⟨fs, v, s, e, q H Later.refl⟩
  · simp only [Bool.and_eq_true, beq_iff_eq] at h
    obtain ⟨hw, rfl, rfl, rfl, rfl, rfl, rfl, rfl⟩ := h
    refine PE.imp (pe_ifExp (pt_tageq T hz hf hp hN hv hd hcd hw hu hno) (pe_fd T hz hf hp hN hv hd hcd (hns _ (by simp [FR.names]))) (pe_fd T hz hf hp hN hv hd hcd (hns _ (by simp [FR.names])))) fun σ H Q ⟨fs, z, v, sz, s, k, e, q⟩ => ⟨fs, z, sz, s, k, fun H' l => ?_⟩
    simp only [FR.val] at e
    dsimp only
    split
    · rename_i c
      rw [if_pos c] at e
      exact ⟨fs, v, s.later l, e, q H' l⟩
    · rename_i c
      rw [if_neg c] at e
      exact ⟨fs, v, s.later l, e, q H' l⟩
  · simp only [Bool.and_eq_true, beq_iff_eq] at h
    obtain ⟨hw, rfl, rfl, rfl, rfl, rfl⟩ := h
    refine PE.imp (pe_ifExp (pt_tageq T hz hf hp hN hv hd hcd hw hu hno) (pe_fd T hz hf hp hN hv hd hcd (hns _ (by simp [FR.names]))) pe_non) fun σ H Q ⟨fs, z, v, sz, s, k, e, q⟩ => ⟨fs, z, sz, s, k, fun H' l => ?_⟩
    simp only [FR.val] at e
    dsimp only
    split
    · rename_i c
      rw [if_pos c] at e
      exact ⟨fs, v, s.later l, e, q H' l⟩
    · rename_i c
      rw [if_neg c] at e
      cases e
      exact q H' l
  · cases h
theorem pss_fb (hu : X.A.units + 64 < cLine) (hno : PySem.W.findIn X.K (.ref C) "tag" = some none) {r : FR} (hr : ∀ n ∈ r.names, PySem.W.findIn X.K (.ref C) n = some none) : ∀ {bs : List (List Str × FR)} {ss : List Stmt}, (∀ p ∈ bs, ∀ n ∈ p.2.names, PySem.W.findIn X.K (.ref C) n = some none) → fbB sf bs r ss = true →
    PSs X ss (fun D σ H => ∃ fs z v, PyData.strOk z = true ∧ Seen X.K a dd i fs σ H ∧ fs.lookup ("tag" : Str) = some (V.str z) ∧ fbV z fs r bs = some v ∧ ∀ H', Later X.K H H' → D.rt v H') := by
  intro bs
  induction bs with
  | nil =>
    intro ss hb h
    unfold fbB at h
    split at h
    · exact PSs.imp (pss_one (ps_ret (pe_fr T hz hf hp hN hv hd hcd hu hno hr h))) fun D σ H ⟨fs, z, v, sz, s, k, e, q⟩ => ⟨fs, z, v, sz, s, k, e, q⟩
    · rename_i hq; cases hq
    · cases h
  | cons b bs ih =>
    intro ss hb h
    unfold fbB at h
    split at h
    · rename_i hq; cases hq
    · rename_i ws q bs' r' x p1 t p2 es k p3 p4 e p5 p6 ss' eq1
      cases eq1
      simp only [Bool.and_eq_true, beq_iff_eq, decide_eq_true_eq] at h
      obtain ⟨rfl, rfl, h1, h2, h3, h4⟩ := h
      obtain ⟨s1, s2⟩ := strB_ok h1
      have ih' := ih (ss := ss') (fun p hp => hb p (List.mem_cons_of_mem _ hp)) h4
      refine PSs.imp (pss_cons (ps_if (pt_tagin T hz hf hp hN hv hd hcd hu hno s1 s2 h2) (pss_one (ps_ret (pe_fr T hz hf hp hN hv hd hcd hu hno (fun n hn => hb _ List.mem_cons_self n hn) h3))) pss_nil) ih') fun D σ H ⟨fs, z, v, sz, s, k, e, q⟩ => ⟨fs, z, s, k, fun H' l => ?_⟩
      simp only [fbV] at e
      dsimp only
      split
      · rename_i c
        rw [if_pos c] at e
        exact ⟨fs, z, v, sz, s.later l, k, e, fun H2 l2 => q H2 (l.trans l2)⟩
      · rename_i c
        rw [if_neg c] at e
        exact ⟨fs, z, v, sz, s.later l, k, e, fun H2 l2 => q H2 (l.trans l2)⟩
    · cases h
end
end Z
namespace Z
open PySem PySem.Spec PyProof.Rows L2

/-- a def that tells an error's field: where it stands -/
structure FldD (K : PySem.W.Frag) (mg : Str → Option Value) (x : Str) (g : Addr) (sf : Str) (N : List Str) (bs : List (List Str × FR)) (r : FR) : Prop where
  mgx : mg x = some (.ref g)
  keep : PySem.W.keepIn K (.ref g) = true
  fn : ∃ oc od osl name qual params body scope dV kV doc pm an cdv ct, K.lookup g = some ⟨oc, od, .func (PySem.W.fnOf name qual params body scope dV kV doc pm an cdv ct), osl⟩ ∧ PySem.W.codeIn K cdv qual = true ∧ FnScope N [sf] scope ∧
    Binds K (PySem.W.fnOf name qual params body scope dV kV doc pm an cdv ct) [sf] [] ∧ fbB sf bs r body = true
  n0 : N[0]? = some sf
  d1 : (sf == ("__debug__" : Str)) = false
  d2 : (sf == ("__classdict__" : Str)) = false
/-- what of the class -/
structure FldC (K : PySem.W.Frag) (C : Addr) (bs : List (List Str × FR)) (r : FR) : Prop where
  xf : XfC K C
  tag : PySem.W.findIn K (.ref C) "tag" = some none
  rs : ∀ n ∈ r.names, PySem.W.findIn K (.ref C) n = some none
  bs : ∀ p ∈ bs, ∀ n ∈ p.2.names, PySem.W.findIn K (.ref C) n = some none
section
variable {X : Cx} {a C dd : Addr} {oe : Obj} {i : Nat} {ev x sf : Str} {g : Addr} {N : List Str} {bs : List (List Str × FR)} {r : FR} {p1 p2 pos : Pos}
theorem pe_hotfld (D : FldD X.K X.mg x g sf N bs r) (F : FldC X.K C bs r) (hz : Zc (.ref C) (some dd) oe) (hf : ∃ vs, oe.data = .fields vs) (hp : (a, oe) ∈ X.pn) (hN : X.N[i]? = some ev) (hv : Vis X.env.scope ev) (hd : (ev == ("__debug__" : Str)) = false) (hcd : (ev == ("__classdict__" : Str)) = false)
    (hg : Gl X x) (hdb : (x == ("__debug__" : Str)) = false) (hr : L2H.RoomH 1 X.A) :
    PE X (.Call (.Name x p1) [.Name ev p2] [] pos) (fun σ H Q => ∃ fs z v, PyData.strOk z = true ∧ Seen X.K a dd i fs σ H ∧ fs.lookup ("tag" : Str) = some (V.str z) ∧ fbV z fs r bs = some v ∧ ∀ H', Later X.K H H' → Q v H') := by
  refine ⟨fun pins s σ H Q I ⟨fs, z, v, sz, ⟨hs1, hs2⟩, hk, hv2, q⟩ => ?_⟩
  obtain ⟨oc, od, osl, name, qual, params, body, scope, dV, kV, doc, pm, an, cdv, ct, lk, hcd2, S, hb, hB⟩ := D.fn
  refine wpAny_Call_Name_kw (ld_glob I hg D.mgx ?_ hdb)
  refine PySem.W.callWith_K (h₀ := X.base) I.ok.mod.kin D.keep (thn ((pa_cons (pe_var (i := i) (x := ev) (pos := p2) hN hv hd hcd) pa_nil rfl).run pos pins s σ H (fun vs H1 => vs = [V.ref a] ∧ H1 = H) I ⟨.ref a, hs1, rfl, rfl⟩) fun us s1 ⟨vs, H1, I1, rv, e1, e2⟩ => ⟨I1.kIn, ?_⟩) rfl rfl
  subst e1
  rw [e2] at I1
  show wpAny _ _ (call (.ref g) us) _ _ _
  obtain ⟨pg, pf, pnl, pnf, pc⟩ := I1.pin (a, oe) (List.mem_append_left _ hp)
  have pin : L2H.PinOk X.stack H s1 (a, oe) := ⟨pg, pf, fun hm => by
    rcases List.mem_cons.mp (I1.stkSub a hm) with z | z
    · exact pnl z
    · exact pnf z, pc⟩
  have e0 := I1.env0
  have KX : X.K.In s1.heap := I1.kIn
  have hus : us.length = 1 := by
    have z := rv.length
    exact z.symm
  have hkind : ∀ y ∈ [sf].zip us, scope.names.lookup y.1 = some .local ∨ (scope.names.lookup y.1 = some .cell ∧ ((cellsFrom (s1.heap.objs.size + 1) scope.names []).lookup y.1).isSome = true) := fun ⟨n, v⟩ hy => by
    rcases S.par n (List.of_mem_zip hy).1 with q | q
    · exact .inl q
    · exact .inr ⟨q, PySem.W.cellsFrom_some _ _ _ (.inl q)⟩
  have rc : codeAny (model X.prog X.w) X.A (.call (.ref g) ⟨us, []⟩) (CR C8.CX0 X.stack X.prog X.w H s1 Q C8.E0) s1 := by
    have bt := hb s1 us KX (by rw [List.append_nil]; exact hus)
    rw [List.append_nil] at bt
    refine codeAny_call_function hr.depth (KX _ _ lk) rfl S.co S.gen rfl (PySem.W.codeRec_of KX hcd2) (bt _ _ _ _ ?_)
    refine wpAny_newFunctionEnv_cells S.kind hkind fun env he s2 x2 => ?_
    subst he
    refine ⟨I1.nolimit.keeps x2.toInCall.keep, codeAny_func ?_⟩
    have J : Inv (L2H.cxH C8.CX0 X.prog X.w X.K X.mg X.base N qual scope g cdv X.A X.stack s1 H C8.E0 (a, oe)) [] (L2.start N [.ref a]) H s2 := L2H.inv_startH S pin e0 rfl rv x2
    have hu : (X.A.deeper (envOfC qual scope s1.heap.objs.size g cdv)).units + 64 < cLine := by
      have := hr.un
      show X.A.units + 3 + 64 < cLine
      omega
    have vs' : Vis scope sf := by
      rcases S.par sf (by simp) with q | q
      · exact .inl q
      · exact .inr (.inl q)
    have B := pss_fb (X := L2H.cxH C8.CX0 X.prog X.w X.K X.mg X.base N qual scope g cdv X.A X.stack s1 H C8.E0 (a, oe)) (i := 0) (sf := sf) F.xf hz hf (List.mem_singleton.mpr rfl) D.n0 vs' D.d1 D.d2 hu F.tag F.rs F.bs hB
    have h0 : (L2.start N [V.ref a])[0]? = some (some (V.ref a)) := rfl
    refine wpAny_mono (B.run [] s2 (L2.start N [.ref a]) H { nx := fun _ H' => Q .non H', rt := Q } J ⟨fs, z, v, sz, ⟨h0, hs2⟩, hk, hv2, q⟩) (fun fl s' hs => ?_) fun e s' hs => hs
    have fin : ∀ {σ' : L2.St} {H' : Hp} {v : V} {u : Value}, Inv (L2H.cxH C8.CX0 X.prog X.w X.K X.mg X.base N qual scope g cdv X.A X.stack s1 H C8.E0 (a, oe)) [] σ' H' s' → RelV v u → Q v H' → CE X.stack X.prog X.w H s1 Q u s' :=
      fun {σ' H' v u} J rv q => ⟨v, H', J.os, J.bare, J.base, J.hok, rv, q⟩
    cases fl with
    | ret u =>
      obtain ⟨v, σ', H', J, rv, q⟩ := hs
      exact fin J rv q
    | next =>
      obtain ⟨σ', H', J, q⟩ := hs
      exact fin (v := V.non) (u := Value.none) J rfl q
    | brk =>
      obtain ⟨_, _, _, q⟩ := hs
      exact False.elim q
    | cont =>
      obtain ⟨_, _, _, q⟩ := hs
      exact False.elim q
  refine wpAny_call (codeAny_mono rc fun r s' hq => ?_)
  cases r with
  | error e => exact (show False from hq).elim
  | ok fl =>
    cases fl with
    | ret u => exact I1.after hq
    | next => exact False.elim hq
    | brk => exact False.elim hq
    | cont => exact False.elim hq
end
end Z
namespace Z
open PySem PySem.Spec PyProof.Rows L2

def okN' (x : Str) : Bool := !(x == ("__debug__" : Str)) && !(x == ("__classdict__" : Str))
/-- try: told = ask() / except (x1, x2, x3) as ev: return (ev.tag, fld(ev)) // return ("", told): what it makes of the lambda -/
def TWhy (K : PySem.W.Frag) (cs : List Value) (bs : List (List Str × FR)) (r : FR) : (XK → Hp → VK → Prop) → Hp → VK → Prop := fun tl H Q =>
  tl (fun cls d H' => ∃ C dd fs z v, cls = .ref C ∧ d = some dd ∧ (H' dd = some (.xd fs) ∧ LamX.Tabs (tbOf K) H') ∧ PyData.strOk z = true ∧ fs.lookup ("tag" : Str) = some (V.str z) ∧ fbV z fs r bs = some v ∧ PySem.W.exmAny K (.ref C) cs = some true ∧ FldC K C bs r ∧
      ∀ H2 t, Later K H' H2 → H2 t = none → Q (.ref t) (upd H2 t (.tup [.str z, v])))
    H (fun v H' => ∀ t, H' t = none → Q (.ref t) (upd H' t (.tup [.str Str.empty, v])))
abbrev whyBody (ask told ev fld x1 x2 x3 em : Str) (kk k2 k3 j1 : Nat) (a1 a2 a3 a4 b1 b2 b3 b4 c1 c2 c3 c4 c5 c6 d1 d2 e1 e2 e3 e4 e5 : Pos) : List Stmt :=
  [.Try [.Assign [.Name told a1] (.Call (.Name ask a2) [] [] a3) a4]
    [.ExceptHandler (some (.Tuple [.Name x1 b1, .Name x2 b2, .Name x3 b3] kk b4)) (some ev) [.Return (some (.Tuple [.Attribute (.Name ev c1) "tag" c2, .Call (.Name fld c3) [.Name ev c4] [] c5] k2 c6)) d1] d2] [] [] e1,
   .Return (some (.Tuple [.Constant (.str em) j1 e2, .Name told e3] k3 e4)) e5]
/-- the wish may be stronger -/
theorem PE.weak {X : Cx} {e : PySem.Expr} {te : TE} (he : PE X e te) : PE X e (fun σ H Q => ∃ Qn : VK, (∀ v H', Qn v H' → Q v H') ∧ te σ H Qn) :=
  ⟨fun pins s σ H Q I ⟨Qn, hm, ht⟩ => thn (he.run pins s σ H Qn I ht) fun u s1 ⟨v, H1, I1, r1, q⟩ => ⟨v, H1, I1, r1, hm v H1 q⟩⟩
section
variable {X : Cx}
theorem why_gives {Ng : List Str} {x ask told ev fld x1 x2 x3 q sf : Str} {sg : Scope} {g gf C1 C2 C3 : Addr} {cdg : Value} {N : List Str} {bs : List (List Str × FR)} {r : FR} {kk k2 k3 j1 i j : Nat} {a1 a2 a3 a4 b1 b2 b3 b4 c1 c2 c3 c4 c5 c6 d1 d2 e1 e2 e3 e4 e5 : Pos}
    (D : FldD X.K X.mg fld gf sf N bs r) (hr : Room 3 X.A) (hnd : Ng.Nodup) (h0 : ∀ f : Addr, (L2.start Ng [V.ref f])[0]? = some (some (V.ref f))) (hi : Ng[i]? = some ev) (hj : Ng[j]? = some told) (hij : i ≠ j) (hi0 : i ≠ 0) (hj0 : j ≠ 0)
    (lev : sg.names.lookup ev = some .local) (ltd : sg.names.lookup told = some .local) (gfl : sg.names.lookup fld = some .globalImplicit) (g1 : sg.names.lookup x1 = some .globalImplicit) (g2 : sg.names.lookup x2 = some .globalImplicit) (g3 : sg.names.lookup x3 = some .globalImplicit)
    (m1 : X.mg x1 = some (.ref C1)) (m2 : X.mg x2 = some (.ref C2)) (m3 : X.mg x3 = some (.ref C3)) (ok : ∀ y ∈ [ev, told, fld, x1, x2, x3], okN' y = true) :
    LamX.GivesTo X Ng x sg g cdg (whyBody ask told ev fld x1 x2 x3 Str.empty kk k2 k3 j1 a1 a2 a3 a4 b1 b2 b3 b4 c1 c2 c3 c4 c5 c6 d1 d2 e1 e2 e3 e4 e5) ask q (TWhy X.K [.ref C1, .ref C2, .ref C3] bs r) := by
  intro f c' s H Q tl act hc h
  have okd : ∀ y ∈ [ev, told, fld, x1, x2, x3], (y == ("__debug__" : Str)) = false ∧ (y == ("__classdict__" : Str)) = false := fun y hy => by
    have z := ok y hy
    unfold okN' at z
    simp only [Bool.and_eq_true, Bool.not_eq_true'] at z
    exact z
  have lj : j < Ng.length := (List.getElem?_eq_some_iff.mp hj).1
  have li : i < Ng.length := (List.getElem?_eq_some_iff.mp hi).1
  have len : (L2.start Ng [V.ref f]).length = Ng.length := by
    unfold L2.start
    simp
    omega
  let X0 : Cx := (cxOf C8.CX0 X.prog X.w X.K X.mg X.base Ng x sg g cdg X.A X.stack s H C8.E0).nox
  let ts : Addr → Value → Option Addr → TS := fun a cls d D σ H => ∃ C dd fs z v, cls = .ref C ∧ d = some dd ∧ FldC X.K C bs r ∧ PyData.strOk z = true ∧ Seen X.K a dd i fs σ H ∧ fs.lookup ("tag" : Str) = some (V.str z) ∧ fbV z fs r bs = some v ∧
    ∀ H2 t, Later X.K H H2 → H2 t = none → D.rt (.ref t) (upd H2 t (.tup [.str z, v]))
  let tb : WX → TS := fun W D σ H => ∃ (Ech : XK) (Qn : VK), (∀ cls d σ' H', Ech cls d H' → σ'.length = Ng.length → W cls d σ' H') ∧ (∀ v H', Qn v H' → D.nx (σ.set j (some v)) H') ∧ σ[0]? = some (some (.ref f)) ∧ H c' = some (LamX.CodeO c' q) ∧ tl Ech H Qn
  have hsu : ∀ (a : Addr) (oe : Obj) (cls : Value) (d : Option Addr) (pn : List (Addr × Obj)), Zc cls d oe → (∃ vs, oe.data = .fields vs) →
      PSs (X0.suite a ((a, oe) :: pn)) [.Return (some (.Tuple [.Attribute (.Name ev c1) "tag" c2, .Call (.Name fld c3) [.Name ev c4] [] c5] k2 c6)) d1] (ts a cls d) := fun a oe cls d pn hz hf => by
    refine ⟨fun pins s' σ H' D' I ⟨C, dd, fs, z, v, e1, e2, F, sz, se, hk, hv, q⟩ => ?_⟩
    subst e1
    subst e2
    have rm : L2H.RoomH 1 (X0.suite a ((a, oe) :: pn)).A := ⟨by have := hr.dp; show X.A.depth + 1 + 3 * 1 + 5 < _; omega, by have := hr.un; show X.A.units + 3 + 16 * 1 + 200 < _; omega⟩
    have hpn : (a, oe) ∈ (X0.suite a ((a, oe) :: pn)).pn := List.mem_cons_self
    exact (pss_one (ps_ret (pe_tup (pa_cons (pe_fd (X := X0.suite a ((a, oe) :: pn)) (i := i) (sf := ev) F.xf hz hf hpn hi (.inl lev) (okd ev (by simp)).1 (okd ev (by simp)).2 F.tag)
      (pa_cons (pe_hotfld (X := X0.suite a ((a, oe) :: pn)) (i := i) (ev := ev) D F hz hf hpn hi (.inl lev) (okd ev (by simp)).1 (okd ev (by simp)).2 gfl (okd fld (by simp)).1 rm) pa_nil rfl) rfl)))).run pins s' σ H' D' I
        ⟨fs, .str z, se, hk, fs, z, v, sz, se, hk, hv, fun H2 l => ⟨by show 2 ≤ sizeLine; rw [sizeLine_eq]; decide, fun t ht => q H2 t l ht⟩⟩
  have tlen : ∀ {Y : Cx} {W : WX}, Takes Y W → Takes Y fun cls d σ H => σ.length = Y.N.length → W cls d σ H := fun {Y W} tk u s' ⟨a, B, sI, pins, σ, H, cls, d, e, I, nb, up, sky, na, os, ag, w⟩ => tk u s' ⟨a, B, sI, pins, σ, H, cls, d, e, I, nb, up, sky, na, os, ag, w I.len⟩
  refine ⟨_, pss_cons (ps_try_as3 (X := X0) (tb := tb) (ts := ts) (i := i) rfl rfl hnd hi lev ⟨g1, (okd x1 (by simp)).1, .inl m1⟩ ⟨g2, (okd x2 (by simp)).1, .inl m2⟩ ⟨g3, (okd x3 (by simp)).1, .inl m3⟩ (fun W pn xe tk _ => ?_) hsu)
    (pss_one (ps_ret (pe_tup (pa_cons pe_str (pa_cons (pe_var (i := j) (x := told) (pos := e3) hj (.inl ltd) (okd told (by simp)).1 (okd told (by simp)).2) pa_nil rfl) rfl)))), ?_⟩
  · refine ⟨fun pins s' σ H' D' I ⟨Ech, Qn, hW, hq, h1, h2, h3⟩ => ?_⟩
    have hp := act (fun cls d σ H => σ.length = Ng.length → W cls d σ H) pn xe Ech a2 a3 (tlen tk) (fun cls d σ' H' hE hl => hW cls d σ' H' hE hl)
    exact (pss_one (ps_set (X := X0.tr pn xe) (i := j) (x := told) (pos' := a1) (pos := a4) hnd hj (.inl ltd) (PE.weak hp) rfl (.inl rfl))).run pins s' σ H' D' I ⟨Qn, hq, h1, h2, h3⟩
  · refine ⟨fun cls d H' => ∃ C dd fs z v, cls = .ref C ∧ d = some dd ∧ (H' dd = some (.xd fs) ∧ LamX.Tabs (tbOf X.K) H') ∧ PyData.strOk z = true ∧ fs.lookup ("tag" : Str) = some (V.str z) ∧ fbV z fs r bs = some v ∧ PySem.W.exmAny X.K (.ref C) [.ref C1, .ref C2, .ref C3] = some true ∧ FldC X.K C bs r ∧
      ∀ H2 t, Later X.K H' H2 → H2 t = none → Q (.ref t) (upd H2 t (.tup [.str z, v])), fun v H' => ∀ t, H' t = none → Q (.ref t) (upd H' t (.tup [.str Str.empty, v])), fun cls d σ' H' hE hl => ?_, fun v H' hq => ?_, h0 f, hc, h⟩
    · obtain ⟨C, dd, fs, z, v, rfl, rfl, hx, sz, hk, hv, he, F, q⟩ := hE
      exact ⟨he, fun a ha => ⟨C, dd, fs, z, v, rfl, rfl, F, sz, ⟨List.getElem?_set_self (by rw [hl]; exact li), hx⟩, hk, hv, q⟩⟩
    · exact ⟨v, List.getElem?_set_self (by rw [len]; exact lj), by show 2 ≤ sizeLine; rw [sizeLine_eq]; decide, fun t ht => hq t ht⟩
end
end Z
namespace Z
open PySem PySem.Spec PyProof.Rows L2

/-! ## the program's facts -/
def spC (Y : Wr) (cf : Cf) (q : Str) : Sp := fun vs H Q E => ∃ f G us, Sim Y H f G ∧ RUs Y H f G.length us vs ∧ Rs Y (fun c d _ H => E c d H) (cf q us G) H f G.length [] (kV' Y Q)

/-- a module's ground -/
structure Gr where
  P : Program
  w : World
  K : PySem.W.Frag
  mg : Str → Option Value
  base : Heap
abbrev gr (X : Cx) : Gr := ⟨X.prog, X.w, X.K, X.mg, X.base⟩
abbrev Gr.wr (g : Gr) (kd : Str → Option (List (Str × U))) : Wr := ⟨g.K, g.mg, kd⟩
def DefOk (g : Gr) (Y : Wr) (cf : Cf) (lv : Nat) (q : Str) (f : Addr) : Prop := ∃ fd ps, Binds g.K fd ps [] ∧ FnOk g.P g.w g.K g.mg g.base (L2.CX g.P g.w) lv f fd ps (spC Y cf q)
/-- a value of the module's, whatever the heap -/
def GV (Y : Wr) (u : U) (val : Value) : Prop := ∃ v, RelV v val ∧ ∀ H f n, RU Y H f n u v
def bltNames : List Str := ["len", "all", "any", "sum", "min", "max", "abs", "sorted", "int", "str", "list", "tuple", "bool", "dict", "range", "enumerate", "zip", "isinstance"]
structure OwnCls (g : Gr) (C : Str) (A : Addr) : Prop where
  mg : g.mg C = some (.ref A)
  cl : Cls g.K A
/-- the dicts of the top -/
def KdO (g : Gr) (kd : Str → Option (List (Str × U))) : Prop := ∀ x kvs, kd x = some kvs → ∃ d es n, g.mg x = some (.ref d) ∧ KDict g.K g.w d es n ∧
  ∀ z, ∃ r, PySem.W.nsIn g.K d z = some r ∧ match kvs.lookup z with
    | some u => ∃ u0 v0, r = some u0 ∧ RelV v0 u0 ∧ ∀ H f n, RU (g.wr kd) H f n u v0
    | none => r = none
def tyS : Ty → String
  | .tnone => "NoneType" | .tint => "int" | .tbool => "bool" | .tstr => "str" | .tlist => "list" | .ttup => "tuple" | .tdict => "dict" | .own _ => ""
def TyVal (g : Gr) (t : Ty) (v : Value) : Prop := match t with
  | .own C => g.mg C = some v ∧ ∃ A, v = .ref A
  | t => v = .type (tyS t)
structure InstCls (g : Gr) (C : Str) : Prop where
  ex : ∃ A, OwnCls g C A ∧ PySem.W.findIn g.K (.ref A) "__class__" = some (some (.builtin "object.__class__")) ∧ PySem.W.mroIn g.K A (.type "object") = some true
  gs : PySem.W.specialIn g.K (.builtin "object.__class__") "__get__" = some (some (.builtin "getset_descriptor.__get__"))
  tk : PySem.W.takesIn g.K (.builtin "object.__class__") = some true
structure EqFacts (K : PySem.W.Frag) (A f : Addr) : Prop where
  at_ : PySem.W.findIn K (.ref A) "__eq__" = some (some (.ref f))
  fn : PySem.W.isFn K (.ref f) = true
  tup : PySem.W.notFirst K A (.type "tuple") = true
  ne : ∀ (a : Addr) (h : Heap) (o : Obj), K.In h → h.get? a = some o → o.cls = .ref A → h.OwnEqNoNe a A f "object" [.type "object"]
/-- its record at p, its def at g -/
structure SMet (K : PySem.W.Frag) (C : Addr) (mc : Value) (m : Str) (p g : Addr) : Prop where
  at_ : PySem.W.findCls K (.ref C) mc m = some (.get (.builtin "staticmethod.__get__") (.ref p) .none (.ref C))
  rc : ∃ rest, PySem.W.recIn K p "staticmethod" = some (.ref g :: rest)
  kp : PySem.W.keepIn K (.ref g) = true
/-- a def of one parameter called by its keyword -/
def KB (K : PySem.W.Frag) (fd : FuncData) (kn : Str) : Prop := ∀ (s : Shared) (u : Value), K.In s.heap → BindsTo s fd ⟨[], [(kn, u)]⟩ [(kn, u)]
/-- the def that calls what it gets and tells its error -/
structure WhyOk (g : Gr) (exn : Str → Option (Str × List Str)) (bs : List (List Str × FR)) (r : FR) : Prop where
  ex : ∃ (gw : Addr) (cs : List Value) (ask : Str) (Ng : List Str) (pg : Arguments) (bg : List Stmt) (sg : Scope) (dV kV doc pm cdv ct oc : Value) (an od : Option Addr) (osl : Array (Option Value)),
    g.mg "_law_why" = some (.ref gw) ∧ PySem.W.keepIn g.K (.ref gw) = true ∧ g.K.lookup gw = some ⟨oc, od, .func (PySem.W.fnOf "_law_why" "_law_why" pg bg sg dV kV doc pm an cdv ct), osl⟩ ∧
    PySem.W.codeIn g.K cdv "_law_why" = true ∧ Binds g.K (PySem.W.fnOf "_law_why" "_law_why" pg bg sg dV kV doc pm an cdv ct) [ask] [] ∧ FnScope Ng [ask] sg ∧ Ng[0]? = some ask ∧ Vis sg ask ∧
    (ask == ("__debug__" : Str)) = false ∧ (ask == ("__classdict__" : Str)) = false ∧
    (∀ (X : Cx) (q : Str), gr X = g → Room 3 X.A → LamX.GivesTo X Ng "_law_why" sg gw cdv bg ask q (TWhy X.K cs bs r)) ∧
    ∀ c tf, exn c = some tf → ∃ C, g.mg c = some (.ref C) ∧ PySem.W.exmAny g.K (.ref C) cs = some true ∧ FldC g.K C bs r
structure Wf (g : Gr) (T : Pg) (cf : Cf) (lv : Nat) : Prop where
  kdo : KdO g T.kd
  blt : ∀ x ∈ bltNames, g.mg x = none
  gv : ∀ x u, T.gv x = some u → ∃ val, g.mg x = some val ∧ GV (g.wr T.kd) u val
  isa : ∀ t c b, T.isa t c = some b → ∀ tv cv, TyVal g t tv → TyVal g c cv → PySem.W.kitOne g.K tv cv = some b
  cls : ∀ C, T.cls C = true → ∃ A, g.mg C = some (.ref A)
  isi : ∀ C c b, T.isa (.own C) c = some b → InstCls g C
  call : ∀ x, T.gf x = true → ∃ f, g.mg x = some (.ref f) ∧ PySem.W.keepIn g.K (.ref f) = true ∧ DefOk g (g.wr T.kd) cf lv x f
  meth : ∀ C m q, T.meth C m = some q → ∃ A f, OwnCls g C A ∧ Meth g.K A m f ∧ DefOk g (g.wr T.kd) cf lv q f
  prop : ∀ C m q, T.prop C m = some q → ∃ A p f, OwnCls g C A ∧ PropOf g.K A m p f ∧ DefOk g (g.wr T.kd) cf lv q f
  fld : ∀ C m, T.fld C m = true → ∃ A, OwnCls g C A ∧ NoAttr g.K A m
  con : ∀ C m u, T.con C m = some u → ∃ A v val, OwnCls g C A ∧ Con g.K A m v val ∧ ∀ H f n, RU (g.wr T.kd) H f n u v
  eqm : ∀ C q, T.eqm C = some q → ∃ A f, OwnCls g C A ∧ EqFacts g.K A f ∧ DefOk g (g.wr T.kd) cf lv q f
  lnm : ∀ C q, T.lnm C = some q → ∃ A f, OwnCls g C A ∧ PySem.W.findIn g.K (.ref A) "__len__" = some (some (.ref f)) ∧ PySem.W.isFn g.K (.ref f) = true ∧ DefOk g (g.wr T.kd) cf lv q f
  make : ∀ C, T.own C = true → ∃ A f, OwnCls g C A ∧ Mk g.K A f ∧ DefOk g (g.wr T.kd) cf lv (C ++ ".__init__") f
  exn : ∀ c tag flds, T.exn c = some (tag, flds) → ∃ C, ErOk g.P g.w g.K g.mg g.base c C tag flds
  tabs : ∀ p ∈ csOf g.K, LamX.TabB g.base g.mg p.1 p.2
  why : ∀ bs r, T.why = some (bs, r) → WhyOk g T.exn bs r
  smet : ∀ C m q, T.smet C m = some q → ∃ A mc p f, g.mg C = some (.ref A) ∧ ClX.CRead g.K A mc ∧ SMet g.K A mc m p f ∧ DefOk g (g.wr T.kd) cf lv q f
  smek : ∀ C m q kn, T.smek C m = some (q, kn) → ∃ A mc p f fd, g.mg C = some (.ref A) ∧ ClX.CRead g.K A mc ∧ SMet g.K A mc m p f ∧ KB g.K fd kn ∧ FnOk g.P g.w g.K g.mg g.base (L2.CX g.P g.w) lv f fd [kn] (spC (g.wr T.kd) cf q)

/-! ## where code stands -/
/-- the code object that makes lambdas, its table -/
structure LamOk (X : Cx) (lv : Nat) : Prop where
  room : Room (lv + 3) X.A
  code : ∃ c P, X.env.code = .ref c ∧ (c, P) ∈ csOf X.K ∧ (P, X.env.qual ++ "<lambda>") ∈ tbOf X.K ∧ ∀ p ∈ tbOf X.K, p.1 = P → p.2 = X.env.qual ++ "<lambda>"
structure Good (X : Cx) (N : List Str) (sc : Scope) (lv : Nat) : Prop where
  hN : X.N = N
  nd : N.Nodup
  calm : X.calm = true
  kind : X.env.scope.kind = .function
  room : Room (lv + 1) X.A
  lam : sc.isCoroutine = false → LamOk X lv
  rel : ∀ x k, sc.names.lookup x = some k → X.env.scope.names.lookup x = some k ∨ (k = .free ∧ X.env.scope.names.lookup x = some .cell)
  fnc : ∀ x, sc.names.lookup x = some .cell → X.fn x = true
theorem relS_free {sc : Scope} : ∀ {names : List (Str × NameKind)} {x : Str}, names.lookup x = some .free →
    (names.map fun (n, k) => if (k == NameKind.free && sc.kind == .function && sc.names.lookup n == some .cell) then (n, NameKind.cell) else (n, k)).lookup x = some .free ∨
    (names.map fun (n, k) => if (k == NameKind.free && sc.kind == .function && sc.names.lookup n == some .cell) then (n, NameKind.cell) else (n, k)).lookup x = some .cell
  | [], _, h => by simp at h
  | (n, k₀) :: r, x, h => by
    have ih := @relS_free sc r x
    have e : ∀ kk, (List.lookup x ((if (k₀ == NameKind.free && sc.kind == .function && sc.names.lookup n == some .cell) = true then (n, NameKind.cell) else (n, k₀)) :: (r.map fun (n, k) => if (k == NameKind.free && sc.kind == .function && sc.names.lookup n == some .cell) then (n, NameKind.cell) else (n, k)))) = kk ↔
      (((n, k₀) :: r).map fun (n, k) => if (k == NameKind.free && sc.kind == .function && sc.names.lookup n == some .cell) then (n, NameKind.cell) else (n, k)).lookup x = kk := fun kk => Iff.rfl
    rw [← e, ← e]
    cases hx : x == n with
    | true =>
      simp only [List.lookup_cons, hx] at h
      cases h
      by_cases hc : (NameKind.free == NameKind.free && sc.kind == .function && sc.names.lookup n == some .cell) = true
      · rw [if_pos hc]; exact .inr (by simp only [List.lookup_cons, hx])
      · rw [if_neg hc]; exact .inl (by simp only [List.lookup_cons, hx])
    | false =>
      simp only [List.lookup_cons, hx] at h
      have ih := ih h
      by_cases hc : (k₀ == NameKind.free && sc.kind == .function && sc.names.lookup n == some .cell) = true
      · rw [if_pos hc]; simp only [List.lookup_cons, hx]; exact ih
      · rw [if_neg hc]; simp only [List.lookup_cons, hx]; exact ih
theorem Good.blk {X N sc lv} (g : Good X N sc lv) (s : Shared) (H : Hp) (scope : Scope) (hk : scope.kind = .function) (C : Addr) (cl : List (Str × Addr)) (fp : List Addr) : Good (X.blk s H scope (compEnvC scope cl C X.env) fp) N (inS sc scope) lv where
  hN := g.hN
  nd := g.nd
  calm := g.calm
  kind := hk
  room := g.room
  lam := fun h => let ⟨r, c, P, h1, h2, h3, h4⟩ := g.lam h; ⟨r, c, P, h1, h2, h3, h4⟩
  rel := fun x k h => by
    show (relS scope X.env.scope).names.lookup x = some k ∨ (k = .free ∧ (relS scope X.env.scope).names.lookup x = some .cell)
    unfold relS
    by_cases hk : k = .free
    · subst hk
      rcases relS_free (sc := X.env.scope) h with q | q
      · exact .inl q
      · exact .inr ⟨rfl, q⟩
    · exact .inl (lookup_relS_keep hk h)
  fnc := fun x h => by show (scope.names.lookup x == some .cell) = true; rw [h]; rfl
section
variable {X : Cx} {N : List Str} {sc : Scope} {lv : Nat}
theorem ne_dbg {x : Str} (h : (x != "__debug__") = true) : (x == ("__debug__" : Str)) = false := by simpa [bne] using h
theorem Good.vi (g : Good X N sc lv) {x : Str} (h : vi? sc x = true) : Vis X.env.scope x ∧ (x == ("__debug__" : Str)) = false ∧ (x == ("__classdict__" : Str)) = false := by
  unfold vi? at h
  simp only [Bool.and_eq_true] at h
  obtain ⟨⟨h1, h2⟩, h3⟩ := h
  refine ⟨?_, ne_dbg h2, by simpa [bne] using h3⟩
  split at h1
  · rename_i e; rcases g.rel x _ e with q | ⟨q, _⟩
    · exact .inl q
    · cases q
  · rename_i e; rcases g.rel x _ e with q | ⟨q, _⟩
    · exact .inr (.inl q)
    · cases q
  · rename_i e; rcases g.rel x _ e with q | ⟨_, q⟩
    · exact .inr (.inr q)
    · exact .inr (.inl q)
  · cases h1
theorem Good.lo (g : Good X N sc lv) {x : Str} (h : lo? sc x = true) : Loc X.env.scope x ∧ (X.fn x = true ∨ X.env.scope.names.lookup x = some .local) := by
  unfold lo? at h
  split at h
  · rename_i e; rcases g.rel x _ e with q | ⟨q, _⟩
    · exact ⟨.inl q, .inr q⟩
    · cases q
  · rename_i e; rcases g.rel x _ e with q | ⟨q, _⟩
    · exact ⟨.inr q, .inl (g.fnc x e)⟩
    · cases q
  · cases h
theorem Good.gl (g : Good X N sc lv) {x : Str} (h : gl? sc x = true) : Gl X x ∧ x ≠ "__name__" ∧ (x == ("__debug__" : Str)) = false := by
  unfold gl? at h
  simp only [Bool.and_eq_true] at h
  obtain ⟨⟨h1, h2⟩, h3⟩ := h
  refine ⟨?_, by simpa [bne] using h3, ne_dbg h2⟩
  have e : sc.names.lookup x = some .globalImplicit := by
    cases q : sc.names.lookup x with
    | none => rw [q] at h1; cases h1
    | some k => rw [q] at h1; cases k <;> first | rfl | cases h1
  rcases g.rel x _ e with q | ⟨q, _⟩
  · exact q
  · cases q
theorem Good.ok (g : Good X N sc lv) {s : Scope} {own : List (Str × Nat)} (h : blkC N sc s own = true) : BlkOk X.N X.env.scope s own := by
  have b := blkOk_by h
  rw [g.hN]
  refine ⟨b.kind, b.uniq, b.ix, fun y hy e => ?_, b.own⟩
  rcases b.free y hy e with q | q
  · rcases g.rel _ _ q with r | ⟨r, _⟩
    · exact .inl r
    · cases r
  · rcases g.rel _ _ q with r | ⟨_, r⟩
    · exact .inr r
    · exact .inl r
theorem Good.hN_nd (g : Good X N sc lv) : X.N.Nodup := by rw [g.hN]; exact g.nd
theorem Good.hu (g : Good X N sc lv) : X.A.units + 64 < cLine := g.room.units
end
theorem star_plain {e : PySem.Expr} {es : List PySem.Expr} {env : Env} (h : star? e = false) : starEach (e :: es) env = (false, eval e env) :: starEach es env := by
  cases e <;> first | rfl | cases h
theorem no_star {env : Env} {pos : Pos} : ∀ {es : List PySem.Expr}, (∀ e ∈ es, star? e = false) → (backTo pos (starEach es env)).any (·.1) = false
  | [], _ => rfl
  | e :: es, h => by
    rw [star_plain (h e (List.mem_cons_self))]
    show (false || (backTo pos (starEach es env)).any (·.1)) = false
    rw [no_star fun x hx => h x (List.mem_cons_of_mem _ hx)]; rfl
theorem base_plain {o : PySem.Expr} {f : Str} {env : Env} (h : base? o = true) (w : Sem Value) : attributeBase o f env w = w := by
  unfold attributeBase
  split
  · rename_i id p pos
    have e : (id != "super") = true := h
    simp only [e, Bool.true_or]
    rfl
  · rfl
/-! ## calls: no argument or some -/
theorem args_nil {M : Model} {A : Around} {E : Value → Shared → Prop} {s : Shared} {f : Value} {Q : Args → Shared → Prop} (h : wpAny M A (spliced []) (fun vs s' => Q ⟨vs, []⟩ s') E s) : wpAny M A (evalArgs f true [] []) Q E s := by
  unfold evalArgs
  show wpAny M A (spliced [] >>= _) Q E s
  refine wpAny_bind (wpAny_mono h (fun vs s' h' => ?_) fun _ _ x => x)
  refine wpAny_holding ?_
  exact wpAny_bind (wpAny_pure (wpAny_bind (wpAny_pure (wpAny_pure h'))))
theorem args_any {M : Model} {A : Around} {E : Value → Shared → Prop} {s : Shared} {f : Value} {env : Env} {pos : Pos} {es : List PySem.Expr} {Q : Args → Shared → Prop} (hn : ∀ e ∈ es, star? e = false)
    (h : wpAny M A (spliced (backTo pos (starEach es env))) (fun vs s' => Q ⟨vs, []⟩ s') E s) : wpAny M A (evalArgs f true (backTo pos (starEach es env)) []) Q E s := by
  cases es with
  | nil => exact args_nil h
  | cons e es =>
    rw [star_plain (hn e List.mem_cons_self)] at h ⊢
    exact Calls.evalArgs_plain h
/-- the lambda's body stands so too -/
theorem Good.lamb {X : Cx} {N : List Str} {sc : Scope} {lv : Nat} (g : Good X N sc lv) {A : Around} {outer : List Env} {s : Shared} {H : Hp} {E : XK} {scope : Scope} {f c' : Addr} (L : LamX.LamS X.env.scope scope) (hr : Room (lv + 1) (A.deeper (LamX.lamEnv X scope s.heap.objs.size f c'))) :
    Good (LamX.lamCx X A outer s H E scope f c') N { scope with isCoroutine := true } lv where
  hN := g.hN
  nd := g.nd
  calm := rfl
  kind := L.kind
  room := hr
  lam := fun h => by cases h
  rel := fun x k h => .inl h
  fnc := fun x h => absurd rfl (L.own _ (PySem.mem_of_lookup h)).2
theorem Good.lams {X : Cx} {N : List Str} {sc : Scope} {lv : Nat} (g : Good X N sc lv) {scope : Scope} (h : LamX.lamSB sc scope = true) : LamX.LamS X.env.scope scope :=
  let L := LamX.lamS_by h
  ⟨L.kind, L.co, L.gen, L.own, fun y hy e => by
    rcases L.free y hy e with k | k
    · rcases g.rel _ _ k with z | ⟨z, _⟩
      · exact .inl z
      · cases z
    · rcases g.rel _ _ k with z | ⟨_, z⟩
      · exact .inr z
      · exact .inl z⟩
/-- a callee that is kept -/
theorem callWith_L {K : PySem.W.Frag} {M : Model} {A : Around} {E : Value → Shared → Prop} {s : Shared} {f : Value} {first : List Value} {env : Env} {pos : Pos} {es : List PySem.Expr} {Q : Value → Shared → Prop} (hk : PySem.W.keepIn K f = true) (hn : ∀ e ∈ es, star? e = false)
    (h : wpAny M A (spliced (backTo pos (starEach es env))) (fun vs s₁ => K.In s₁.heap ∧ wpAny M A (call f (first ++ vs)) Q E s₁) E s) : wpAny M A (callWith pos f first (backTo pos (starEach es env)) []) Q E s :=
  PySem.W.callWith_of (by rw [no_star hn]; rfl) (PySem.W.keeps_K hk) (args_any hn h)
section
variable {X : Cx} {CX : CXT} {k : Nat} {f C : Addr} {fd : FuncData} {ps : List Str} {sp : Sp} {E : L2.St → XK} {x m : Str} {p pos apos : Pos} {e o : PySem.Expr} {es : List PySem.Expr} {ta : TE} {t : TA}
theorem pe_callL (F : FnOk X.prog X.w X.K X.mg X.base CX k f fd ps sp) (hr : Room k X.A) (hg : Gl X x) (hm : X.mg x = some (.ref f)) (hk : PySem.W.keepIn X.K (.ref f) = true) (hb : Binds X.K fd ps []) (hx : ∀ σ, PassesAt CX X σ (E σ))
    (ha : PA X es t) (hn : ∀ e ∈ es, star? e = false) (hdb : (x == ("__debug__" : Str)) = false) : PE X (.Call (.Name x p) es [] pos) (tCallS sp E t) := by
  refine ⟨fun pins s σ H Q I h => ?_⟩
  refine wpAny_Call_Name_kw (ld_glob I hg hm ?_ hdb)
  refine callWith_L (first := []) hk hn (thn (ha.run pos pins s σ H _ I h) fun us s1 ⟨vs, H1, I1, r, q⟩ => ⟨I1.kIn, ?_⟩)
  exact run_fnS F hr hb (hx σ) I1 r q
theorem call_ht {env : Env} (hb : base? o = true) (hn : ∀ e ∈ es, star? e = false) (hl : (apos.endLine == pos.line) = true) (hs : es.length < 25) :
    eval (.Call (.Attribute o m apos) es [] pos) env = (do
      let ov ← eval o env
      standAt apos.atName
      let (f, first) ← holding [ov] (getMethod ov m (do return (← importBound o env).getD true))
      callWith pos f first (backTo pos (starEach es env)) (backToKw pos (keywordEach [] env))) := by
  have h1 : methodCallForm (es.length + 0) (backTo pos (starEach es env)) [] = true := by
    have h2 : (backTo pos (starEach es env)).all (fun x => !x.1) = true := by
      have h3 := no_star (env := env) (pos := pos) hn
      rw [List.all_eq_not_any_not]
      simpa using h3
    unfold methodCallForm
    rw [h2]
    simp
    omega
  rw [arm_eval_Call, base_plain hb]
  unfold methodCall
  show (do
      let ov ← eval o env
      standAt apos.atName
      let (f, first) ← holding [ov] (calleeOf (methodCallForm (es.length + 0) (backTo pos (starEach es env)) []) o env ov m)
      let callPos ← methodCallPos (methodCallForm (es.length + 0) (backTo pos (starEach es env)) []) o env apos pos
      callWith callPos f first (backTo pos (starEach es env)) (backToKw pos (keywordEach [] env))) = _
  rw [h1]
  unfold methodCallPos calleeOf
  simp only [hl]
  rfl
theorem call_htk {env : Env} {k : Str} {z : PySem.Expr} {kp : Pos} (hb : base? o = true) (hl : (apos.endLine == pos.line) = true) :
    eval (.Call (.Attribute o m apos) [] [⟨some k, z, kp⟩] pos) env = (do
      let ov ← eval o env
      standAt apos.atName
      let (f, first) ← holding [ov] (getMethod ov m (do return (← importBound o env).getD true))
      callWith pos f first (backTo pos (starEach [] env)) (backToKw pos (keywordEach [⟨some k, z, kp⟩] env))) := by
  have h1 : methodCallForm (0 + 1) (backTo pos (starEach [] env)) (backToKw pos (keywordEach [⟨some k, z, kp⟩] env)) = true := rfl
  rw [arm_eval_Call, base_plain hb]
  unfold methodCall
  show (do
      let ov ← eval o env
      standAt apos.atName
      let (f, first) ← holding [ov] (calleeOf (methodCallForm (0 + 1) (backTo pos (starEach [] env)) (backToKw pos (keywordEach [⟨some k, z, kp⟩] env))) o env ov m)
      let callPos ← methodCallPos (methodCallForm (0 + 1) (backTo pos (starEach [] env)) (backToKw pos (keywordEach [⟨some k, z, kp⟩] env))) o env apos pos
      callWith callPos f first (backTo pos (starEach [] env)) (backToKw pos (keywordEach [⟨some k, z, kp⟩] env))) = _
  rw [h1]
  unfold methodCallPos calleeOf
  simp only [hl]
  rfl
/-- o.m(..): the class is known when the object is -/
theorem pe_methL (he : PE X o ta) (ha : PA X es t) (hbs : base? o = true) (hn : ∀ e ∈ es, star? e = false) (hl : (apos.endLine == pos.line) = true) (hs : es.length < 25) (hx : ∀ σ, PassesAt CX X σ (E σ)) :
    PE X (.Call (.Attribute o m apos) es [] pos) (fun σ H Q => ta σ H fun x H1 => ∃ a C dx fs k f fd ps sp, x = .ref a ∧ H1 a = some (.ins C dx fs) ∧ Cls X.K C ∧ Meth X.K C m f ∧ FnOk X.prog X.w X.K X.mg X.base CX k f fd ps sp ∧
      Room k X.A ∧ Binds X.K fd ps [] ∧ fs.lookup m = none ∧ t σ H1 fun vs H2 => sp (x :: vs) H2 Q (E σ)) := by
  refine ⟨fun pins s σ H Q I h => ?_⟩
  refine PySem.W.methodCall_KW (thn (he.run pins s σ H _ I h) fun u s1 ⟨x, H1, I1, rx, a, C, dx, fs, k, f, fd, ps, sp, ex, ea, c, hm, F, hr, hb, l, q⟩ => ?_) (call_ht hbs hn hl hs)
  subst ex
  obtain rfl : u = Value.ref a := rx
  refine getmeth_ok I1 ea c hm l ?_
  refine callWith_L (first := [.ref a]) hm.kp hn (thn (ha.run pos pins s1 σ H1 _ I1 q) fun us s2 ⟨vs, H2, I2, r, q2⟩ => ⟨I2.kIn, ?_⟩)
  exact run_fnS (us := .ref a :: us) (vs := .ref a :: vs) F hr hb (hx σ) I2 (.cons rfl r) q2
/-- (cfV tb.pg md tb.fns (..)) -/
theorem run_makeS {pins : List (Addr × Obj)} {σ : L2.St} {H : Hp} {s : Shared} {Q : VK} {us : List Value} {vs : List V} (M : Mk X.K C f) (F : FnOk X.prog X.w X.K X.mg X.base CX k f fd ps sp) (hr : Room (k + 1) X.A) (hb : Binds X.K fd ps [])
    (hx : PassesAt CX X σ (E σ)) (I : Inv X pins σ H s) (r : Vals vs us)
    (h : ∀ x dx, H x = none → H dx = none → dx ≠ x → sp (.ref x :: vs) (upd (upd H dx (.own x)) x (.ins C dx [])) (fun v H2 => v = .non ∧ Q (.ref x) H2) (E σ)) :
    wpAny (model X.prog X.w) X.A (call (.ref C) us) (EP X pins σ Q) X.xe s := by
  have hq := h (s.heap.objs.size + 1) s.heap.objs.size (I.hok.fresh (Nat.le_succ _)) (I.hok.fresh (Nat.le_refl _)) (Nat.ne_of_lt (Nat.lt_succ_self _))
  have I2 := Inv.made (C := C) I
  have r2 : Vals (V.ref (s.heap.objs.size + 1) :: vs) (Value.ref (s.heap.objs.size + 1) :: us) := .cons rfl r
  have hl : (Value.ref (s.heap.objs.size + 1) :: us ++ []).length = ps.length := by
    have e := r2.length
    rw [F.len _ _ _ _ hq] at e
    rw [List.append_nil]
    exact e.symm
  have b := hb _ (Value.ref (s.heap.objs.size + 1) :: us) I2.kIn hl
  rw [List.append_nil] at b
  refine wpAny_call (make_map (f := f) I.kIn M.makes M.init (beq_iff_eq.mp M.fn) (codeAny_mono (F.run _ X.stack _ _ ⟨Value.ref (s.heap.objs.size + 1) :: us, []⟩ (Value.ref (s.heap.objs.size + 1) :: us) _ _ (E σ) (hr.make C us [])
    (I2.env0.make C us []) b r2 hq) fun r s' hq' => ?_))
  cases r with
  | error e => exact hx pins _ _ e s' I2 hq'
  | ok fl =>
    cases fl with
    | ret u =>
      obtain ⟨v, H', I3, rv, ev, q3⟩ := I2.after hq'
      subst ev
      exact ⟨rv, ⟨V.ref (s.heap.objs.size + 1), H', I3, rfl, q3⟩⟩
    | next => exact False.elim hq'
    | brk => exact False.elim hq'
    | cont => exact False.elim hq'
theorem pe_makeL (M : Mk X.K C f) (F : FnOk X.prog X.w X.K X.mg X.base CX k f fd ps sp) (hr : Room (k + 1) X.A) (hg : Gl X x) (hm : X.mg x = some (.ref C)) (hb : Binds X.K fd ps []) (hx : ∀ σ, PassesAt CX X σ (E σ))
    (ha : PA X es t) (hn : ∀ e ∈ es, star? e = false) (hdb : (x == ("__debug__" : Str)) = false) :
    PE X (.Call (.Name x p) es [] pos) (fun σ H Q => t σ H fun vs H1 => ∀ x dx, H1 x = none → H1 dx = none → dx ≠ x →
      sp (.ref x :: vs) (upd (upd H1 dx (.own x)) x (.ins C dx [])) (fun v H2 => v = .non ∧ Q (.ref x) H2) (E σ)) := by
  refine ⟨fun pins s σ H Q I h => ?_⟩
  refine wpAny_Call_Name_kw (ld_glob I hg hm ?_ hdb)
  refine callWith_L (first := []) M.kp hn (thn (ha.run pos pins s σ H _ I h) fun us s1 ⟨vs, H1, I1, r, q⟩ => ⟨I1.kIn, ?_⟩)
  exact run_makeS M F hr hb (hx σ) I1 r q
/-- o.f, a property, the class is known when the object is; nothing is raised in it -/
theorem pe_propL (he : PE X o ta) (hbs : base? o = true) : PE X (.Attribute o m pos) (fun σ H Q => ta σ H fun x H1 => ∃ a C p g dx fs k fd ps sp, x = .ref a ∧ H1 a = some (.ins C dx fs) ∧ Cls X.K C ∧ PropOf X.K C m p g ∧
    FnOk X.prog X.w X.K X.mg X.base CX k g fd ps sp ∧ Room (k + 1) X.A ∧ Binds X.K fd ps [] ∧ (∃ E, Passes CX X.nox E ∧ sp [x] H1 Q E)) := by
  refine ⟨fun pins s σ H Q I h => ?_⟩
  refine attr_of (base_plain hbs _) (thn (he.run pins s σ H _ I h) fun u s1 ⟨x, H1, I1, rx, a, C, p, g, dx, fs, k, fd, ps, sp, ex, ea, c, hp, F, hr, hb, E, hx, q⟩ => ?_)
  subst ex
  obtain rfl : u = Value.ref a := rx
  exact getprop_ok I1 ea c hp F hr hb .nil hx q
/-- a builtin function or type -/
def bltV? (x : Str) (v : Value) : Prop := bootBuiltins x = some v
theorem pe_callBL (hc : CallR X (bfV b) r) (hg : Gl X x) (hm : X.mg x = none) (hv : bootBuiltins x = some (bfV b)) (ha : PA X (e :: es) t) (hn : x ≠ "__name__") (hdb : (x == ("__debug__" : Str)) = false)
    (hst : ∀ y ∈ e :: es, star? y = false) : PE X (.Call (.Name x p) (e :: es) [] pos) (tCB r t) := by
  have h1 := star_plain (es := es) (env := X.env) (hst e List.mem_cons_self)
  have h2 := no_star (env := X.env) (pos := pos) fun y hy => hst y (List.mem_cons_of_mem _ hy)
  cases b <;> first
    | exact pe_callB hc hg hm hv ha hn hdb h1 h2
    | exact pe_callTy hc hg hm hv ha hn hdb h1 h2
end
section
variable {X : Cx} {CX : CXT} {k : Nat} {f C a dx : Addr} {fs : List (Str × V)} {fd : FuncData} {ps : List Str} {sp : Sp} {E : L2.St → XK}
/-- a == b by the class's own def -/
theorem own_eq {pins : List (Addr × Obj)} {σ : L2.St} {H : Hp} {s : Shared} {Q : VK} {y : V} {u tb : Value} (I : Inv X pins σ H s) (ea : H a = some (.ins C dx fs)) (hs : PySem.W.findIn X.K (.ref C) "__eq__" = some (some (.ref f))) (hf : PySem.W.isFn X.K (.ref f) = true)
    (F : FnOk X.prog X.w X.K X.mg X.base CX k f fd ps sp) (hr : Room k X.A) (hb : Binds X.K fd ps []) (hx : PassesAt CX X σ (E σ)) (ry : RelV y u) (ht : PySem.W.Looks (model X.prog X.w) s.heap (typeOf u) tb) (hn : PySem.W.notFirst X.K C tb = true)
    (h : sp [.ref a, y] H (fun v H' => ∃ b, v = .bl b ∧ Q (.bl b) H') (E σ)) : wpAny (model X.prog X.w) X.A (compareOp .Eq (.ref a) u) (EP X pins σ Q) X.xe s := by
  obtain ⟨mA, J, _⟩ := ins_get I.hok ea
  obtain ⟨od, J, _⟩ := J.look
  obtain ⟨m, hF⟩ := I.fr
  refine PySem.W.cmp_ofEq (PySem.W.cmp_K (op := .Eq) (tb := tb) hr.units0 hF I.ok.mod.kin J ht hn hs hf ?_)
  refine thn (run_fnS (us := [.ref a, u]) (vs := [.ref a, y]) F hr hb hx I (.cons rfl (.cons ry .nil)) h) fun v s' ⟨x, H', I', rx, b, ex, q⟩ => ?_
  subst ex
  cases rx
  exact ⟨.bl b, H', I', rfl, q⟩
/-- a def run one C level below -/
theorem run_in1 {pins : List (Addr × Obj)} {σ : L2.St} {H : Hp} {s : Shared} {Q : VK} {us : List Value} {vs : List V} (F : FnOk X.prog X.w X.K X.mg X.base CX k f fd ps sp) (hr : Room (k + 1) X.A) (hb : Binds X.K fd ps []) (hx : PassesAt CX X σ (E σ))
    (I : Inv X pins σ H s) (r : Vals vs us) (h : sp vs H Q (E σ)) : wpAny (model X.prog X.w) X.A.in1 (call (.ref f) us) (EP X pins σ Q) X.xe s := by
  have hl : us.length = ps.length := by rw [← r.length]; exact F.len _ _ _ _ h
  have b := hb s us I.kIn (by rw [List.append_nil]; exact hl)
  rw [List.append_nil] at b
  refine wpAny_call (codeAny_mono (F.run X.A.in1 X.stack s H ⟨us, []⟩ us vs Q (E σ) hr.in1 I.env0.in1 b r h) fun r s' hq => ?_)
  cases r with
  | error e => exact hx pins H s e s' I hq
  | ok fl =>
    cases fl with
    | ret u => exact I.after hq
    | next => exact False.elim hq
    | brk => exact False.elim hq
    | cont => exact False.elim hq
/-- len(a) by the class's own def -/
theorem own_len {pins : List (Addr × Obj)} {σ : L2.St} {H : Hp} {s : Shared} {Q : VK} (I : Inv X pins σ H s) (ea : H a = some (.ins C dx fs)) (hs : PySem.W.findIn X.K (.ref C) "__len__" = some (some (.ref f))) (hf : PySem.W.isFn X.K (.ref f) = true)
    (F : FnOk X.prog X.w X.K X.mg X.base CX k f fd ps sp) (hr : Room (k + 1) X.A) (hb : Binds X.K fd ps []) (hx : PassesAt CX X σ (E σ))
    (h : sp [.ref a] H (fun v H' => ∃ n : Int, v = .int n ∧ 0 ≤ n ∧ n < 2 ^ 63 ∧ Q (.int n) H') (E σ)) : wpAny (model X.prog X.w) X.A (call (.builtin "len") [.ref a]) (EP X pins σ Q) X.xe s := by
  obtain ⟨mA, J, _⟩ := ins_get I.hok ea
  obtain ⟨od, J, _⟩ := J.look
  obtain ⟨m, hF⟩ := I.fr
  refine PySem.W.len_K hF I.ok.mod.kin J hs hf ?_
  refine thn (run_in1 (us := [.ref a]) (vs := [.ref a]) F hr hb hx I (.cons rfl .nil) h) fun v s' ⟨x, H', I', rx, n, ex, h0, h1, q⟩ => ?_
  subst ex
  obtain ⟨t, rfl⟩ := rx
  exact ⟨⟨h0, h1⟩, .int n, H', I'.tok _, ⟨_, rfl⟩, q⟩
/-- a != b by the class's own __eq__, both of the class -/
theorem own_ne {b : Addr} {dy : Addr} {gs : List (Str × V)} {pins : List (Addr × Obj)} {σ : L2.St} {H : Hp} {s : Shared} {Q : VK} (I : Inv X pins σ H s) (ea : H a = some (.ins C dx fs)) (eb : H b = some (.ins C dy gs))
    (hc : ∀ (h : Heap) (o : Obj), X.K.In h → h.get? a = some o → o.cls = .ref C → h.OwnEqNoNe a C f "object" [.type "object"])
    (F : FnOk X.prog X.w X.K X.mg X.base CX k f fd ps sp) (hr : Room (k + 1) X.A) (hb : Binds X.K fd ps []) (hx : PassesAt CX X σ (E σ))
    (h : sp [.ref a, .ref b] H (fun v H' => ∃ c, v = .bl c ∧ Q (.bl (!c)) H') (E σ)) : wpAny (model X.prog X.w) X.A (compareOp .NotEq (.ref a) (.ref b)) (EP X pins σ Q) X.xe s := by
  obtain ⟨_, _, _, e1, _⟩ := (show ObjOk X.prog X.w H s.heap a (.ins C dx fs) from I.hok a _ ea)
  obtain ⟨_, _, _, e2, _⟩ := (show ObjOk X.prog X.w H s.heap b (.ins C dy gs) from I.hok b _ eb)
  have X1 := hc s.heap _ I.kIn e1 rfl
  obtain ⟨hh, g, d, t, os⟩ := s
  refine compareOp_ne_ownEq PySem.F.cmp_object X1 e2 rfl (by have := hr.units; omega) (thn (run_in1 (us := [.ref a, .ref b]) (vs := [.ref a, .ref b]) F hr hb hx I (.cons rfl (.cons rfl .nil)) h) fun v s' ⟨x, H', I', rx, c, ex, q⟩ => ?_)
  subst ex
  cases rx
  exact ⟨c, rfl, .bl (!c), H', I', rfl, q⟩
end
end Z
namespace Z
open PySem PySem.Spec PyProof.Rows L2
/-! ## C.m(..), m a staticmethod -/
section
variable {X : Cx} {CX : CXT} {k : Nat} {f C p g : Addr} {mc : Value} {fd : FuncData} {ps : List Str} {sp : Sp} {E : L2.St → XK} {m : Str} {pos apos : Pos} {o : PySem.Expr} {es : List PySem.Expr} {ta : TE} {t : TA} {pins : List (Addr × Obj)} {σ : L2.St} {H : Hp} {s : Shared} {A : Around}
theorem getmethsm_ok {pl : Sem Bool} {EE : Value → Shared → Prop} {Q : Value × List Value → Shared → Prop} (I : Inv X pins σ H s) (r : ClX.CRead X.K C mc) (c : SMet X.K C mc m p g)
    (h : ∀ s', Inv X pins σ H s' → Q (.ref g, []) s') : wpAny (model X.prog X.w) A (getMethod (.ref C) m pl) Q EE s := by
  obtain ⟨rest, hp⟩ := c.rc
  refine PySem.W.method_cls I.kIn r.ga (PySem.W.cls_bind I.kIn r.rd c.at_ ?_)
  refine wpAny_call (PySem.W.sm_get (s := { s with toks := s.toks + 1 }) I.kIn hp (PySem.W.handed_on rfl ?_))
  exact h _ (I.tok _)
theorem pe_smethL (he : PE X o ta) (r : ClX.CRead X.K C mc) (c : SMet X.K C mc m p g) (F : FnOk X.prog X.w X.K X.mg X.base CX k g fd ps sp) (hr : Room k X.A) (hb : Binds X.K fd ps []) (hx : ∀ σ, PassesAt CX X σ (E σ)) (ha : PA X es t)
    (hbs : base? o = true) (hn : ∀ e ∈ es, star? e = false) (hl : (apos.endLine == pos.line) = true) (hs : es.length < 25) :
    PE X (.Call (.Attribute o m apos) es [] pos) (fun σ H Q => ta σ H fun x H1 => x = .ref C ∧ t σ H1 fun vs H2 => sp vs H2 Q (E σ)) := by
  refine ⟨fun pins s σ H Q I h => ?_⟩
  refine PySem.W.methodCall_KW (thn (he.run pins s σ H _ I h) fun u s1 ⟨x, H1, I1, rx, ex, q⟩ => ?_) (call_ht hbs hn hl hs)
  subst ex
  obtain rfl : u = Value.ref C := rx
  refine getmethsm_ok I1 r c fun s2 I2 => ?_
  refine callWith_L (first := []) c.kp hn (thn (ha.run pos pins s2 σ H1 _ I2 q) fun us s3 ⟨vs, H2, I3, rv, q2⟩ => ⟨I3.kIn, ?_⟩)
  exact run_fnS F hr hb (hx σ) I3 rv q2
/-- C.m(k = e) -/
theorem pe_smethK {kn : Str} {z : PySem.Expr} {kp : Pos} {te : TE} (he : PE X o ta) (r : ClX.CRead X.K C mc) (c : SMet X.K C mc m p g) (F : FnOk X.prog X.w X.K X.mg X.base CX k g fd [kn] sp) (hr : Room k X.A) (hb : KB X.K fd kn) (hx : ∀ σ, PassesAt CX X σ (E σ)) (ha : PE X z te)
    (hbs : base? o = true) (hl : (apos.endLine == pos.line) = true) :
    PE X (.Call (.Attribute o m apos) [] [⟨some kn, z, kp⟩] pos) (fun σ H Q => ta σ H fun x H1 => x = .ref C ∧ te σ H1 fun v H2 => sp [v] H2 Q (E σ)) := by
  refine ⟨fun pins s σ H Q I h => ?_⟩
  refine PySem.W.methodCall_KW (thn (he.run pins s σ H _ I h) fun u s1 ⟨x, H1, I1, rx, ex, q⟩ => ?_) (call_htk hbs hl)
  subst ex
  obtain rfl : u = Value.ref C := rx
  refine getmethsm_ok I1 r c fun s2 I2 => ?_
  have hkw : PK X [⟨some kn, z, kp⟩] (tCons te tNil) := pk_cons ha pk_nil
  refine PySem.W.callWith_KW0 (h₀ := X.base) I2.ok.mod.kin c.kp rfl (thn (hkw.run pos pins s2 σ H1 (fun vs H2 => sp vs H2 Q (E σ)) I2 q) fun ws s3 ⟨zs, H2, I3, rz, q2⟩ => ⟨I3.kIn, ?_⟩) rfl
  obtain ⟨v, rfl⟩ : ∃ v, zs = [v] := by
    have hl := F.len _ _ _ _ q2
    match zs, hl with
    | [v], _ => exact ⟨v, rfl⟩
  obtain ⟨w, rfl, r1⟩ : ∃ w, ws = [w] ∧ RelV v w := by
    cases rz with
    | cons r1 r2 => cases r2; exact ⟨_, rfl, r1⟩
  show wpAny _ _ (call (.ref g) [] [(kn, w)]) _ _ _
  refine wpAny_call (codeAny_mono (F.run X.A X.stack s3 H2 ⟨[], [(kn, w)]⟩ [w] [v] Q (E σ) hr I3.env0 (hb s3 w I3.kIn) (.cons r1 .nil) q2) fun r s' hq => ?_)
  cases r with
  | error e => exact hx σ pins H2 s3 e s' I3 hq
  | ok fl =>
    cases fl with
    | ret u => exact I3.after hq
    | next => exact False.elim hq
    | brk => exact False.elim hq
    | cont => exact False.elim hq
end
end Z
namespace Z
open PySem PySem.Spec PyProof.Rows L2
theorem RKs.look {Y : Wr} {H f n} : ∀ {us : List (Str × U)} {vs : List (Str × V)} {k : Str}, RKs Y H f n us vs → match us.lookup k with
    | some u => ∃ v, vs.lookup k = some v ∧ RU Y H f n u v
    | none => vs.lookup k = none
  | [], _, _, .nil => rfl
  | (a, u) :: r, _, k, .cons (b := (b, v)) h t => by
    have e : a = b := h.1
    subst e
    have ih := RKs.look (k := k) t
    simp only [List.lookup_cons]
    cases k == a with
    | true => exact ⟨v, rfl, h.2⟩
    | false => exact ih
section
variable {X : Cx} {N : List Str} {sc : Scope} {lv : Nat} {T : Pg} {cf : Cf} {W : WX}
abbrev yE (X : Cx) (T : Pg) (cf : Cf) (W : WX) (e : Ex) : TE := tE (wr X T.kd) W (evE T cf e)
abbrev yT (X : Cx) (T : Pg) (cf : Cf) (W : WX) (e : Tx) : TT := tT (wr X T.kd) W (evT T cf e)
abbrev yL (X : Cx) (T : Pg) (cf : Cf) (W : WX) (e : List Ex) : TA := tL (wr X T.kd) W (evL T cf e)
variable {i : Nat} {x : Str} {p p2 pos apos : Pos} {kk : Nat} {a b c : Ex} {o l r : PySem.Expr} {es : List Ex} {xs : List PySem.Expr}
theorem s_loc (g : Good X N sc lv) (h1 : N[i]? = some x) (h2 : vi? sc x = true) : PE X (.Name x p) (yE X T cf W (.loc i)) := by
  obtain ⟨q1, q2, q3⟩ := g.vi h2
  refine PE.imp (pe_var (i := i) (by rw [g.hN]; exact h1) q1 q2 q3) fun σ H Q ⟨f, G, ρ, S, R, h⟩ => ?_
  simp only [evE] at h
  split at h
  · rename_i u e
    obtain ⟨v, e1, r1⟩ := R.2 i u e
    exact ⟨v, e1, Rs.ok S h v r1⟩
  · exact h.elim
theorem s_gl (g : Good X N sc lv) (F : Wf (gr X) T cf lv) (h2 : gl? sc x = true) : PE X (.Name x p) (yE X T cf W (.gl x)) := by
  obtain ⟨q1, q2, q3⟩ := g.gl h2
  cases e : T.gv x with
  | none =>
    refine ⟨fun pins s σ H Q I ⟨f, G, ρ, S, R, h⟩ => ?_⟩
    simp only [evE, e, ofO] at h
    exact h.elim
  | some u =>
    obtain ⟨val, hm, v, rv, ru⟩ := F.gv x u e
    refine PE.imp (pe_glob q1 hm rv q3) fun σ H Q ⟨f, G, ρ, S, R, h⟩ => ?_
    simp only [evE, e, ofO] at h
    exact Rs.ok S h v (ru _ _ _)
theorem s_non : PE X (.Constant .none kk p) (yE X T cf W .non) := PE.imp pe_non fun σ H Q ⟨f, G, ρ, S, R, h⟩ => by
  simp only [evE] at h
  exact Rs.ok S h _ (by simp [RU])
theorem s_bl {k : Bool} : PE X (.Constant (.bool k) kk p) (yE X T cf W (.bl k)) := PE.imp pe_bl fun σ H Q ⟨f, G, ρ, S, R, h⟩ => by
  simp only [evE] at h
  exact Rs.ok S h _ (by simp [RU])
theorem s_int {k : Int} : PE X (.Constant (.int k) kk p) (yE X T cf W (.int k)) := PE.imp pe_int fun σ H Q ⟨f, G, ρ, S, R, h⟩ => by
  simp only [evE] at h
  exact Rs.ok S h _ (by simp [RU])
theorem s_str {k : Str} : PE X (.Constant (.str k) kk p) (yE X T cf W (.str k)) := PE.imp pe_str fun σ H Q ⟨f, G, ρ, S, R, h⟩ => by
  simp only [evE] at h
  exact Rs.ok S h _ (by simp [RU])
theorem s_bin {op : Operator} (ha : PE X l (yE X T cf W a)) (hb : PE X r (yE X T cf W b)) (ho : bin? op = true) : PE X (.BinOp l op r p) (yE X T cf W (.bin op a b)) := by
  refine PE.imp (pe_op (o_bin (kd := T.kd) op (by cases op <;> first | cases ho; done | simp)) ha hb) fun σ H Q ⟨f, G, ρ, S, R, h⟩ => ?_
  simp only [evE] at h
  refine tE.go S R h fun u f1 G1 H1 e S1 R1 h1 v r1 => tE.go S1 R1 h1 fun u2 f2 G2 H2 e2 S2 R2 h2 v2 r2 => ?_
  obtain ⟨z, G', hz, h3⟩ := Rs.of h2
  exact ⟨f2, G2, u, u2, z, G', S2, r1.ext e2.toEx0, r2, hz, h3⟩
theorem s_neg (ha : PE X l (yE X T cf W a)) : PE X (.UnaryOp .USub l p) (yE X T cf W (.neg a)) := by
  refine PE.imp (pe_un un_neg ha) fun σ H Q ⟨f, G, ρ, S, R, h⟩ => ?_
  simp only [evE] at h
  refine tE.go S R h fun u f1 G1 H1 e S1 R1 h1 v r1 => ?_
  cases u with
  | int k =>
    have : v = .int k := by simpa [RU] using r1
    subst this
    exact ⟨k, rfl, Rs.ok S1 h1 _ (by simp [RU])⟩
  | _ => exact h1.elim
theorem KdO.ok (h : KdO (gr X) T.kd) : KdOk X T.kd := h
theorem s_not (ha : PE X l (yE X T cf W a)) : PE X (.UnaryOp .Not l p) (yE X T cf W (.not a)) := by
  refine PE.imp (pe_notT ha) fun σ H Q ⟨f, G, ρ, S, R, h⟩ => ?_
  simp only [evE] at h
  refine tE.go S R h fun u f1 G1 H1 e S1 R1 h1 v r1 => ?_
  cases q : truthy G1 u with
  | none => rw [q] at h1; exact h1.elim
  | some k =>
    rw [q] at h1
    exact ⟨k, truthy_at S1 q r1, Rs.ok S1 h1 _ (by simp [RU])⟩
theorem s_ite {c : Tx} {t : PySem.Expr} (hc : PT X t (yT X T cf W c)) (ha : PE X l (yE X T cf W a)) (hb : PE X r (yE X T cf W b)) : PE X (.IfExp t l r p) (yE X T cf W (.ite c a b)) := by
  refine PE.imp (pe_ifExp hc ha hb) fun σ H Q ⟨f, G, ρ, S, R, h⟩ => ?_
  simp only [evE] at h
  refine tT.go S R h fun k f1 G1 H1 e S1 R1 h1 => ?_
  cases k with
  | true => exact ⟨f1, G1, ρ, S1, R1, h1⟩
  | false => exact ⟨f1, G1, ρ, S1, R1, h1⟩
theorem s_lst (ha : PA X xs (yL X T cf W es)) : PE X (.List xs p) (yE X T cf W (.lst es)) := by
  refine PE.imp (pe_lst ha) fun σ H Q ⟨f, G, ρ, S, R, h⟩ => ?_
  simp only [evE] at h
  refine tL.go S R h fun u f1 G1 H1 e S1 R1 h1 v r1 => ?_
  split at h1
  · rename_i hl
    exact ⟨by rw [← r1.len]; exact hl, fun p hp => new_lst S1 r1 hp h1⟩
  · exact h1.elim
theorem s_tup {k : Nat} (ha : PA X xs (yL X T cf W es)) : PE X (.Tuple xs k p) (yE X T cf W (.tup es)) := by
  refine PE.imp (pe_tup ha) fun σ H Q ⟨f, G, ρ, S, R, h⟩ => ?_
  simp only [evE] at h
  refine tL.go S R h fun u f1 G1 H1 e S1 R1 h1 v r1 => ?_
  split at h1
  · rename_i hl
    exact ⟨by rw [← r1.len]; exact hl, fun p hp => new_tup S1 r1 hp h1⟩
  · exact h1.elim
theorem s_dict0 : PE X (.Dict [] [] p) (yE X T cf W .dict0) := by
  refine PE.imp pe_dnewK fun σ H Q ⟨f, G, ρ, S, R, h⟩ p hp => ?_
  simp only [evE] at h
  obtain ⟨S', e⟩ := S.alloc (o := .dK []) (g := .dK []) hp ⟨[], upd_same, .nil⟩
  refine h _ _ e S' _ ?_
  simp only [RU]
  exact ⟨by rw [List.length_append]; exact Nat.lt_succ_self _, by rw [fx_at]⟩
theorem ix_plain {b : PySem.Expr} (h : slice? b = false) : PlainIx b := fun o i => by cases b <;> first | rfl | cases h
theorem s_ix (g : Good X N sc lv) (F : Wf (gr X) T cf lv) (ha : PE X l (yE X T cf W a)) (hb : PE X r (yE X T cf W b)) (hs : slice? r = false) : PE X (.Subscript l r p) (yE X T cf W (.ix a b)) := by
  refine PE.imp (pe_ix (o_ix g.hu F.kdo.ok) ha hb (ix_plain hs)) fun σ H Q ⟨f, G, ρ, S, R, h⟩ => ?_
  simp only [evE] at h
  refine tE.go S R h fun u f1 G1 H1 e S1 R1 h1 v r1 => tE.go S1 R1 h1 fun u2 f2 G2 H2 e2 S2 R2 h2 v2 r2 => ?_
  obtain ⟨z, G', hz, h3⟩ := Rs.of h2
  exact ⟨f2, G2, u, u2, z, G', S2, r1.ext e2.toEx0, r2, hz, h3⟩
def yO (X : Cx) (T : Pg) (cf : Cf) (W : WX) (e : Option Ex) : TO := fun σ H Q => ∃ f G ρ, Sim (wr X T.kd) H f G ∧ RSt (wr X T.kd) H f G.length ρ σ ∧ Rs (wr X T.kd) W (evO T cf e ρ G) H f G.length σ (fun o _ _ H => Q o H)
theorem PO.imp {X : Cx} {e : Option PySem.Expr} {t t' : TO} (h : PO X e t) (i : ∀ σ H Q, t' σ H Q → t σ H Q) : PO X e t' := ⟨fun p s σ H Q I q => h.run p s σ H Q I (i σ H Q q)⟩
theorem s_ono : PO X none (yO X T cf W none) := PO.imp po_none fun σ H Q ⟨f, G, ρ, S, R, h⟩ => by
  simp only [evO] at h
  exact Rs.ok S h
theorem s_oso (ha : PE X l (yE X T cf W a)) : PO X (some l) (yO X T cf W (some a)) := by
  refine PO.imp (po_some ha) fun σ H Q ⟨f, G, ρ, S, R, h⟩ => ?_
  simp only [evO] at h
  refine tE.go S R h fun u f1 G1 H1 e S1 R1 h1 v r1 => ?_
  cases u with
  | int k =>
    have : v = .int k := by simpa [RU] using r1
    subst this
    exact ⟨k, rfl, Rs.ok S1 h1⟩
  | _ => exact h1.elim
theorem s_sl {lo hi : Option Ex} {lo' hi' : Option PySem.Expr} (ha : PE X l (yE X T cf W a)) (h1 : PO X lo' (yO X T cf W lo)) (h2 : PO X hi' (yO X T cf W hi)) : PE X (.Subscript l (.Slice lo' hi' none p2) p) (yE X T cf W (.sl a lo hi)) := by
  refine PE.imp (pe_slice (o_sl (kd := T.kd) ()) ha h1 h2) fun σ H Q ⟨f, G, ρ, S, R, h⟩ => ?_
  simp only [evE] at h
  refine tE.go S R h fun u f1 G1 H1 e S1 R1 h1 v r1 => ?_
  refine ⟨f1, G1, ρ, S1, R1, h1.bind.imp fun lo f2 G2 H2 e2 S2 h2 => ?_⟩
  refine ⟨f2, G2, ρ, S2, R1.ext e2.toEx0, h2.bind.imp fun hi f3 G3 H3 e3 S3 h3 => ?_⟩
  obtain ⟨z, G', hz, h4⟩ := Rs.of h3
  exact ⟨f3, G3, u, z, G', S3, (r1.ext e2.toEx0).ext e3.toEx0, hz, h4⟩
theorem s_nil : PA X [] (yL X T cf W []) := PA.imp pa_nil fun σ H Q ⟨f, G, ρ, S, R, h⟩ => by
  simp only [evL] at h
  exact Rs.ok S h _ RUs.nil
theorem s_cons (ha : PE X l (yE X T cf W a)) (hr : PA X xs (yL X T cf W es)) (hs : star? l = false) : PA X (l :: xs) (yL X T cf W (a :: es)) := by
  refine PA.imp (pa_cons ha hr (star_plain hs)) fun σ H Q ⟨f, G, ρ, S, R, h⟩ => ?_
  simp only [evL] at h
  refine tE.go S R h fun u f1 G1 H1 e S1 R1 h1 v r1 => tL.go S1 R1 h1 fun us f2 G2 H2 e2 S2 R2 h2 vs r2 => ?_
  exact Rs.ok S2 h2 _ (RUs.cons (r1.ext e2.toEx0) r2)
/-! ### calls -/
theorem FnOk.room {g : Gr} {Y : Wr} {q : Str} {f : Addr} (D : DefOk g Y cf lv q f) : DefOk g Y cf lv q f := D
theorem spC.of {Y : Wr} {q : Str} {us : List U} {vs : List V} {H f G} {Q : VK} {σ : L2.St} (S : Sim Y H f G) (r : RUs Y H f G.length us vs) (h : Rs Y W (cf q us G) H f G.length σ (kV' Y Q)) : spC Y cf q vs H Q (WE W σ) := by
  refine ⟨f, G, us, S, r, ?_⟩
  cases e : cf q us G with
  | ok a G' => rw [e] at h; exact h
  | exc c fs G' => rw [e] at h; exact h
  | stuck => rw [e] at h; exact h
theorem s_call (g : Good X N sc lv) (F : Wf (gr X) T cf lv) (tk : Takes X W) (h2 : gl? sc x = true) (ha : PA X xs (yL X T cf W es)) (hn : ∀ e ∈ xs, star? e = false) : PE X (.Call (.Name x p2) xs [] p) (yE X T cf W (.call x es)) := by
  obtain ⟨q1, q2, q3⟩ := g.gl h2
  by_cases hx : T.gf x = true
  · obtain ⟨fa, hm, hk, fd, ps, hb, D⟩ := F.call x hx
    refine PE.imp (pe_callL (E := WE W) D (g.room.mono (Nat.le_succ _)) q1 hm hk hb (fun σ => passAt tk σ) ha hn q3) fun σ H Q ⟨f, G, ρ, S, R, h⟩ => ?_
    simp only [evE, hx, if_true] at h
    exact tL.go S R h fun us f1 G1 H1 e S1 R1 h1 vs r1 => spC.of S1 r1 h1
  · refine ⟨fun pins s σ H Q I ⟨f, G, ρ, S, R, h⟩ => ?_⟩
    simp only [evE, if_neg hx] at h
    exact h.elim
theorem s_make (g : Good X N sc lv) (F : Wf (gr X) T cf lv) (tk : Takes X W) (h2 : gl? sc x = true) (ha : PA X xs (yL X T cf W es)) (hn : ∀ e ∈ xs, star? e = false) : PE X (.Call (.Name x p2) xs [] p) (yE X T cf W (.make x es)) := by
  obtain ⟨q1, q2, q3⟩ := g.gl h2
  by_cases hx : T.own x = true
  · obtain ⟨A, fa, O, M, fd, ps, hb, D⟩ := F.make x hx
    refine PE.imp (pe_makeL (E := WE W) M D g.room q1 O.mg hb (fun σ => passAt tk σ) ha hn q3) fun σ H Q ⟨f, G, ρ, S, R, h⟩ => ?_
    simp only [evE, hx, if_true] at h
    refine tL.go S R h fun us f1 G1 H1 e S1 R1 h1 vs r1 a dx ha hd ne => ?_
    have S2 := S1.fresh (o := .own a) hd
    have E2 := ext_fresh (o := .own a) S1 hd
    have ha2 : upd H1 dx (.own a) a = none := by rw [upd_ne (Ne.symm ne)]; exact ha
    obtain ⟨S3, E3⟩ := S2.alloc (o := .ins A dx []) (g := .ins x []) ha2 ⟨A, dx, [], O.mg, upd_same, .nil⟩
    have r3 := RUs.ext (E2.trans E3).toEx0 r1
    refine spC.of (us := .ref G1.length :: us) (σ := σ) S3 (RUs.cons (by
      simp only [RU]
      exact ⟨by rw [List.length_append]; exact Nat.lt_succ_self _, by rw [fx_at]⟩) r3) ?_
    have h2 := Rs.ext (E2.trans E3) h1
    refine (Rs.bind h2).imp fun z f4 G4 H4 e4 S4 h4 v rv => ?_
    cases z with
    | non =>
      have hv : RU (wr X T.kd) H4 f4 G4.length (.ref G1.length) (.ref a) := by
        simp only [RU]
        have hl := e4.le
        rw [List.length_append] at hl
        exact ⟨hl, by rw [e4.fn _ (by rw [List.length_append]; exact Nat.lt_succ_self _), fx_at]⟩
      exact ⟨by simpa [RU] using rv, Rs.ok S4 h4 _ hv⟩
    | _ => exact h4.elim
  · refine ⟨fun pins s σ H Q I ⟨f, G, ρ, S, R, h⟩ => ?_⟩
    simp only [evE, if_neg hx] at h
    exact h.elim
theorem blt_mem (b : Bf) : bfN b ∈ bltNames := by cases b <;> decide
theorem blt_boot (b : Bf) : bootBuiltins (bfN b) = some (bfV b) := by cases b <;> rfl
/-! ### isinstance -/
theorem tyB_at {Y : Wr} {H f G} (gg : Gr) (hK : Y.K = gg.K) (hm : Y.mg = gg.mg) {u : U} {v : V} {t c : Ty} {b : Bool} {isa : Ty → Ty → Option Bool} (hi : ∀ C c b, isa (.own C) c = some b → InstCls gg C) (S : Sim Y H f G) (e : tyB G u = some t) (hb : isa t c = some b) (r : RU Y H f G.length u v) : ∃ tv, TyVal gg t tv ∧ TyX gg.K H v tv := by
  cases u with
  | non => cases e; simp only [RU] at r; subst r; exact ⟨_, rfl, .base .non⟩
  | bl k => cases e; simp only [RU] at r; subst r; exact ⟨_, rfl, .base (.bl k)⟩
  | int k => cases e; simp only [RU] at r; subst r; exact ⟨_, rfl, .base (.int k)⟩
  | str k => cases e; simp only [RU] at r; subst r; exact ⟨_, rfl, .base (.str k)⟩
  | tup xs =>
    cases e
    obtain ⟨a, ys, rfl, h1, h2⟩ := tup_at r
    refine ⟨_, rfl, ?_⟩
    rcases h1 with (h1 | ⟨o, h1⟩) | h1
    · exact .base (.tup h1)
    · exact .fTuple h1
    · obtain ⟨o, its, n, h3, h4, _⟩ := h1
      exact .kTuple (hK ▸ h3) h4
  | fro xs =>
    cases e
    obtain ⟨a, ys, rfl, h1, h2⟩ := fro_at r
    refine ⟨_, rfl, ?_⟩
    rcases h1 with ⟨o, h1⟩ | ⟨o, its, n, h3, h4, _⟩
    · exact .base (.frz h1)
    · exact .kList (hK ▸ h3) h4
  | ref i =>
    simp only [tyB] at e
    cases q : G[i]? with
    | none => rw [q] at e; cases e
    | some o =>
      rw [q] at e
      cases o with
      | lst xs =>
        cases e
        obtain ⟨ys, rfl, h1, _⟩ := lst_at S q r
        exact ⟨_, rfl, .base (.lst h1)⟩
      | dK xs =>
        cases e
        obtain ⟨ys, rfl, h1, _⟩ := dK_at S q r
        exact ⟨_, rfl, .base (.dK h1)⟩
      | ins C fs =>
        cases e
        obtain ⟨A, dx, ws, rfl, h0, h1, _⟩ := ins_at S q r
        have I := hi C c b hb
        obtain ⟨A', O, p1, p2⟩ := I.ex
        have hA : A = A' := by
          have := O.mg
          rw [← hm, h0] at this
          exact Value.ref.inj (Option.some.inj this)
        subst hA
        exact ⟨.ref A, ⟨O.mg, A, rfl⟩, .base (.ins h1 O.cl p1 I.gs I.tk p2)⟩
  | glb x => cases e
/-- the class names of a test -/
theorem s_ty (g : Good X N sc lv) (F : Wf (gr X) T cf lv) {c : Ty} (hc : ∀ C, c = .own C → ∃ A, X.mg C = some (.ref A)) (hn : c ≠ .tnone) (h2 : gl? sc (tyN c) = true) : ∃ v u, TyVal (gr X) c u ∧ ClsV v u ∧ PE X (.Name (tyN c) p2) (tC v) := by
  obtain ⟨q1, q2, q3⟩ := g.gl h2
  cases c with
  | own C =>
    obtain ⟨A, hA⟩ := hc C rfl
    exact ⟨.ref A, .ref A, ⟨hA, A, rfl⟩, .own A, pe_glob q1 hA rfl q3⟩
  | tnone => exact (hn rfl).elim
  | tint => exact ⟨.ty "int", .type "int", rfl, .ty _, pe_bltn q1 (F.blt _ (by decide)) rfl rfl q2 q3⟩
  | tbool => exact ⟨.ty "bool", .type "bool", rfl, .ty _, pe_bltn q1 (F.blt _ (by decide)) rfl rfl q2 q3⟩
  | tstr => exact ⟨.ty "str", .type "str", rfl, .ty _, pe_bltn q1 (F.blt _ (by decide)) rfl rfl q2 q3⟩
  | tlist => exact ⟨.ty "list", .type "list", rfl, .ty _, pe_bltn q1 (F.blt _ (by decide)) rfl rfl q2 q3⟩
  | ttup => exact ⟨.ty "tuple", .type "tuple", rfl, .ty _, pe_bltn q1 (F.blt _ (by decide)) rfl rfl q2 q3⟩
  | tdict => exact ⟨.ty "dict", .type "dict", rfl, .ty _, pe_bltn q1 (F.blt _ (by decide)) rfl rfl q2 q3⟩
theorem s_isi1 (g : Good X N sc lv) (F : Wf (gr X) T cf lv) {t : Ty} (h0 : gl? sc "isinstance" = true) (ha : PE X l (yE X T cf W a)) (h2 : mTys sc [t] [r] = true) (hs : star? l = false) : PE X (.Call (.Name "isinstance" p2) [l, r] [] p) (yE X T cf W (.isi a [t] true)) := by
  obtain ⟨q1, q2, q3⟩ := g.gl h0
  by_cases hx : clsOk T.cls t = true
  · simp only [mTys, Bool.and_eq_true, and_true] at h2
    obtain ⟨h3, h4⟩ := h2
    unfold nm? at h3
    split at h3
    · rename_i y pp
      simp only [Bool.and_eq_true, beq_iff_eq] at h3
      obtain ⟨rfl, h3⟩ := h3
      obtain ⟨v, u, tv, cv, pe⟩ := s_ty (p2 := pp) g F (c := t) (fun C e => F.cls C (by subst e; exact hx)) (by simpa [bne] using h4) h3
      refine PE.imp (pe_callB call_isi q1 (F.blt _ (by decide)) rfl (pa_cons ha (pa_cons pe pa_nil) (star_plain hs)) q2 q3 (star_plain hs) (no_star fun e he => by
        rcases List.mem_cons.mp he with rfl | he
        · rfl
        · cases he)) fun σ H Q ⟨f, G, ρ, S, R, h⟩ => ?_
      simp only [evE, List.all_cons, List.all_nil, Bool.and_true, hx, if_true] at h
      refine tE.go S R h fun x f1 G1 H1 e S1 R1 h1 w r1 => ?_
      cases et : tyB G1 x with
      | none => rw [et] at h1; exact h1.elim
      | some ty =>
        rw [et] at h1
        simp only [ofO, Out.bind, isaAny] at h1
        cases eb : T.isa ty t with
        | none => rw [eb] at h1; exact h1.elim
        | some b =>
          rw [eb] at h1
          obtain ⟨xt, z1, z2⟩ := tyB_at (gr X) rfl rfl F.isi S1 et eb r1
          refine ⟨w, v, xt, u, b, rfl, cv, z2, F.isa _ _ _ eb _ _ z1 tv, ?_⟩
          refine Rs.ok S1 h1 _ ?_
          simp [RU]
    · cases h3
  · refine ⟨fun pins s σ H Q I ⟨f, G, ρ, S, R, h⟩ => ?_⟩
    simp only [evE, List.all_cons, List.all_nil, Bool.and_true, if_neg hx] at h
    exact h.elim
theorem s_tys (g : Good X N sc lv) (F : Wf (gr X) T cf lv) : ∀ {ts : List Ty} {cs : List PySem.Expr}, mTys sc ts cs = true → ts.all (clsOk T.cls) = true → ∃ vs us, Paired (TyVal (gr X)) ts us ∧ Paired ClsV vs us ∧ PA X cs (fun _ H Q => Q vs H)
  | [], [], _, _ => ⟨[], [], .nil, .nil, PA.imp pa_nil fun _ _ _ h => h⟩
  | [], _ :: _, h, _ => by simp [mTys] at h
  | _ :: _, [], h, _ => by simp [mTys] at h
  | t :: ts, c :: cs, h, hx => by
    simp only [mTys, Bool.and_eq_true] at h
    obtain ⟨⟨h3, h4⟩, h5⟩ := h
    simp only [List.all_cons, Bool.and_eq_true] at hx
    obtain ⟨vs, us, i1, i2, i3⟩ := s_tys g F h5 hx.2
    unfold nm? at h3
    split at h3
    · rename_i y pp
      simp only [Bool.and_eq_true, beq_iff_eq] at h3
      obtain ⟨rfl, h3⟩ := h3
      obtain ⟨v, u, tv, cv, pe⟩ := s_ty (p2 := pp) g F (c := t) (fun C e => F.cls C (by subst e; exact hx.1)) (by simpa [bne] using h4) h3
      exact ⟨v :: vs, u :: us, .cons tv i1, .cons cv i2, PA.imp (pa_cons pe i3) fun _ _ _ h => h⟩
    · cases h3
theorem isa_any (F : Wf (gr X) T cf lv) {ty : Ty} {xt : Value} (z1 : TyVal (gr X) ty xt) : ∀ {ts : List Ty} {us : List Value} {b : Bool}, Paired (TyVal (gr X)) ts us → isaAny T.isa ty ts = some b → PySem.W.kitAny X.K xt us = some b
  | [], _, b, .nil, e => by cases e; exact kitAny_nil
  | t :: ts, _, b, .cons h r, e => by
    simp only [isaAny] at e
    cases eb : T.isa ty t with
    | none => rw [eb] at e; cases e
    | some k =>
      rw [eb] at e
      simp only [Option.bind_some] at e
      cases ek : isaAny T.isa ty ts with
      | none => rw [ek] at e; cases e
      | some k2 =>
        rw [ek] at e
        cases e
        refine kitAny_cons (F.isa _ _ _ eb _ _ z1 h) (fun z => ?_) fun z => by rw [z]; rfl
        rw [z]
        show _ = some (false || k2)
        rw [Bool.false_or]
        exact isa_any F z1 r ek
theorem isa_some {isa : Ty → Ty → Option Bool} {t : Ty} : ∀ {ts : List Ty} {b : Bool}, isaAny isa t ts = some b → ts ≠ [] → ∃ c k, isa t c = some k
  | [], _, _, h => (h rfl).elim
  | c :: ts, b, e, _ => by
    simp only [isaAny] at e
    cases eb : isa t c with
    | none => rw [eb] at e; cases e
    | some k => exact ⟨c, k, eb⟩
theorem s_isiN (g : Good X N sc lv) (F : Wf (gr X) T cf lv) {ts : List Ty} {cs : List PySem.Expr} {pt : Pos} (h0 : gl? sc "isinstance" = true) (ha : PE X l (yE X T cf W a)) (h2 : mTys sc ts cs = true) (hs : star? l = false) (hne : ts ≠ []) (hlen : ts.length < 25) :
    PE X (.Call (.Name "isinstance" p2) [l, .Tuple cs kk pt] [] p) (yE X T cf W (.isi a ts false)) := by
  obtain ⟨q1, q2, q3⟩ := g.gl h0
  by_cases hx : ts.all (clsOk T.cls) = true
  · obtain ⟨vs, us, i1, i2, i3⟩ := s_tys g F h2 hx
    refine PE.imp (pe_callB call_isiT q1 (F.blt _ (by decide)) rfl (pa_cons ha (pa_cons (pe_tup i3) pa_nil) (star_plain hs)) q2 q3 (star_plain hs) (no_star fun e he => by
        rcases List.mem_cons.mp he with rfl | he
        · rfl
        · cases he)) fun σ H Q ⟨f, G, ρ, S, R, h⟩ => ?_
    simp only [evE, hx, if_true] at h
    refine tE.go S R h fun x f1 G1 H1 e S1 R1 h1 w r1 => ?_
    have hl : vs.length ≤ sizeLine := by
      have e1 := Paired.length i1
      have e2 := Paired.length i2
      rw [sizeLine_eq]; omega
    refine ⟨hl, fun tp htp => ?_⟩
    cases et : tyB G1 x with
    | none => rw [et] at h1; exact h1.elim
    | some ty =>
      rw [et] at h1
      simp only [ofO, Out.bind] at h1
      cases eb : isaAny T.isa ty ts with
      | none => rw [eb] at h1; exact h1.elim
      | some b =>
        rw [eb] at h1
        obtain ⟨c0, k0, e0⟩ := isa_some eb hne
        have S2 := S1.fresh (o := .tup vs) htp
        have E2 := ext_fresh (o := .tup vs) S1 htp
        have r2 := r1.ext E2.toEx0
        obtain ⟨xt, z1, z2⟩ := tyB_at (gr X) rfl rfl F.isi S2 et e0 r2
        refine ⟨w, tp, vs, xt, us, b, rfl, upd_same, i2, z2, isa_any F z1 i1 eb, ?_⟩
        refine Rs.ok S2 (Rs.ext E2 h1) _ ?_
        simp [RU]
  · refine ⟨fun pins s σ H Q I ⟨f, G, ρ, S, R, h⟩ => ?_⟩
    simp only [evE, if_neg hx] at h
    exact h.elim
/-! ### methods of lists and texts -/
def rM (Y : Wr) (m : Bm) : V → List V → Hp → VK → Prop := fun x xs H Q => ∃ f G u us z G', Sim Y H f G ∧ RU Y H f G.length u x ∧ RUs Y H f G.length us xs ∧ bmop m u us G = some (z, G') ∧
  ∀ f' H', Ext H f G.length H' f' G'.length → Sim Y H' f' G' → kV' Y Q z f' G' H'
variable {kd : Str → Option (List (Str × U))}
theorem lt_of_get {G : Gp} {i : Nat} {o : GO} (h : G[i]? = some o) : i < G.length := (List.getElem?_eq_some_iff.mp h).1
theorem lstOf_at {Y : Wr} {H f G} {u : U} {v : V} {n : Nat} {xs : List U} (S : Sim Y H f G) (e : lstOf G u = some (n, xs)) (r : RU Y H f G.length u v) : ∃ ys, v = .ref (f n) ∧ n < G.length ∧ H (f n) = some (.lst ys) ∧ RUs Y H f G.length xs ys := by
  cases u with
  | ref i =>
    cases q : G[i]? with
    | none => simp [lstOf, q] at e
    | some o =>
      cases o with
      | lst ys =>
        simp only [lstOf, q, Option.some.injEq, Prod.mk.injEq] at e
        obtain ⟨rfl, rfl⟩ := e
        obtain ⟨ws, rfl, h1, h2⟩ := lst_at S q r
        exact ⟨ws, rfl, lt_of_get q, h1, h2⟩
      | dK _ => simp [lstOf, q] at e
      | ins _ _ => simp [lstOf, q] at e
  | _ => simp [lstOf] at e
theorem rM.list {m : Bm} {op : Nat → List U → Gp → List U → Option (U × Gp)} {x : V} {xs : List V} {H : Hp} {Q : VK} (hm : ∀ o vs G, bmop m o vs G = (lstOf G o).bind fun p => op p.1 p.2 G vs) (h : rM (wr X kd) m x xs H Q) :
    ∃ f G i us ys ws z G', x = .ref (f i) ∧ Sim (wr X kd) H f G ∧ RUs (wr X kd) H f G.length us xs ∧ i < G.length ∧
    H (f i) = some (.lst ws) ∧ RUs (wr X kd) H f G.length ys ws ∧ op i ys G us = some (z, G') ∧ ∀ f' H', Ext H f G.length H' f' G'.length → Sim (wr X kd) H' f' G' → kV' (wr X kd) Q z f' G' H' := by
  obtain ⟨f, G, u, us, z, G', S, r, rs, e, k⟩ := h
  rw [hm] at e
  cases el : lstOf G u with
  | none => rw [el] at e; cases e
  | some p =>
    rw [el] at e
    obtain ⟨i, ys⟩ := p
    obtain ⟨ws, rfl, h0, h1, h2⟩ := lstOf_at S el r
    exact ⟨f, G, i, us, ys, ws, z, G', rfl, S, rs, h0, h1, h2, e, k⟩
theorem m_append : MtR X "list.append" (rM (wr X kd) .append) := mtImp mt_append fun x xs H Q h => by
  obtain ⟨f, G, i, us, ys, ws, z, G', rfl, S, rs, q, h1, h2, e, k⟩ := rM.list (op := opAppend) (fun _ _ _ => rfl) h
  unfold opAppend at e
  split at e
  · rename_i y
    split at e
    · rename_i hl
      cases e
      obtain ⟨v, rfl, rv⟩ := rs.one
      obtain ⟨S', E⟩ := set_lst S q (h2.append (RUs.cons rv RUs.nil))
      exact ⟨_, ws, v, rfl, rfl, h1, by rw [← h2.len]; exact hl, k _ _ E S' _ (by simp [RU])⟩
    · cases e
  · cases e
theorem m_clear : MtR X "list.clear" (rM (wr X kd) .clear) := mtImp mt_clear fun x xs H Q h => by
  obtain ⟨f, G, i, us, ys, ws, z, G', rfl, S, rs, q, h1, h2, e, k⟩ := rM.list (op := opClear) (fun _ _ _ => rfl) h
  unfold opClear at e
  split at e
  · cases e
    obtain ⟨S', E⟩ := set_lst S q RUs.nil
    exact ⟨_, ws, rfl, by simpa [RUs] using rs, h1, k _ _ E S' _ (by simp [RU])⟩
  · cases e
theorem m_pop : MtR X "list.pop" (rM (wr X kd) .pop) := mtImp mt_pop fun x xs H Q h => by
  obtain ⟨f, G, i, us, ys, ws, z, G', rfl, S, rs, q, h1, h2, e, k⟩ := rM.list (op := opPop) (fun _ _ _ => rfl) h
  unfold opPop at e
  split at e
  · cases eq : ys[ys.length - 1]? with
    | none => rw [eq] at e; cases e
    | some y =>
      rw [eq] at e
      cases e
      obtain ⟨v, hv, rv⟩ := h2.get eq
      rw [h2.len] at hv
      obtain ⟨S', E⟩ := set_lst S q h2.dropLast
      exact ⟨_, ws, v, rfl, by simpa [RUs] using rs, h1, hv, k _ _ E S' _ (rv.ext E.toEx0)⟩
  · cases e
theorem m_extend : MtR X "list.extend" (rM (wr X kd) .extend) := mtImp mt_extend fun x xs H Q h => by
  obtain ⟨f, G, i, us, ys, ws, z, G', rfl, S, rs, q, h1, h2, e, k⟩ := rM.list (op := opExtend) (fun _ _ _ => rfl) h
  unfold opExtend at e
  split at e
  · rename_i u
    cases eq : lstOf G u with
    | none => rw [eq] at e; cases e
    | some p =>
      rw [eq] at e
      simp only [Option.bind_some] at e
      split at e
      · rename_i hl
        cases e
        obtain ⟨v, rfl, rv⟩ := rs.one
        obtain ⟨j, zs⟩ := p
        obtain ⟨vs, rfl, _, g1, g2⟩ := lstOf_at S eq rv
        obtain ⟨S', E⟩ := set_lst S q (h2.append g2)
        exact ⟨_, _, ws, vs, rfl, rfl, h1, g1, by rw [← h2.len, ← g2.len]; exact hl, k _ _ E S' _ (by simp [RU])⟩
      · cases e
  · cases e
theorem rM.txt {m : Bm} {op : Str → Gp → List U → Option (U × Gp)} {x : V} {xs : List V} {H : Hp} {Q : VK} (hm : ∀ a vs G, bmop m (.str a) vs G = op a G vs) (hm2 : ∀ o vs G z, bmop m o vs G = some z → ∃ a, o = .str a) (h : rM (wr X kd) m x xs H Q) :
    ∃ f G a us z G', x = .str a ∧ Sim (wr X kd) H f G ∧ RUs (wr X kd) H f G.length us xs ∧ op a G us = some (z, G') ∧ ∀ f' H', Ext H f G.length H' f' G'.length → Sim (wr X kd) H' f' G' → kV' (wr X kd) Q z f' G' H' := by
  obtain ⟨f, G, u, us, z, G', S, r, rs, e, k⟩ := h
  obtain ⟨a, rfl⟩ := hm2 _ _ _ _ e
  rw [hm] at e
  simp only [RU] at r
  exact ⟨f, G, a, us, z, G', r, S, rs, e, k⟩
theorem m_join : MtR X "str.join" (rM (wr X kd) .join) := mtImp mt_join fun x xs H Q h => by
  obtain ⟨f, G, a, us, z, G', rfl, S, rs, e, k⟩ := rM.txt (op := opJoin) (fun _ _ _ => rfl) (fun o vs G z q => by cases o <;> first | exact ⟨_, rfl⟩ | cases q) h
  unfold opJoin at e
  split at e
  · rename_i y
    obtain ⟨v, rfl, rv⟩ := rs.one
    cases ei : items G y with
    | none => rw [ei] at e; cases e
    | some ys =>
      rw [ei] at e
      simp only [Option.bind_some] at e
      cases es : asStrs ys with
      | none => rw [es] at e; cases e
      | some ns =>
        rw [es] at e
        simp only [Option.bind_some] at e
        split at e
        · rename_i hl
          cases e
          obtain ⟨b, vs, rfl, g1, g2⟩ := items_at S ei rv
          have := g2.strs es
          subst this
          exact ⟨a, b, ns, rfl, rfl, g1, hl, k _ _ Ext.refl S _ (by simp [RU])⟩
        · cases e
  · cases e
theorem m_split : MtR X "str.split" (rM (wr X kd) .split) := mtImp mt_split fun x xs H Q h => by
  obtain ⟨f, G, a, us, z, G', rfl, S, rs, e, k⟩ := rM.txt (op := opSplit) (fun _ _ _ => rfl) (fun o vs G z q => by cases o <;> first | exact ⟨_, rfl⟩ | cases q) h
  unfold opSplit at e
  split at e
  · rename_i b
    obtain ⟨v, rfl, rv⟩ := rs.one
    split at e
    · rename_i hl
      cases e
      simp only [RU] at rv
      subst rv
      exact ⟨a, b, rfl, rfl, hl.1, hl.2, fun p hp => new_lst S (RUs.ofStrs _) hp k⟩
    · cases e
  · cases e
theorem s_bmA {m : Bm} {Ty id : String} (pa : PlainAttrs Ty) (slot : Slot Ty (bmN m) id) (hty : typeOf (.builtin id) = pure (.type "method_descriptor")) (hm : MtR X id (rM (wr X T.kd) m)) (hT : ∀ {H f G u v}, Sim (wr X T.kd) H f G → tyOkM m u G = true → RU (wr X T.kd) H f G.length u v → tyV X.K Ty v H)
    (ho : PE X o (yE X T cf W a)) (ha : PA X xs (yL X T cf W es)) (hn : ∀ e ∈ xs, star? e = false) (hbs : base? o = true) (hl : (apos.endLine == pos.line) = true) (hs : xs.length < 25) (hes : xs = [] → es = []) : PE X (.Call (.Attribute o (bmN m) apos) xs [] pos) (yE X T cf W (.bm m a es)) := by
  have fin : ∀ σ H Q, yE X T cf W (.bm m a es) σ H Q → tBM X.K Ty (rM (wr X T.kd) m) (yE X T cf W a) (yL X T cf W es) σ H Q := fun σ H Q ⟨f, G, ρ, S, R, h⟩ => by
    simp only [evE] at h
    refine tE.go S R h fun u f1 G1 H1 e S1 R1 h1 v r1 => ?_
    split at h1
    · rename_i ht
      refine ⟨hT S1 ht r1, tL.go S1 R1 h1 fun us f2 G2 H2 e2 S2 R2 h2 vs r2 => ?_⟩
      obtain ⟨z, G', hz, h3⟩ := Rs.of h2
      exact ⟨f2, G2, u, us, z, G', S2, r1.ext e2.toEx0, r2, hz, h3⟩
    · exact h1.elim
  cases xs with
  | nil =>
    have he : es = [] := hes rfl
    subst he
    refine PE.imp (pe_bm0 pa slot hty hm ho (base_plain hbs _) hl) fun σ H Q ⟨f, G, ρ, S, R, h⟩ => ?_
    simp only [evE, evL] at h
    refine tE.go S R h fun u f1 G1 H1 e S1 R1 h1 v r1 => ?_
    split at h1
    · rename_i ht
      refine ⟨hT S1 ht r1, ?_⟩
      obtain ⟨z, G', hz, h3⟩ := Rs.of h1
      exact ⟨f1, G1, u, [], z, G', S1, r1, RUs.nil, hz, h3⟩
    · exact h1.elim
  | cons l xs =>
    refine PE.imp (pe_bm pa slot hty hm ho ha (base_plain hbs _) ?_ hl (star_plain (hn l List.mem_cons_self)) (no_star fun e he => hn e (List.mem_cons_of_mem _ he))) fin
    have h3 := no_star (env := X.env) (pos := pos) hn
    have h2 : (backTo pos (starEach (l :: xs) X.env)).all (fun x => !x.1) = true := by rw [List.all_eq_not_any_not]; simpa using h3
    rw [h2]
    show (true && true && decide ((l :: xs).length + 0 + 0 < 30)) = true
    simp only [Bool.and_self, Bool.true_and, decide_eq_true_eq]
    omega
theorem ty_list {m : Bm} {H f G} {u : U} {v : V} (hm : m ≠ .join ∧ m ≠ .split) (S : Sim (wr X kd) H f G) (h : tyOkM m u G = true) (r : RU (wr X kd) H f G.length u v) : tyV X.K "list" v H := by
  have h : isLst G u = true := by
    cases m <;> first | exact (hm.1 rfl).elim | exact (hm.2 rfl).elim | exact h
  cases u with
  | ref n =>
    unfold isLst at h
    dsimp only at h
    split at h
    · rename_i xs q
      obtain ⟨ws, rfl, h1, h2⟩ := lst_at S q r
      exact .inl ⟨rfl, ws, SqL.of h1⟩
    · cases h
  | _ => cases h
theorem ty_str {m : Bm} {H f G} {u : U} {v : V} (hm : m = .join ∨ m = .split) (S : Sim (wr X kd) H f G) (h : tyOkM m u G = true) (r : RU (wr X kd) H f G.length u v) : tyV X.K "str" v H := by
  have h : isTxt u = true := by
    rcases hm with rfl | rfl <;> exact h
  cases u with
  | str n => simp only [RU] at r; subst r; rfl
  | _ => cases h
theorem s_bm {m : Bm} (ho : PE X o (yE X T cf W a)) (ha : PA X xs (yL X T cf W es)) (hn : ∀ e ∈ xs, star? e = false) (hbs : base? o = true) (hl : (apos.endLine == pos.line) = true) (hs : xs.length < 25) (hes : xs = [] → es = []) (hm : bm? m = true) :
    PE X (.Call (.Attribute o (bmN m) apos) xs [] pos) (yE X T cf W (.bm m a es)) := by
  cases m <;> try (cases hm; done)
  · exact s_bmA PySem.F.plainAttrs_list PySem.F.slot_list_append PySem.F.type_list_append m_append (fun S h r => ty_list ⟨by decide, by decide⟩ S h r) ho ha hn hbs hl hs hes
  · exact s_bmA PySem.F.plainAttrs_list PySem.F.slot_list_pop PySem.F.type_list_pop m_pop (fun S h r => ty_list ⟨by decide, by decide⟩ S h r) ho ha hn hbs hl hs hes
  · exact s_bmA PySem.F.plainAttrs_list PySem.F.slot_list_clear PySem.F.type_list_clear m_clear (fun S h r => ty_list ⟨by decide, by decide⟩ S h r) ho ha hn hbs hl hs hes
  · exact s_bmA PySem.F.plainAttrs_list PySem.F.slot_list_extend PySem.F.type_list_extend m_extend (fun S h r => ty_list ⟨by decide, by decide⟩ S h r) ho ha hn hbs hl hs hes
  · exact s_bmA PySem.F.plainAttrs_str PySem.F.slot_str_join PySem.F.type_str_join m_join (fun S h r => ty_str (.inl rfl) S h r) ho ha hn hbs hl hs hes
  · exact s_bmA PySem.F.plainAttrs_str PySem.F.slot_str_split PySem.F.type_str_split m_split (fun S h r => ty_str (.inr rfl) S h r) ho ha hn hbs hl hs hes
/-! ### own classes -/
theorem cls_at {Y : Wr} {H f G} {u : U} {v : V} {C : Str} {fs : List (Str × U)} (S : Sim Y H f G) (e : clsU G u = some (C, fs)) (r : RU Y H f G.length u v) :
    ∃ n A dx ws, u = .ref n ∧ G[n]? = some (.ins C fs) ∧ v = .ref (f n) ∧ Y.mg C = some (.ref A) ∧ H (f n) = some (.ins A dx ws) ∧ RKs Y H f G.length fs ws := by
  cases u with
  | ref n =>
    cases q : G[n]? with
    | none => simp [clsU, q] at e
    | some o =>
      cases o with
      | ins D gs =>
        simp only [clsU, q, Option.some.injEq, Prod.mk.injEq] at e
        obtain ⟨rfl, rfl⟩ := e
        obtain ⟨A, dx, ws, rfl, h0, h1, h2⟩ := ins_at S q r
        exact ⟨n, A, dx, ws, rfl, q, rfl, h0, h1, h2⟩
      | lst _ => simp [clsU, q] at e
      | dK _ => simp [clsU, q] at e
  | _ => simp [clsU] at e
theorem mg_eq {gg : Gr} {C : Str} {A A' : Addr} (h : gg.mg C = some (.ref A)) (O : OwnCls gg C A') : A = A' := by
  have := O.mg
  rw [h] at this
  exact Value.ref.inj (Option.some.inj this)
theorem s_meth {m : Str} (g : Good X N sc lv) (F : Wf (gr X) T cf lv) (tk : Takes X W) (ho : PE X o (yE X T cf W a)) (ha : PA X xs (yL X T cf W es)) (hn : ∀ e ∈ xs, star? e = false) (hbs : base? o = true) (hl : (apos.endLine == pos.line) = true) (hs : xs.length < 25) :
    PE X (.Call (.Attribute o m apos) xs [] pos) (yE X T cf W (.meth a m es)) := by
  refine PE.imp (pe_methL (E := WE W) ho ha hbs hn hl hs fun σ => passAt tk σ) fun σ H Q ⟨f, G, ρ, S, R, h⟩ => ?_
  simp only [evE] at h
  refine tE.go S R h fun u f1 G1 H1 e S1 R1 h1 v r1 => ?_
  cases ec : clsU G1 u with
  | none => rw [ec] at h1; exact h1.elim
  | some c =>
    rw [ec] at h1
    obtain ⟨C, fs⟩ := c
    obtain ⟨n, A, dx, ws, rfl, q, rfl, h0, h2, h3⟩ := cls_at S1 ec r1
    simp only [ofO, Out.bind] at h1
    split at h1
    · rename_i q' hlk hmt
      obtain ⟨A', fa, O, M, fd, ps, hb, D⟩ := F.meth C m q' hmt
      have := mg_eq h0 O
      subst this
      have hw := RKs.look (k := m) h3
      rw [hlk] at hw
      refine ⟨f1 n, A, dx, ws, lv, fa, fd, ps, _, rfl, h2, O.cl, M, D, g.room.mono (Nat.le_succ _), hb, hw, ?_⟩
      refine tL.go S1 R1 h1 fun us f2 G2 H2 e2 S2 R2 h4 vs r2 => spC.of S2 (RUs.cons (r1.ext e2.toEx0) r2) h4
    · exact h1.elim
theorem s_attr {m : Str} (g : Good X N sc lv) (F : Wf (gr X) T cf lv) (ho : PE X o (yE X T cf W a)) (hbs : base? o = true) : PE X (.Attribute o m pos) (yE X T cf W (.attr a m)) := by
  refine ⟨fun pins s σ H Q I ⟨f, G, ρ, S, R, h⟩ => ?_⟩
  simp only [evE] at h
  refine attr_of (base_plain hbs _) (thn (ho.run pins s σ H (fun v H1 => ∃ f1 G1 u, Sim (wr X T.kd) H1 f1 G1 ∧ RU (wr X T.kd) H1 f1 G1.length u v ∧ Rs (wr X T.kd) W ((ofO (clsU G1 u) G1).bind fun c G => match c.2.lookup m with
    | some u => if T.fld c.1 m = true then .ok u G else .stuck
    | none => match T.con c.1 m with
      | some u => .ok u G
      | none => .stuck) H1 f1 G1.length σ (kV' (wr X T.kd) Q)) I (tE.go S R h fun u f1 G1 H1 e S1 R1 h1 v r1 => ⟨f1, G1, u, S1, r1, h1⟩)) fun uv s1 ⟨x, H1, I1, rx, f1, G1, u, S1, r1, h1⟩ => ?_)
  cases ec : clsU G1 u with
  | none => rw [ec] at h1; exact h1.elim
  | some c =>
    rw [ec] at h1
    obtain ⟨C, fs⟩ := c
    obtain ⟨n, A, dx, ws, rfl, q, rfl, h0, h2, h3⟩ := cls_at S1 ec r1
    simp only [ofO, Out.bind] at h1
    obtain rfl : uv = Value.ref (f1 n) := rx
    have hw := RKs.look (k := m) h3
    split at h1
    · rename_i z hlk
      rw [hlk] at hw
      obtain ⟨w, hw1, hw2⟩ := hw
      split at h1
      · rename_i hf
        obtain ⟨A', O, NA⟩ := F.fld C m hf
        have := mg_eq h0 O
        subst this
        exact getattr_ok I1 h2 O.cl NA hw1 fun u' s2 I2 ru => ⟨w, H1, I2, ru, Rs.ok S1 h1 _ hw2⟩
      · exact h1.elim
    · rename_i hlk
      rw [hlk] at hw
      split at h1
      · rename_i z hcn
        obtain ⟨A', w, val, O, cn, hr⟩ := F.con C m z hcn
        have := mg_eq h0 O
        subst this
        exact getcon_ok I1 h2 O.cl cn hw fun s2 I2 => ⟨w, H1, I2, cn.rel, Rs.ok S1 h1 _ (hr _ _ _)⟩
      · exact h1.elim
theorem s_prop {m : Str} (g : Good X N sc lv) (F : Wf (gr X) T cf lv) (ho : PE X o (yE X T cf W a)) (hbs : base? o = true) : PE X (.Attribute o m pos) (yE X T cf W (.prop a m)) := by
  refine PE.imp (pe_propL (CX := L2.CX X.prog X.w) ho hbs) fun σ H Q ⟨f, G, ρ, S, R, h⟩ => ?_
  simp only [evE] at h
  refine tE.go S R h fun u f1 G1 H1 e S1 R1 h1 v r1 => ?_
  cases ec : clsU G1 u with
  | none => rw [ec] at h1; exact h1.elim
  | some c =>
    rw [ec] at h1
    obtain ⟨C, fs⟩ := c
    obtain ⟨n, A, dx, ws, rfl, q, rfl, h0, h2, h3⟩ := cls_at S1 ec r1
    simp only [ofO, Out.bind] at h1
    split at h1
    · rename_i q' hmt
      obtain ⟨A', p', fa, O, M, fd, ps, hb, D⟩ := F.prop C m q' hmt
      have := mg_eq h0 O
      subst this
      refine ⟨f1 n, A, p', fa, dx, ws, lv, fd, ps, _, rfl, h2, O.cl, M, D, g.room, hb, fun _ _ _ => False, ?_, ?_⟩
      · exact passes_call takes0 fun _ _ _ _ z => z
      · refine ⟨f1, G1, [.ref n], S1, RUs.cons r1 RUs.nil, ?_⟩
        cases eq : cf q' [.ref n] G1 with
        | ok a G' => rw [eq] at h1; exact h1
        | exc c fs G' => rw [eq] at h1; exact h1.elim
        | stuck => rw [eq] at h1; exact h1
    · exact h1.elim
theorem s_chain {o1 o2 : CmpOp} {m : PySem.Expr} (g : Good X N sc lv) (F : Wf (gr X) T cf lv) (ha : PE X l (yE X T cf W a)) (hb : PE X m (yE X T cf W b)) (hc : PE X r (yE X T cf W c)) (hm : lastMarks [o1, o2] [m, r] = false) :
    PE X (.Compare l [o1, o2] [m, r] p) (yE X T cf W (.chain o1 o2 a b c)) := by
  refine PE.imp (pe_chain (o_cmp g.hu F.kdo.ok o1) (o_cmp g.hu F.kdo.ok o2) ha hb hc hm) fun σ H Q ⟨f, G, ρ, S, R, h⟩ => ?_
  simp only [evE] at h
  refine tE.go S R h fun u f1 G1 H1 e S1 R1 h1 v r1 => tE.go S1 R1 h1 fun u2 f2 G2 H2 e2 S2 R2 h2 v2 r2 => ?_
  cases ec : cmpop T.kd o1 u u2 G2 with
  | none => rw [ec] at h2; exact h2.elim
  | some k =>
    rw [ec] at h2
    replace h2 : Rs (wr X T.kd) W (if k = true then (evE T cf c ρ G2).bind fun z G => .of ((cmpop T.kd o2 u2 z G).map fun b => (.bl b, G)) else .ok (.bl false) G2) H2 f2 G2.length σ (kV' (wr X T.kd) Q) := h2
    refine ⟨f2, G2, u, u2, .bl k, G2, S2, r1.ext e2.toEx0, r2, by show (cmpop T.kd o1 u u2 G2).map _ = _; rw [ec]; rfl, fun f3 H3 e3 S3 w rw' => ⟨k, by simpa [RU] using rw', ?_⟩⟩
    have h3 := Rs.ext e3 h2
    have R3 := R2.ext e3.toEx0
    cases k with
    | true =>
      simp only [if_true] at h3 ⊢
      refine tE.go S3 R3 h3 fun u4 f4 G4 H4 e4 S4 R4 h4 v4 r4 => ?_
      obtain ⟨z, G', hz, h5⟩ := Rs.of h4
      exact ⟨f4, G4, u2, u4, z, G', S4, (r2.ext e3.toEx0).ext e4.toEx0, r4, hz, h5⟩
    | false => exact Rs.ok S3 h3 _ (by simp [RU])
theorem s_tchain {o1 o2 : CmpOp} {m : PySem.Expr} (g : Good X N sc lv) (F : Wf (gr X) T cf lv) (ha : PE X l (yE X T cf W a)) (hb : PE X m (yE X T cf W b)) (hc : PE X r (yE X T cf W c)) (hm : lastMarks [o1, o2] [m, r] = false) :
    PT X (.Compare l [o1, o2] [m, r] p) (yT X T cf W (.val (.chain o1 o2 a b c))) := by
  refine PT.imp (pt_chain (o_cmp g.hu F.kdo.ok o1) (o_cmp g.hu F.kdo.ok o2) ha hb hc hm) fun σ H Q ⟨f, G, ρ, S, R, h⟩ => ?_
  simp only [evT, evE] at h
  have h := h.bind
  refine tE.go S R h fun u f1 G1 H1 e S1 R1 h1 v r1 => tE.go S1 R1 h1 fun u2 f2 G2 H2 e2 S2 R2 h2 v2 r2 => ?_
  cases ec : cmpop T.kd o1 u u2 G2 with
  | none => rw [ec] at h2; exact h2.elim
  | some k =>
    rw [ec] at h2
    replace h2 : Rs (wr X T.kd) W (if k = true then (evE T cf c ρ G2).bind fun z G => .of ((cmpop T.kd o2 u2 z G).map fun b => (.bl b, G)) else .ok (.bl false) G2) H2 f2 G2.length σ (fun x f G H => Rs (wr X T.kd) W (ofO (truthy G x) G) H f G.length σ (kB' Q)) := h2
    refine ⟨f2, G2, u, u2, .bl k, G2, S2, r1.ext e2.toEx0, r2, by show (cmpop T.kd o1 u u2 G2).map _ = _; rw [ec]; rfl, fun f3 H3 e3 S3 w rw' => ⟨k, by simpa [RU] using rw', ?_⟩⟩
    have h3 := Rs.ext e3 h2
    have R3 := R2.ext e3.toEx0
    cases k with
    | true =>
      simp only [if_true] at h3 ⊢
      refine tE.go S3 R3 h3 fun u4 f4 G4 H4 e4 S4 R4 h4 v4 r4 => ?_
      obtain ⟨z, G', hz, h5⟩ := Rs.of h4
      refine ⟨f4, G4, u2, u4, z, G', S4, (r2.ext e3.toEx0).ext e4.toEx0, r4, hz, fun f' H' e' S' w rw2 => ?_⟩
      cases ec2 : cmpop T.kd o2 u2 u4 G4 with
      | none => rw [ec2] at hz; cases hz
      | some k2 =>
        rw [ec2] at hz
        cases hz
        have h6 := Rs.ok S' (h5 f' H' e' S')
        exact ⟨k2, by simpa [RU] using rw2, h6⟩
    | false => exact ⟨false, rfl, Rs.ok S3 (Rs.ok S3 h3)⟩
/-! ### comparisons, len -/
theorem looks_ref {M : Model} {h : Heap} {a : Addr} {o : Obj} (e : h.get? a = some o) : PySem.W.Looks M h (typeOf (.ref a)) o.cls := (PySem.W.Looks.ld e).andThen .now
theorem cmp_run {op : CmpOp} (g : Good X N sc lv) (F : Wf (gr X) T cf lv) (tk : Takes X W) {pins : List (Addr × Obj)} {σ : L2.St} {H : Hp} {s : Shared} {Q : VK} {x y : U} {v w : V} {u1 u2 : Value} {f : Nat → Addr} {G : Gp} (I : Inv X pins σ H s) (r1 : RelV v u1) (r2 : RelV w u2)
    (S : Sim (wr X T.kd) H f G) (rx : RU (wr X T.kd) H f G.length x v) (ry : RU (wr X T.kd) H f G.length y w) (h : Rs (wr X T.kd) W (cmpK T cf op x y G) H f G.length σ (fun c _ _ H => Q (.bl c) H)) :
    wpAny (model X.prog X.w) X.A (compareOp op u1 u2) (EP X pins σ Q) X.xe s := by
  unfold cmpK at h
  cases eo : ownEq T G op x y with
  | none =>
    rw [eo] at h
    dsimp only at h
    cases ec : cmpop T.kd op x y G with
    | none => rw [ec] at h; exact h.elim
    | some c =>
      rw [ec] at h
      refine o_cmp g.hu F.kdo.ok op pins s σ H v w u1 u2 Q I r1 r2 ⟨f, G, x, y, .bl c, G, S, rx, ry, ?_, fun f' H' e S' z rz => ?_⟩
      · show (cmpop T.kd op x y G).map _ = _
        rw [ec]; rfl
      · have : z = .bl c := by simpa [RU] using rz
        subst this
        exact h f' H' e S'
  | some oq =>
    cases oq with
    | none => rw [eo] at h; exact h.elim
    | some p =>
      obtain ⟨q, neg⟩ := p
      rw [eo] at h
      dsimp only at h
      unfold ownEq at eo
      split at eo
      · rename_i hop
        cases ec : clsU G x with
        | none => rw [ec] at eo; cases eo
        | some c =>
          obtain ⟨C, fs⟩ := c
          rw [ec] at eo
          dsimp only at eo
          cases em : T.eqm C with
          | none => rw [em] at eo; cases eo
          | some q' =>
            rw [em] at eo
            dsimp only at eo
            obtain ⟨n, A, dx, ws, rfl, hg, rfl, h0, h1, h2⟩ := cls_at S ec rx
            obtain ⟨A', fa, O, EF, fd, ps, hb, D⟩ := F.eqm C q' em
            have := mg_eq h0 O
            subst this
            obtain rfl : u1 = Value.ref (f n) := r1
            have fin : ∀ {neg : Bool} {K : Bool → V → Hp → Prop}, Rs (wr X T.kd) W ((cf q' [.ref n, y] G).bind (eqBack neg)) H f G.length σ (fun c _ _ H => Q (.bl c) H) → spC (wr X T.kd) cf q' [.ref (f n), w] H (fun v H' => ∃ c, v = .bl c ∧ Q (.bl (if neg = true then !c else c)) H') (WE W σ) := fun {neg K} h =>
              spC.of S (RUs.cons rx (RUs.cons ry RUs.nil)) ((Rs.bind h).imp fun z f4 G4 H4 e4 S4 h4 v rv => by
                cases z with
                | bl c => exact ⟨c, by simpa [RU] using rv, Rs.ok S4 h4⟩
                | _ => exact h4.elim)
            cases ey : clsU G y with
            | some dd =>
              obtain ⟨D', gs⟩ := dd
              rw [ey] at eo
              dsimp only at eo
              split at eo
              · rename_i hD
                subst hD
                cases eo
                obtain ⟨m, B, dy, zs, rfl, hg2, rfl, k0, k1, k2⟩ := cls_at S ey ry
                have hAB : B = A := by
                  have : X.mg D' = some (.ref B) := k0
                  rw [show X.mg D' = some (.ref A) from h0] at this
                  exact (Value.ref.inj (Option.some.inj this)).symm
                subst hAB
                obtain rfl : u2 = Value.ref (f m) := r2
                rcases hop with rfl | rfl
                · have h' := fin (neg := false) (K := fun _ _ _ => True) h
                  obtain ⟨_, _, _, e2, _⟩ := (show ObjOk X.prog X.w H s.heap (f m) (.ins B dy zs) from I.hok _ _ k1)
                  exact own_eq (E := WE W) I h1 EF.at_ EF.fn D (g.room.mono (Nat.le_succ _)) hb (passAt tk σ) (show L2.RelV (.ref (f m)) (.ref (f m)) from rfl) (looks_ref e2) (by simp [PySem.W.notFirst, PySem.W.instObj]) (by simpa using h')
                · have h' := fin (neg := true) (K := fun _ _ _ => True) h
                  exact own_ne (E := WE W) I h1 k1 (EF.ne _) D g.room hb (passAt tk σ) (by simpa using h')
              · cases eo
            | none =>
              rw [ey] at eo
              dsimp only at eo
              cases y with
              | tup ys =>
                dsimp only at eo
                split at eo
                · rename_i he
                  subst he
                  cases eo
                  obtain ⟨b, zs, rfl, k1, k2⟩ := tup_at ry
                  obtain rfl : u2 = Value.ref b := r2
                  have h' := fin (neg := false) (K := fun _ _ _ => True) h
                  obtain ⟨its, _, ⟨o, ho, hc, _⟩, _⟩ := I.tuple k1
                  exact own_eq (E := WE W) I h1 EF.at_ EF.fn D (g.room.mono (Nat.le_succ _)) hb (passAt tk σ) (show L2.RelV (.ref b) (.ref b) from rfl) (hc ▸ looks_ref ho) EF.tup (by simpa using h')
                · cases eo
              | _ => cases eo
      · cases eo
theorem pc_I {op : CmpOp} (g : Good X N sc lv) (F : Wf (gr X) T cf lv) (tk : Takes X W) (ha : PE X l (yE X T cf W a)) (hb : PE X r (yE X T cf W b)) : PC X op l r (yE X T cf W (.cmp op a b)) := by
  refine ⟨fun pins s σ H Q I ⟨f, G, ρ, S, R, h⟩ => ?_⟩
  simp only [evE] at h
  refine bin ha hb I (R := fun v w H => ∃ f G x y, Sim (wr X T.kd) H f G ∧ RU (wr X T.kd) H f G.length x v ∧ RU (wr X T.kd) H f G.length y w ∧ Rs (wr X T.kd) W (cmpK T cf op x y G) H f G.length σ (fun c _ _ H => Q (.bl c) H))
    (tE.go S R h fun u f1 G1 H1 e S1 R1 h1 v r1 => tE.go S1 R1 h1 fun u2 f2 G2 H2 e2 S2 R2 h2 v2 r2 => ⟨f2, G2, u, u2, S2, r1.ext e2.toEx0, r2, (Rs.bind h2).imp fun c f3 G3 H3 e3 S3 h3 => Rs.ok S3 h3 _ (by simp [RU])⟩) fun v u s2 x y H2 I2 rx ry ⟨f, G, x', y', S', q1, q2, q3⟩ => ?_
  exact cmp_run g F tk I2 rx ry S' q1 q2 q3
theorem s_cmp {op : CmpOp} (g : Good X N sc lv) (F : Wf (gr X) T cf lv) (tk : Takes X W) (ha : PE X l (yE X T cf W a)) (hb : PE X r (yE X T cf W b)) (hm : behindInMarks op r = false) : PE X (.Compare l [op] [r] p) (yE X T cf W (.cmp op a b)) := pe_cmp (pc_I g F tk ha hb) hm
theorem pe_callBS {e : PySem.Expr} {t : TA} {id : String} {rr : L2.St → List V → Hp → VK → Prop} (hc : ∀ (pins : List (Addr × Obj)) (s : Shared) (σ : L2.St) (H : Hp) (ys : List V) (us : List Value) (Q : VK), Inv X pins σ H s → Vals ys us → rr σ ys H Q → wpAny (model X.prog X.w) X.A (call (.builtin id) us) (EP X pins σ Q) X.xe s)
    (hg : Gl X x) (hm : X.mg x = none) (hv : bootBuiltins x = some (.builtin id)) (ha : PA X (e :: xs) t) (hn : x ≠ "__name__") (hdb : (x == ("__debug__" : Str)) = false) (hst : ∀ y ∈ e :: xs, star? y = false) :
    PE X (.Call (.Name x p2) (e :: xs) [] p) (fun σ H Q => t σ H fun vs H1 => rr σ vs H1 Q) := by
  refine ⟨fun pins s σ H Q I h => ?_⟩
  refine wpAny_Call_Name_kw (ld_blt I hg hm hv ?_ hn hdb)
  exact PyProof.Rows.callWith_builtin1 (thn (ha.run p pins s σ H _ I h) fun us s1 ⟨vs, H1, I1, r1, q1⟩ => hc pins s1 σ H1 vs us Q I1 r1 q1) (star_plain (hst e List.mem_cons_self)) (no_star fun y hy => hst y (List.mem_cons_of_mem _ hy))
theorem s_bf (g : Good X N sc lv) (F : Wf (gr X) T cf lv) (tk : Takes X W) {b : Bf} (h2 : gl? sc (bfN b) = true) (ha : PA X xs (yL X T cf W es)) (hn : ∀ e ∈ xs, star? e = false) (hne : xs.isEmpty = false) : PE X (.Call (.Name (bfN b) p2) xs [] p) (yE X T cf W (.bf b es)) := by
  obtain ⟨q1, q2, q3⟩ := g.gl h2
  cases xs with
  | nil => cases hne
  | cons l xs =>
    by_cases hb : b = .blen
    · subst hb
      refine PE.imp (pe_callBS (rr := fun σ vs H Q => ∃ f G us, Sim (wr X T.kd) H f G ∧ RUs (wr X T.kd) H f G.length us vs ∧ Rs (wr X T.kd) W (bfK T cf .blen us G) H f G.length σ (kV' (wr X T.kd) Q)) (fun pins s σ H ys us Q I r ⟨f, G, zs, S, rz, h⟩ => ?_)
        q1 (F.blt _ (blt_mem .blen)) (blt_boot .blen) ha q2 q3 hn) fun σ H Q ⟨f, G, ρ, S, R, h⟩ => ?_
      · unfold bfK at h
        cases eo : ownLen T G .blen zs with
        | none =>
          rw [eo] at h
          obtain ⟨z, G', hz, h4⟩ := Rs.of h
          exact c_bf (kd := T.kd) g.calm .blen pins s σ H ys us Q I r ⟨f, G, zs, z, G', S, rz, hz, h4⟩
        | some q =>
          rw [eo] at h
          dsimp only at h
          unfold ownLen at eo
          split at eo
          · rename_i u _
            cases ec : clsU G u with
            | none => rw [ec] at eo; cases eo
            | some c =>
              obtain ⟨C, fs⟩ := c
              rw [ec] at eo
              have eo : T.lnm C = some q := eo
              obtain ⟨v, rfl, rv⟩ := rz.one
              obtain ⟨n, A, dx, ws, rfl, hg, rfl, h0, h1, h3⟩ := cls_at S ec rv
              obtain ⟨A', fa, O, z1, z2, fd, ps, hb, D⟩ := F.lnm C q eo
              have := mg_eq h0 O
              subst this
              rw [Vals.ref1 r]
              refine own_len (E := WE W) I h1 z1 z2 D g.room hb (passAt tk σ) (spC.of S (RUs.cons rv RUs.nil) ((Rs.bind h).imp fun z f4 G4 H4 e4 S4 h4 v rv => ?_))
              cases z with
              | int k =>
                unfold lenBack at h4
                dsimp only at h4
                split at h4
                · rename_i hk
                  have hv : v = .int k := by simpa [RU] using rv
                  exact ⟨k, hv, hk.1, hk.2, Rs.ok S4 h4 _ (by simp [RU])⟩
                · exact h4.elim
              | _ => exact h4.elim
          · cases eo
      · simp only [evE] at h
        exact tL.go S R h fun us f1 G1 H1 e S1 R1 h1 vs r1 => ⟨f1, G1, us, S1, r1, h1⟩
    · refine PE.imp (pe_callBL (c_bf (kd := T.kd) g.calm b) q1 (F.blt _ (blt_mem b)) (blt_boot b) ha q2 q3 hn) fun σ H Q ⟨f, G, ρ, S, R, h⟩ => ?_
      simp only [evE] at h
      refine tL.go S R h fun us f1 G1 H1 e S1 R1 h1 vs r1 => ?_
      have eo : ownLen T G1 b us = none := by
        unfold ownLen
        split
        · exact (hb rfl).elim
        · rfl
      unfold bfK at h1
      rw [eo] at h1
      obtain ⟨z, G', hz, h4⟩ := Rs.of h1
      exact ⟨f1, G1, us, z, G', S1, r1, hz, h4⟩
/-! ## lambdas handed to the def that tells errors; static methods -/
theorem whyX_at {T : Pg} {Y : Wr} {g : Gr} {bs : List (List Str × FR)} {r : FR} (hT : T.why = some (bs, r)) {c : Str} {fs : List (Str × U)} {G : Gp} {u : U} {G' : Gp} (h : whyX T c fs G = .ok u G') :
    ∃ tf z w, T.exn c = some tf ∧ fs.lookup ("tag" : Str) = some (.str z) ∧ PyData.strOk z = true ∧ fbG U.non z fs r bs = some w ∧ u = .tup [.str z, w] ∧ G' = G := by
  unfold whyX at h
  rw [hT] at h
  split at h
  · rename_i bs' r' tf z e1 e2 e3
    cases e1
    split at h
    · rename_i hz
      split at h
      · rename_i w hw
        cases h
        exact ⟨tf, z, w, e2, e3, hz, hw, rfl, rfl⟩
      · cases h
    · cases h
  · cases h
theorem whyX_shape {T : Pg} {c : Str} {fs : List (Str × U)} {G : Gp} : (∃ u, whyX T c fs G = .ok u G) ∨ whyX T c fs G = .stuck := by
  unfold whyX
  split
  · split
    · split
      · exact .inl ⟨_, rfl⟩
      · exact .inr rfl
    · exact .inr rfl
  · exact .inr rfl
theorem fbG_V (z : Str) (ws : List (Str × V)) (r : FR) : ∀ bs : List (List Str × FR), fbG V.non z ws r bs = fbV z ws r bs
  | [] => by cases r <;> rfl
  | (wl, q) :: bs => by
    simp only [fbG, fbV]
    rw [fbG_V z ws r bs]
    cases q <;> rfl
theorem s_why {body : PySem.Expr} {scope : Scope} {lpos : Pos} (g : Good X N sc lv) (F : Wf (gr X) T cf lv) (hg : gl? sc "_law_why" = true) (hco : sc.isCoroutine = false) (hl : LamX.lamSB sc scope = true)
    (hb : ∀ (X' : Cx) (W' : WX), gr X' = gr X → Good X' N { scope with isCoroutine := true } lv → Takes X' W' → PE X' body (yE X' T cf W' a)) :
    PE X (.Call (.Name "_law_why" p) [.Lambda ⟨[], [], none, [], [], none, []⟩ body scope lpos] [] pos) (yE X T cf W (.why a)) := by
  cases hT : T.why with
  | none =>
    refine ⟨fun pins s σ H Q I ⟨f, G, ρ, S, R, h⟩ => ?_⟩
    simp only [evE] at h
    cases ho : evE T cf a ρ G with
    | ok u G' => rw [ho] at h; unfold whyK at h; simp only [hT] at h; exact h.elim
    | exc c fs G' => rw [ho] at h; unfold whyK whyX at h; simp only [hT] at h; exact h.elim
    | stuck => rw [ho] at h; exact h.elim
  | some br =>
    obtain ⟨bs, r⟩ := br
    obtain ⟨gw, cs, ask, Ng, pg, bg, sg, dV, kV, doc, pm, cdv, ct, oc, an, od, osl, w1, w2, w3, w4, w5, w6, w7, w8, w9, w10, w11, w12⟩ := (F.why bs r hT).ex
    obtain ⟨q1, q2, q3⟩ := g.gl hg
    obtain ⟨hr, c, P, hcode, hcs, hmT, hu⟩ := g.lam hco
    have L := g.lams hl
    refine PE.imp (LamX.pe_lamcall (k := lv + 1) (T := tbOf X.K) (TT := TWhy X.K cs bs r) (t := fun E => yE X T cf (fun cls d _ H => E cls d H) a) (a := ask) q1 w1 w2 w3 w4 w5 w6 w7 w8 (w11 X _ rfl (hr.mono (by omega))) (F.tabs _ hcs) hcode hmT hu hr L rfl (fun _ _ _ _ _ => rfl)
      (fun A outer s H E f c' hr2 => hb (LamX.lamCx X A outer s H E scope f c') (fun cls d _ H => E cls d H) rfl (g.lamb L hr2) (takes_of rfl rfl rfl rfl)) q3 w9 w10) fun σ H Q h => ?_
    obtain ⟨f, G, ρ, S, R, h⟩ := h
    simp only [evE] at h
    refine ⟨S.tab, fun H1 eN T1 => ?_⟩
    have e1 : Ext H f G.length H1 f G.length := ext_N eN
    have S1 := sim_N S eN T1
    have h1 := Rs.ext e1 h
    refine ⟨f, G, ρ, S1, R.ext e1.toEx0, ?_⟩
    cases ho : evE T cf a ρ G with
    | stuck => rw [ho] at h1; exact h1.elim
    | ok u G' =>
      rw [ho] at h1
      unfold whyK at h1
      simp only [hT, Option.isSome_some, if_true] at h1
      intro f' H' e' S' v rv t ht
      exact new_tup S' (RUs.cons (by simp only [RU]) (RUs.cons rv RUs.nil)) ht fun f2 H2 e2 S2 => h1 f2 H2 (e'.trans e2) S2
    | exc ex fs G' =>
      rw [ho] at h1
      unfold whyK at h1
      dsimp only at h1
      rcases whyX_shape (T := T) (c := ex) (fs := fs) (G := G') with ⟨u, hx⟩ | hx
      · obtain ⟨tf, z, w, x1, x2, x3, x4, rfl, _⟩ := whyX_at (Y := wr X T.kd) (g := gr X) hT hx
        rw [hx] at h1
        intro f' H' C d ws e' S' hC hd hws
        obtain ⟨C', y1, y2, y3⟩ := w12 ex tf x1
        have : C' = C := by
          have := y1.symm.trans hC
          cases this; rfl
        subst this
        have hws' : Paired (fun p q => p.1 = q.1 ∧ RU (wr X T.kd) H' f' G'.length p.2 q.2) fs ws := hws
        obtain ⟨tv, t1, t2⟩ := lookG hws' x2
        obtain ⟨wv, v1, v2⟩ := fbG_at (R := RU (wr X T.kd) H' f' G'.length) (non := U.non) (non' := V.non) (by simp only [RU]) hws' x4
        simp only [RU] at t2
        subst t2
        refine ⟨C', d, ws, z, wv, rfl, rfl, ⟨hd, S'.tab⟩, x3, t1, by rw [← fbG_V]; exact v1, y2, y3, fun H2 t l ht => ?_⟩
        have eN2 : LamX.ExtN H' H2 := l.1
        exact new_tup (sim_N S' eN2 (l.2 S'.tab)) (RUs.cons (by simp only [RU]) (RUs.cons (v2.ext (ext_N eN2).toEx0) RUs.nil)) ht fun f3 H3 e3 S3 => h1 f3 H3 (e'.trans ((ext_N eN2).trans e3)) S3
      · rw [hx] at h1; exact h1.elim
theorem s_smeth {m : Str} (g : Good X N sc lv) (F : Wf (gr X) T cf lv) (tk : Takes X W) (h2 : gl? sc x = true) (ha : PA X xs (yL X T cf W es)) (hn : ∀ e ∈ xs, star? e = false) (hl : (apos.endLine == pos.line) = true) (hs : xs.length < 25) :
    PE X (.Call (.Attribute (.Name x p) m apos) xs [] pos) (yE X T cf W (.smeth x m es)) := by
  obtain ⟨q1, q2, q3⟩ := g.gl h2
  cases hx : T.smet x m with
  | none =>
    refine ⟨fun pins s σ H Q I ⟨f, G, ρ, S, R, h⟩ => ?_⟩
    simp only [evE, hx] at h
    exact h.elim
  | some q =>
    obtain ⟨A, mc, pa, fa, hm, hc, M, fd, ps, hb, D⟩ := F.smet x m q hx
    refine PE.imp (pe_smethL (E := WE W) (pe_glob (v := V.ref A) q1 hm rfl q3) hc M D (g.room.mono (Nat.le_succ _)) hb (fun σ => passAt tk σ) ha rfl hn hl hs) fun σ H Q ⟨f, G, ρ, S, R, h⟩ => ?_
    simp only [evE, hx] at h
    exact ⟨rfl, tL.go S R h fun us f1 G1 H1 e S1 R1 h1 vs r1 => spC.of S1 r1 h1⟩
theorem s_smetk {m kn : Str} {z : PySem.Expr} {kp : Pos} (g : Good X N sc lv) (F : Wf (gr X) T cf lv) (tk : Takes X W) (h2 : gl? sc x = true) (ha : PE X z (yE X T cf W a)) (hl : (apos.endLine == pos.line) = true) :
    PE X (.Call (.Attribute (.Name x p) m apos) [] [⟨some kn, z, kp⟩] pos) (yE X T cf W (.smetk x m kn a)) := by
  obtain ⟨q1, q2, q3⟩ := g.gl h2
  have stuck : (∀ q, T.smek x m ≠ some (q, kn)) → PE X (.Call (.Attribute (.Name x p) m apos) [] [⟨some kn, z, kp⟩] pos) (yE X T cf W (.smetk x m kn a)) := fun hno => by
    refine ⟨fun pins s σ H Q I ⟨f, G, ρ, S, R, h⟩ => ?_⟩
    simp only [evE] at h
    split at h
    · rename_i q k hq
      split at h
      · rename_i hk; subst hk; exact (hno q hq).elim
      · exact h.elim
    · exact h.elim
  cases hx : T.smek x m with
  | none => exact stuck fun q e => by rw [hx] at e; cases e
  | some qk =>
    obtain ⟨q, k⟩ := qk
    by_cases hk : k = kn
    · subst hk
      obtain ⟨A, mc, pa, fa, fd, hm, hc, M, hb, D⟩ := F.smek x m q k hx
      refine PE.imp (pe_smethK (E := WE W) (pe_glob (v := V.ref A) q1 hm rfl q3) hc M D (g.room.mono (Nat.le_succ _)) hb (fun σ => passAt tk σ) ha rfl hl) fun σ H Q ⟨f, G, ρ, S, R, h⟩ => ?_
      simp only [evE, hx, if_true] at h
      exact ⟨rfl, tE.go S R h fun u f1 G1 H1 e S1 R1 h1 v r1 => spC.of S1 (RUs.cons r1 RUs.nil) h1⟩
    · exact stuck fun q' e => by rw [hx] at e; cases e; exact hk rfl
end
end Z
namespace Z
open PySem PySem.Spec PyProof.Rows L2
section
variable {X : Cx} {N : List Str} {sc : Scope} {lv : Nat} {T : Pg} {cf : Cf} {W : WX} {kd : Str → Option (List (Str × U))}
variable {i : Nat} {x : Str} {p p2 pos apos : Pos} {kk : Nat} {a b c : Ex} {o l r tg : PySem.Expr} {es : List Ex} {xs : List PySem.Expr}
/-! ## tests -/
theorem s_tnot {t : Tx} (h : PT X l (yT X T cf W t)) : PT X (.UnaryOp .Not l p) (yT X T cf W (.not t)) := PT.imp (pt_not h) fun σ H Q ⟨f, G, ρ, S, R, h⟩ => by
  simp only [evT] at h
  exact tT.go S R h fun k f1 G1 H1 e S1 R1 h1 => Rs.ok S1 h1
theorem ptest_true {e : PySem.Expr} {env : Env} (h : ptest? e = true) : ∀ whole, isTrue e env whole = (do let v ← whole; standAt e.pos; holding [v] (PySem.truthy v)) := by
  cases e
  case UnaryOp op _ _ => cases op <;> first | (intro _; rfl) | cases h
  all_goals first | (intro _; rfl) | cases h
theorem truthy_use {u : U} {G : Gp} {H f} {v : V} {σ : L2.St} {Q : Bool → Hp → Prop} (S : Sim (wr X kd) H f G) (r : RU (wr X kd) H f G.length u v) (h : Rs (wr X kd) W (ofO (truthy G u) G) H f G.length σ (kB' Q)) : ∃ k, TruV X.K v H k ∧ Q k H := by
  cases q : truthy G u with
  | none => rw [q] at h; exact h.elim
  | some k => rw [q] at h; exact ⟨k, truthy_at S q r, Rs.ok S h⟩
theorem s_tval (h : PE X l (yE X T cf W a)) (hp : ptest? l = true) : PT X l (yT X T cf W (.val a)) := PT.imp (pt_truth h (ptest_true hp)) fun σ H Q ⟨f, G, ρ, S, R, h⟩ => by
  simp only [evT] at h
  exact tE.go S R h fun u f1 G1 H1 e S1 R1 h1 v r1 => truthy_use S1 r1 h1
theorem s_tcmp {op : CmpOp} (g : Good X N sc lv) (F : Wf (gr X) T cf lv) (tk : Takes X W) (ha : PE X l (yE X T cf W a)) (hb : PE X r (yE X T cf W b)) (hm : behindInMarks op r = false) : PT X (.Compare l [op] [r] p) (yT X T cf W (.val (.cmp op a b))) := by
  refine PT.imp (pt_cmp (pc_I g F tk ha hb) hm) fun σ H Q ⟨f, G, ρ, S, R, h⟩ => ⟨f, G, ρ, S, R, ?_⟩
  simp only [evT, evE] at h ⊢
  have h1 := h
  cases ea : evE T cf a ρ G with
  | stuck => rw [ea] at h; exact h.elim
  | exc c fs G1 => rw [ea] at h; exact h
  | ok u G1 =>
    rw [ea] at h
    simp only [Out.bind] at h ⊢
    cases eb : evE T cf b ρ G1 with
    | stuck => rw [eb] at h; exact h.elim
    | exc c fs G2 => rw [eb] at h; exact h
    | ok u2 G2 =>
      rw [eb] at h
      dsimp only at h ⊢
      cases ec : cmpK T cf op u u2 G2 with
      | stuck => rw [ec] at h; exact h.elim
      | exc c fs G3 => rw [ec] at h; exact h
      | ok k G3 =>
        rw [ec] at h
        exact fun f' H' e S' v rv => ⟨k, by simpa [RU] using rv, h f' H' e S'⟩
/-! ### and, or -/
theorem s_b1 {op : BoolOp} (h : PE X l (yE X T cf W a)) : PE X (.BoolOp op [l] p) (tE (wr X T.kd) W (evB T cf op [a])) := PE.imp (pe_one h) fun σ H Q ⟨f, G, ρ, S, R, h⟩ => ⟨f, G, ρ, S, R, by simpa only [evB] using h⟩
theorem s_b2 {op : BoolOp} {e2 : Ex} {r2 : PySem.Expr} (h : PE X l (yE X T cf W a)) (h2 : PE X (.BoolOp op (r2 :: xs) p) (tE (wr X T.kd) W (evB T cf op (e2 :: es)))) : PE X (.BoolOp op (l :: r2 :: xs) p) (tE (wr X T.kd) W (evB T cf op (a :: e2 :: es))) := by
  cases op with
  | And =>
    refine PE.imp (pe_andT h h2) fun σ H Q ⟨f, G, ρ, S, R, h⟩ => ?_
    simp only [evB] at h
    refine tE.go S R h fun u f1 G1 H1 e S1 R1 h1 v r1 => ?_
    cases q : truthy G1 u with
    | none => rw [q] at h1; exact h1.elim
    | some k =>
      rw [q] at h1
      refine ⟨k, truthy_at S1 q r1, ?_⟩
      cases k with
      | true => exact ⟨f1, G1, ρ, S1, R1, h1⟩
      | false => exact Rs.ok S1 h1 _ r1
  | Or =>
    refine PE.imp (pe_orT h h2) fun σ H Q ⟨f, G, ρ, S, R, h⟩ => ?_
    simp only [evB] at h
    refine tE.go S R h fun u f1 G1 H1 e S1 R1 h1 v r1 => ?_
    cases q : truthy G1 u with
    | none => rw [q] at h1; exact h1.elim
    | some k =>
      rw [q] at h1
      refine ⟨k, truthy_at S1 q r1, ?_⟩
      cases k with
      | false => exact ⟨f1, G1, ρ, S1, R1, h1⟩
      | true => exact Rs.ok S1 h1 _ r1
theorem s_tb1 {op : BoolOp} {t : Tx} (h : PT X l (yT X T cf W t)) : PW X (.BoolOp op [l] p) (tT (wr X T.kd) W (evTB T cf op [t])) := by
  cases op
  · exact PW.imp (pw_and1 h) fun σ H Q ⟨f, G, ρ, S, R, h⟩ => ⟨f, G, ρ, S, R, by simpa only [evTB] using h⟩
  · exact PW.imp (pw_or1 h) fun σ H Q ⟨f, G, ρ, S, R, h⟩ => ⟨f, G, ρ, S, R, by simpa only [evTB] using h⟩
theorem s_tb2 {op : BoolOp} {t t2 : Tx} {ts : List Tx} {r2 : PySem.Expr} (h : PT X l (yT X T cf W t)) (h2 : PW X (.BoolOp op (r2 :: xs) p) (tT (wr X T.kd) W (evTB T cf op (t2 :: ts)))) : PW X (.BoolOp op (l :: r2 :: xs) p) (tT (wr X T.kd) W (evTB T cf op (t :: t2 :: ts))) := by
  cases op with
  | And =>
    refine PW.imp (pw_and h h2) fun σ H Q ⟨f, G, ρ, S, R, h⟩ => ?_
    simp only [evTB] at h
    refine tT.go S R h fun k f1 G1 H1 e S1 R1 h1 => ?_
    cases k with
    | true => exact ⟨f1, G1, ρ, S1, R1, h1⟩
    | false => exact Rs.ok S1 h1
  | Or =>
    refine PW.imp (pw_or h h2) fun σ H Q ⟨f, G, ρ, S, R, h⟩ => ?_
    simp only [evTB] at h
    refine tT.go S R h fun k f1 G1 H1 e S1 R1 h1 => ?_
    cases k with
    | false => exact ⟨f1, G1, ρ, S1, R1, h1⟩
    | true => exact Rs.ok S1 h1
/-! ## what is walked -/
def ItR (Y : Wr) (J : ItV) (It : It) (f : Nat → Addr) (G : Gp) (H : Hp) : Prop := ∀ f' G' H', Ext H f G.length H' f' G'.length → Sim Y H' f' G' → ∀ i,
  (∀ u, item J i G' = some (some u) → It.go i H' ∧ ∀ x H'', It.yld i H' x H'' → ∃ f'', Ext H' f' G'.length H'' f'' G'.length ∧ Sim Y H'' f'' G' ∧ RU Y H'' f'' G'.length u x) ∧ (item J i G' = some none → It.stop i H')
theorem ItR.ext {Y J It f G H f1 G1 H1} (h : ItR Y J It f G H) (e : Ext H f G.length H1 f1 G1.length) : ItR Y J It f1 G1 H1 := fun f' G' H' e' S' => h f' G' H' (e.trans e') S'
def tI (Y : Wr) (W : WX) (m : Rho → Gp → Out ItV) : TI := fun σ H R => ∃ f G ρ, Sim Y H f G ∧ RSt Y H f G.length ρ σ ∧ Rs Y W (m ρ G) H f G.length σ (fun J f1 G1 H1 => ∀ It, ItR Y J It f1 G1 H1 → R It H1)
def evI (T : Pg) (cf : Cf) (kind : Nat) (it : List Ex) : Rho → Gp → Out ItV := fun ρ G => (evL T cf it ρ G).bind fun vs G => ofO (iterOf kind vs G) G
theorem PI.imp {X : Cx} {tg e : PySem.Expr} {t t' : TI} (h : PI X tg e t) (i : ∀ σ H Q, t' σ H Q → t σ H Q) : PI X tg e t' := ⟨fun p s σ H Q I q => h.run p s σ H Q I (i σ H Q q)⟩
theorem items_l {Y : Wr} {H f G} {u : U} {v : V} {us : List U} (S : Sim Y H f G) (e : items G u = some us) (hn : isTupU u = false) (r : RU Y H f G.length u v) : ∃ a ys, v = .ref a ∧ SqL Y.K H a ys ∧ RUs Y H f G.length us ys := by
  cases u with
  | tup _ => cases hn
  | fro ws =>
    cases e
    obtain ⟨a, ys, h1, h2, h3⟩ := fro_at r
    exact ⟨a, ys, h1, h2.sq, h3⟩
  | ref n =>
    simp only [items] at e
    split at e
    · rename_i ws q
      cases e
      obtain ⟨ys, h1, h2, h3⟩ := lst_at S q r
      exact ⟨_, ys, h1, SqL.of h2, h3⟩
    · cases e
  | _ => cases e
theorem items_t {Y : Wr} {H f} {G : Gp} {n : Nat} {us : List U} {v : V} (r : RU Y H f n (.tup us) v) : ∃ a ys, v = .ref a ∧ SqT Y.K H a ys ∧ RUs Y H f n us ys := tup_at r
theorem get_none {Y : Wr} {H f n} {us : List U} {vs : List V} {i : Nat} (r : RUs Y H f n us vs) (h : us[i]? = none) : vs.length ≤ i := by rw [← r.len]; exact List.getElem?_eq_none_iff.mp h
theorem itr_l {Y : Wr} {H f G} {u : U} {a : Addr} (S : Sim Y H f G) (hn : isTupU u = false) (r : RU Y H f G.length u (.ref a)) : ItR Y (.seq u) (Itl Y.K a) f G H := fun f' G' H' e S' i => by
  have r' := r.ext e.toEx0
  simp only [item]
  cases ei : items G' u with
  | none => exact ⟨fun _ z => by simp at z, fun z => by simp at z⟩
  | some us =>
    obtain ⟨b, ys, h1, h2, h3⟩ := items_l S' ei hn r'
    cases h1
    refine ⟨fun w z => ?_, fun z => ?_⟩
    · have z : us[i]? = some w := by simpa using z
      obtain ⟨y, hy, ry⟩ := h3.get z
      refine ⟨⟨ys, y, h2, hy⟩, fun x H'' hx => ⟨f', ?_⟩⟩
      obtain ⟨hx1, hx2⟩ := hx
      subst hx1
      have := hx2 ys h2
      rw [hy] at this
      cases this
      exact ⟨Ext.refl, S', ry⟩
    · have z : us[i]? = none := by simpa using z
      exact ⟨ys, h2, get_none h3 z⟩
theorem itr_t {Y : Wr} {H f G} {us : List U} {a : Addr} (S : Sim Y H f G) (r : RU Y H f G.length (.tup us) (.ref a)) : ItR Y (.seq (.tup us)) (Itt Y.K a) f G H := fun f' G' H' e S' i => by
  have r' := r.ext e.toEx0
  simp only [item, items]
  obtain ⟨b, ys, h1, h2, h3⟩ := tup_at r'
  cases h1
  refine ⟨fun w z => ?_, fun z => ?_⟩
  · have z : us[i]? = some w := by simpa using z
    obtain ⟨y, hy, ry⟩ := h3.get z
    refine ⟨⟨ys, y, h2, hy⟩, fun x H'' hx => ⟨f', ?_⟩⟩
    obtain ⟨hx1, hx2⟩ := hx
    subst hx1
    have := hx2 ys h2
    rw [hy] at this
    cases this
    exact ⟨Ext.refl, S', ry⟩
  · have z : us[i]? = none := by simpa using z
    exact ⟨ys, h2, get_none h3 z⟩
theorem itr_s {Y : Wr} {H f G} {z : Str} : ItR Y (.str z) (Its z) f G H := fun f' G' H' e S' i => by
  simp only [item]
  refine ⟨fun w q => ?_, fun q => ?_⟩
  · cases ec : z.cps[i]? with
    | none => rw [ec] at q; simp at q
    | some k =>
      rw [ec] at q
      simp only [Option.map_some, Option.some.injEq] at q
      subst q
      refine ⟨(Array.getElem?_eq_some_iff.mp ec).1, fun x H'' hx => ⟨f', ?_⟩⟩
      obtain ⟨hx1, d, hx2, hx3⟩ := hx
      subst hx1
      rw [ec] at hx2
      cases hx2
      exact ⟨Ext.refl, S', by simp [RU, hx3]⟩
  · cases ec : z.cps[i]? with
    | none => exact Array.getElem?_eq_none_iff.mp ec
    | some k => rw [ec] at q; simp at q
theorem itr_r {Y : Wr} {H f G} {lo : Int} {n : Nat} : ItR Y (.rng lo n) (Itr lo n) f G H := fun f' G' H' e S' i => by
  simp only [item]
  refine ⟨fun w q => ?_, fun q => ?_⟩
  · split at q
    · rename_i hl
      simp only [Option.some.injEq] at q
      subst q
      refine ⟨hl, fun x H'' hx => ⟨f', ?_⟩⟩
      obtain ⟨hx1, hx2⟩ := hx
      subst hx1
      exact ⟨Ext.refl, S', by simp [RU, hx2]⟩
    · simp at q
  · split at q
    · simp at q
    · rename_i hl; exact Nat.not_lt.mp hl
theorem itr_e {Y : Wr} {H f G} {u : U} {a : Addr} (S : Sim Y H f G) (hn : isTupU u = false) (r : RU Y H f G.length u (.ref a)) : ItR Y (.enum u) (Ite Y.K a) f G H := fun f' G' H' e S' i => by
  have r' := r.ext e.toEx0
  simp only [item]
  cases ei : items G' u with
  | none => exact ⟨fun _ z => by simp at z, fun z => by simp at z⟩
  | some us =>
    obtain ⟨b, ys, h1, h2, h3⟩ := items_l S' ei hn r'
    cases h1
    simp only [Option.map_some, Option.some.injEq]
    refine ⟨fun w z => ?_, fun z => ?_⟩
    · cases eu : us[i]? with
      | none => rw [eu] at z; simp at z
      | some q =>
        rw [eu] at z
        simp only [Option.map_some, Option.some.injEq] at z
        subst z
        obtain ⟨y, hy, ry⟩ := h3.get eu
        refine ⟨⟨ys, y, h2, hy⟩, fun x H'' hx => ⟨f', ?_⟩⟩
        obtain ⟨tp, x0, hx1, hx2, hx3, hx4⟩ := hx
        have := hx4 ys h2
        rw [hy] at this
        cases this
        subst hx3
        have E := ext_fresh (o := .tup [.int (i : Nat), y]) S' hx2
        refine ⟨E, S'.fresh hx2, ?_⟩
        simp only [RU]
        exact ⟨tp, [.int (i : Nat), y], hx1, .inl (.inl upd_same), RUs.cons (by simp [RU]) (RUs.cons (ry.ext E.toEx0) RUs.nil)⟩
    · cases eu : us[i]? with
      | none => exact ⟨ys, h2, get_none h3 eu⟩
      | some q => rw [eu] at z; simp at z
theorem itr_z {Y : Wr} {H f G} {u w : U} {a b : Addr} {Sq : Hp → Addr → List V → Prop} (It : It) (S : Sim Y H f G) (r : RU Y H f G.length u (.ref a)) (r2 : RU Y H f G.length w (.ref b))
    (hu : ∀ {H' f' G' us}, Sim Y H' f' G' → items G' u = some us → RU Y H' f' G'.length u (.ref a) → ∃ ys, Sq H' a ys ∧ RUs Y H' f' G'.length us ys)
    (hw : ∀ {H' f' G' us}, Sim Y H' f' G' → items G' w = some us → RU Y H' f' G'.length w (.ref b) → ∃ ys, Sq H' b ys ∧ RUs Y H' f' G'.length us ys)
    (g1 : ∀ i H xs ys x y, Sq H a xs → Sq H b ys → xs[i]? = some x → ys[i]? = some y → It.go i H) (g2 : ∀ i H v H', It.yld i H v H' → ∃ T x y, v = .ref T ∧ H T = none ∧ H' = upd H T (.tup [x, y]) ∧ (∀ xs, Sq H a xs → xs[i]? = some x) ∧ ∀ ys, Sq H b ys → ys[i]? = some y)
    (g3 : ∀ i H xs ys, Sq H a xs → Sq H b ys → (xs.length ≤ i ∨ ys.length ≤ i) → It.stop i H) : ItR Y (.zip u w) It f G H := fun f' G' H' e S' i => by
  have r' := r.ext e.toEx0
  have r2' := r2.ext e.toEx0
  simp only [item]
  cases ei : items G' u with
  | none => exact ⟨fun _ z => by simp at z, fun z => by simp at z⟩
  | some us =>
    cases ej : items G' w with
    | none => exact ⟨fun _ z => by simp at z, fun z => by simp at z⟩
    | some ws =>
      obtain ⟨ys, h2, h3⟩ := hu S' ei r'
      obtain ⟨zs, k2, k3⟩ := hw S' ej r2'
      simp only [Option.bind_some, Option.map_some, Option.some.injEq]
      cases eu : us[i]? with
      | none => exact ⟨fun _ z => by simp at z, fun _ => g3 i H' ys zs h2 k2 (.inl (get_none h3 eu))⟩
      | some q =>
        cases ew : ws[i]? with
        | none => exact ⟨fun _ z => by simp at z, fun _ => g3 i H' ys zs h2 k2 (.inr (get_none k3 ew))⟩
        | some q2 =>
          refine ⟨fun t z => ?_, fun z => by simp at z⟩
          simp only [Option.some.injEq] at z
          subst z
          obtain ⟨y, hy, ry⟩ := h3.get eu
          obtain ⟨y2, hy2, ry2⟩ := k3.get ew
          refine ⟨g1 i H' ys zs y y2 h2 k2 hy hy2, fun x H'' hx => ⟨f', ?_⟩⟩
          obtain ⟨tp, x0, x1, hx1, hx2, hx3, hx4, hx5⟩ := g2 _ _ _ _ hx
          have := hx4 ys h2
          rw [hy] at this
          cases this
          have := hx5 zs k2
          rw [hy2] at this
          cases this
          subst hx3
          have E := ext_fresh (o := .tup [y, y2]) S' hx2
          refine ⟨E, S'.fresh hx2, ?_⟩
          simp only [RU]
          exact ⟨tp, [y, y2], hx1, .inl (.inl upd_same), RUs.cons (ry.ext E.toEx0) (RUs.cons (ry2.ext E.toEx0) RUs.nil)⟩
/-- a list, a tuple, a text -/
theorem pi_seq (he : PE X l te) : PI X tg l (fun σ H R => te σ H fun v H1 => (∃ a, v = .ref a ∧ (∃ xs, SqL X.K H1 a xs) ∧ R (Itl X.K a) H1) ∨ (∃ a, v = .ref a ∧ (∃ xs, SqT X.K H1 a xs) ∧ R (Itt X.K a) H1) ∨ ∃ z, v = .str z ∧ R (Its z) H1) := by
  refine ⟨fun pins s σ H R I h => ?_⟩
  refine thn (he.run pins s σ H _ I h) fun v s1 ⟨x, H1, I1, r1, q1⟩ => ?_
  rcases q1 with ⟨a, e, ⟨xs, hq⟩, q⟩ | ⟨a, e, ⟨xs, hq⟩, q⟩ | ⟨x, ex, q⟩
  · subst e
    cases r1
    obtain ⟨its, rv, p, hz⟩ := I1.list hq
    refine wpAny_pyIter_list p.isList ?_
    refine ⟨s1.heap.objs.size, [s1.heap.objs.size], _, _, H1, rfl, I1.kept (t' := s1.toks) fun b o e => Heap.get?_push_of_some _ e, turn_list a _, ⟨_, Heap.get?_push_size _ rfl, rfl, rfl⟩, fun b hb => ?_, q⟩
    have e : b = s1.heap.objs.size := by simpa using hb
    subst e
    exact I1.fpOk (Nat.le_refl _) (I1.hok.fresh (Nat.le_refl _))
  · subst e
    cases r1
    obtain ⟨its, rv, p, hz⟩ := I1.tuple hq
    refine wpAny_pyIter_tuple (show s1.heap.IsTuple a its.toArray from p) ?_
    refine ⟨s1.heap.objs.size, [s1.heap.objs.size], _, _, H1, rfl, I1.kept (t' := s1.toks) fun b o e => Heap.get?_push_of_some _ e, turn_tuple a _, ⟨_, Heap.get?_push_size _ rfl, rfl, rfl⟩, fun b hb => ?_, q⟩
    have e : b = s1.heap.objs.size := by simpa using hb
    subst e
    exact I1.fpOk (Nat.le_refl _) (I1.hok.fresh (Nat.le_refl _))
  · subst ex
    obtain ⟨t, rfl⟩ := r1
    cases ha : x.cps.all (· < 128)
    · exact wpAny_pyIter_wide ha (pi_one (tk := s1.toks) I1 _ (turn_str _ x t "str_iterator" (.inr rfl)) ⟨_, Heap.get?_push_size _ rfl, rfl, rfl⟩ q)
    · exact wpAny_pyIter_ascii ha (pi_one (tk := s1.toks) I1 _ (turn_str _ x t "str_ascii_iterator" (.inl rfl)) ⟨_, Heap.get?_push_size _ rfl, rfl, rfl⟩ q)
theorem evI_go {kind : Nat} {it : List Ex} {σ : L2.St} {H : Hp} {R : It → Hp → Prop} {k : List V → Hp → Prop} (h : tI (wr X T.kd) W (evI T cf kind it) σ H R)
    (i : ∀ us vs f G H J, Sim (wr X T.kd) H f G → RUs (wr X T.kd) H f G.length us vs → iterOf kind us G = some J → (∀ It, ItR (wr X T.kd) J It f G H → R It H) → k vs H) : yL X T cf W it σ H k := by
  obtain ⟨f, G, ρ, S, R', h⟩ := h
  unfold evI at h
  refine tL.go S R' h fun us f1 G1 H1 e S1 R1 h1 vs r1 => ?_
  cases ej : iterOf kind us G1 with
  | none => rw [ej] at h1; exact h1.elim
  | some J => rw [ej] at h1; exact i us vs f1 G1 H1 J S1 r1 ej (Rs.ok S1 h1)
theorem s_it0 (h : PE X l (yE X T cf W a)) : PI X tg l (tI (wr X T.kd) W (evI T cf 0 [a])) := by
  refine PI.imp (pi_seq h) fun σ H Q ⟨f, G, ρ, S, R, h⟩ => ?_
  unfold evI at h
  simp only [evL] at h
  have h := h.bind
  refine tE.go S R h fun u f1 G1 H1 e S1 R1 h1 v r1 => ?_
  have h2 := Rs.ok S1 h1
  have h3 : Rs (wr X T.kd) W (ofO (iterOf 0 [u] G1) G1) H1 f1 G1.length σ (fun J f1 G1 H1 => ∀ It, ItR (wr X T.kd) J It f1 G1 H1 → Q It H1) := h2
  cases ej : iterOf 0 [u] G1 with
  | none => rw [ej] at h3; exact h3.elim
  | some J =>
    rw [ej] at h3
    have h4 := Rs.ok S1 h3
    cases u with
    | str z =>
      cases ej
      simp only [RU] at r1
      exact .inr (.inr ⟨z, r1, h4 _ itr_s⟩)
    | tup us =>
      have ej : some (ItV.seq (.tup us)) = some J := ej
      cases ej
      obtain ⟨b, ys, rfl, q1, q2⟩ := tup_at r1
      exact .inr (.inl ⟨b, rfl, ⟨ys, q1⟩, h4 _ (itr_t S1 r1)⟩)
    | fro us =>
      have ej : some (ItV.seq (.fro us)) = some J := ej
      cases ej
      obtain ⟨b, ys, rfl, q1, q2⟩ := items_l S1 rfl rfl r1
      exact .inl ⟨b, rfl, ⟨ys, q1⟩, h4 _ (itr_l S1 rfl r1)⟩
    | ref n =>
      have ej : (items G1 (.ref n)).map (fun _ => ItV.seq (.ref n)) = some J := ej
      cases ei : items G1 (.ref n) with
      | none => rw [ei] at ej; cases ej
      | some us =>
        rw [ei] at ej
        cases ej
        obtain ⟨b, ys, rfl, q1, q2⟩ := items_l S1 ei rfl r1
        exact .inl ⟨b, rfl, ⟨ys, q1⟩, h4 _ (itr_l S1 rfl r1)⟩
    | _ => cases ej
theorem s_it1 (g : Good X N sc lv) (F : Wf (gr X) T cf lv) (h0 : gl? sc "range" = true) (h : PA X [l] (yL X T cf W es)) (hs : star? l = false) : PI X tg (.Call (.Name "range" p2) [l] [] p) (tI (wr X T.kd) W (evI T cf 1 es)) := by
  obtain ⟨q1, q2, q3⟩ := g.gl h0
  refine PI.imp (pi_range1 q1 (F.blt _ (by decide)) h (star_plain hs)) fun σ H Q h => evI_go h fun us vs f G H J S r ej k => ?_
  replace ej : it1 us = some J := ej
  unfold it1 at ej
  split at ej
  · split at ej
    · rename_i n hb
      cases ej
      obtain ⟨v, rfl, rv⟩ := r.one
      simp only [RU] at rv
      subst rv
      exact ⟨n, rfl, hb.1, hb.2, k _ itr_r⟩
    · cases ej
  · cases ej
theorem s_it2 (g : Good X N sc lv) (F : Wf (gr X) T cf lv) (h0 : gl? sc "range" = true) (h : PA X [l, r] (yL X T cf W es)) (hs : star? l = false) (hs2 : star? r = false) : PI X tg (.Call (.Name "range" p2) [l, r] [] p) (tI (wr X T.kd) W (evI T cf 2 es)) := by
  obtain ⟨q1, q2, q3⟩ := g.gl h0
  have hh : starEach [r] X.env = [(false, eval r X.env)] := star_plain hs2
  refine PI.imp (pi_range2 q1 (F.blt _ (by decide)) h (by rw [star_plain hs, hh]) hh) fun σ H Q h => evI_go h fun us vs f G H J S r ej k => ?_
  replace ej : it2 us = some J := ej
  unfold it2 at ej
  split at ej
  · split at ej
    · rename_i n m hb
      cases ej
      obtain ⟨v, w, rfl, rv, rw'⟩ := r.two
      simp only [RU] at rv rw'
      subst rv rw'
      exact ⟨n, m, rfl, hb, k _ itr_r⟩
    · cases ej
  · cases ej
theorem s_it3 {xs : List PySem.Expr} {tpos : Pos} (g : Good X N sc lv) (F : Wf (gr X) T cf lv) (h0 : gl? sc "enumerate" = true) (h : PA X [l] (yL X T cf W es)) (hs : star? l = false) : PI X (.Tuple xs kk tpos) (.Call (.Name "enumerate" p2) [l] [] p) (tI (wr X T.kd) W (evI T cf 3 es)) := by
  obtain ⟨q1, q2, q3⟩ := g.gl h0
  refine PI.imp (pi_enum q1 (F.blt _ (by decide)) h (star_plain hs)) fun σ H Q h => evI_go h fun us vs f G H J S r ej k => ?_
  replace ej : it3 G us = some J := ej
  unfold it3 at ej
  split at ej
  · rename_i u
    split at ej
    · cases ej
    · rename_i hn
      have hn : isTupU u = false := by simpa using hn
      obtain ⟨v, rfl, rv⟩ := r.one
      cases ei : items G u with
      | none => rw [ei] at ej; cases ej
      | some ws =>
        rw [ei] at ej
        cases ej
        obtain ⟨b, ys, rfl, z1, z2⟩ := items_l S ei hn rv
        exact ⟨b, ys, rfl, z1, k _ (itr_e S hn rv)⟩
  · cases ej
theorem s_it4 {xs : List PySem.Expr} {tpos : Pos} (g : Good X N sc lv) (F : Wf (gr X) T cf lv) (h0 : gl? sc "zip" = true) (h : PA X [l, r] (yL X T cf W es)) (hs : star? l = false) (hs2 : star? r = false) : PI X (.Tuple xs kk tpos) (.Call (.Name "zip" p2) [l, r] [] p) (tI (wr X T.kd) W (evI T cf 4 es)) := by
  obtain ⟨q1, q2, q3⟩ := g.gl h0
  refine PI.imp (RZ.pi_zipA q1 (F.blt _ (by decide)) h (star_plain hs) (no_star fun e he => by
    rcases List.mem_cons.mp he with rfl | he
    · exact hs2
    · cases he)) fun σ H Q h => evI_go h fun us vs f G H J S r ej k => ?_
  replace ej : it4 G us = some J := ej
  unfold it4 at ej
  split at ej
  · rename_i u w
    split at ej
    · rename_i hn
      obtain ⟨v, z, rfl, rv, rz⟩ := r.two
      cases ei : items G u with
      | none => rw [ei] at ej; cases ej
      | some us =>
        cases ek : items G w with
        | none => rw [ei, ek] at ej; cases ej
        | some ws =>
          rw [ei, ek] at ej
          cases ej
          cases hu : isTupU u with
          | false =>
            rw [hu] at hn
            obtain ⟨a, ys, rfl, y1, y2⟩ := items_l S ei hu rv
            obtain ⟨b, zs, rfl, z1, z2⟩ := items_l S ek hn.symm rz
            refine ⟨a, b, ys, zs, rfl, .inl ⟨y1, z1, k _ (itr_z (Sq := SqL X.K) _ S rv rz (fun S' e' r' => ?_) (fun S' e' r' => ?_) (fun _ _ xs ys x y a b c d => ⟨xs, ys, x, y, a, b, c, d⟩) (fun _ _ _ _ h => h) (fun _ _ xs ys a b c => ⟨xs, ys, a, b, c⟩))⟩⟩
            · obtain ⟨a', ys', h1, h2, h3⟩ := items_l S' e' hu r'
              cases h1
              exact ⟨ys', h2, h3⟩
            · obtain ⟨a', ys', h1, h2, h3⟩ := items_l S' e' hn.symm r'
              cases h1
              exact ⟨ys', h2, h3⟩
          | true =>
            rw [hu] at hn
            cases u <;> try (cases hu; done)
            cases w <;> try (cases hn; done)
            rename_i tu tw
            obtain ⟨a, ys, rfl, y1, y2⟩ := tup_at rv
            obtain ⟨b, zs, rfl, z1, z2⟩ := tup_at rz
            refine ⟨a, b, ys, zs, rfl, .inr ⟨y1, z1, k _ (itr_z (Sq := SqT X.K) _ S rv rz (fun S' e' r' => ?_) (fun S' e' r' => ?_) (fun _ _ xs ys x y a b c d => ⟨xs, ys, x, y, a, b, c, d⟩) (fun _ _ _ _ h => h) (fun _ _ xs ys a b c => ⟨xs, ys, a, b, c⟩))⟩⟩
            · cases e'
              obtain ⟨a', ys', h1, h2, h3⟩ := tup_at r'
              cases h1
              exact ⟨ys', h2, h3⟩
            · cases e'
              obtain ⟨a', ys', h1, h2, h3⟩ := tup_at r'
              cases h1
              exact ⟨ys', h2, h3⟩
    · cases ej
  · cases ej
end
end Z
namespace Z
open PySem PySem.Spec PyProof.Rows L2
section
variable {X : Cx} {N : List Str} {sc : Scope} {lv : Nat} {T : Pg} {cf : Cf} {W : WX} {kd : Str → Option (List (Str × U))}
variable {i : Nat} {x : Str} {p p2 pos apos : Pos} {kk : Nat} {a b c : Ex} {o l r tg : PySem.Expr} {es : List Ex} {xs : List PySem.Expr}
/-! ## targets -/
def setVs : List Nat → List V → L2.St → L2.St
  | i :: is, v :: vs, σ => setVs is vs (σ.set i (some v))
  | _, _, σ => σ
def gsT : List Nat → TGs
  | [] => gNil
  | i :: is => gCons (gName i) (gsT is)
def gT (K : PySem.W.Frag) : Tg → TG
  | .nm i => gName i
  | .tp is => gTup K is.length (gsT is)
theorem gsT_go : ∀ {is : List Nat} {vs : List V} {σ : L2.St} {H : Hp} {Q : L2.St → Hp → Prop}, vs.length = is.length → Q (setVs is vs σ) H → gsT is vs σ H Q
  | [], [], _, _, _, _, h => ⟨rfl, h⟩
  | [], _ :: _, _, _, _, e, _ => by simp at e
  | _ :: _, [], _, _, _, e, _ => by simp at e
  | i :: is, v :: vs, σ, H, Q, e, h => ⟨v, vs, rfl, gsT_go (is := is) (vs := vs) (by simpa using e) h⟩
theorem s_ixs (g : Good X N sc lv) : ∀ {is : List Nat} {xs : List PySem.Expr}, mIx N sc is xs = true → PGs X xs (gsT is) ∧ (assignEach xs X.env).length = is.length ∧ (assignEach xs X.env).findIdx? (·.1) = none
  | [], [], _ => ⟨pgs_nil, rfl, rfl⟩
  | [], _ :: _, h => by simp [mIx] at h
  | _ :: _, [], h => by simp [mIx] at h
  | i :: is, e :: xs, h => by
    simp only [mIx, Bool.and_eq_true] at h
    obtain ⟨h1, h2⟩ := h
    obtain ⟨i1, i2, i3⟩ := s_ixs g h2
    split at h1
    · rename_i y pp
      simp only [Bool.and_eq_true, beq_iff_eq] at h1
      obtain ⟨q1, q2⟩ := g.lo h1.2
      refine ⟨pgs_cons (pg_name g.hN_nd (by rw [g.hN]; exact h1.1) q1 q2) i1 rfl, ?_, ?_⟩
      · show (assignEach xs X.env).length + 1 = _
        rw [i2]; rfl
      · show List.findIdx? (·.1) ((false, _) :: assignEach xs X.env) = none
        rw [List.findIdx?_cons, i3]; rfl
    · cases h1
theorem s_tg {tg : Tg} {e : PySem.Expr} (g : Good X N sc lv) (h : mTg N sc tg e = true) : PG X e (gT X.K tg) := by
  unfold mTg at h
  split at h
  · simp only [Bool.and_eq_true, beq_iff_eq] at h
    obtain ⟨q1, q2⟩ := g.lo h.2
    exact pg_name g.hN_nd (by rw [g.hN]; exact h.1) q1 q2
  · obtain ⟨i1, i2, i3⟩ := s_ixs g h
    exact pg_tup g.calm i1 i2 i3
  · cases h
theorem setAll_at {Y : Wr} {H f n} : ∀ {is : List Nat} {us : List U} {vs : List V} {ρ ρ' : Rho} {σ : L2.St}, setAll is us ρ = some ρ' → RUs Y H f n us vs → RSt Y H f n ρ σ → vs.length = is.length ∧ RSt Y H f n ρ' (setVs is vs σ)
  | [], [], vs, ρ, ρ', σ, e, r, R => by
    cases e
    have : vs = [] := by simpa [RUs] using r
    subst this
    exact ⟨rfl, R⟩
  | [], _ :: _, _, _, _, _, e, _, _ => by cases e
  | _ :: _, [], _, _, _, _, e, _, _ => by cases e
  | i :: is, u :: us, vs, ρ, ρ', σ, e, r, R => by
    simp only [RUs] at r
    obtain ⟨v, ws, rfl, h1, h2⟩ := r
    obtain ⟨q1, q2⟩ := setAll_at (is := is) e h2 (R.set h1)
    exact ⟨by simp [q1], q2⟩
theorem wipe_set {σ : L2.St} {i : Nat} {x : Option V} : ∀ {vs : List Nat}, i ∈ vs → wipe (σ.set i x) vs = wipe σ vs
  | [], h => by cases h
  | v :: vs, h => by
    unfold wipe
    by_cases hi : i ∈ vs
    · rw [wipe_set hi]
    · have e : v = i := by
        rcases List.mem_cons.mp h with e | e
        · exact e.symm
        · exact (hi e).elim
      subst e
      have : ∀ {ws : List Nat}, v ∉ ws → wipe (σ.set v x) ws = (wipe σ ws).set v x := by
        intro ws
        induction ws with
        | nil => intro _; rfl
        | cons w ws ih =>
          intro hw
          simp only [List.mem_cons, not_or] at hw
          unfold wipe
          rw [ih hw.2, List.set_comm _ _ hw.1]
      rw [this hi, List.set_set]
theorem wipe_set2 {σ : L2.St} {v : Nat} {x : Option V} : ∀ (vs : List Nat), (wipe (σ.set v x) vs).set v none = (wipe σ vs).set v none
  | [] => by unfold wipe; rw [List.set_set]
  | w :: vs => by
    unfold wipe
    by_cases e : w = v
    · subst e; rw [List.set_set, List.set_set, wipe_set2 vs]
    · rw [List.set_comm _ _ e, wipe_set2 vs, List.set_comm _ _ (Ne.symm e)]
theorem wipe_idem {σ : L2.St} : ∀ (vs : List Nat), wipe (wipe σ vs) vs = wipe σ vs
  | [] => rfl
  | v :: vs => by
    show (wipe ((wipe σ vs).set v none) vs).set v none = (wipe σ vs).set v none
    rw [wipe_set2, wipe_idem vs]
theorem wipe_setVs {own : List Nat} : ∀ {is : List Nat} {vs : List V} {σ : L2.St}, is.all own.contains = true → wipe (setVs is vs σ) own = wipe σ own
  | [], _, _, _ => by unfold setVs; rfl
  | i :: is, [], _, _ => by unfold setVs; rfl
  | i :: is, v :: vs, σ, h => by
    simp only [List.all_cons, Bool.and_eq_true] at h
    show wipe (setVs is vs (σ.set i (some v))) own = _
    rw [wipe_setVs (is := is) h.2, wipe_set (by simpa using h.1)]
theorem RSt.wipe {Y : Wr} {H f n ρ} {σ : L2.St} (R : RSt Y H f n ρ σ) : ∀ vs : List Nat, RSt Y H f n (wipeU ρ vs) (L2.wipe σ vs)
  | [] => R
  | v :: vs => by
    have ih := RSt.wipe R vs
    unfold wipeU L2.wipe
    refine ⟨by simp [ih.1], fun j u q => ?_⟩
    by_cases e : v = j
    · subst e
      by_cases hi : v < (wipeU ρ vs).length
      · rw [List.getElem?_set_self hi] at q; cases q
      · rw [List.getElem?_eq_none (by simpa using hi)] at q; cases q
    · rw [List.getElem?_set_ne e] at q ⊢
      exact ih.2 j u q
theorem assignU_at {K : PySem.W.Frag} {Y : Wr} (hK : Y.K = K) {H f n} {tg : Tg} {u : U} {v : V} {ρ ρ' : Rho} {σ : L2.St} {Q : L2.St → Hp → Prop} (e : assignU tg u ρ = some ρ') (r : RU Y H f n u v) (R : RSt Y H f n ρ σ)
    (k : ∀ σ', RSt Y H f n ρ' σ' → (∀ own, tgIn own tg = true → L2.wipe σ' own = L2.wipe σ own) → Q σ' H) : gT K tg v σ H Q := by
  cases tg with
  | nm i =>
    cases e
    exact k _ (R.set r) fun own h => wipe_set (by simpa [tgIn] using h)
  | tp is =>
    cases u with
    | tup us =>
      obtain ⟨a, ys, rfl, h1, h2⟩ := tup_at r
      obtain ⟨q1, q2⟩ := setAll_at e h2 R
      exact ⟨a, ys, rfl, hK ▸ h1, q1, gsT_go q1 (k _ q2 fun own h => wipe_setVs h)⟩
    | _ => cases e
/-! ## comprehensions -/
theorem Rs.nox {α : Type} {Y : Wr} {W W' : WX} {out : Out α} {H f n} {σ σ' : L2.St} {k : α → (Nat → Addr) → Gp → Hp → Prop} (h : Rs Y W (nox out) H f n σ k) : Rs Y W' out H f n σ' k := by
  cases out with
  | ok a G => exact h
  | exc c fs G => exact h.elim
  | stuck => exact h.elim
def W0 : WX := fun _ _ _ _ => False
def yTo (X : Cx) (T : Pg) (cf : Cf) (W : WX) (e : Option Tx) : TT := tT (wr X T.kd) W (evTo T cf e)
def set? : PySem.Expr → Bool
  | .Set _ _ _ => true
  | _ => false
theorem fs_plain {e : PySem.Expr} {env : Env} (h : set? e = false) : ∀ x, foldedSetIterable e env x = pure x := by
  cases e <;> first | (intro _; rfl) | cases h
theorem lc_go {elt : Ex} {tg : Tg} {it : List Ex} {kind : Nat} {test : Option Tx} {own : List Nat} (hown : tgIn own tg = true) {σ : L2.St} {H : Hp} {Q : VK} (h : yE X T cf W (.lc elt tg it kind test own) σ H Q) :
    tLc (tI (wr X T.kd) W (evI T cf kind it)) (gT X.K tg) (yTo X T cf W0 test) (yE X T cf W0 elt) own σ H Q := by
  obtain ⟨f, G, ρ, S, R, h⟩ := h
  simp only [evE] at h
  refine ⟨f, G, ρ, S, R, ?_⟩
  unfold evI
  cases em : evL T cf it ρ G with
  | stuck => rw [em] at h; exact h.elim
  | exc c fs G1 => rw [em] at h; exact h
  | ok vs G1 =>
    rw [em] at h
    simp only [Out.bind] at h ⊢
    cases ej : iterOf kind vs G1 with
    | none => rw [ej] at h; exact h.elim
    | some J =>
      rw [ej] at h
      simp only [ofO, Out.bind] at h ⊢
      refine fun f1 H1 e1 S1 It hR D hD => ?_
      have h1 := Rs.ext e1 (Rs.bind h)
      have R1 := R.ext e1.toEx0
      obtain ⟨S2, E2⟩ := S1.alloc (o := .lst []) (g := .lst []) hD ⟨[], upd_same, RUs.nil⟩
      have h2 := (Rs.ext E2 h1).imp (k' := fun _ f' G' H' => kV' (wr X T.kd) Q (.ref G1.length) f' G' H') fun _ f4 G4 H4 e4 S4 h4 => Rs.ok S4 h4
      refine ⟨fun i m H => ∃ f G, Sim (wr X T.kd) H f G ∧ ItR (wr X T.kd) J It f G H ∧ RSt (wr X T.kd) H f G.length ρ σ ∧ G1.length < G.length ∧ f G1.length = D ∧
        Rs (wr X T.kd) W (lcL J tg own ρ G1.length (evTo T cf test) (evE T cf elt) m i G) H f G.length σ (fun _ f' G' H' => kV' (wr X T.kd) Q (.ref G1.length) f' G' H'),
        ⟨FU, fx f1 G1.length D, G1 ++ [.lst []], S2, hR.ext E2, R1.ext E2.toEx0, by rw [List.length_append]; exact Nat.lt_succ_self _, fx_at, h2⟩, ?_⟩
      intro i m H ⟨f, G, S, hR, R, hd, hf, h⟩
      cases m with
      | zero => exact h.elim
      | succ m =>
        simp only [lcL] at h
        cases ei : item J i G with
        | none => rw [ei] at h; exact h.elim
        | some ou =>
          cases ou with
          | none =>
            rw [ei] at h
            refine .inl ⟨(hR f G H Ext.refl S i).2 ei, Rs.ok S h _ ?_⟩
            simp only [RU]
            exact ⟨hd, by rw [hf]⟩
          | some u =>
            rw [ei] at h
            dsimp only at h
            obtain ⟨g1, g2⟩ := (hR f G H Ext.refl S i).1 u ei
            refine .inr ⟨g1, _, fun H' w => ⟨m, Nat.lt_succ_self m, w⟩, fun x H' y => ?_⟩
            obtain ⟨f', E', S', rx⟩ := g2 x H' y
            cases ea : assignU tg u (wipeU ρ own) with
            | none => rw [ea] at h; exact h.elim
            | some ρ1 =>
              rw [ea] at h
              simp only [ofO, Out.bind] at h
              have h := Rs.bind (Rs.ext E' h)
              have R' := R.ext E'.toEx0
              refine assignU_at rfl ea rx (R'.wipe own) fun σ2 R2 hw => ⟨(hw own hown).trans (wipe_idem own), ?_⟩
              refine ⟨f', G, ρ1, S', R2, (Rs.nox h).imp fun b f3 G3 H3 e3 S3 h3 => ?_⟩
              have hd3 : G1.length < G3.length := Nat.lt_of_lt_of_le hd e3.le
              have hf3 : f3 G1.length = D := by rw [e3.fn _ hd, E'.fn _ hd, hf]
              have hR3 := (hR.ext E').ext e3
              have R3 := R'.ext e3.toEx0
              cases b with
              | false => exact ⟨f3, G3, S3, hR3, R3, hd3, hf3, h3⟩
              | true =>
                have h3 := Rs.bind h3
                refine ⟨f3, G3, ρ1, S3, R2.ext e3.toEx0, (Rs.nox h3).imp fun y f4 G4 H4 e4 S4 h4 v rv => ?_⟩
                have hd4 : G1.length < G4.length := Nat.lt_of_lt_of_le hd3 e4.le
                have hf4 : f4 G1.length = D := by rw [e4.fn _ hd3, hf3]
                have hR4 := hR3.ext e4
                have R4 := R3.ext e4.toEx0
                cases eg : G4[G1.length]? with
                | none => rw [eg] at h4; exact h4.elim
                | some go =>
                  rw [eg] at h4
                  cases go with
                  | lst acc =>
                    dsimp only at h4
                    split at h4
                    · rename_i hl
                      obtain ⟨ws, hw1, hw2⟩ := S4.ob _ _ eg
                      rw [hf4] at hw1
                      obtain ⟨S5, E5⟩ := set_lst S4 hd4 (hw2.append (RUs.cons rv RUs.nil))
                      rw [hf4] at S5 E5
                      refine ⟨ws, hw1, by rw [← hw2.len]; exact hl, f4, _, S5, hR4.ext E5, R4.ext E5.toEx0, by rw [List.length_set]; exact hd4, hf4, Rs.ext E5 h4⟩
                    · exact h4.elim
                  | dK _ => exact h4.elim
                  | ins _ _ => exact h4.elim
theorem s_lc {elt : Ex} {tg : Tg} {it : List Ex} {kind : Nat} {test : Option Tx} {own : List Nat} {e t iter : PySem.Expr} {fs : List PySem.Expr} {s : Scope} (g : Good X N sc lv) (tk : Takes X W)
    (hi : PI X t iter (tI (wr X T.kd) W (evI T cf kind it))) (hset : set? iter = false) (hb : blkC N sc s (pairs N own) = true) (hown : tgIn own tg = true) (htg : mTg N (inS sc s) tg t = true)
    (ht : ∀ (X' : Cx), gr X' = gr X → Good X' N (inS sc s) lv → Takes X' W0 → PTs X' fs (yTo X' T cf W0 test)) (he : ∀ (X' : Cx), gr X' = gr X → Good X' N (inS sc s) lv → Takes X' W0 → PE X' e (yE X' T cf W0 elt)) :
    PE X (.ListComp e [⟨t, iter, fs, 0⟩] s p) (yE X T cf W (.lc elt tg it kind test own)) := by
  have gb := fun (s' : Shared) (H : Hp) (C : Addr) (cl : List (Str × Addr)) (fp : List Addr) => g.blk s' H s (blkOk_by hb).kind C cl fp
  have hv : (pairs N own).map (·.2) = own := by unfold pairs; rw [List.map_map]; exact List.map_id' own
  have pe := pe_lc (X := X) (elt := e) (tg := t) (iter := iter) (ifs := fs) (scope := s) (own := pairs N own) (pos := p) g.calm g.hN_nd hi (g.ok hb) (g := gT X.K tg) (tt := yTo X T cf W0 test) (te := yE X T cf W0 elt)
    (fun s' H C cl fp => s_tg (gb s' H C cl fp) htg) (fun s' H C cl fp => ht _ rfl (gb s' H C cl fp) takes0) (fun s' H C cl fp => he _ rfl (gb s' H C cl fp) takes0) (fs_plain hset)
  rw [hv] at pe
  exact PE.imp pe fun σ H Q h => lc_go hown h
theorem s_setlc {i : Nat} {y : Str} {py pos : Pos} {elt : Ex} {tg : Tg} {it : List Ex} {kind : Nat} {test : Option Tx} {own : List Nat} {e t iter : PySem.Expr} {fs : List PySem.Expr} {s : Scope} (g : Good X N sc lv)
    (hi : PI X t iter (tI (wr X T.kd) W (evI T cf kind it))) (hset : set? iter = false) (hb : blkC N sc s (pairs N own) = true) (hown : tgIn own tg = true) (htg : mTg N (inS sc s) tg t = true)
    (ht : ∀ (X' : Cx), gr X' = gr X → Good X' N (inS sc s) lv → Takes X' W0 → PTs X' fs (yTo X' T cf W0 test)) (he : ∀ (X' : Cx), gr X' = gr X → Good X' N (inS sc s) lv → Takes X' W0 → PE X' e (yE X' T cf W0 elt))
    (h1 : N[i]? = some y) (hl : X.env.scope.names.lookup y = some .local) (hsw : swapsWith (.ListComp e [⟨t, iter, fs, 0⟩] s p) (some (.Name y py)) pos.line X.env = pure true) :
    PS X (.Assign [.Name y py] (.ListComp e [⟨t, iter, fs, 0⟩] s p) pos) (tAsg (yE X T cf W (.lc elt tg it kind test own)) (gName i)) := by
  have gb := fun (s' : Shared) (H : Hp) (C : Addr) (cl : List (Str × Addr)) (fp : List Addr) => g.blk s' H s (blkOk_by hb).kind C cl fp
  have hv : (pairs N own).map (·.2) = own := by unfold pairs; rw [List.map_map]; exact List.map_id' own
  have pe := ps_setLc (X := X) (i := i) (y := y) (py := py) (elt := e) (tg := t) (iter := iter) (ifs := fs) (scope := s) (own := pairs N own) (pos := p) (spos := pos) g.calm g.hN_nd (by rw [g.hN]; exact h1) hl hsw hi (g.ok hb) (g := gT X.K tg) (tt := yTo X T cf W0 test) (te := yE X T cf W0 elt)
    (fun s' H C cl fp => s_tg (gb s' H C cl fp) htg) (fun s' H C cl fp => ht _ rfl (gb s' H C cl fp) takes0) (fun s' H C cl fp => he _ rfl (gb s' H C cl fp) takes0) (fs_plain hset)
  rw [hv] at pe
  exact PS.imp pe fun D σ H h => lc_go hown h
end
end Z
namespace Z
open PySem PySem.Spec PyProof.Rows L2
section
variable {N : List Str} {sc : Scope} {x : PySem.Expr}
theorem i_loc {i : Nat} (h : mE N sc (.loc i) x = true) : ∃ y p, x = .Name y p ∧ (N[i]? = some y ∧ vi? sc y = true) := by
  unfold mE at h
  split at h
  all_goals first | contradiction | (rename_i e; cases e; done) | skip
  · rename_i e
    cases e
    try simp only [Bool.and_eq_true, beq_iff_eq, Bool.not_eq_true', decide_eq_true_eq] at h
    exact ⟨_, _, rfl, h⟩
theorem i_gl {z : Str} (h : mE N sc (.gl z) x = true) : ∃ y p, x = .Name y p ∧ (z = y ∧ gl? sc z = true) := by
  unfold mE at h
  split at h
  all_goals first | contradiction | (rename_i e; cases e; done) | skip
  · rename_i e
    cases e
    try simp only [Bool.and_eq_true, beq_iff_eq, Bool.not_eq_true', decide_eq_true_eq] at h
    exact ⟨_, _, rfl, h⟩
theorem i_non  (h : mE N sc (.non) x = true) : ∃ k p, x = .Constant .none k p ∧ (True) := by
  unfold mE at h
  split at h
  all_goals first | contradiction | (rename_i e; cases e; done) | skip
  · exact ⟨_, _, rfl, trivial⟩
theorem i_bl {b : Bool} (h : mE N sc (.bl b) x = true) : ∃ c k p, x = .Constant (.bool c) k p ∧ (b = c) := by
  unfold mE at h
  split at h
  all_goals first | contradiction | (rename_i e; cases e; done) | skip
  · rename_i e
    cases e
    try simp only [Bool.and_eq_true, beq_iff_eq, Bool.not_eq_true', decide_eq_true_eq] at h
    exact ⟨_, _, _, rfl, h⟩
theorem i_int {b : Int} (h : mE N sc (.int b) x = true) : ∃ c k p, x = .Constant (.int c) k p ∧ (b = c) := by
  unfold mE at h
  split at h
  all_goals first | contradiction | (rename_i e; cases e; done) | skip
  · rename_i e
    cases e
    try simp only [Bool.and_eq_true, beq_iff_eq, Bool.not_eq_true', decide_eq_true_eq] at h
    exact ⟨_, _, _, rfl, h⟩
theorem i_str {b : Str} (h : mE N sc (.str b) x = true) : ∃ c k p, x = .Constant (.str c) k p ∧ (b = c) := by
  unfold mE at h
  split at h
  all_goals first | contradiction | (rename_i e; cases e; done) | skip
  · rename_i e
    cases e
    try simp only [Bool.and_eq_true, beq_iff_eq, Bool.not_eq_true', decide_eq_true_eq] at h
    exact ⟨_, _, _, rfl, h⟩
theorem i_bin {op : Operator} {a b : Ex} (h : mE N sc (.bin op a b) x = true) : ∃ l o r p, x = .BinOp l o r p ∧ (((op = o ∧ bin? op = true) ∧ mE N sc a l = true) ∧ mE N sc b r = true) := by
  unfold mE at h
  split at h
  all_goals first | contradiction | (rename_i e; cases e; done) | skip
  · rename_i e
    cases e
    try simp only [Bool.and_eq_true, beq_iff_eq, Bool.not_eq_true', decide_eq_true_eq] at h
    exact ⟨_, _, _, _, rfl, h⟩
theorem i_neg {a : Ex} (h : mE N sc (.neg a) x = true) : ∃ l p, x = .UnaryOp .USub l p ∧ (mE N sc a l = true) := by
  unfold mE at h
  split at h
  all_goals first | contradiction | (rename_i e; cases e; done) | skip
  · rename_i e
    cases e
    try simp only [Bool.and_eq_true, beq_iff_eq, Bool.not_eq_true', decide_eq_true_eq] at h
    exact ⟨_, _, rfl, h⟩
theorem i_cmp {op : CmpOp} {a b : Ex} (h : mE N sc (.cmp op a b) x = true) : ∃ l o r p, x = .Compare l [o] [r] p ∧ (((op = o ∧ mE N sc a l = true) ∧ mE N sc b r = true) ∧ behindInMarks o r = false) := by
  unfold mE at h
  split at h
  all_goals first | contradiction | (rename_i e; cases e; done) | skip
  · rename_i e
    cases e
    try simp only [Bool.and_eq_true, beq_iff_eq, Bool.not_eq_true', decide_eq_true_eq] at h
    exact ⟨_, _, _, _, rfl, h⟩
theorem i_chain {o1 o2 : CmpOp} {a b c : Ex} (h : mE N sc (.chain o1 o2 a b c) x = true) : ∃ l p1 p2 m r p, x = .Compare l [p1, p2] [m, r] p ∧ (((((o1 = p1 ∧ o2 = p2) ∧ mE N sc a l = true) ∧ mE N sc b m = true) ∧ mE N sc c r = true) ∧ lastMarks [o1, o2] [m, r] = false) := by
  unfold mE at h
  split at h
  all_goals first | contradiction | (rename_i e; cases e; done) | skip
  · rename_i e
    cases e
    try simp only [Bool.and_eq_true, beq_iff_eq, Bool.not_eq_true', decide_eq_true_eq] at h
    exact ⟨_, _, _, _, _, _, rfl, h⟩
theorem i_bop {op : BoolOp} {es : List Ex} (h : mE N sc (.bop op es) x = true) : ∃ o vs p, x = .BoolOp o vs p ∧ (op = o ∧ mB N sc es vs = true) := by
  unfold mE at h
  split at h
  all_goals first | contradiction | (rename_i e; cases e; done) | skip
  · rename_i e
    cases e
    try simp only [Bool.and_eq_true, beq_iff_eq, Bool.not_eq_true', decide_eq_true_eq] at h
    exact ⟨_, _, _, rfl, h⟩
theorem i_not {a : Ex} (h : mE N sc (.not a) x = true) : ∃ l p, x = .UnaryOp .Not l p ∧ (mE N sc a l = true) := by
  unfold mE at h
  split at h
  all_goals first | contradiction | (rename_i e; cases e; done) | skip
  · rename_i e
    cases e
    try simp only [Bool.and_eq_true, beq_iff_eq, Bool.not_eq_true', decide_eq_true_eq] at h
    exact ⟨_, _, rfl, h⟩
theorem i_ite {c : Tx} {a b : Ex} (h : mE N sc (.ite c a b) x = true) : ∃ t l r p, x = .IfExp t l r p ∧ ((mT N sc c t = true ∧ mE N sc a l = true) ∧ mE N sc b r = true) := by
  unfold mE at h
  split at h
  all_goals first | contradiction | (rename_i e; cases e; done) | skip
  · rename_i e
    cases e
    try simp only [Bool.and_eq_true, beq_iff_eq, Bool.not_eq_true', decide_eq_true_eq] at h
    exact ⟨_, _, _, _, rfl, h⟩
theorem i_lst {es : List Ex} (h : mE N sc (.lst es) x = true) : ∃ xs p, x = .List xs p ∧ (mL N sc es xs = true) := by
  unfold mE at h
  split at h
  all_goals first | contradiction | (rename_i e; cases e; done) | skip
  · rename_i e
    cases e
    try simp only [Bool.and_eq_true, beq_iff_eq, Bool.not_eq_true', decide_eq_true_eq] at h
    exact ⟨_, _, rfl, h⟩
theorem i_tup {es : List Ex} (h : mE N sc (.tup es) x = true) : ∃ xs k p, x = .Tuple xs k p ∧ (mL N sc es xs = true) := by
  unfold mE at h
  split at h
  all_goals first | contradiction | (rename_i e; cases e; done) | skip
  · rename_i e
    cases e
    try simp only [Bool.and_eq_true, beq_iff_eq, Bool.not_eq_true', decide_eq_true_eq] at h
    exact ⟨_, _, _, rfl, h⟩
theorem i_dict0  (h : mE N sc (.dict0) x = true) : ∃ p, x = .Dict [] [] p ∧ (True) := by
  unfold mE at h
  split at h
  all_goals first | contradiction | (rename_i e; cases e; done) | skip
  · exact ⟨_, rfl, trivial⟩
theorem i_ix {a b : Ex} (h : mE N sc (.ix a b) x = true) : ∃ l r p, x = .Subscript l r p ∧ ((mE N sc a l = true ∧ mE N sc b r = true) ∧ slice? r = false) := by
  unfold mE at h
  split at h
  all_goals first | contradiction | (rename_i e; cases e; done) | skip
  · rename_i e
    cases e
    try simp only [Bool.and_eq_true, beq_iff_eq, Bool.not_eq_true', decide_eq_true_eq] at h
    exact ⟨_, _, _, rfl, h⟩
theorem i_sl {a : Ex} {lo hi : Option Ex} (h : mE N sc (.sl a lo hi) x = true) : ∃ l lo2 hi2 q p, x = .Subscript l (.Slice lo2 hi2 none q) p ∧ ((mE N sc a l = true ∧ mO N sc lo lo2 = true) ∧ mO N sc hi hi2 = true) := by
  unfold mE at h
  split at h
  all_goals first | contradiction | (rename_i e; cases e; done) | skip
  · rename_i e
    cases e
    try simp only [Bool.and_eq_true, beq_iff_eq, Bool.not_eq_true', decide_eq_true_eq] at h
    exact ⟨_, _, _, _, _, rfl, h⟩
theorem i_call {f : Str} {es : List Ex} (h : mE N sc (.call f es) x = true) : ∃ g xs p, x = .Call g xs [] p ∧ (nm? sc f g = true ∧ mL N sc es xs = true) := by
  unfold mE at h
  split at h
  all_goals first | contradiction | (rename_i e; cases e; done) | skip
  · rename_i e
    cases e
    try simp only [Bool.and_eq_true, beq_iff_eq, Bool.not_eq_true', decide_eq_true_eq] at h
    exact ⟨_, _, _, rfl, h⟩
theorem i_make {f : Str} {es : List Ex} (h : mE N sc (.make f es) x = true) : ∃ g xs p, x = .Call g xs [] p ∧ (nm? sc f g = true ∧ mL N sc es xs = true) := by
  unfold mE at h
  split at h
  all_goals first | contradiction | (rename_i e; cases e; done) | skip
  · rename_i e
    cases e
    try simp only [Bool.and_eq_true, beq_iff_eq, Bool.not_eq_true', decide_eq_true_eq] at h
    exact ⟨_, _, _, rfl, h⟩
theorem i_bf {b : Bf} {es : List Ex} (h : mE N sc (.bf b es) x = true) : ∃ g xs p, x = .Call g xs [] p ∧ ((nm? sc (bfN b) g = true ∧ mL N sc es xs = true) ∧ xs.isEmpty = false) := by
  unfold mE at h
  split at h
  all_goals first | contradiction | (rename_i e; cases e; done) | skip
  · rename_i e
    cases e
    try simp only [Bool.and_eq_true, beq_iff_eq, Bool.not_eq_true', decide_eq_true_eq] at h
    exact ⟨_, _, _, rfl, h⟩
theorem i_isi1 {a : Ex} {ts : List Ty} (h : mE N sc (.isi a ts true) x = true) : ∃ g l c p, x = .Call g [l, c] [] p ∧ (((nm? sc "isinstance" g = true ∧ mE N sc a l = true) ∧ mTys sc ts [c] = true) ∧ star? l = false) := by
  unfold mE at h
  split at h
  all_goals first | contradiction | (rename_i e; cases e; done) | skip
  · rename_i e
    cases e
    try simp only [Bool.and_eq_true, beq_iff_eq, Bool.not_eq_true', decide_eq_true_eq] at h
    exact ⟨_, _, _, _, rfl, h⟩
theorem i_isiN {a : Ex} {ts : List Ty} (h : mE N sc (.isi a ts false) x = true) : ∃ g l cs k q p, x = .Call g [l, .Tuple cs k q] [] p ∧ (((((nm? sc "isinstance" g = true ∧ mE N sc a l = true) ∧ mTys sc ts cs = true) ∧ star? l = false) ∧ ts.length < 25) ∧ ts.isEmpty = false) := by
  unfold mE at h
  split at h
  all_goals first | contradiction | (rename_i e; cases e; done) | skip
  · rename_i e
    cases e
    try simp only [Bool.and_eq_true, beq_iff_eq, Bool.not_eq_true', decide_eq_true_eq] at h
    exact ⟨_, _, _, _, _, _, rfl, h⟩
theorem i_bm {m : Bm} {o : Ex} {es : List Ex} (h : mE N sc (.bm m o es) x = true) : ∃ l y q xs p, x = .Call (.Attribute l y q) xs [] p ∧ ((((((y = bmN m ∧ mE N sc o l = true) ∧ mL N sc es xs = true) ∧ base? l = true) ∧ q.endLine = p.line) ∧ xs.length < 25) ∧ bm? m = true) := by
  unfold mE at h
  split at h
  all_goals first | contradiction | (rename_i e; cases e; done) | skip
  · rename_i e
    cases e
    try simp only [Bool.and_eq_true, beq_iff_eq, Bool.not_eq_true', decide_eq_true_eq] at h
    exact ⟨_, _, _, _, _, rfl, h⟩
theorem i_meth {m : Str} {o : Ex} {es : List Ex} (h : mE N sc (.meth o m es) x = true) : ∃ l y q xs p, x = .Call (.Attribute l y q) xs [] p ∧ (((((y = m ∧ mE N sc o l = true) ∧ mL N sc es xs = true) ∧ base? l = true) ∧ q.endLine = p.line) ∧ xs.length < 25) := by
  unfold mE at h
  split at h
  all_goals first | contradiction | (rename_i e; cases e; done) | skip
  · rename_i e
    cases e
    try simp only [Bool.and_eq_true, beq_iff_eq, Bool.not_eq_true', decide_eq_true_eq] at h
    exact ⟨_, _, _, _, _, rfl, h⟩
theorem i_attr {m : Str} {o : Ex} (h : mE N sc (.attr o m) x = true) : ∃ l y p, x = .Attribute l y p ∧ ((y = m ∧ mE N sc o l = true) ∧ base? l = true) := by
  unfold mE at h
  split at h
  all_goals first | contradiction | (rename_i e; cases e; done) | skip
  · rename_i e
    cases e
    try simp only [Bool.and_eq_true, beq_iff_eq, Bool.not_eq_true', decide_eq_true_eq] at h
    exact ⟨_, _, _, rfl, h⟩
theorem i_prop {m : Str} {o : Ex} (h : mE N sc (.prop o m) x = true) : ∃ l y p, x = .Attribute l y p ∧ ((y = m ∧ mE N sc o l = true) ∧ base? l = true) := by
  unfold mE at h
  split at h
  all_goals first | contradiction | (rename_i e; cases e; done) | skip
  · rename_i e
    cases e
    try simp only [Bool.and_eq_true, beq_iff_eq, Bool.not_eq_true', decide_eq_true_eq] at h
    exact ⟨_, _, _, rfl, h⟩
theorem i_lc {elt : Ex} {tg : Tg} {it : List Ex} {kind : Nat} {test : Option Tx} {own : List Nat} (h : mE N sc (.lc elt tg it kind test own) x = true) : ∃ e t i fs s p, x = .ListComp e [⟨t, i, fs, 0⟩] s p ∧ ((((((mE N (inS sc s) elt e = true ∧ mTg N (inS sc s) tg t = true) ∧ mIt N sc kind it i = true) ∧ tgKind kind tg = true) ∧ mFs N (inS sc s) test fs = true) ∧ blkC N sc s (pairs N own) = true) ∧ tgIn own tg = true) := by
  unfold mE at h
  split at h
  all_goals first | contradiction | (rename_i e; cases e; done) | skip
  · rename_i e
    cases e
    try simp only [Bool.and_eq_true, beq_iff_eq, Bool.not_eq_true', decide_eq_true_eq] at h
    exact ⟨_, _, _, _, _, _, rfl, h⟩
theorem i_why {e : Ex} (h : mE N sc (.why e) x = true) : ∃ g q l s p2 p, x = .Call (.Name g q) [.Lambda ⟨[], [], none, [], [], none, []⟩ l s p2] [] p ∧ ((((g = "_law_why" ∧ gl? sc g = true) ∧ sc.isCoroutine = false) ∧ LamX.lamSB sc s = true) ∧ mE N { s with isCoroutine := true } e l = true) := by
  unfold mE at h
  split at h
  all_goals first | contradiction | (rename_i e; cases e; done) | skip
  · rename_i e
    cases e
    try simp only [Bool.and_eq_true, beq_iff_eq, Bool.not_eq_true', decide_eq_true_eq] at h
    exact ⟨_, _, _, _, _, _, rfl, h⟩
theorem i_smeth {C m : Str} {es : List Ex} (h : mE N sc (.smeth C m es) x = true) : ∃ l y q xs p, x = .Call (.Attribute l y q) xs [] p ∧ ((((y = m ∧ nm? sc C l = true) ∧ mL N sc es xs = true) ∧ q.endLine = p.line) ∧ xs.length < 25) := by
  unfold mE at h
  split at h
  all_goals first | contradiction | (rename_i e; cases e; done) | skip
  · rename_i e
    cases e
    try simp only [Bool.and_eq_true, beq_iff_eq, Bool.not_eq_true', decide_eq_true_eq] at h
    exact ⟨_, _, _, _, _, rfl, h⟩
theorem i_smetk {C m kn : Str} {e : Ex} (h : mE N sc (.smetk C m kn e) x = true) : ∃ l y q k z p2 p, x = .Call (.Attribute l y q) [] [⟨some k, z, p2⟩] p ∧ ((((y = m ∧ nm? sc C l = true) ∧ k = kn) ∧ mE N sc e z = true) ∧ q.endLine = p.line) := by
  unfold mE at h
  split at h
  all_goals first | contradiction | (rename_i e; cases e; done) | skip
  · rename_i e
    cases e
    try simp only [Bool.and_eq_true, beq_iff_eq, Bool.not_eq_true', decide_eq_true_eq] at h
    exact ⟨_, _, _, _, _, _, _, rfl, h⟩
theorem i_callk {f : Str} {es ke : List Ex} {kn : List Str} (h : mE N sc (.callk f es kn ke) x = true) : False := by
  unfold mE at h
  contradiction
theorem i_makek {f : Str} {es ke : List Ex} {kn : List Str} (h : mE N sc (.makek f es kn ke) x = true) : False := by
  unfold mE at h
  contradiction
end
end Z
namespace Z
open PySem PySem.Spec PyProof.Rows L2
section
variable {X : Cx} {N : List Str} {sc : Scope} {lv : Nat} {T : Pg} {cf : Cf} {W : WX}
theorem nm_at {x : Str} {g : PySem.Expr} (h : nm? sc x g = true) : ∃ p, g = .Name x p ∧ gl? sc x = true := by
  unfold nm? at h
  split at h
  · simp only [Bool.and_eq_true, beq_iff_eq] at h
    obtain ⟨rfl, h⟩ := h
    exact ⟨_, rfl, h⟩
  · cases h
theorem tup_tg {kind : Nat} {tg : Tg} {t : PySem.Expr} (h : mTg N sc tg t = true) (k : tgKind kind tg = true) (hk : kind = 3 ∨ kind = 4) : ∃ xs kk p, t = .Tuple xs kk p := by
  cases tg with
  | nm i => rcases hk with rfl | rfl <;> cases k
  | tp is =>
    unfold mTg at h
    split at h
    · rename_i e; cases e
    · exact ⟨_, _, _, rfl⟩
    · cases h
theorem not_set {e : Ex} {x : PySem.Expr} (h : mE N sc e x = true) : set? x = false := by
  cases x <;> first | rfl | skip
  unfold mE at h
  split at h
  all_goals first | contradiction | skip
theorem i_tnot {t : Tx} {x : PySem.Expr} (h : mT N sc (.not t) x = true) : ∃ l p, x = .UnaryOp .Not l p ∧ mT N sc t l = true := by
  unfold mT at h
  split at h
  all_goals first | contradiction | skip
  · rename_i e; cases e; exact ⟨_, _, rfl, h⟩
theorem i_tbop {op : BoolOp} {ts : List Tx} {x : PySem.Expr} (h : mT N sc (.bop op ts) x = true) : ∃ o vs p, x = .BoolOp o vs p ∧ op = o ∧ mTB N sc ts vs = true := by
  unfold mT at h
  split at h
  all_goals first | contradiction | skip
  · rename_i e; cases e
    simp only [Bool.and_eq_true, beq_iff_eq] at h
    exact ⟨_, _, _, rfl, h⟩
theorem i_tval {e : Ex} {x : PySem.Expr} (h : mT N sc (.val e) x = true) : mE N sc e x = true ∧ (ptest? x = true ∨ ∃ l os rs p, x = .Compare l os rs p) := by
  simp only [mT, Bool.and_eq_true, Bool.or_eq_true] at h
  refine ⟨h.1, ?_⟩
  rcases h.2 with h | h
  · exact .inl h
  · split at h
    · exact .inr ⟨_, _, _, _, rfl⟩
    · cases h
theorem cmp_only {e : Ex} {l : PySem.Expr} {os : List CmpOp} {rs : List PySem.Expr} {p : Pos} (h : mE N sc e (.Compare l os rs p) = true) : (∃ op a b, e = .cmp op a b) ∨ ∃ o1 o2 a b c, e = .chain o1 o2 a b c := by
  cases e
  case cmp op a b => exact .inl ⟨_, _, _, rfl⟩
  case chain => exact .inr ⟨_, _, _, _, _, rfl⟩
  all_goals
    exfalso
    unfold mE at h
    first | contradiction | (split at h <;> contradiction)
end
mutual
theorem sE {lv : Nat} {T : Pg} {cf : Cf} (e : Ex) : ∀ {X : Cx} {N : List Str} {sc : Scope} {W : WX} {x : PySem.Expr}, Good X N sc lv → Wf (gr X) T cf lv → Takes X W → mE N sc e x = true → PE X x (yE X T cf W e) := by
  intro X N sc W x g F tk h
  cases e with
  | loc i => obtain ⟨y, p, rfl, h1, h2⟩ := i_loc h; exact s_loc g h1 h2
  | gl z => obtain ⟨y, p, rfl, rfl, h2⟩ := i_gl h; exact s_gl g F h2
  | non => obtain ⟨k, p, rfl, _⟩ := i_non h; exact s_non
  | bl b => obtain ⟨c, k, p, rfl, rfl⟩ := i_bl h; exact s_bl
  | int b => obtain ⟨c, k, p, rfl, rfl⟩ := i_int h; exact s_int
  | str b => obtain ⟨c, k, p, rfl, rfl⟩ := i_str h; exact s_str
  | bin op a b =>
    obtain ⟨l, o, r, p, rfl, ⟨⟨rfl, h0⟩, h1⟩, h2⟩ := i_bin h
    exact s_bin (sE a g F tk h1) (sE b g F tk h2) h0
  | neg a => obtain ⟨l, p, rfl, h1⟩ := i_neg h; exact s_neg (sE a g F tk h1)
  | cmp op a b =>
    obtain ⟨l, o, r, p, rfl, ⟨⟨rfl, h1⟩, h2⟩, h3⟩ := i_cmp h
    exact s_cmp g F tk (sE a g F tk h1) (sE b g F tk h2) h3
  | chain o1 o2 a b c =>
    obtain ⟨l, p1, p2, m, r, p, rfl, ⟨⟨⟨⟨rfl, rfl⟩, h1⟩, h2⟩, h3⟩, h4⟩ := i_chain h
    exact s_chain g F (sE a g F tk h1) (sE b g F tk h2) (sE c g F tk h3) h4
  | bop op es => obtain ⟨o, vs, p, rfl, rfl, h1⟩ := i_bop h; exact PE.imp (sB op es g F tk h1) fun σ H Q ⟨f, G, ρ, S, R, h⟩ => ⟨f, G, ρ, S, R, by simpa only [evE] using h⟩
  | not a => obtain ⟨l, p, rfl, h1⟩ := i_not h; exact s_not (sE a g F tk h1)
  | ite c a b =>
    obtain ⟨t, l, r, p, rfl, ⟨h1, h2⟩, h3⟩ := i_ite h
    exact s_ite (sT c g F tk h1) (sE a g F tk h2) (sE b g F tk h3)
  | lst es => obtain ⟨xs, p, rfl, h1⟩ := i_lst h; exact s_lst (sL es g F tk h1).1
  | tup es => obtain ⟨xs, k, p, rfl, h1⟩ := i_tup h; exact s_tup (sL es g F tk h1).1
  | dict0 => obtain ⟨p, rfl, _⟩ := i_dict0 h; exact s_dict0
  | ix a b =>
    obtain ⟨l, r, p, rfl, ⟨h1, h2⟩, h3⟩ := i_ix h
    exact s_ix g F (sE a g F tk h1) (sE b g F tk h2) h3
  | sl a lo hi =>
    obtain ⟨l, lo2, hi2, q, p, rfl, ⟨h1, h2⟩, h3⟩ := i_sl h
    exact s_sl (sE a g F tk h1) (sO lo g F tk h2) (sO hi g F tk h3)
  | call f es =>
    obtain ⟨q, xs, p, rfl, h1, h2⟩ := i_call h
    obtain ⟨p2, rfl, h3⟩ := nm_at h1
    exact s_call g F tk h3 (sL es g F tk h2).1 (sL es g F tk h2).2.1
  | callk f es kn ke => exact (i_callk h).elim
  | make f es =>
    obtain ⟨q, xs, p, rfl, h1, h2⟩ := i_make h
    obtain ⟨p2, rfl, h3⟩ := nm_at h1
    exact s_make g F tk h3 (sL es g F tk h2).1 (sL es g F tk h2).2.1
  | makek f es kn ke => exact (i_makek h).elim
  | bf b es =>
    obtain ⟨q, xs, p, rfl, ⟨h1, h2⟩, h4⟩ := i_bf h
    obtain ⟨p2, rfl, h3⟩ := nm_at h1
    exact s_bf g F tk h3 (sL es g F tk h2).1 (sL es g F tk h2).2.1 h4
  | isi a ts one =>
    cases one with
    | true =>
      obtain ⟨q, l, c, p, rfl, ⟨⟨h1, h2⟩, h4⟩, h5⟩ := i_isi1 h
      obtain ⟨p2, rfl, h3⟩ := nm_at h1
      cases ts with
      | nil => simp [mTys] at h4
      | cons t ts =>
        cases ts with
        | nil => exact s_isi1 g F h3 (sE a g F tk h2) h4 h5
        | cons t2 ts => simp [mTys] at h4
    | false =>
      obtain ⟨q, l, cs, k, q2, p, rfl, ⟨⟨⟨⟨h1, h2⟩, h4⟩, h5⟩, h6⟩, h7⟩ := i_isiN h
      obtain ⟨p2, rfl, h3⟩ := nm_at h1
      exact s_isiN g F h3 (sE a g F tk h2) h4 h5 (by intro z; subst z; cases h7) h6
  | bm m o es =>
    obtain ⟨l, y, q, xs, p, rfl, ⟨⟨⟨⟨⟨rfl, h1⟩, h2⟩, h3⟩, h4⟩, h5⟩, hm⟩ := i_bm h
    exact s_bm (sE o g F tk h1) (sL es g F tk h2).1 (sL es g F tk h2).2.1 h3 (by rw [h4]; exact beq_self_eq_true _) h5 (sL es g F tk h2).2.2 hm
  | meth o m es =>
    obtain ⟨l, y, q, xs, p, rfl, ⟨⟨⟨⟨rfl, h1⟩, h2⟩, h3⟩, h4⟩, h5⟩ := i_meth h
    exact s_meth g F tk (sE o g F tk h1) (sL es g F tk h2).1 (sL es g F tk h2).2.1 h3 (by rw [h4]; exact beq_self_eq_true _) h5
  | attr o m =>
    obtain ⟨l, y, p, rfl, ⟨rfl, h1⟩, h3⟩ := i_attr h
    exact s_attr g F (sE o g F tk h1) h3
  | prop o m =>
    obtain ⟨l, y, p, rfl, ⟨rfl, h1⟩, h3⟩ := i_prop h
    exact s_prop g F (sE o g F tk h1) h3
  | lc elt tg it kind test own =>
    obtain ⟨e', t, i, fs, s, p, rfl, ⟨⟨⟨⟨⟨h1, h2⟩, h3⟩, h4⟩, h5⟩, h6⟩, h7⟩ := i_lc h
    have hi := sIt kind it g F tk h3 (tg := t) fun hk => tup_tg h2 h4 hk
    exact s_lc g tk hi.1 hi.2 h6 h7 h2 (fun X' eX g' tk' => sTo test g' (by rw [eX]; exact F) tk' h5) (fun X' eX g' tk' => sE elt g' (by rw [eX]; exact F) tk' h1)
  | why e =>
    obtain ⟨g', q, l, s, p2, p, rfl, ⟨⟨⟨rfl, h1⟩, h2⟩, h3⟩, h4⟩ := i_why h
    exact s_why g F h1 h2 h3 fun X' W' eX gd tk' => sE e gd (by rw [eX]; exact F) tk' h4
  | smeth C m es =>
    obtain ⟨l, y, q, xs, p, rfl, ⟨⟨⟨rfl, h1⟩, h2⟩, h3⟩, h4⟩ := i_smeth h
    obtain ⟨p2, rfl, h5⟩ := nm_at h1
    exact s_smeth g F tk h5 (sL es g F tk h2).1 (sL es g F tk h2).2.1 (by rw [h3]; exact beq_self_eq_true _) h4
  | smetk C m kn e =>
    obtain ⟨l, y, q, k, z, p2, p, rfl, ⟨⟨⟨rfl, h1⟩, rfl⟩, h2⟩, h3⟩ := i_smetk h
    obtain ⟨p3, rfl, h5⟩ := nm_at h1
    exact s_smetk g F tk h5 (sE e g F tk h2) (by rw [h3]; exact beq_self_eq_true _)
theorem sT {lv : Nat} {T : Pg} {cf : Cf} (e : Tx) : ∀ {X : Cx} {N : List Str} {sc : Scope} {W : WX} {x : PySem.Expr}, Good X N sc lv → Wf (gr X) T cf lv → Takes X W → mT N sc e x = true → PT X x (yT X T cf W e) := by
  intro X N sc W x g F tk h
  cases e with
  | not a => obtain ⟨l, p, rfl, h1⟩ := i_tnot h; exact s_tnot (sT a g F tk h1)
  | bop op ts =>
    obtain ⟨o, vs, p, rfl, rfl, h1⟩ := i_tbop h
    exact PT.imp (sTB op ts g F tk h1).pt fun σ H Q ⟨f, G, ρ, S, R, h⟩ => ⟨f, G, ρ, S, R, by simpa only [evT] using h⟩
  | val e =>
    obtain ⟨h1, h2⟩ := i_tval h
    by_cases hp : ptest? x = true
    · exact s_tval (sE e g F tk h1) hp
    · rcases h2 with h2 | ⟨l, os, rs, p, rfl⟩
      · exact (hp h2).elim
      · cases e with
        | cmp op a b =>
          obtain ⟨l, o, r, p, eq, ⟨⟨rfl, z1⟩, z2⟩, z3⟩ := i_cmp h1
          cases eq
          exact s_tcmp g F tk (sE a g F tk z1) (sE b g F tk z2) z3
        | chain o1 o2 a b c =>
          obtain ⟨l, p1, p2, m, r, p, eq, ⟨⟨⟨⟨rfl, rfl⟩, z1⟩, z2⟩, z3⟩, z4⟩ := i_chain h1
          cases eq
          exact s_tchain g F (sE a g F tk z1) (sE b g F tk z2) (sE c g F tk z3) z4
        | _ => rcases cmp_only h1 with ⟨_, _, _, z⟩ | ⟨_, _, _, _, _, z⟩ <;> cases z
theorem sTo {lv : Nat} {T : Pg} {cf : Cf} (e : Option Tx) : ∀ {X : Cx} {N : List Str} {sc : Scope} {W : WX} {x : List PySem.Expr}, Good X N sc lv → Wf (gr X) T cf lv → Takes X W → mFs N sc e x = true → PTs X x (yTo X T cf W e) := by
  intro X N sc W x g F tk h
  cases e with
  | none =>
    cases x with
    | nil => exact ⟨fun p s σ H Q I ⟨f, G, ρ, S, R, h⟩ => pts_nil.run p s σ H Q I (by simp only [evTo] at h; exact Rs.ok S h)⟩
    | cons y ys => simp [mFs] at h
  | some e =>
    cases x with
    | nil => simp [mFs] at h
    | cons y ys =>
      cases ys with
      | nil =>
        simp only [mFs] at h
        exact ⟨fun p s σ H Q I ⟨f, G, ρ, S, R, h2⟩ => (pts_one (sT e g F tk h)).run p s σ H Q I ⟨f, G, ρ, S, R, by simpa only [evTo] using h2⟩⟩
      | cons z zs => simp [mFs] at h
theorem sB {lv : Nat} {T : Pg} {cf : Cf} (op : BoolOp) (e : List Ex) : ∀ {X : Cx} {N : List Str} {sc : Scope} {W : WX} {x : List PySem.Expr} {p : Pos}, Good X N sc lv → Wf (gr X) T cf lv → Takes X W → mB N sc e x = true → PE X (.BoolOp op x p) (tE (wr X T.kd) W (evB T cf op e)) := by
  intro X N sc W x p g F tk h
  cases e with
  | nil => simp [mB] at h
  | cons e es =>
    cases es with
    | nil =>
      cases x with
      | nil => simp [mB] at h
      | cons y ys =>
        cases ys with
        | nil => simp only [mB] at h; exact s_b1 (sE e g F tk h)
        | cons z zs => simp [mB] at h
    | cons e2 es =>
      cases x with
      | nil => simp [mB] at h
      | cons y ys =>
        cases ys with
        | nil => simp [mB] at h
        | cons z zs =>
          simp only [mB, Bool.and_eq_true] at h
          exact s_b2 (sE e g F tk h.1) (sB op (e2 :: es) g F tk h.2)
theorem sTB {lv : Nat} {T : Pg} {cf : Cf} (op : BoolOp) (e : List Tx) : ∀ {X : Cx} {N : List Str} {sc : Scope} {W : WX} {x : List PySem.Expr} {p : Pos}, Good X N sc lv → Wf (gr X) T cf lv → Takes X W → mTB N sc e x = true → PW X (.BoolOp op x p) (tT (wr X T.kd) W (evTB T cf op e)) := by
  intro X N sc W x p g F tk h
  cases e with
  | nil => simp [mTB] at h
  | cons e es =>
    cases es with
    | nil =>
      cases x with
      | nil => simp [mTB] at h
      | cons y ys =>
        cases ys with
        | nil => simp only [mTB] at h; exact s_tb1 (sT e g F tk h)
        | cons z zs => simp [mTB] at h
    | cons e2 es =>
      cases x with
      | nil => simp [mTB] at h
      | cons y ys =>
        cases ys with
        | nil => simp [mTB] at h
        | cons z zs =>
          simp only [mTB, Bool.and_eq_true] at h
          exact s_tb2 (sT e g F tk h.1) (sTB op (e2 :: es) g F tk h.2)
theorem sL {lv : Nat} {T : Pg} {cf : Cf} (es : List Ex) : ∀ {X : Cx} {N : List Str} {sc : Scope} {W : WX} {xs : List PySem.Expr}, Good X N sc lv → Wf (gr X) T cf lv → Takes X W → mL N sc es xs = true → PA X xs (yL X T cf W es) ∧ (∀ e ∈ xs, star? e = false) ∧ (xs = [] → es = []) := by
  intro X N sc W xs g F tk h
  cases es with
  | nil =>
    cases xs with
    | nil => exact ⟨s_nil, (fun _ h => by cases h), (fun _ => rfl)⟩
    | cons y ys => simp [mL] at h
  | cons e es =>
    cases xs with
    | nil => simp [mL] at h
    | cons y ys =>
      simp only [mL, Bool.and_eq_true, Bool.not_eq_true'] at h
      obtain ⟨i1, i2, _⟩ := sL es g F tk h.2
      refine ⟨s_cons (sE e g F tk h.1.1) i1 h.1.2, fun z hz => ?_, fun z => by cases z⟩
      rcases List.mem_cons.mp hz with rfl | hz
      · exact h.1.2
      · exact i2 z hz
theorem sO {lv : Nat} {T : Pg} {cf : Cf} (e : Option Ex) : ∀ {X : Cx} {N : List Str} {sc : Scope} {W : WX} {x : Option PySem.Expr}, Good X N sc lv → Wf (gr X) T cf lv → Takes X W → mO N sc e x = true → PO X x (yO X T cf W e) := by
  intro X N sc W x g F tk h
  cases e with
  | none =>
    cases x with
    | none => exact s_ono
    | some y => simp [mO] at h
  | some e =>
    cases x with
    | none => simp [mO] at h
    | some y => simp only [mO] at h; exact s_oso (sE e g F tk h)
theorem sIt {lv : Nat} {T : Pg} {cf : Cf} (kind : Nat) (it : List Ex) : ∀ {X : Cx} {N : List Str} {sc : Scope} {W : WX} {x tg : PySem.Expr}, Good X N sc lv → Wf (gr X) T cf lv → Takes X W → mIt N sc kind it x = true → (kind = 3 ∨ kind = 4 → ∃ xs kk p, tg = .Tuple xs kk p) → PI X tg x (tI (wr X T.kd) W (evI T cf kind it)) ∧ set? x = false := by
  intro X N sc W x tg g F tk h htg
  cases it with
  | nil =>
    exfalso
    unfold mIt at h
    split at h <;> contradiction
  | cons e es =>
    cases es with
    | nil =>
      unfold mIt at h
      split at h
      all_goals first | contradiction | (rename_i q; cases q; done) | skip
      · rename_i eq; cases eq
        exact ⟨s_it0 (sE e g F tk h), not_set h⟩
      · rename_i eq; cases eq
        simp only [Bool.and_eq_true, Bool.not_eq_true'] at h
        obtain ⟨p2, rfl, h3⟩ := nm_at h.1.1
        exact ⟨s_it1 g F h3 (s_cons (sE e g F tk h.1.2) s_nil h.2) h.2, rfl⟩
      · rename_i eq; cases eq
        simp only [Bool.and_eq_true, Bool.not_eq_true'] at h
        obtain ⟨p2, rfl, h3⟩ := nm_at h.1.1
        obtain ⟨xs, kk, p, rfl⟩ := htg (.inl rfl)
        exact ⟨s_it3 g F h3 (s_cons (sE e g F tk h.1.2) s_nil h.2) h.2, rfl⟩
    | cons e2 es =>
      cases es with
      | nil =>
        unfold mIt at h
        split at h
        all_goals first | contradiction | (rename_i q; cases q; done) | skip
        · rename_i eq; cases eq
          simp only [Bool.and_eq_true, Bool.not_eq_true'] at h
          obtain ⟨p2, rfl, h3⟩ := nm_at h.1.1.1.1
          exact ⟨s_it2 g F h3 (s_cons (sE e g F tk h.1.1.1.2) (s_cons (sE e2 g F tk h.1.2) s_nil h.2) h.1.1.2) h.1.1.2 h.2, rfl⟩
        · rename_i eq; cases eq
          simp only [Bool.and_eq_true, Bool.not_eq_true'] at h
          obtain ⟨p2, rfl, h3⟩ := nm_at h.1.1.1.1
          obtain ⟨xs, kk, p, rfl⟩ := htg (.inr rfl)
          exact ⟨s_it4 g F h3 (s_cons (sE e g F tk h.1.1.1.2) (s_cons (sE e2 g F tk h.1.2) s_nil h.2) h.1.1.2) h.1.1.2 h.2, rfl⟩
      | cons e3 es =>
        exfalso
        unfold mIt at h
        split at h
        all_goals first | contradiction | (rename_i q; cases q; done)
end
end Z
namespace Z
open PySem PySem.W PySem.Spec PySem.Calls PyProof.Rows
theorem star_un {prog : Program} {w : World} {A : Around} {E : Value → Shared → Prop} {s : Shared} {l : Addr} {items : Array Value} {n i : Nat} {Q : List Value → Shared → Prop} (hl : IsTup s.heap l items) (hh : A.handled = none) (hi : i < n) (hn : n ≤ items.size + 1) (hz : items.size ≤ 16384)
    (h : ∀ (h₂ : Heap) (tk : Nat), (∀ b o, s.heap.get? b = some o → h₂.get? b = some o) →
      Q (items.toList.take i ++ [.ref h₂.objs.size] ++ (items.toList.drop i).drop (items.size + 1 - n)) { s with heap := h₂.push { cls := .type "list", data := .seq ((items.toList.drop i).take (items.size + 1 - n)).toArray }, toks := tk }) :
    wpAny (model prog w) A (unpackItems (.ref l) n (some i)) Q E s := by
  have hlt : l ≠ s.heap.objs.size := by obtain ⟨o, ho, _⟩ := hl; exact Nat.ne_of_lt (Heap.lt_size ho)
  have hll : l < s.heap.objs.size := by obtain ⟨o, ho, _⟩ := hl; exact Heap.lt_size ho
  unfold unpackItems
  refine wpAny_bind ?_
  unfold notIterableAtAll
  refine wpAny_bind (wpAny_specialOf hl.typeIs PySem.F.slot_tuple_iter.lookup ?_)
  refine wpAny_pure ?_
  simp only [Bool.false_eq_true, if_false]
  refine wpAny_bind (wpAny_holding (iter_tuple hl ?_))
  refine wpAny_bind (wpAny_holding (draw_tuple hlt i 0 _ _ ⟨_, Heap.get?_push_size _ rfl, rfl, rfl⟩ (hl.push _) (by omega) fun h₁ hit₁ hs₁ => ?_))
  have hl₁ : IsTup h₁ l items := (hl.push _).extBut hs₁.extBut hlt
  rw [Nat.zero_add] at hit₁
  have hit₁' := hit₁
  obtain ⟨oi, hoi, _⟩ := hit₁'
  have hl₁' := hl₁
  obtain ⟨ol, hol, _⟩ := hl₁'
  rw [List.drop_zero]
  have hfl : (items.toList.take i).length = i := by rw [List.length_take, Array.length_toList]; omega
  rw [if_neg (show ¬ ((items.toList.take i).length < i) by rw [hfl]; omega)]
  refine wpAny_bind (wpAny_holding (PySem.W.kun_collect (s := { s with heap := h₁ }) (T := "tuple_iterator") (.inr (.inr (.inr rfl))) (Walks.tuple (A := A.in1) hh s.heap.objs.size l hlt items) (fun j u st => st.1.typeIs) (k := i) (by omega) ⟨hit₁, hl₁⟩ (Heap.lt_size hoi) (Heap.lt_size hol) (fun h₂ tk hk => ?_) (by rw [sizeLine_eq]; omega)))
  have hrl : (items.toList.drop i).length = items.size - i := by rw [List.length_drop, Array.length_toList]
  have hmid : (items.toList.drop i).length - (n - 1 - i) = items.size + 1 - n := by rw [hrl]; omega
  show wpAny _ _ (if (items.toList.drop i).length < n - 1 - i then _ else _) _ _ _
  rw [if_neg (by rw [hrl]; omega)]
  show wpAny _ _ (newList ((items.toList.drop i).take ((items.toList.drop i).length - (n - 1 - i))) >>= fun d => pure (items.toList.take i ++ [d] ++ (items.toList.drop i).drop ((items.toList.drop i).length - (n - 1 - i)))) _ _ _
  rw [hmid]
  have he : ∀ b o, s.heap.get? b = some o → h₂.get? b = some o := fun b o e => hk b o (Nat.ne_of_lt (Heap.lt_size e)) (hs₁.extBut b o (Nat.ne_of_lt (Heap.lt_size e)) (Heap.get?_push_of_some _ e))
  exact wpAny_bind (wpAny_newList (wpAny_pure (h h₂ tk he)))
section
open L2
variable {X : Cx}
/-- x, *y = a tuple -/
def gStar (K : PySem.W.Frag) (i j : Nat) : TG := fun v σ H Q => ∃ a x0 rest, v = .ref a ∧ SqT K H a (x0 :: rest) ∧ rest.length < 16384 ∧ ∀ D, H D = none → Q ((σ.set i (some x0)).set j (some (.ref D))) (upd H D (.lst rest))
theorem pg_star {i j : Nat} {x y : Str} {px py p2 pos : Pos} {k : Nat} (hc : X.calm = true) (hN : X.N.Nodup) (h1 : X.N[i]? = some x) (h2 : X.N[j]? = some y) (hx : Loc X.env.scope x) (hy : Loc X.env.scope y)
    (hfx : X.fn x = true ∨ X.env.scope.names.lookup x = some .local) (hfy : X.fn y = true ∨ X.env.scope.names.lookup y = some .local) : PG X (.Tuple [.Name x px, .Starred (.Name y py) p2] k pos) (gStar X.K i j) := by
  have hP : PGs X [.Name x px, .Name y py] (gCons (gName i) (gCons (gName j) gNil)) := pgs_cons (pg_name hN h1 hx hfx) (pgs_cons (pg_name hN h2 hy hfy) pgs_nil)
  refine ⟨fun pins s σ H v u Q I r hw => ?_⟩
  obtain ⟨a, x0, rest, e1, hq, hl, hw⟩ := hw
  subst e1
  cases r
  obtain ⟨its, rv, ht, hz⟩ := I.tuple hq
  cases rv with
  | @cons _ u0 _ us r0 rr =>
    have hlen : us.length = rest.length := rr.length.symm
    rw [assign_Tuple]
    refine wpAny_bind (wpAny_standAt ?_)
    unfold unpack
    show wpAny _ _ (holding _ (unpackItems (.ref a) 2 (some 1)) >>= _) _ _ s
    refine wpAny_bind (wpAny_holding (star_un (items := (u0 :: us).toArray) ht (I.ok.hd hc) (by decide) (by simp) (by simp; omega) fun h₂ tk he => ?_))
    have e3 : ((u0 :: us).toArray.toList.drop 1).take ((u0 :: us).toArray.size + 1 - 2) = us := by simp
    have e4 : ((u0 :: us).toArray.toList.drop 1).drop ((u0 :: us).toArray.size + 1 - 2) = [] := by simp
    have e5 : (u0 :: us).toArray.toList.take 1 = [u0] := by simp
    rw [e3, e4, e5]
    have I1 : Inv X pins σ H { s with heap := h₂, toks := tk } := I.kept he
    have hf : H h₂.objs.size = none := I1.hok.fresh (Nat.le_refl _)
    have hz2 : rest.length ≤ sizeLine := by rw [sizeLine_eq]; omega
    have I2 : Inv X pins σ (upd H h₂.objs.size (.lst rest)) { s with heap := h₂.push { cls := .type "list", data := .seq us.toArray }, toks := tk } :=
      Inv.laid (s := { s with heap := h₂, toks := tk }) (t' := tk) I1 (fun b o e => Heap.get?_push_of_some _ e) (Nat.le_refl _) ⟨hz2, us, 0, rr, Heap.get?_push_size _ rfl⟩
    exact hP.run pins _ σ _ [x0, .ref h₂.objs.size] [u0, .ref h₂.objs.size] Q I2 (.cons r0 (.cons rfl .nil)) ⟨_, _, rfl, _, _, rfl, rfl, hw _ hf⟩
end
end Z
namespace Z
open PySem PySem.Spec PyProof.Rows L2
/-! ## statements -/
inductive TX where
  | nm (i : Nat)
  | sub (o i : Ex)
  | tp (ts : List TX)
inductive Sx where
  | set (i : Nat) (e : Ex)
  | asg (t : TX) (e : Ex)
  | par (i j : Nat) (a b : Ex)
  | par3 (i j l : Nat) (a b c : Ex)
  | seta (o : Ex) (f : Str) (e : Ex)
  | star (i j : Nat) (e : Ex)
  | aug (i : Nat) (op : Operator) (e : Ex)
  | expr (e : Ex)
  | ret (e : Ex)
  | retN | pass | brk | cnt
  | iff (c : Tx) (a b : List Sx)
  | whl (c : Tx) (b : List Sx)
  | for_ (tg : Tg) (it : List Ex) (kind : Nat) (b : List Sx)
  | never
  | rse (c : Str) (es : List Ex)
structure Fn where
  ps : List Str
  N : List Str
  body : List Sx
inductive Fl where
  | nx (ρ : Rho) | rt (u : U) | bk (ρ : Rho) | ct (ρ : Rho)
inductive OS where
  | ok (fl : Fl) (G : Gp)
  | exc (c : Str) (fs : List (Str × U)) (ρ : Rho) (G : Gp)
  | stuck
def liftO {α : Type} (m : Out α) (ρ : Rho) (k : α → Gp → OS) : OS := match m with
  | .ok a G => k a G
  | .exc c fs G => .exc c fs ρ G
  | .stuck => .stuck
def OS.seq (o : OS) (k : Rho → Gp → OS) : OS := match o with
  | .ok (.nx ρ) G => k ρ G
  | o => o
def OS.strip (o : OS) : OS := match o with
  | .ok (.nx ρ) G => .ok (.nx ρ) G
  | .exc c fs ρ G => .exc c fs ρ G
  | _ => .stuck
def OS.turn (o : OS) (k : Rho → Gp → OS) : OS := match o with
  | .ok (.nx ρ) G => k ρ G
  | .ok (.ct ρ) G => k ρ G
  | .ok (.bk ρ) G => .ok (.nx ρ) G
  | o => o
def forL (it : ItV) (tg : Tg) (body : Rho → Gp → OS) : Nat → Nat → Rho → Gp → OS
  | 0, _, _, _ => .stuck
  | m + 1, i, ρ, G => match item it i G with
    | none => .stuck
    | some none => .ok (.nx ρ) G
    | some (some u) => match assignU tg u ρ with
      | none => .stuck
      | some ρ1 => (body ρ1 G).turn fun ρ G => forL it tg body m (i + 1) ρ G
def whlL (test : Rho → Gp → Out Bool) (body : Rho → Gp → OS) : Nat → Rho → Gp → OS
  | 0, _, _ => .stuck
  | m + 1, ρ, G => liftO (test ρ G) ρ fun b G => if b = true then (body ρ G).turn fun ρ G => whlL test body m ρ G else .ok (.nx ρ) G
mutual
/-- target = value -/
def asgT (T : Pg) (cf : Cf) : TX → U → Rho → Gp → OS
  | .nm i, u, ρ, G => .ok (.nx (ρ.set i (some u))) G
  | .sub o i, u, ρ, G => liftO (evE T cf o ρ G) ρ fun x G => liftO (evE T cf i ρ G) ρ fun y G => match setItem' x y u G with
    | some G' => .ok (.nx ρ) G'
    | none => .stuck
  | .tp ts, u, ρ, G => match u with
    | .tup us => if us.length = ts.length then asgTs T cf ts us ρ G else .stuck
    | _ => .stuck
def asgTs (T : Pg) (cf : Cf) : List TX → List U → Rho → Gp → OS
  | t :: ts, u :: us, ρ, G => (asgT T cf t u ρ G).seq fun ρ G => asgTs T cf ts us ρ G
  | _, _, ρ, G => .ok (.nx ρ) G
end
/-- what an f-string tells in a bounded text -/
def prI : List U → Bool
  | [.int i] => decide (i.natAbs.log2 < 1920)
  | _ => false
def prU (G : Gp) : U → Bool
  | .str y => decide (y.length ≤ 1000000)
  | .int i => decide (i.natAbs.log2 < 1920)
  | .non => true
  | .bl _ => true
  | .tup us => prI us
  | .fro us => prI us
  | .ref n => match G[n]? with
    | some (.lst us) => prI us
    | _ => false
  | .glb _ => false
mutual
def evS (T : Pg) (cf : Cf) : Sx → Rho → Gp → OS
  | .set i e, ρ, G => liftO (evE T cf e ρ G) ρ fun x G => .ok (.nx (ρ.set i (some x))) G
  | .asg t e, ρ, G => liftO (evE T cf e ρ G) ρ fun x G => (asgT T cf t x ρ G).strip
  | .par i j a b, ρ, G => liftO (evL T cf [a, b] ρ G) ρ fun us G => match us with
    | [x, y] => .ok (.nx ((ρ.set i (some x)).set j (some y))) G
    | _ => .stuck
  | .par3 i j l a b c, ρ, G => liftO (evL T cf [a, b, c] ρ G) ρ fun us G => match us with
    | [x, y, z] => .ok (.nx (((ρ.set i (some x)).set j (some y)).set l (some z))) G
    | _ => .stuck
  | .seta o f e, ρ, G => liftO (evE T cf e ρ G) ρ fun v G => liftO (evE T cf o ρ G) ρ fun x G => match x with
    | .ref n => match G[n]? with
      | some (.ins C fs) => if fs.length < 1000 ∧ T.fld C f = true then .ok (.nx ρ) (G.set n (.ins C (putU f v fs))) else .stuck
      | _ => .stuck
    | _ => .stuck
  | .star i j e, ρ, G => liftO (evE T cf e ρ G) ρ fun x G => match x with
    | .tup (u :: us) => if us.length < 16384 then .ok (.nx ((ρ.set i (some u)).set j (some (.ref G.length)))) (G ++ [.lst us]) else .stuck
    | _ => .stuck
  | .aug i op e, ρ, G => match ρ[i]? with
    | some (some u) => liftO (evE T cf e ρ G) ρ fun y G => match op, u, y with
      | .Add, .int a, .int b => .ok (.nx (ρ.set i (some (.int (a + b))))) G
      | .Sub, .int a, .int b => .ok (.nx (ρ.set i (some (.int (a - b))))) G
      | _, _, _ => .stuck
    | _ => .stuck
  | .expr e, ρ, G => liftO (evE T cf e ρ G) ρ fun _ G => .ok (.nx ρ) G
  | .ret e, ρ, G => liftO (evE T cf e ρ G) ρ fun x G => .ok (.rt x) G
  | .retN, _, G => .ok (.rt .non) G
  | .pass, ρ, G => .ok (.nx ρ) G
  | .brk, ρ, G => .ok (.bk ρ) G
  | .cnt, ρ, G => .ok (.ct ρ) G
  | .iff c a b, ρ, G => liftO (evT T cf c ρ G) ρ fun r G => if r = true then evSs T cf a ρ G else evSs T cf b ρ G
  | .whl c b, ρ, G => whlL (evT T cf c) (evSs T cf b) FU ρ G
  | .for_ tg it kind b, ρ, G => liftO (evI T cf kind it ρ G) ρ fun J G => forL J tg (evSs T cf b) FU 0 ρ G
  | .never, _, _ => .stuck
  | .rse c es, ρ, G => match T.exn c with
    | some (tag, flds) => liftO (evL T cf es ρ G) ρ fun us G => if us.length = flds.length ∧ us.all (prU G) = true then .exc c (flds.zip us ++ [((("tag" : Str), U.str tag) : Str × U)]) ρ G else .stuck
    | none => .stuck
def evSs (T : Pg) (cf : Cf) : List Sx → Rho → Gp → OS
  | [], ρ, G => .ok (.nx ρ) G
  | s :: r, ρ, G => (evS T cf s ρ G).seq fun ρ G => evSs T cf r ρ G
end
def callN (T : Pg) (fns : Str → Option Fn) : Nat → Cf
  | 0, _, _, _ => .stuck
  | k + 1, q, us, G => match fns q with
    | none => .stuck
    | some F => if us.length = F.ps.length then match evSs T (callN T fns k) F.body (startU F.N us) G with
        | .ok (.nx _) G => .ok .non G
        | .ok (.rt u) G => .ok u G
        | .exc c fs _ G => .exc c fs G
        | _ => .stuck
      else .stuck
/-! ## what they promise -/
def endF (Y : Wr) (D : Ends) (fl : Fl) (f : Nat → Addr) (G : Gp) (H : Hp) : Prop := match fl with
  | .nx ρ => ∀ σ, RSt Y H f G.length ρ σ → D.nx σ H
  | .bk ρ => ∀ σ, RSt Y H f G.length ρ σ → D.bk σ H
  | .ct ρ => ∀ σ, RSt Y H f G.length ρ σ → D.ct σ H
  | .rt u => ∀ v, RU Y H f G.length u v → D.rt v H
def RsS (Y : Wr) (W : WX) (out : OS) (H : Hp) (f : Nat → Addr) (n : Nat) (D : Ends) : Prop := match out with
  | .ok fl G' => ∀ f' H', Ext H f n H' f' G'.length → Sim Y H' f' G' → endF Y D fl f' G' H'
  | .exc c fs ρ G' => ∀ f' H' σ' C d ws, Ext H f n H' f' G'.length → Sim Y H' f' G' → RSt Y H' f' G'.length ρ σ' → Y.mg c = some (.ref C) → H' d = some (.xd ws) → RKs Y H' f' G'.length fs ws → W (.ref C) (some d) σ' H'
  | .stuck => False
section
variable {Y : Wr} {W : WX} {H H1 : Hp} {f f1 : Nat → Addr} {n n1 : Nat} {D : Ends}
theorem RsS.ext {out : OS} (e : Ext H f n H1 f1 n1) (h : RsS Y W out H f n D) : RsS Y W out H1 f1 n1 D := by
  cases out with
  | ok a G' => exact fun f' H' e' S => h f' H' (e.trans e') S
  | exc c fs ρ G' => exact fun f' H' σ' C d ws e' S => h f' H' σ' C d ws (e.trans e') S
  | stuck => exact h
theorem RsS.lift {α : Type} {m : Out α} {ρ : Rho} {σ : L2.St} {k : α → Gp → OS} (R : RSt Y H f n ρ σ) (h : RsS Y W (liftO m ρ k) H f n D) : Rs Y W m H f n σ fun a f1 G1 H1 => RsS Y W (k a G1) H1 f1 G1.length D := by
  cases m with
  | ok a G' => exact fun f' H' e S => RsS.ext e h
  | exc c fs G' => exact fun f' H' C d ws e S => h f' H' σ C d ws e S (R.ext e.toEx0)
  | stuck => exact h
theorem RsS.ok {fl : Fl} {G : Gp} (S : Sim Y H f G) (h : RsS Y W (.ok fl G) H f G.length D) : endF Y D fl f G H := h f H Ext.refl S
def tS (Y : Wr) (W : WX) (m : Rho → Gp → OS) : TS := fun D σ H => ∃ f G ρ, Sim Y H f G ∧ RSt Y H f G.length ρ σ ∧ RsS Y W (m ρ G) H f G.length D
theorem tE.goS {m : ME} {g : U → Gp → OS} {σ : L2.St} {G : Gp} {ρ : Rho} {Q : VK} (S : Sim Y H f G) (R : RSt Y H f G.length ρ σ) (h : RsS Y W (liftO (m ρ G) ρ g) H f G.length D)
    (i : ∀ u f1 G1 H1, Ext H f G.length H1 f1 G1.length → Sim Y H1 f1 G1 → RSt Y H1 f1 G1.length ρ σ → RsS Y W (g u G1) H1 f1 G1.length D → ∀ v, RU Y H1 f1 G1.length u v → Q v H1) : tE Y W m σ H Q :=
  ⟨f, G, ρ, S, R, (RsS.lift R h).imp fun u f1 G1 H1 e S1 h1 v r => i u f1 G1 H1 e S1 (R.ext e.toEx0) h1 v r⟩
theorem tT.goS {m : MB} {g : Bool → Gp → OS} {σ : L2.St} {G : Gp} {ρ : Rho} {Q : Bool → Hp → Prop} (S : Sim Y H f G) (R : RSt Y H f G.length ρ σ) (h : RsS Y W (liftO (m ρ G) ρ g) H f G.length D)
    (i : ∀ b f1 G1 H1, Ext H f G.length H1 f1 G1.length → Sim Y H1 f1 G1 → RSt Y H1 f1 G1.length ρ σ → RsS Y W (g b G1) H1 f1 G1.length D → Q b H1) : tT Y W m σ H Q :=
  ⟨f, G, ρ, S, R, (RsS.lift R h).imp fun u f1 G1 H1 e S1 h1 => i u f1 G1 H1 e S1 (R.ext e.toEx0) h1⟩
theorem tL.goS {m : ML} {g : List U → Gp → OS} {σ : L2.St} {G : Gp} {ρ : Rho} {Q : List V → Hp → Prop} (S : Sim Y H f G) (R : RSt Y H f G.length ρ σ) (h : RsS Y W (liftO (m ρ G) ρ g) H f G.length D)
    (i : ∀ u f1 G1 H1, Ext H f G.length H1 f1 G1.length → Sim Y H1 f1 G1 → RSt Y H1 f1 G1.length ρ σ → RsS Y W (g u G1) H1 f1 G1.length D → ∀ v, RUs Y H1 f1 G1.length u v → Q v H1) : tL Y W m σ H Q :=
  ⟨f, G, ρ, S, R, (RsS.lift R h).imp fun u f1 G1 H1 e S1 h1 v r => i u f1 G1 H1 e S1 (R.ext e.toEx0) h1 v r⟩
theorem RsS.seq {o : OS} {k : Rho → Gp → OS} (h : RsS Y W (o.seq k) H f n D) : RsS Y W o H f n { D with nx := fun σ H => tS Y W k D σ H } := by
  cases o with
  | ok fl G =>
    cases fl with
    | nx ρ => exact fun f' H' e S σ R => ⟨f', G, ρ, S, R, RsS.ext e h⟩
    | rt u => exact h
    | bk ρ => exact h
    | ct ρ => exact h
  | exc c fs ρ G => exact h
  | stuck => exact h
theorem RsS.turn {o : OS} {k : Rho → Gp → OS} (h : RsS Y W (o.turn k) H f n D) : RsS Y W o H f n { D with nx := fun σ H => tS Y W k D σ H, ct := fun σ H => tS Y W k D σ H, bk := D.nx } := by
  cases o with
  | ok fl G =>
    cases fl with
    | nx ρ => exact fun f' H' e S σ R => ⟨f', G, ρ, S, R, RsS.ext e h⟩
    | ct ρ => exact fun f' H' e S σ R => ⟨f', G, ρ, S, R, RsS.ext e h⟩
    | rt u => exact h
    | bk ρ => exact h
  | exc c fs ρ G => exact h
  | stuck => exact h
theorem RsS.turnE {o : OS} {k : Rho → Gp → OS} (h : RsS Y W (o.turn k) H f n D) : RsS Y W o H f n { D with
    nx := fun σ H' => ∃ f' G ρ, Ext H f n H' f' G.length ∧ Sim Y H' f' G ∧ RSt Y H' f' G.length ρ σ ∧ RsS Y W (k ρ G) H' f' G.length D,
    ct := fun σ H' => ∃ f' G ρ, Ext H f n H' f' G.length ∧ Sim Y H' f' G ∧ RSt Y H' f' G.length ρ σ ∧ RsS Y W (k ρ G) H' f' G.length D, bk := D.nx } := by
  cases o with
  | ok fl G =>
    cases fl with
    | nx ρ => exact fun f' H' e S σ R => ⟨f', G, ρ, e, S, R, RsS.ext e h⟩
    | ct ρ => exact fun f' H' e S σ R => ⟨f', G, ρ, e, S, R, RsS.ext e h⟩
    | rt u => exact h
    | bk ρ => exact h
  | exc c fs ρ G => exact h
  | stuck => exact h
theorem RsS.impN {o : OS} {D D' : Ends} (h : RsS Y W o H f n D) (h1 : ∀ σ H, D.nx σ H → D'.nx σ H) (h2 : ∀ v H, D.rt v H → D'.rt v H) (h3 : ∀ σ H, D.bk σ H → D'.bk σ H) (h4 : ∀ σ H, D.ct σ H → D'.ct σ H) : RsS Y W o H f n D' := by
  cases o with
  | ok fl G =>
    cases fl with
    | nx ρ => exact fun f' H' e S σ R => h1 _ _ (h f' H' e S σ R)
    | ct ρ => exact fun f' H' e S σ R => h4 _ _ (h f' H' e S σ R)
    | rt u => exact fun f' H' e S v r => h2 _ _ (h f' H' e S v r)
    | bk ρ => exact fun f' H' e S σ R => h3 _ _ (h f' H' e S σ R)
  | exc c fs ρ G => exact h
  | stuck => exact h
end
abbrev yS (X : Cx) (T : Pg) (cf : Cf) (W : WX) (s : Sx) : TS := tS (wr X T.kd) W (evS T cf s)
abbrev ySs (X : Cx) (T : Pg) (cf : Cf) (W : WX) (s : List Sx) : TS := tS (wr X T.kd) W (evSs T cf s)
section
variable {X : Cx} {N : List Str} {sc : Scope} {lv : Nat} {T : Pg} {cf : Cf} {W : WX}
variable {i j : Nat} {x y : Str} {p p2 pos apos : Pos} {kk : Nat} {a b c e : Ex} {o l r tg : PySem.Expr} {es : List Ex} {xs : List PySem.Expr}
theorem q_ret (h : PE X l (yE X T cf W e)) : PS X (.Return (some l) p) (yS X T cf W (.ret e)) := PS.imp (ps_ret h) fun D σ H ⟨f, G, ρ, S, R, h⟩ => by
  simp only [evS] at h
  exact tE.goS S R h fun u f1 G1 H1 e S1 R1 h1 v r1 => RsS.ok S1 h1 v r1
theorem q_retN : PS X (.Return none p) (yS X T cf W .retN) := PS.imp ps_retN fun D σ H ⟨f, G, ρ, S, R, h⟩ => by
  simp only [evS] at h
  exact RsS.ok S h _ (by simp [RU])
theorem q_pass : PS X (.Pass p) (yS X T cf W .pass) := PS.imp ps_pass fun D σ H ⟨f, G, ρ, S, R, h⟩ => by
  simp only [evS] at h
  exact RsS.ok S h σ R
theorem q_brk : PS X (.Break p) (yS X T cf W .brk) := PS.imp ps_break fun D σ H ⟨f, G, ρ, S, R, h⟩ => by
  simp only [evS] at h
  exact RsS.ok S h σ R
theorem q_cnt : PS X (.Continue p) (yS X T cf W .cnt) := PS.imp ps_continue fun D σ H ⟨f, G, ρ, S, R, h⟩ => by
  simp only [evS] at h
  exact RsS.ok S h σ R
def comp? : PySem.Expr → Bool
  | .ListComp _ _ _ _ | .SetComp _ _ _ _ | .DictComp _ _ _ _ _ => true
  | _ => false
theorem sw_plain {e : PySem.Expr} {t : Option PySem.Expr} {n : Nat} {env : Env} (h : comp? e = false) : swapsWith e t n env = pure false := by
  cases e <;> first | (cases t <;> rfl) | cases h
theorem q_expr (h : PE X l (yE X T cf W e)) (hc : comp? l = false) : PS X (.Expr l p) (yS X T cf W (.expr e)) := PS.imp (ps_expr h (sw_plain hc)) fun D σ H ⟨f, G, ρ, S, R, h⟩ => by
  simp only [evS] at h
  exact tE.goS S R h fun u f1 G1 H1 e S1 R1 h1 v r1 => RsS.ok S1 h1 σ R1
theorem q_set (g : Good X N sc lv) (h1 : N[i]? = some x) (h2 : lo? sc x = true) (h : PE X l (yE X T cf W e)) (hc : swapsWith l (some (.Name x p2)) p.line X.env = pure false) : PS X (.Assign [.Name x p2] l p) (yS X T cf W (.set i e)) := by
  obtain ⟨q1, q2⟩ := g.lo h2
  refine PS.imp (ps_set g.hN_nd (by rw [g.hN]; exact h1) q1 h hc q2) fun D σ H ⟨f, G, ρ, S, R, h⟩ => ?_
  simp only [evS] at h
  exact tE.goS S R h fun u f1 G1 H1 e S1 R1 h1 v r1 => RsS.ok S1 h1 _ (R1.set r1)
theorem q_if {t : PySem.Expr} {c : Tx} {xs ys : List Stmt} {as bs : List Sx} (hc : PT X t (yT X T cf W c)) (ha : PSs X xs (ySs X T cf W as)) (hb : PSs X ys (ySs X T cf W bs)) : PS X (.If t xs ys p) (yS X T cf W (.iff c as bs)) := by
  refine PS.imp (ps_if hc ha hb) fun D σ H ⟨f, G, ρ, S, R, h⟩ => ?_
  simp only [evS] at h
  refine tT.goS S R h fun k f1 G1 H1 e S1 R1 h1 => ?_
  cases k with
  | true => exact ⟨f1, G1, ρ, S1, R1, h1⟩
  | false => exact ⟨f1, G1, ρ, S1, R1, h1⟩
theorem q_nil : PSs X [] (ySs X T cf W []) := PSs.imp pss_nil fun D σ H ⟨f, G, ρ, S, R, h⟩ => by
  simp only [evSs] at h
  exact RsS.ok S h σ R
theorem q_cons {s : Sx} {ss : List Sx} {st : Stmt} {sts : List Stmt} (h1 : PS X st (yS X T cf W s)) (h2 : PSs X sts (ySs X T cf W ss)) : PSs X (st :: sts) (ySs X T cf W (s :: ss)) := PSs.imp (pss_cons h1 h2) fun D σ H ⟨f, G, ρ, S, R, h⟩ => by
  simp only [evSs] at h
  exact ⟨f, G, ρ, S, R, RsS.seq h⟩
theorem q_while {t : PySem.Expr} {c : Tx} {xs : List Stmt} {as : List Sx} (hp : PassesOwn (model X.prog X.w) X.A X.env X.xe) (hc : PT X t (yT X T cf W c)) (ha : PSs X xs (ySs X T cf W as)) : PS X (.While t xs [] p) (yS X T cf W (.whl c as)) := by
  refine PS.imp (ps_while hp hc ha) fun D σ H ⟨f, G, ρ, S, R, h⟩ => ?_
  simp only [evS] at h
  refine ⟨fun m σ H => ∃ f G ρ, Sim (wr X T.kd) H f G ∧ RSt (wr X T.kd) H f G.length ρ σ ∧ RsS (wr X T.kd) W (whlL (evT T cf c) (evSs T cf as) m ρ G) H f G.length D, ⟨FU, f, G, ρ, S, R, h⟩, fun m σ H ⟨f, G, ρ, S, R, h⟩ => ?_⟩
  cases m with
  | zero => exact h.elim
  | succ m =>
    simp only [whlL] at h
    refine tT.goS S R h fun k f1 G1 H1 e S1 R1 h1 => ?_
    cases k with
    | false => exact RsS.ok S1 h1 σ R1
    | true => exact ⟨fun σ' H' => ∃ f G ρ, Sim (wr X T.kd) H' f G ∧ RSt (wr X T.kd) H' f G.length ρ σ' ∧ RsS (wr X T.kd) W (whlL (evT T cf c) (evSs T cf as) m ρ G) H' f G.length D, fun σ' H' w => ⟨m, Nat.lt_succ_self m, w⟩, f1, G1, ρ, S1, R1, RsS.turn h1⟩
theorem q_for {t iter : PySem.Expr} {tg : Tg} {it : List Ex} {kind : Nat} {xs : List Stmt} {as : List Sx} (g : Good X N sc lv) (hp : PassesOwn (model X.prog X.w) X.A X.env X.xe) (hi : PI X t iter (tI (wr X T.kd) W (evI T cf kind it))) (hset : set? iter = false) (htg : mTg N sc tg t = true)
    (ha : PSs X xs (ySs X T cf W as)) : PS X (.For t iter xs [] p) (yS X T cf W (.for_ tg it kind as)) := by
  refine PS.imp (ps_for hp g.calm hi (s_tg g htg) ha (fs_plain hset)) fun D σ H ⟨f, G, ρ, S, R, h⟩ => ?_
  simp only [evS] at h
  refine ⟨f, G, ρ, S, R, (RsS.lift R h).imp fun J f1 G1 H1 e1 S1 h1 It hR => ?_⟩
  have R1 := R.ext e1.toEx0
  refine ⟨fun i m σ H => ∃ f G ρ, Sim (wr X T.kd) H f G ∧ ItR (wr X T.kd) J It f G H ∧ RSt (wr X T.kd) H f G.length ρ σ ∧ RsS (wr X T.kd) W (forL J tg (evSs T cf as) m i ρ G) H f G.length D, ⟨FU, f1, G1, ρ, S1, hR, R1, h1⟩, fun i m σ H ⟨f, G, ρ, S, hR, R, h⟩ => ?_⟩
  cases m with
  | zero => exact h.elim
  | succ m =>
    simp only [forL] at h
    cases ei : item J i G with
    | none => rw [ei] at h; exact h.elim
    | some ou =>
      cases ou with
      | none =>
        rw [ei] at h
        exact .inl ⟨(hR f G H Ext.refl S i).2 ei, RsS.ok S h σ R⟩
      | some u =>
        rw [ei] at h
        obtain ⟨g1, g2⟩ := (hR f G H Ext.refl S i).1 u ei
        refine .inr ⟨g1, fun σ' H' => ∃ f G ρ, Sim (wr X T.kd) H' f G ∧ ItR (wr X T.kd) J It f G H' ∧ RSt (wr X T.kd) H' f G.length ρ σ' ∧ RsS (wr X T.kd) W (forL J tg (evSs T cf as) m (i + 1) ρ G) H' f G.length D, fun σ' H' w => ⟨m, Nat.lt_succ_self m, w⟩, fun x H' y => ?_⟩
        obtain ⟨f', E', S', rx⟩ := g2 x H' y
        dsimp only at h
        cases ea : assignU tg u ρ with
        | none => rw [ea] at h; exact h.elim
        | some ρ1 =>
          rw [ea] at h
          have h := RsS.ext E' h
          have hR' := hR.ext E'
          refine assignU_at rfl ea rx (R.ext E'.toEx0) fun σ2 R2 _ => ⟨f', G, ρ1, S', R2, ?_⟩
          have go : ∀ σ' H'', (∃ f'' G'' ρ'', Ext H' f' G.length H'' f'' G''.length ∧ Sim (wr X T.kd) H'' f'' G'' ∧ RSt (wr X T.kd) H'' f'' G''.length ρ'' σ' ∧ RsS (wr X T.kd) W (forL J tg (evSs T cf as) m (i + 1) ρ'' G'') H'' f'' G''.length D) →
              ∃ f G ρ, Sim (wr X T.kd) H'' f G ∧ ItR (wr X T.kd) J It f G H'' ∧ RSt (wr X T.kd) H'' f G.length ρ σ' ∧ RsS (wr X T.kd) W (forL J tg (evSs T cf as) m (i + 1) ρ G) H'' f G.length D :=
            fun σ' H'' ⟨f'', G'', ρ'', e'', S'', R'', h''⟩ => ⟨f'', G'', ρ'', S'', hR'.ext e'', R'', h''⟩
          exact RsS.impN (RsS.turnE h) go (fun _ _ h => h) (fun _ _ h => h) go
end
end Z
namespace Z
open PySem PySem.Spec PyProof.Rows L2
/-! ## the matcher of statements -/
mutual
def mTX (N : List Str) (sc : Scope) : TX → PySem.Expr → Bool
  | .nm i, .Name x _ => N[i]? == some x && lo? sc x
  | .sub o i, .Subscript a b _ => mE N sc o a && mE N sc i b && !slice? b
  | .tp ts, .Tuple es _ _ => mTXs N sc ts es
  | _, _ => false
def mTXs (N : List Str) (sc : Scope) : List TX → List PySem.Expr → Bool
  | [], [] => true
  | t :: ts, e :: es => mTX N sc t e && mTXs N sc ts es
  | _, _ => false
end
def swS (sc : Scope) (ts vs : List PySem.Expr) : Option (Option (List Str)) :=
  if (!(ts.length == 2 || ts.length == 3) || vs.length != ts.length) = true then some none
  else if (vs.any star?) = true then some none
  else
    let line := (ts.head?.map (·.pos.line)).getD 0
    let names := ts.filterMap fun
      | .Name id pos => if (sc.names.lookup id == some .local && pos.line == line) = true then some id else none
      | _ => none
    if (names.length != ts.length || names.eraseDups.length != names.length) = true then some none
    else if (vs.all (foldedForSure 8)) = true then some none
    else if (vs.all (constantsAlone 8)) = true then none
    else some (some names)
def tupV? (sc : Scope) (ts : List PySem.Expr) : PySem.Expr → Bool
  | .Tuple vs _ _ => swS sc ts vs == some none
  | .ListComp _ _ _ _ | .SetComp _ _ _ _ | .DictComp _ _ _ _ _ => false
  | _ => true
def plainV? : PySem.Expr → Bool
  | .Tuple _ _ _ => false
  | _ => true
mutual
def mS (N : List Str) (sc : Scope) : Sx → Stmt → Bool
  | .set i e, .Assign [.Name y _] x _ => N[i]? == some y && lo? sc y && mE N sc e x
  | .asg (.sub o i) e, .Assign [.Subscript a b _] x _ => mTX N sc (.sub o i) (.Subscript a b ⟨0, 0, 0, 0⟩) && mE N sc e x
  | .asg (.tp ts) e, .Assign [.Tuple es _ _] x _ => mTXs N sc ts es && mE N sc e x && tupV? sc es x
  | .par i j a b, .Assign [.Tuple [.Name x px, .Name y py] _ _] (.Tuple [v, w] _ _) _ => N[i]? == some x && N[j]? == some y && decide (i ≠ j) && lo? sc x && lo? sc y && sc.names.lookup x == some .local && sc.names.lookup y == some .local && mL N sc [a, b] [v, w] && swS sc [.Name x px, .Name y py] [v, w] == some (some [x, y])
  | .par3 i j l a b c, .Assign [.Tuple [.Name x px, .Name y py, .Name z pz] _ _] (.Tuple [v, w, u] _ _) _ => N[i]? == some x && N[j]? == some y && N[l]? == some z && decide (i ≠ j) && decide (i ≠ l) && decide (j ≠ l) && sc.names.lookup x == some .local && sc.names.lookup y == some .local && sc.names.lookup z == some .local && mL N sc [a, b, c] [v, w, u] && swS sc [.Name x px, .Name y py, .Name z pz] [v, w, u] == some (some [x, y, z])
  | .star i j e, .Assign [.Tuple [.Name x _, .Starred (.Name y _) _] _ _] v _ => N[i]? == some x && N[j]? == some y && lo? sc x && lo? sc y && mE N sc e v && plainV? v
  | .seta o f e, .Assign [.Attribute ov y _] x _ => y == f && mE N sc o ov && mE N sc e x
  | .aug i op e, .AugAssign (.Name y _) o x _ => N[i]? == some y && lo? sc y && op == o && (op == .Add || op == .Sub) && mE N sc e x
  | .expr e, .Expr x _ => mE N sc e x && !comp? x
  | .ret e, .Return (some x) _ => mE N sc e x
  | .retN, .Return none _ => true
  | .pass, .Pass _ => true
  | .brk, .Break _ => true
  | .cnt, .Continue _ => true
  | .iff c a b, .If t xs ys _ => mT N sc c t && mSs N sc a xs && mSs N sc b ys
  | .whl c b, .While t xs [] _ => mT N sc c t && mSs N sc b xs
  | .for_ tg it kind b, .For t i xs [] _ => mTg N sc tg t && mIt N sc kind it i && tgKind kind tg && mSs N sc b xs
  | .never, _ => true
  | .rse c es, .Raise (some (.Call (.Name x _) xs [] _)) none _ => c == x && gl? sc c && mL N sc es xs
  | _, _ => false
def mSs (N : List Str) (sc : Scope) : List Sx → List Stmt → Bool
  | [], [] => true
  | s :: ss, t :: ts => mS N sc s t && mSs N sc ss ts
  | _, _ => false
end
section
variable {X : Cx} {N : List Str} {sc : Scope} {lv : Nat} {T : Pg} {cf : Cf} {W : WX}
variable {i j : Nat} {x y : Str} {p p2 pos apos : Pos} {kk : Nat} {a b c e : Ex} {o l r tg : PySem.Expr} {es : List Ex} {xs : List PySem.Expr}
/-! ## targets of any form -/
def gX (Y : Wr) (W : WX) (m : U → Rho → Gp → OS) : TG := fun v σ H Q => ∃ f G ρ u, Sim Y H f G ∧ RSt Y H f G.length ρ σ ∧ RU Y H f G.length u v ∧ RsS Y W (m u ρ G) H f G.length ⟨Q, fun _ _ => False, fun _ _ => False, fun _ _ => False⟩
def gXs (Y : Wr) (W : WX) (n : Nat) (m : List U → Rho → Gp → OS) : TGs := fun vs σ H Q => ∃ f G ρ us, Sim Y H f G ∧ RSt Y H f G.length ρ σ ∧ RUs Y H f G.length us vs ∧ us.length = n ∧ RsS Y W (m us ρ G) H f G.length ⟨Q, fun _ _ => False, fun _ _ => False, fun _ _ => False⟩
theorem PG.imp {X : Cx} {e : PySem.Expr} {t t' : TG} (h : PG X e t) (i : ∀ v σ H Q, t' v σ H Q → t v σ H Q) : PG X e t' := ⟨fun p s σ H v u Q I r q => h.run p s σ H v u Q I r (i v σ H Q q)⟩
theorem PGs.imp {X : Cx} {e : List PySem.Expr} {t t' : TGs} (h : PGs X e t) (i : ∀ v σ H Q, t' v σ H Q → t v σ H Q) : PGs X e t' := ⟨fun p s σ H v u Q I r q => h.run p s σ H v u Q I r (i v σ H Q q)⟩
def sI (Y : Wr) : TSet := fun o i v H Q => ∃ f G x y u G', Sim Y H f G ∧ RU Y H f G.length x o ∧ RU Y H f G.length y i ∧ RU Y H f G.length u v ∧ setItem' x y u G = some G' ∧ ∀ f' H', Ext H f G.length H' f' G'.length → Sim Y H' f' G' → Q H'
theorem RKs.any {Y : Wr} {H f n} {k : Key} {us : List (Key × U)} {vs : List (Key × V)} (h : RKs Y H f n us vs) : us.any (fun kv => decide (kv.1 = k)) = vs.any (fun kv => decide (kv.1 = k)) := by
  induction h with
  | nil => rfl
  | cons a _ ih => simp only [List.any_cons, a.1, ih]
theorem RKs.mapK {Y : Wr} {H f n} {k : Key} {u : U} {v : V} (r : RU Y H f n u v) {us : List (Key × U)} {vs : List (Key × V)} (h : RKs Y H f n us vs) : RKs Y H f n (us.map fun kv => if kv.1 = k then (kv.1, u) else kv) (vs.map fun kv => if kv.1 = k then (kv.1, v) else kv) := by
  induction h with
  | nil => exact .nil
  | @cons p q _ _ a _ ih =>
    refine .cons ?_ ih
    obtain ⟨e1, e2⟩ := a
    dsimp only
    by_cases e : q.1 = k
    · rw [if_pos (e1.trans e), if_pos e]; exact ⟨e1, r⟩
    · rw [if_neg (fun z => e (e1.symm.trans z)), if_neg e]; exact ⟨e1, e2⟩
theorem RKs.append {Y : Wr} {H f n} {us us' : List (Key × U)} {vs vs' : List (Key × V)} (h : RKs Y H f n us vs) (h' : RKs Y H f n us' vs') : RKs Y H f n (us ++ us') (vs ++ vs') := by
  induction h with
  | nil => exact h'
  | cons a _ ih => exact .cons a ih
theorem RKs.put {Y : Wr} {H f n} {k : Key} {u : U} {v : V} (r : RU Y H f n u v) {us : List (Key × U)} {vs : List (Key × V)} (h : RKs Y H f n us vs) :
    RKs Y H f n (if us.any (fun kv => decide (kv.1 = k)) then us.map fun kv => if kv.1 = k then (kv.1, u) else kv else us ++ [(k, u)]) (putK vs k v) := by
  unfold putK
  rw [RKs.any h]
  by_cases e : (vs.any fun kv => decide (kv.1 = k)) = true
  · rw [if_pos e, if_pos e]; exact RKs.mapK r h
  · rw [if_neg e, if_neg e]; exact RKs.append h (.cons ⟨rfl, r⟩ .nil)
theorem pset_I (hu : X.A.units + 1 < cLine) : PSet X (sI (wr X T.kd)) := by
  intro pins s σ H o i v ov iv uv Q I ro ri rv ⟨f, G, x, y, u, G', S, rx, ry, ru, e, k⟩
  cases x with
  | ref n =>
    cases q : G[n]? with
    | none => simp [setItem', q] at e
    | some go =>
      cases go with
      | lst us =>
        obtain ⟨ws, rfl, h1, h2⟩ := lst_at S q rx
        simp only [setItem', q] at e
        split at e
        · rename_i kk
          simp only [RU] at ry
          subst ry
          cases ej : ixN us.length kk with
          | none => rw [ej] at e; cases e
          | some j =>
            rw [ej] at e
            cases e
            obtain ⟨S', E⟩ := set_lst S (lt_of_get q) (h2.set j ru)
            exact set_list pins s σ H _ _ v ov iv uv Q I ro ri rv ⟨f n, ws, kk, j, rfl, rfl, h1, by rw [← h2.len]; exact ej, k _ _ E S'⟩
        · cases e
      | dK kvs =>
        obtain ⟨ws, rfl, h1, h2⟩ := dK_at S q rx
        simp only [setItem', q] at e
        split at e
        · rename_i hl
          cases ek : keyOf y with
          | none => rw [ek] at e; cases e
          | some key =>
            rw [ek] at e
            cases e
            have hy := keyOf_at ry ek
            subst hy
            obtain ⟨S', E⟩ := S.write (g := .dK _) (lt_of_get q) fun H' e' hq => ⟨_, hq, RKs.ext e' (RKs.put (k := key) ru h2)⟩
            have hl' : ws.length = kvs.length := (Paired.length h2).symm
            exact set_dict hu pins s σ H _ _ v ov iv uv Q I ro ri rv ⟨f n, _, rfl, DPut.k h1 (by rw [hl']; exact hl), k _ _ E S'⟩
        · cases e
      | ins _ _ => simp [setItem', q] at e
  | _ => simp [setItem'] at e
theorem g_nm (g : Good X N sc lv) (h1 : N[i]? = some x) (h2 : lo? sc x = true) : PG X (.Name x p) (gX (wr X T.kd) W (asgT T cf (.nm i))) := by
  obtain ⟨q1, q2⟩ := g.lo h2
  refine PG.imp (pg_name g.hN_nd (by rw [g.hN]; exact h1) q1 q2) fun v σ H Q ⟨f, G, ρ, u, S, R, r, h⟩ => ?_
  simp only [asgT] at h
  exact RsS.ok S h _ (R.set r)
theorem g_sub (g : Good X N sc lv) (ha : PE X l (yE X T cf W a)) (hb : PE X r (yE X T cf W b)) (hs : slice? r = false) : PG X (.Subscript l r p) (gX (wr X T.kd) W (asgT T cf (.sub a b))) := by
  refine PG.imp (pg_sub ha hb (pset_I (T := T) (by have := g.hu; omega)) (by intro v; cases r <;> first | rfl | cases hs)) fun v σ H Q ⟨f, G, ρ, u, S, R, ru, h⟩ => ?_
  simp only [asgT] at h
  refine tE.goS S R h fun x f1 G1 H1 e1 S1 R1 h1 w r1 => tE.goS S1 R1 h1 fun y f2 G2 H2 e2 S2 R2 h2 w2 r2 => ?_
  cases es : setItem' x y u G2 with
  | none => rw [es] at h2; exact h2.elim
  | some G' =>
    rw [es] at h2
    exact ⟨f2, G2, x, y, u, G', S2, r1.ext e2.toEx0, r2, (ru.ext e1.toEx0).ext e2.toEx0, es, fun f' H' e' S' => h2 f' H' e' S' σ (R2.ext e'.toEx0)⟩
theorem g_nil : PGs X [] (gXs (wr X T.kd) W 0 (asgTs T cf [])) := PGs.imp pgs_nil fun vs σ H Q ⟨f, G, ρ, us, S, R, r, hl, h⟩ => by
  cases us with
  | nil =>
    simp only [asgTs] at h
    exact ⟨by simpa [RUs] using r, RsS.ok S h σ R⟩
  | cons _ _ => simp at hl
theorem g_cons {t : TX} {ts : List TX} (h1 : PG X l (gX (wr X T.kd) W (asgT T cf t))) (h2 : PGs X xs (gXs (wr X T.kd) W ts.length (asgTs T cf ts))) (hs : star? l = false) : PGs X (l :: xs) (gXs (wr X T.kd) W (t :: ts).length (asgTs T cf (t :: ts))) := by
  refine PGs.imp (pgs_cons h1 h2 (by cases l <;> first | rfl | cases hs)) fun vs σ H Q ⟨f, G, ρ, us, S, R, r, hl, h⟩ => ?_
  cases us with
  | nil => simp at hl
  | cons u us =>
    simp only [asgTs] at h
    simp only [RUs] at r
    obtain ⟨v, ws, rfl, r1, r2⟩ := r
    refine ⟨v, ws, rfl, f, G, ρ, u, S, R, r1, ?_⟩
    have hl : us.length = ts.length := by simpa using hl
    have h3 := h
    revert h3
    cases eo : asgT T cf t u ρ G with
    | stuck => intro h3; rw [eo] at h; exact h.elim
    | exc c fs ρ1 G1 => intro h3; rw [eo] at h; exact h
    | ok fl G1 =>
      intro _
      rw [eo] at h
      cases fl with
      | nx ρ1 => exact fun f' H' e' S' σ' R' => ⟨f', G1, ρ1, us, S', R', r2.ext e'.toEx0, hl, RsS.ext e' h⟩
      | rt z => exact fun f' H' e' S' v r => h f' H' e' S' v r
      | bk z => exact fun f' H' e' S' v r => h f' H' e' S' v r
      | ct z => exact fun f' H' e' S' v r => h f' H' e' S' v r
theorem g_tp {ts : List TX} (g : Good X N sc lv) (h : PGs X xs (gXs (wr X T.kd) W ts.length (asgTs T cf ts))) (hn : (assignEach xs X.env).length = ts.length) (hst : (assignEach xs X.env).findIdx? (·.1) = none) : PG X (.Tuple xs kk p) (gX (wr X T.kd) W (asgT T cf (.tp ts))) := by
  refine PG.imp (pg_tup g.calm h hn hst) fun v σ H Q ⟨f, G, ρ, u, S, R, r, h⟩ => ?_
  cases u with
  | tup us =>
    simp only [asgT] at h
    split at h
    · rename_i hl
      obtain ⟨a, ys, rfl, h1, h2⟩ := tup_at r
      exact ⟨a, ys, rfl, h1, by rw [← h2.len]; exact hl, f, G, ρ, us, S, R, h2, hl, h⟩
    · exact h.elim
  | _ => simp only [asgT] at h; exact h.elim
theorem mTX_star {t : TX} (h : mTX N sc t l = true) : star? l = false := by
  cases l <;> first | rfl | skip
  unfold mTX at h
  split at h
  all_goals first | contradiction | (rename_i q; cases q; done)
mutual
theorem sTX (g : Good X N sc lv) (F : Wf (gr X) T cf lv) (tk : Takes X W) (t : TX) : ∀ {e : PySem.Expr}, mTX N sc t e = true → PG X e (gX (wr X T.kd) W (asgT T cf t)) := by
  intro e h
  cases t with
  | nm i =>
    unfold mTX at h
    split at h
    all_goals first | contradiction | (rename_i q; cases q; done) | skip
    · rename_i q; cases q
      simp only [Bool.and_eq_true, beq_iff_eq] at h
      exact g_nm g h.1 h.2
  | sub o i =>
    unfold mTX at h
    split at h
    all_goals first | contradiction | (rename_i q; cases q; done) | skip
    · rename_i q; cases q
      simp only [Bool.and_eq_true, Bool.not_eq_true'] at h
      exact g_sub g (sE o g F tk h.1.1) (sE i g F tk h.1.2) h.2
  | tp ts =>
    unfold mTX at h
    split at h
    all_goals first | contradiction | (rename_i q; cases q; done) | skip
    · rename_i q; cases q
      obtain ⟨i1, i2, i3⟩ := sTXs g F tk ts h
      exact g_tp g i1 i2 i3
theorem sTXs (g : Good X N sc lv) (F : Wf (gr X) T cf lv) (tk : Takes X W) (ts : List TX) : ∀ {es : List PySem.Expr}, mTXs N sc ts es = true → PGs X es (gXs (wr X T.kd) W ts.length (asgTs T cf ts)) ∧ (assignEach es X.env).length = ts.length ∧ (assignEach es X.env).findIdx? (·.1) = none := by
  intro es h
  cases ts with
  | nil =>
    cases es with
    | nil => exact ⟨g_nil, rfl, rfl⟩
    | cons _ _ => simp [mTXs] at h
  | cons t ts =>
    cases es with
    | nil => simp [mTXs] at h
    | cons e es =>
      simp only [mTXs, Bool.and_eq_true] at h
      obtain ⟨i1, i2, i3⟩ := sTXs g F tk ts h.2
      have hs := mTX_star h.1
      refine ⟨g_cons (sTX g F tk t h.1) i1 hs, ?_, ?_⟩
      · have : (assignEach (e :: es) X.env).length = (assignEach es X.env).length + 1 := by cases e <;> first | rfl | cases hs
        rw [this, i2]; rfl
      · have : ∃ z, assignEach (e :: es) X.env = (false, z) :: assignEach es X.env := by cases e <;> first | exact ⟨_, rfl⟩ | cases hs
        obtain ⟨z, hz⟩ := this
        rw [hz, List.findIdx?_cons, i3]; rfl
end
/-! ## assignments -/
theorem RsS.strip {Y : Wr} {H : Hp} {f : Nat → Addr} {n : Nat} {D : Ends} {o : OS} (h : RsS Y W o.strip H f n D) : RsS Y W o H f n ⟨D.nx, fun _ _ => False, fun _ _ => False, fun _ _ => False⟩ := by
  cases o with
  | ok fl G =>
    cases fl with
    | nx ρ => exact h
    | rt u => exact h.elim
    | bk ρ => exact h.elim
    | ct ρ => exact h.elim
  | exc c fs ρ G => exact h
  | stuck => exact h
theorem q_asg {t : TX} (hg : PG X tg (gX (wr X T.kd) W (asgT T cf t))) (he : PE X l (yE X T cf W e)) (hs : swapsWithSole [tg] l p.line X.env = pure false) (hw : swappedStores [tg] l X.env = pure none) (h1 : (assignEach [tg] X.env).map (·.2) = [assign tg X.env]) :
    PS X (.Assign [tg] l p) (yS X T cf W (.asg t e)) := by
  refine PS.imp (ps_asg he hg hs hw h1) fun D σ H ⟨f, G, ρ, S, R, h⟩ => ?_
  simp only [evS] at h
  refine tE.goS S R h fun u f1 G1 H1 e1 S1 R1 h1 v r1 => ⟨f1, G1, ρ, u, S1, R1, r1, RsS.strip h1⟩
theorem q_par {px py pt : Pos} {kt k2 : Nat} {pt2 : Pos} {v w : PySem.Expr} (g : Good X N sc lv) (h1 : N[i]? = some x) (h2 : N[j]? = some y) (hij : i ≠ j) (hx : X.env.scope.names.lookup x = some .local) (hy : X.env.scope.names.lookup y = some .local)
    (ha : PA X [v, w] (yL X T cf W [a, b])) (hw : swappedStores [.Tuple [.Name x px, .Name y py] kt pt] (.Tuple [v, w] k2 pt2) X.env = pure (some [x, y])) :
    PS X (.Assign [.Tuple [.Name x px, .Name y py] kt pt] (.Tuple [v, w] k2 pt2) p) (yS X T cf W (.par i j a b)) := by
  refine PS.imp (ps_par g.calm g.hN_nd (by rw [g.hN]; exact h1) (by rw [g.hN]; exact h2) hij hx hy ha hw) fun D σ H ⟨f, G, ρ, S, R, h⟩ => ?_
  simp only [evS] at h
  refine tL.goS (m := evL T cf [a, b]) S R h fun us f1 G1 H1 e1 S1 R1 h1 vs r1 => ?_
  split at h1
  · obtain ⟨v, w, rfl, rv, rw'⟩ := r1.two
    exact ⟨v, w, rfl, RsS.ok S1 h1 _ ((R1.set rv).set rw')⟩
  · exact h1.elim
theorem RUs.three {Y : Wr} {H f n} {u w z : U} {vs : List V} (h : RUs Y H f n [u, w, z] vs) : ∃ a b c, vs = [a, b, c] ∧ RU Y H f n u a ∧ RU Y H f n w b ∧ RU Y H f n z c := by
  simp only [RUs] at h
  obtain ⟨a, _, rfl, h1, b, _, rfl, h2, c, _, rfl, h3, rfl⟩ := h
  exact ⟨a, b, c, rfl, h1, h2, h3⟩
theorem q_par3 {k : Nat} {z : Str} {px py pz pt : Pos} {kt k2 : Nat} {pt2 : Pos} {v w u : PySem.Expr} (g : Good X N sc lv) (h1 : N[i]? = some x) (h2 : N[j]? = some y) (h3 : N[k]? = some z) (hij : i ≠ j) (hik : i ≠ k) (hjk : j ≠ k)
    (hx : X.env.scope.names.lookup x = some .local) (hy : X.env.scope.names.lookup y = some .local) (hz : X.env.scope.names.lookup z = some .local)
    (ha : PA X [v, w, u] (yL X T cf W [a, b, c])) (hw : swappedStores [.Tuple [.Name x px, .Name y py, .Name z pz] kt pt] (.Tuple [v, w, u] k2 pt2) X.env = pure (some [x, y, z])) :
    PS X (.Assign [.Tuple [.Name x px, .Name y py, .Name z pz] kt pt] (.Tuple [v, w, u] k2 pt2) p) (yS X T cf W (.par3 i j k a b c)) := by
  refine PS.imp (ps_par3 g.calm g.hN_nd (by rw [g.hN]; exact h1) (by rw [g.hN]; exact h2) (by rw [g.hN]; exact h3) hij hik hjk hx hy hz ha hw) fun D σ H ⟨f, G, ρ, S, R, h⟩ => ?_
  simp only [evS] at h
  refine tL.goS (m := evL T cf [a, b, c]) S R h fun us f1 G1 H1 e1 S1 R1 h1 vs r1 => ?_
  split at h1
  · obtain ⟨v, w, z, rfl, rv, rw', rz⟩ := r1.three
    exact ⟨v, w, z, rfl, RsS.ok S1 h1 _ (((R1.set rv).set rw').set rz)⟩
  · exact h1.elim
theorem RKs.putF {Y : Wr} {H f n} {k : Str} {u : U} {v : V} (r : RU Y H f n u v) : ∀ {us : List (Str × U)} {vs : List (Str × V)}, RKs Y H f n us vs → RKs Y H f n (putU k u us) (L2.putF k v vs)
  | [], _, .nil => .cons ⟨rfl, r⟩ .nil
  | (a, w) :: us, _, .cons (b := (b, z)) h t => by
    have e : a = b := h.1
    subst e
    unfold putU L2.putF
    by_cases ea : a = k
    · rw [if_pos ea, if_pos ea]; exact .cons ⟨rfl, r⟩ t
    · rw [if_neg ea, if_neg ea]; exact .cons h (RKs.putF r t)
theorem q_seta {m : Str} {pa : Pos} (g : Good X N sc lv) (F : Wf (gr X) T cf lv) (ho : PE X o (yE X T cf W a)) (he : PE X l (yE X T cf W e)) : PS X (.Assign [.Attribute o m pa] l p) (yS X T cf W (.seta a m e)) := by
  have hs : swapsWith l (some (.Attribute o m pa)) p.line X.env = pure false := by cases l <;> rfl
  refine PS.imp (ps_fld ho he hs) fun D σ H ⟨f, G, ρ, S, R, h⟩ => ?_
  simp only [evS] at h
  refine tE.goS S R h fun u f1 G1 H1 e1 S1 R1 h1 v r1 => tE.goS S1 R1 h1 fun x f2 G2 H2 e2 S2 R2 h2 w r2 => ?_
  cases x with
  | ref n =>
    cases q : G2[n]? with
    | none => simp only [q] at h2; exact h2.elim
    | some go =>
      simp only [q] at h2
      cases go with
      | ins C fs =>
        dsimp only at h2
        split at h2
        · rename_i hc
          obtain ⟨A, dx, ws, rfl, h0, h3, h4⟩ := ins_at S2 q r2
          obtain ⟨A', O, NA⟩ := F.fld C m hc.2
          have := mg_eq h0 O
          subst this
          refine ⟨f2 n, A, dx, ws, rfl, h3, O.cl, NA, by rw [← Paired.length h4]; exact hc.1, ?_⟩
          have ru := r1.ext e2.toEx0
          obtain ⟨S', E⟩ := S2.write (g := .ins C (putU m u fs)) (lt_of_get q) fun H' e' hq => ⟨A, dx, _, h0, hq, RKs.ext e' (RKs.putF ru h4)⟩
          exact h2 _ _ E S' σ (R2.ext E.toEx0)
        · exact h2.elim
      | lst _ => exact h2.elim
      | dK _ => exact h2.elim
  | _ => exact h2.elim
theorem q_aug {op : Operator} (g : Good X N sc lv) (h1 : N[i]? = some x) (h2 : lo? sc x = true) (he : PE X l (yE X T cf W e)) (hop : op = .Add ∨ op = .Sub) : PS X (.AugAssign (.Name x p2) op l p) (yS X T cf W (.aug i op e)) := by
  obtain ⟨q1, q2⟩ := g.lo h2
  have hN : X.N[i]? = some x := by rw [g.hN]; exact h1
  rcases hop with rfl | rfl
  · refine PS.imp (ps_aug g.hN_nd hN q1 he ip_add q2) fun D σ H ⟨f, G, ρ, S, R, h⟩ => ?_
    simp only [evS] at h
    cases eq : ρ[i]? with
    | none => rw [eq] at h; exact h.elim
    | some ou =>
      cases ou with
      | none => rw [eq] at h; exact h.elim
      | some u =>
        rw [eq] at h
        obtain ⟨v, e1, r1⟩ := R.2 i u eq
        refine ⟨v, e1, tE.goS S R h fun y f1 G1 H1 E1 S1 R1 h1 w r2 => ?_⟩
        cases u <;> cases y <;> first | exact h1.elim | skip
        simp only [RU] at r1 r2
        subst r1 r2
        exact ⟨_, _, rfl, rfl, RsS.ok S1 h1 _ (R1.set (by simp [RU]))⟩
  · refine PS.imp (ps_aug g.hN_nd hN q1 he ip_sub q2) fun D σ H ⟨f, G, ρ, S, R, h⟩ => ?_
    simp only [evS] at h
    cases eq : ρ[i]? with
    | none => rw [eq] at h; exact h.elim
    | some ou =>
      cases ou with
      | none => rw [eq] at h; exact h.elim
      | some u =>
        rw [eq] at h
        obtain ⟨v, e1, r1⟩ := R.2 i u eq
        refine ⟨v, e1, tE.goS S R h fun y f1 G1 H1 E1 S1 R1 h1 w r2 => ?_⟩
        cases u <;> cases y <;> first | exact h1.elim | skip
        simp only [RU] at r1 r2
        subst r1 r2
        exact ⟨_, _, rfl, rfl, RsS.ok S1 h1 _ (R1.set (by simp [RU]))⟩
theorem q_star {px py p3 pt : Pos} (g : Good X N sc lv) (h1 : N[i]? = some x) (h2 : N[j]? = some y) (hx : lo? sc x = true) (hy : lo? sc y = true) (he : PE X l (yE X T cf W e)) (hp : plainV? l = true) :
    PS X (.Assign [.Tuple [.Name x px, .Starred (.Name y py) p3] kk pt] l p) (yS X T cf W (.star i j e)) := by
  obtain ⟨q1, q2⟩ := g.lo hx
  obtain ⟨q3, q4⟩ := g.lo hy
  refine PS.imp (ps_asg he (pg_star (i := i) (j := j) g.calm g.hN_nd (by rw [g.hN]; exact h1) (by rw [g.hN]; exact h2) q1 q3 q2 q4) (by unfold swapsWithSole; cases l <;> rfl) (by cases l <;> first | rfl | cases hp) rfl) fun D σ H ⟨f, G, ρ, S, R, h⟩ => ?_
  simp only [evS] at h
  refine tE.goS S R h fun u f1 G1 H1 e1 S1 R1 h1 v r1 => ?_
  cases u with
  | tup us =>
    cases us with
    | nil => exact h1.elim
    | cons u us =>
      dsimp only at h1
      split at h1
      · rename_i hl
        obtain ⟨a, ys, rfl, z1, z2⟩ := tup_at r1
        simp only [RUs] at z2
        obtain ⟨v0, vr, rfl, z3, z4⟩ := z2
        refine ⟨a, v0, vr, rfl, z1, by rw [← z4.len]; exact hl, fun D' hD => ?_⟩
        have e0 : Ex0 H1 f1 G1.length (upd H1 D' (.lst vr)) (fx f1 G1.length D') (G1.length + 1) := by have := (ext_take (g := GO.lst us) (u := .lst vr) S1 hD).toEx0; rwa [List.length_append] at this
        obtain ⟨S2, E2⟩ := S1.alloc (o := .lst vr) (g := .lst us) hD ⟨vr, upd_same, z4.ext e0⟩
        refine h1 _ _ E2 S2 _ (((R1.ext E2.toEx0).set (z3.ext E2.toEx0)).set ?_)
        simp only [RU]
        exact ⟨by rw [List.length_append]; exact Nat.lt_succ_self _, by rw [fx_at]⟩
      · exact h1.elim
  | _ => exact h1.elim
/-! ## the order of stores -/
theorem fmc {α β : Type} {f g : α → Option β} : ∀ {l : List α}, (∀ a ∈ l, f a = g a) → l.filterMap f = l.filterMap g
  | [], _ => rfl
  | a :: l, h => by
    simp only [List.filterMap_cons]
    rw [h a List.mem_cons_self, fmc fun b hb => h b (List.mem_cons_of_mem _ hb)]
def nmF (kf : Str → Bool) (line : Nat) : PySem.Expr → Option Str
  | .Name id pos => if (kf id && pos.line == line) = true then some id else none
  | _ => none
def swG (kf : Str → Bool) (ts vs : List PySem.Expr) : Sem (Option (List Str)) :=
  if (!(ts.length == 2 || ts.length == 3) || vs.length != ts.length) = true then pure none
  else if (vs.any star?) = true then pure none
  else
    let line := (ts.head?.map (·.pos.line)).getD 0
    let names := ts.filterMap (nmF kf line)
    if (names.length != ts.length || names.eraseDups.length != names.length) = true then pure none
    else if (vs.all (foldedForSure 8)) = true then pure none
    else if (vs.all (constantsAlone 8)) = true then do
      unsupported "assign.tuple-of-constant-expressions:order-of-the-stores"
      pure (some names)
    else pure (some names)
theorem swG_eq {ts vs : List PySem.Expr} {kt k2 : Nat} {pt pt2 : Pos} {env : Env} (hb : env.blockKind = .function) : swappedStores [.Tuple ts kt pt] (.Tuple vs k2 pt2) env = swG (fun id => env.kindOf id == some .local) ts vs := by
  unfold swappedStores
  simp only [hb]
  have : (!(ts.length == 2 || ts.length == 3) || vs.length != ts.length || ScopeKind.function != .function) = (!(ts.length == 2 || ts.length == 3) || vs.length != ts.length) := by
    rw [show (ScopeKind.function != ScopeKind.function) = false from rfl, Bool.or_false]
  simp only [this]
  rfl
theorem sw_ok {ts vs : List PySem.Expr} {kt k2 : Nat} {pt pt2 : Pos} {r : Option (List Str)} (g : Good X N sc lv) (hl : ∀ id q, PySem.Expr.Name id q ∈ ts → lo? sc id = true) (h : swS sc ts vs = some r) : swappedStores [.Tuple ts kt pt] (.Tuple vs k2 pt2) X.env = pure r := by
  have hb : X.env.blockKind = .function := by unfold Env.blockKind; rw [g.kind]; rfl
  have hk : ∀ id q, PySem.Expr.Name id q ∈ ts → (X.env.kindOf id == some .local) = (sc.names.lookup id == some .local) := fun id q hm => by
    have h1 := hl id q hm
    unfold lo? at h1
    split at h1
    · rename_i e
      rcases g.rel id _ e with z | ⟨z, _⟩
      · rw [e]; show (X.env.scope.names.lookup id == some .local) = _; rw [z]
      · cases z
    · rename_i e
      rcases g.rel id _ e with z | ⟨z, _⟩
      · rw [e]; show (X.env.scope.names.lookup id == some .local) = _; rw [z]
      · cases z
    · cases h1
  have hf : ∀ line : Nat, ts.filterMap (nmF (fun id => X.env.kindOf id == some .local) line) = ts.filterMap (nmF (fun id => sc.names.lookup id == some .local) line) := fun line => by
    refine fmc fun e he => ?_
    cases e <;> first | rfl | skip
    rename_i id q
    simp only [nmF, hk id q he]
  have h : (if (!(ts.length == 2 || ts.length == 3) || vs.length != ts.length) = true then some none
  else if (vs.any star?) = true then some none
  else
    let names := ts.filterMap (nmF (fun id => sc.names.lookup id == some .local) ((ts.head?.map (·.pos.line)).getD 0))
    if (names.length != ts.length || names.eraseDups.length != names.length) = true then some none
    else if (vs.all (foldedForSure 8)) = true then some none
    else if (vs.all (constantsAlone 8)) = true then none
    else some (some names)) = some r := h
  rw [swG_eq hb]
  unfold swG
  dsimp only at h ⊢
  rw [hf]
  by_cases h1 : (!(ts.length == 2 || ts.length == 3) || vs.length != ts.length) = true
  · rw [if_pos h1] at h ⊢; cases h; rfl
  rw [if_neg h1] at h ⊢
  by_cases h2 : (vs.any star?) = true
  · rw [if_pos h2] at h ⊢; cases h; rfl
  rw [if_neg h2] at h ⊢
  split at h
  · rename_i h3; rw [if_pos h3]; cases h; rfl
  · rename_i h3
    rw [if_neg h3]
    split at h
    · rename_i h4; rw [if_pos h4]; cases h; rfl
    · rename_i h4
      rw [if_neg h4]
      split at h
      · cases h
      · rename_i h5; rw [if_neg h5]; cases h; rfl
end
section
variable {X : Cx} {N : List Str} {sc : Scope} {lv : Nat} {T : Pg} {cf : Cf} {W : WX} {x : Str} {p p2 pos : Pos} {es : List Ex} {xs : List PySem.Expr}
theorem Ext.xd {H : Hp} {f : Nat → Addr} {n : Nat} {d : Addr} {o : HO} (hd : H d = none) : Ext H f n (upd H d o) f n :=
  ⟨⟨Nat.le_refl _, fun _ _ => rfl, fun a xs h => by rw [upd_ne (ne_of_none h hd)]; exact h, fun a b u h => by rw [upd_ne (ne_of_none h hd)]; exact h⟩, fun a u h _ k => ⟨by rw [upd_ne (ne_of_none h hd)]; exact h, k⟩⟩
theorem RUs.lenE {Y : Wr} {H : Hp} {f : Nat → Addr} {n : Nat} : ∀ {us : List U} {vs : List V}, RUs Y H f n us vs → us.length = vs.length
  | [], vs, h => by simp only [RUs] at h; rw [h]; rfl
  | u :: us, vs, h => by
    simp only [RUs] at h
    obtain ⟨y, r, rfl, _, h2⟩ := h
    rw [List.length_cons, List.length_cons, RUs.lenE h2]
theorem prI_V {Y : Wr} {H : Hp} {f : Nat → Addr} {n : Nat} {us : List U} {vs : List V} (r : RUs Y H f n us vs) (h : prI us = true) : ∃ i : Int, i.natAbs.log2 < 1920 ∧ vs = [.int i] := by
  unfold prI at h
  split at h
  · rename_i i
    simp only [RUs, RU] at r
    obtain ⟨y, w, rfl, rfl, rfl⟩ := r
    exact ⟨i, of_decide_eq_true h, rfl⟩
  · cases h
theorem prU_V {Y : Wr} {H : Hp} {f : Nat → Addr} {G : Gp} {u : U} {v : V} (S : Sim Y H f G) (r : RU Y H f G.length u v) (h : prU G u = true) : PrV Y.K H v := by
  cases u with
  | non => simp only [RU] at r; rw [r]; trivial
  | bl b => simp only [RU] at r; rw [r]; trivial
  | int i =>
    simp only [RU] at r
    rw [r]
    have h' : decide (i.natAbs.log2 < 1920) = true := h
    exact (of_decide_eq_true h' : i.natAbs.log2 < 1920)
  | str y =>
    simp only [RU] at r
    rw [r]
    have h' : decide (y.length ≤ 1000000) = true := h
    exact (of_decide_eq_true h' : y.length ≤ 1000000)
  | tup us =>
    simp only [RU] at r
    obtain ⟨a, ys, rfl, hs, hr⟩ := r
    obtain ⟨i, hi, rfl⟩ := prI_V hr h
    exact ⟨i, hi, .inr hs⟩
  | fro us =>
    simp only [RU] at r
    obtain ⟨a, ys, rfl, hs, hr⟩ := r
    obtain ⟨i, hi, rfl⟩ := prI_V hr h
    exact ⟨i, hi, .inl hs.sq⟩
  | ref m =>
    simp only [RU] at r
    obtain ⟨hm, rfl⟩ := r
    simp only [prU] at h
    split at h
    · rename_i us e
      obtain ⟨ys, h1, h2⟩ := S.ob m _ e
      obtain ⟨i, hi, rfl⟩ := prI_V h2 h
      exact ⟨i, hi, .inl (.inl (.inl h1))⟩
    · cases h
  | glb x => cases h
theorem prUs_V {Y : Wr} {H : Hp} {f : Nat → Addr} {G : Gp} (S : Sim Y H f G) : ∀ {us : List U} {vs : List V}, RUs Y H f G.length us vs → us.all (prU G) = true → ∀ v ∈ vs, PrV Y.K H v
  | [], vs, h, _, v, hv => by simp only [RUs] at h; rw [h] at hv; cases hv
  | u :: us, vs, h, ha, v, hv => by
    simp only [RUs] at h
    obtain ⟨y, r, rfl, h1, h2⟩ := h
    simp only [List.all_cons, Bool.and_eq_true] at ha
    rcases List.mem_cons.mp hv with rfl | hv
    · exact prU_V S h1 ha.1
    · exact prUs_V S h2 ha.2 v hv
theorem zip_RK {Y : Wr} {H : Hp} {f : Nat → Addr} {n : Nat} {t : Str × U} {t' : Str × V} (e : t.1 = t'.1) (r : RU Y H f n t.2 t'.2) : ∀ {flds : List Str} {us : List U} {vs : List V}, RUs Y H f n us vs → RKs Y H f n (flds.zip us ++ [t]) (flds.zip vs ++ [t'])
  | [], us, vs, h => by
    simp only [List.zip_nil_left, List.nil_append]
    exact .cons ⟨e, r⟩ .nil
  | x :: fl, [], vs, h => by
    simp only [RUs] at h
    rw [h]
    simp only [List.zip_nil_right, List.nil_append]
    exact .cons ⟨e, r⟩ .nil
  | x :: fl, u :: us, vs, h => by
    simp only [RUs] at h
    obtain ⟨y, w, rfl, h1, h2⟩ := h
    simp only [List.zip_cons_cons, List.cons_append]
    exact .cons ⟨rfl, h1⟩ (zip_RK e r h2)
theorem pmk_erL {C : Addr} {tag : Str} {flds : List Str} {ta : TA} (R : ErOk X.prog X.w X.K X.mg X.base x C tag flds) (hr : Room 1 X.A) (hg : Gl X x) (ha : PA X xs ta)
    (hdb : (x == ("__debug__" : Str)) = false) (hn : ∀ e ∈ xs, star? e = false) :
    PMk X (.Call (.Name x p) xs [] pos) (tEr X.K C tag flds ta) := by
  intro pins s σ H Q I h
  refine wpAny_Call_Name_kw (ld_glob I hg R.mgc ?_ hdb)
  exact callWith_L (first := []) R.keep hn (thn (ha.run pos pins s σ H _ I h) fun us s1 ⟨vs, H1, I1, r1, hl, hp, q1⟩ => ⟨I1.kIn, run_er R hr I1 r1 hl hp q1⟩)
theorem q_rse (g : Good X N sc lv) (F : Wf (gr X) T cf lv) (tk : Takes X W) (hg : gl? sc x = true) (ha : PA X xs (yL X T cf W es)) (hn : ∀ e ∈ xs, star? e = false) (he : xs = [] → es = []) :
    PS X (.Raise (some (.Call (.Name x p2) xs [] pos)) none p) (yS X T cf W (.rse x es)) := by
  obtain ⟨q1, q2, q3⟩ := g.gl hg
  cases hx : T.exn x with
  | none =>
    exact ⟨fun pins s σ H D I ⟨f, G, ρ, S, R, h⟩ => by simp only [evS, hx] at h; exact h.elim⟩
  | some tf =>
    obtain ⟨tag, flds⟩ := tf
    obtain ⟨C, E⟩ := F.exn x tag flds hx
    have hr : Room 1 X.A := g.room.mono (Nat.le_add_left _ _)
    have key : ∀ {f : Nat → Addr} {G : Gp} {ρ : Rho} {σ : L2.St} {H : Hp} {D : Ends}, Sim (wr X T.kd) H f G → RSt (wr X T.kd) H f G.length ρ σ → RsS (wr X T.kd) W (evS T cf (.rse x es) ρ G) H f G.length D →
        tL (wr X T.kd) W (evL T cf es) σ H fun vs H1 => vs.length = flds.length ∧ (∀ v ∈ vs, PrV X.K H1 v) ∧ ∀ d, H1 d = none → W (.ref C) (some d) σ (upd H1 d (.xd (flds.zip vs ++ [((("tag" : Str), V.str tag) : Str × V)]))) := by
      intro f G ρ σ H D S R h
      simp only [evS, hx] at h
      refine tL.goS S R h fun us f1 G1 H1 e S1 R1 h1 vs rv => ?_
      by_cases hc : us.length = flds.length ∧ us.all (prU G1) = true
      · rw [if_pos hc] at h1
        refine ⟨(RUs.lenE rv).symm.trans hc.1, prUs_V S1 rv hc.2, fun d hd => ?_⟩
        have e1 : Ext H1 f1 G1.length (upd H1 d (.xd (flds.zip vs ++ [((("tag" : Str), V.str tag) : Str × V)]))) f1 G1.length := Ext.xd hd
        exact h1 f1 _ σ C d _ e1 (S1.fresh hd) (R1.ext e1.toEx0) E.mgc upd_same (zip_RK (Y := wr X T.kd) (t := ("tag", U.str tag)) (t' := ("tag", V.str tag)) rfl (by simp only [RU]) ((RUs.iff).mpr (Paired.mapP ((RUs.iff).mp rv) fun _ _ q => q.ext e1.toEx0)))
      · rw [if_neg hc] at h1
        exact h1.elim
    exact PS.imp (ps_raise g.calm tk (pmk_erL (p := p2) (pos := pos) E hr q1 ha q3 hn)) fun D σ H ⟨f, G, ρ, S, R, h⟩ => key S R h
end
end Z
namespace Z
open PySem PySem.Spec PyProof.Rows L2
section
variable {X : Cx} {N : List Str} {sc : Scope} {lv : Nat} {T : Pg} {cf : Cf} {W : WX}
theorem mTXs_lo : ∀ {ts : List TX} {es : List PySem.Expr}, mTXs N sc ts es = true → ∀ id q, PySem.Expr.Name id q ∈ es → lo? sc id = true
  | [], [], _, _, _, h => by cases h
  | [], _ :: _, h, _, _, _ => by simp [mTXs] at h
  | _ :: _, [], h, _, _, _ => by simp [mTXs] at h
  | t :: ts, e :: es, h, id, q, hm => by
    simp only [mTXs, Bool.and_eq_true] at h
    rcases List.mem_cons.mp hm with rfl | hm
    · have h1 := h.1
      unfold mTX at h1
      split at h1
      all_goals first | contradiction | skip
      · rename_i q; cases q
        simp only [Bool.and_eq_true] at h1
        exact h1.2
    · exact mTXs_lo h.2 id q hm
theorem kind_loc (g : Good X N sc lv) {y : Str} (h : lo? sc y = true) : (X.env.kindOf y == some .local) = (sc.names.lookup y == some .local) := by
  unfold lo? at h
  split at h
  · rename_i e
    rcases g.rel y _ e with z | ⟨z, _⟩
    · rw [e]; show (X.env.scope.names.lookup y == some .local) = _; rw [z]
    · cases z
  · rename_i e
    rcases g.rel y _ e with z | ⟨z, _⟩
    · rw [e]; show (X.env.scope.names.lookup y == some .local) = _; rw [z]
    · cases z
  · cases h
theorem loc_of (g : Good X N sc lv) {y : Str} (h : (sc.names.lookup y == some .local) = true) : X.env.scope.names.lookup y = some .local := by
  have e : sc.names.lookup y = some .local := by
    cases q : sc.names.lookup y with
    | none => rw [q] at h; cases h
    | some k => rw [q] at h; cases k <;> first | rfl | cases h
  rcases g.rel y _ e with z | ⟨z, _⟩
  · exact z
  · cases z
theorem lc_only {e : Ex} {a : PySem.Expr} {b : List Comprehension} {s : Scope} {p : Pos} (h : mE N sc e (.ListComp a b s p) = true) : ∃ elt tg it kind test own, e = .lc elt tg it kind test own := by
  cases e
  case lc => exact ⟨_, _, _, _, _, _, rfl⟩
  all_goals
    exfalso
    unfold mE at h
    first | contradiction | (split at h <;> contradiction)
theorem no_other {e : Ex} {x : PySem.Expr} (h : mE N sc e x = true) (hc : comp? x = true) : ∃ a b s p, x = .ListComp a b s p := by
  cases x <;> first | cases hc; done | exact ⟨_, _, _, _, rfl⟩ | skip
  all_goals
    exfalso
    cases e
    all_goals
      unfold mE at h
      first | contradiction | (split at h <;> contradiction)
/-- name = value, a comprehension or not -/
theorem q_setA {i : Nat} {y : Str} {py p : Pos} {e : Ex} {x : PySem.Expr} (g : Good X N sc lv) (F : Wf (gr X) T cf lv) (tk : Takes X W) (h1 : N[i]? = some y) (h2 : lo? sc y = true) (h : mE N sc e x = true) : PS X (.Assign [.Name y py] x p) (yS X T cf W (.set i e)) := by
  by_cases hc : comp? x = true
  · obtain ⟨a, b, s, p', rfl⟩ := no_other h hc
    obtain ⟨elt, tg, it, kind, test, own, rfl⟩ := lc_only h
    have hb : X.env.blockKind = .function := by unfold Env.blockKind; rw [g.kind]; rfl
    by_cases hsw : (X.env.blockKind == .function && X.env.kindOf y == some .local && py.line == (PySem.Expr.ListComp a b s p').pos.line && !(s.names.any fun (n, k) => n == y && (k == .local || k == .cell))) = true
    · have hq : swapsWith (.ListComp a b s p') (some (.Name y py)) p.line X.env = pure true := by
        unfold swapsWith
        show (pure _ : Sem Bool) = pure true
        rw [hsw]
      obtain ⟨e', t, it', fs, s', p2, eq, ⟨⟨⟨⟨⟨z1, z2⟩, z3⟩, z4⟩, z5⟩, z6⟩, z7⟩ := i_lc h
      cases eq
      simp only [Bool.and_eq_true] at hsw
      have hl : X.env.scope.names.lookup y = some .local := loc_of g (by rw [← kind_loc g h2]; exact hsw.1.1.2)
      have hi := sIt kind it g F tk z3 (tg := t) fun hk => tup_tg z2 z4 hk
      refine PS.imp (s_setlc (W := W) g hi.1 hi.2 z6 z7 z2 (fun X' eX g' tk' => sTo test g' (by rw [eX]; exact F) tk' z5) (fun X' eX g' tk' => sE elt g' (by rw [eX]; exact F) tk' z1) h1 hl hq) fun D σ H ⟨f, G, ρ, S, R, h⟩ => ?_
      simp only [evS] at h
      exact tE.goS S R h fun u f1 G1 H1 e S1 R1 h1 v r1 => RsS.ok S1 h1 _ (R1.set r1)
    · have hq : swapsWith (.ListComp a b s p') (some (.Name y py)) p.line X.env = pure false := by
        unfold swapsWith
        show (pure _ : Sem Bool) = pure false
        rw [Bool.eq_false_iff.mpr hsw]
      exact q_set g h1 h2 (sE _ g F tk h) hq
  · exact q_set g h1 h2 (sE e g F tk h) (sw_plain (by simpa using hc))
theorem q_tup {ts : List TX} {es : List PySem.Expr} {k : Nat} {pt p : Pos} {e : Ex} {x : PySem.Expr} (g : Good X N sc lv) (F : Wf (gr X) T cf lv) (tk : Takes X W) (h1 : mTXs N sc ts es = true) (h : mE N sc e x = true) (h2 : tupV? sc es x = true) : PS X (.Assign [.Tuple es k pt] x p) (yS X T cf W (.asg (.tp ts) e)) := by
  obtain ⟨i1, i2, i3⟩ := sTXs g F tk ts h1
  have hg := g_tp (p := pt) (kk := k) g i1 i2 i3
  refine q_asg hg (sE e g F tk h) ?_ ?_ rfl
  · unfold swapsWithSole
    cases x <;> rfl
  · cases x
    case Tuple vs k2 p2 =>
      unfold tupV? at h2
      simp only [beq_iff_eq] at h2
      exact sw_ok g (mTXs_lo h1) h2
    all_goals first | rfl | cases h2
end
mutual
theorem sS {lv : Nat} {T : Pg} {cf : Cf} (s : Sx) : ∀ {X : Cx} {N : List Str} {sc : Scope} {W : WX} {st : Stmt}, Good X N sc lv → PassesOwn (model X.prog X.w) X.A X.env X.xe → Wf (gr X) T cf lv → Takes X W → mS N sc s st = true → PS X st (yS X T cf W s) := by
  intro X N sc W st g hp F tk h
  cases s with
  | set i e =>
    unfold mS at h
    split at h
    all_goals first | contradiction | (rename_i q; cases q; done) | skip
    rename_i q; cases q
    simp only [Bool.and_eq_true, beq_iff_eq] at h
    exact q_setA g F tk h.1.1 h.1.2 h.2
  | asg t e =>
    unfold mS at h
    split at h
    all_goals first | contradiction | (rename_i q; cases q; done) | skip
    · rename_i q; cases q
      simp only [Bool.and_eq_true] at h
      obtain ⟨h1, h2⟩ := h
      simp only [mTX, Bool.and_eq_true, Bool.not_eq_true'] at h1
      refine q_asg (g_sub g (sE _ g F tk h1.1.1) (sE _ g F tk h1.1.2) h1.2) (sE e g F tk h2) ?_ rfl rfl
      unfold swapsWithSole
      rename_i x _
      cases x <;> rfl
    · rename_i q; cases q
      simp only [Bool.and_eq_true] at h
      exact q_tup g F tk h.1.1 h.1.2 h.2
  | par i j a b =>
    unfold mS at h
    split at h
    all_goals first | contradiction | (rename_i q; cases q; done) | skip
    rename_i q; cases q
    rename_i hq
    simp only [Bool.and_eq_true, decide_eq_true_eq] at h
    obtain ⟨⟨⟨⟨⟨⟨⟨⟨h1, h2⟩, h3⟩, h4⟩, h5⟩, h6⟩, h7⟩, h8⟩, h9⟩ := h
    refine q_par g (by simpa using h1) (by simpa using h2) h3 (loc_of g h6) (loc_of g h7) (sL [a, b] g F tk h8).1 (sw_ok g (fun id q hm => ?_) (by simpa using h9))
    rcases List.mem_cons.mp hm with z | hm
    · cases z; exact h4
    · rcases List.mem_cons.mp hm with z | hm
      · cases z; exact h5
      · cases hm
  | par3 i j l a b c =>
    unfold mS at h
    split at h
    all_goals first | contradiction | (rename_i q; cases q; done) | skip
    rename_i hq
    cases hq
    simp only [Bool.and_eq_true, decide_eq_true_eq] at h
    obtain ⟨⟨⟨⟨⟨⟨⟨⟨⟨⟨h1, h2⟩, h3⟩, h4⟩, h5⟩, h6⟩, h7⟩, h8⟩, h9⟩, h10⟩, h11⟩ := h
    refine q_par3 g (by simpa using h1) (by simpa using h2) (by simpa using h3) h4 h5 h6 (loc_of g h7) (loc_of g h8) (loc_of g h9) (sL [a, b, c] g F tk h10).1 (sw_ok g (fun id q hm => ?_) (by simpa using h11))
    rcases List.mem_cons.mp hm with z | hm
    · cases z; unfold lo?; rw [show sc.names.lookup _ = some .local from by simpa using h7]
    · rcases List.mem_cons.mp hm with z | hm
      · cases z; unfold lo?; rw [show sc.names.lookup _ = some .local from by simpa using h8]
      · rcases List.mem_cons.mp hm with z | hm
        · cases z; unfold lo?; rw [show sc.names.lookup _ = some .local from by simpa using h9]
        · cases hm
  | seta o f e =>
    unfold mS at h
    split at h
    all_goals first | contradiction | (rename_i q; cases q; done) | skip
    rename_i q; cases q
    simp only [Bool.and_eq_true, beq_iff_eq] at h
    obtain ⟨⟨rfl, h1⟩, h2⟩ := h
    exact q_seta g F (sE o g F tk h1) (sE e g F tk h2)
  | star i j e =>
    unfold mS at h
    split at h
    all_goals first | contradiction | (rename_i q; cases q; done) | skip
    rename_i q; cases q
    simp only [Bool.and_eq_true, beq_iff_eq] at h
    obtain ⟨⟨⟨⟨⟨h1, h2⟩, h3⟩, h4⟩, h5⟩, h6⟩ := h
    exact q_star g h1 h2 h3 h4 (sE e g F tk h5) h6
  | aug i op e =>
    unfold mS at h
    split at h
    all_goals first | contradiction | (rename_i q; cases q; done) | skip
    rename_i q; cases q
    simp only [Bool.and_eq_true, Bool.or_eq_true, beq_iff_eq] at h
    obtain ⟨⟨⟨⟨h1, h2⟩, rfl⟩, h3⟩, h4⟩ := h
    exact q_aug g h1 h2 (sE e g F tk h4) h3
  | expr e =>
    unfold mS at h
    split at h
    all_goals first | contradiction | (rename_i q; cases q; done) | skip
    rename_i q; cases q
    simp only [Bool.and_eq_true, Bool.not_eq_true'] at h
    exact q_expr (sE e g F tk h.1) h.2
  | ret e =>
    unfold mS at h
    split at h
    all_goals first | contradiction | (rename_i q; cases q; done) | skip
    rename_i q; cases q
    exact q_ret (sE e g F tk h)
  | retN =>
    unfold mS at h
    split at h
    all_goals first | contradiction | exact q_retN
  | pass =>
    unfold mS at h
    split at h
    all_goals first | contradiction | exact q_pass
  | brk =>
    unfold mS at h
    split at h
    all_goals first | contradiction | exact q_brk
  | cnt =>
    unfold mS at h
    split at h
    all_goals first | contradiction | exact q_cnt
  | iff c a b =>
    unfold mS at h
    split at h
    all_goals first | contradiction | (rename_i q; cases q; done) | skip
    rename_i q; cases q
    simp only [Bool.and_eq_true] at h
    exact q_if (sT c g F tk h.1.1) (sSs a g hp F tk h.1.2) (sSs b g hp F tk h.2)
  | whl c b =>
    unfold mS at h
    split at h
    all_goals first | contradiction | (rename_i q; cases q; done) | skip
    rename_i q; cases q
    simp only [Bool.and_eq_true] at h
    exact q_while hp (sT c g F tk h.1) (sSs b g hp F tk h.2)
  | for_ tg it kind b =>
    unfold mS at h
    split at h
    all_goals first | contradiction | (rename_i q; cases q; done) | skip
    rename_i q; cases q
    simp only [Bool.and_eq_true] at h
    obtain ⟨⟨⟨h1, h2⟩, h3⟩, h4⟩ := h
    have hi := sIt kind it g F tk h2 (tg := _) fun hk => tup_tg h1 h3 hk
    exact q_for g hp hi.1 hi.2 h1 (sSs b g hp F tk h4)
  | rse c es =>
    unfold mS at h
    split at h
    all_goals first | contradiction | (rename_i q; cases q; done) | skip
    rename_i q; cases q
    simp only [Bool.and_eq_true, beq_iff_eq] at h
    obtain ⟨⟨h1, h2⟩, h3⟩ := h
    subst h1
    obtain ⟨i1, i2, i3⟩ := sL es g F tk h3
    exact q_rse g F tk h2 i1 i2 i3
  | never => exact PS.imp ps_never fun D σ H ⟨f, G, ρ, S, R, h⟩ => by simp only [evS] at h; exact h.elim
theorem sSs {lv : Nat} {T : Pg} {cf : Cf} (ss : List Sx) : ∀ {X : Cx} {N : List Str} {sc : Scope} {W : WX} {sts : List Stmt}, Good X N sc lv → PassesOwn (model X.prog X.w) X.A X.env X.xe → Wf (gr X) T cf lv → Takes X W → mSs N sc ss sts = true → PSs X sts (ySs X T cf W ss) := by
  intro X N sc W sts g hp F tk h
  cases ss with
  | nil =>
    cases sts with
    | nil => exact q_nil
    | cons _ _ => simp [mSs] at h
  | cons s ss =>
    cases sts with
    | nil => simp [mSs] at h
    | cons t ts =>
      simp only [mSs, Bool.and_eq_true] at h
      exact q_cons (sS s g hp F tk h.1) (sSs ss g hp F tk h.2)
end
end Z
namespace Z
open PySem PySem.Spec PyProof.Rows L2
theorem start_at {Y : Wr} {H f n} {N : List Str} {us : List U} {vs : List V} (r : RUs Y H f n us vs) : RSt Y H f n (startU N us) (L2.start N vs) := by
  have hl := r.len
  refine ⟨by unfold startU L2.start; simp [hl], fun i u e => ?_⟩
  unfold startU at e
  unfold L2.start
  by_cases hi : i < us.length
  · rw [List.getElem?_append_left (by simpa using hi), List.getElem?_map] at e
    cases eu : us[i]? with
    | none => rw [eu] at e; cases e
    | some w =>
      rw [eu] at e
      cases e
      obtain ⟨v, hv, rv⟩ := r.get eu
      refine ⟨v, ?_, rv⟩
      rw [List.getElem?_append_left (by rw [List.length_map, ← hl]; exact hi), List.getElem?_map, hv]; rfl
  · rw [List.getElem?_append_right (by simpa using hi), List.getElem?_replicate] at e
    split at e <;> cases e
theorem spC_len {Y : Wr} {T : Pg} {fns : Str → Option Fn} {k : Nat} {q : Str} {F : Fn} (hF : fns q = some F) {vs : List V} {H : Hp} {Q : VK} {E : XK} (h : spC Y (callN T fns k) q vs H Q E) : vs.length = F.ps.length := by
  obtain ⟨f, G, us, S, r, h⟩ := h
  cases k with
  | zero => exact h.elim
  | succ k =>
    simp only [callN, hF] at h
    split at h
    · rename_i hl; rw [← r.len]; exact hl
    · exact h.elim
/-- the code object of a def that makes lambdas -/
def CodeAt (K : PySem.W.Frag) (cdv : Value) (qual : Str) : Prop := ∃ c P, cdv = .ref c ∧ (c, P) ∈ csOf K ∧ (P, qual ++ ".<locals>." ++ "<lambda>") ∈ tbOf K ∧ ∀ p ∈ tbOf K, p.1 = P → p.2 = qual ++ ".<locals>." ++ "<lambda>"
theorem call_fn {g : Gr} {T : Pg} {fns : Str → Option Fn} {k : Nat} {q : Str} {F : Fn} {f : Addr} {name qual : Str} {params : Arguments} {body : List Stmt} {scope : Scope} {dV kV doc pm cdv ct oc : Value} {an od : Option Addr} {osl : Array (Option Value)}
    (hF : fns q = some F) (lk : g.K.lookup f = some ⟨oc, od, .func (PySem.W.fnOf name qual params body scope dV kV doc pm an cdv ct), osl⟩) (hcd : PySem.W.codeIn g.K cdv qual = true) (S : FnScope F.N F.ps scope)
    {sc : Scope} (hsc : sc.names = scope.names) (hcode : sc.isCoroutine = false → CodeAt g.K cdv qual) (hm : mSs F.N sc F.body body = true) (Wk : Wf g T (callN T fns k) (4 * k)) : FnOk g.P g.w g.K g.mg g.base (L2.CX g.P g.w) (4 * (k + 1)) f (PySem.W.fnOf name qual params body scope dV kV doc pm an cdv ct) F.ps (spC (g.wr T.kd) (callN T fns (k + 1)) q) := by
  refine fn_of (k := 4 * k + 3) lk hcd S (fun vs H Q E h => spC_len hF h) fun A outer s H vs Q E hr hsp => ?_
  obtain ⟨f0, G, us, Sm, r, h⟩ := hsp
  have hu : us.length = F.ps.length := by
    simp only [callN, hF] at h
    split at h
    · assumption
    · exact h.elim
  simp only [callN, hF, hu, if_true] at h
  refine ⟨ySs (cxOf (L2.CX g.P g.w) g.P g.w g.K g.mg g.base F.N qual scope f cdv A outer s H E) T (callN T fns k) (fun cls d _ H => E cls d H) F.body, ?_, f0, G, startU F.N us, Sm, start_at r, ?_⟩
  · refine sSs (lv := 4 * k) F.body (N := F.N) (sc := sc) ?_ (passes_of rfl) Wk (takes_of rfl rfl rfl rfl) hm
    exact ⟨rfl, S.nd, rfl, S.kind, hr.mono (by omega), fun hc => ⟨hr, hcode hc⟩, fun x k h => .inl (by show scope.names.lookup x = some k; rw [← hsc]; exact h), fun _ _ => rfl⟩
  · cases eo : evSs T (callN T fns k) F.body (startU F.N us) G with
    | stuck => rw [eo] at h; exact h.elim
    | exc c fs ρ G1 => rw [eo] at h; exact fun f' H' σ' C d ws e S' _ z1 z2 z3 => h f' H' C d ws e S' z1 z2 z3
    | ok fl G1 =>
      rw [eo] at h
      cases fl with
      | nx ρ => exact fun f' H' e S' σ _ => h f' H' e S' .non (by simp [RU])
      | rt u => exact fun f' H' e S' v r => h f' H' e S' v r
      | bk ρ => exact h.elim
      | ct ρ => exact h.elim
theorem call_ok {g : Gr} {T : Pg} {fns : Str → Option Fn} {k : Nat} {q : Str} {F : Fn} {f : Addr} {name qual : Str} {params : Arguments} {body : List Stmt} {scope : Scope} {dV kV doc pm cdv ct oc : Value} {an od : Option Addr} {osl : Array (Option Value)}
    (hF : fns q = some F) (lk : g.K.lookup f = some ⟨oc, od, .func (PySem.W.fnOf name qual params body scope dV kV doc pm an cdv ct), osl⟩) (hcd : PySem.W.codeIn g.K cdv qual = true) (S : FnScope F.N F.ps scope)
    (hb : Binds g.K (PySem.W.fnOf name qual params body scope dV kV doc pm an cdv ct) F.ps []) {sc : Scope} (hsc : sc.names = scope.names) (hcode : sc.isCoroutine = false → CodeAt g.K cdv qual) (hm : mSs F.N sc F.body body = true) (Wk : Wf g T (callN T fns k) (4 * k)) : DefOk g (g.wr T.kd) (callN T fns (k + 1)) (4 * (k + 1)) q f :=
  ⟨_, F.ps, hb, call_fn hF lk hcd S hsc hcode hm Wk⟩
/-- a def of one parameter, called by its keyword -/
def DefKOk (g : Gr) (Y : Wr) (cf : Cf) (lv : Nat) (q kn : Str) (f : Addr) : Prop := ∃ fd, KB g.K fd kn ∧ FnOk g.P g.w g.K g.mg g.base (L2.CX g.P g.w) lv f fd [kn] (spC Y cf q)
/-- at level 0 nothing is called -/
theorem call_ok0 {g : Gr} {Y : Wr} {T : Pg} {fns : Str → Option Fn} {q : Str} {F : Fn} {f : Addr} {fd : FuncData} {ps : List Str} (hb : Binds g.K fd ps []) : DefOk g Y (callN T fns 0) 0 q f := by
  refine ⟨fd, ps, hb, fun vs H Q E ⟨f, G, us, S, r, h⟩ => h.elim, fun A outer s H args us vs Q E _ _ _ _ ⟨f, G, us', S, r, h⟩ => h.elim⟩
theorem call_ok0k {g : Gr} {Y : Wr} {T : Pg} {fns : Str → Option Fn} {q kn : Str} {f : Addr} {fd : FuncData} (hb : KB g.K fd kn) : DefKOk g Y (callN T fns 0) 0 q kn f := by
  refine ⟨fd, hb, fun vs H Q E ⟨f, G, us, S, r, h⟩ => h.elim, fun A outer s H args us vs Q E _ _ _ _ ⟨f, G, us', S, r, h⟩ => h.elim⟩
end Z
namespace Z
open PySem PySem.Spec PyProof.Rows L2
/-! ## the program as it stands behind its top -/
def FnAt (g : Gr) (F : Fn) (f : Addr) : Prop := ∃ name qual params body scope kws fd sc, FunD g.K name qual params body scope [] kws f fd ∧ FnScope F.N F.ps scope ∧ Binds g.K fd F.ps [] ∧ (∀ kn, F.ps = [kn] → KB g.K fd kn) ∧ sc.names = scope.names ∧ (sc.isCoroutine = false → CodeAt g.K fd.code qual) ∧ mSs F.N sc F.body body = true
structure Base (g : Gr) (T : Pg) (fns : Str → Option Fn) (ad : Str → Addr) : Prop where
  kdo : KdO g T.kd
  blt : ∀ x ∈ bltNames, g.mg x = none
  gv : ∀ x u, T.gv x = some u → ∃ val, g.mg x = some val ∧ GV (g.wr T.kd) u val
  isa : ∀ t c b, T.isa t c = some b → ∀ tv cv, TyVal g t tv → TyVal g c cv → PySem.W.kitOne g.K tv cv = some b
  cls : ∀ C, T.cls C = true → ∃ A, g.mg C = some (.ref A)
  isi : ∀ C c b, T.isa (.own C) c = some b → InstCls g C
  fld : ∀ C m, T.fld C m = true → ∃ A, OwnCls g C A ∧ NoAttr g.K A m
  con : ∀ C m u, T.con C m = some u → ∃ A v val, OwnCls g C A ∧ Con g.K A m v val ∧ ∀ H f n, RU (g.wr T.kd) H f n u v
  fn : ∀ q F, fns q = some F → FnAt g F (ad q)
  call : ∀ x, T.gf x = true → g.mg x = some (.ref (ad x)) ∧ PySem.W.keepIn g.K (.ref (ad x)) = true ∧ ∃ F, fns x = some F
  meth : ∀ C m q, T.meth C m = some q → ∃ A, OwnCls g C A ∧ Meth g.K A m (ad q) ∧ ∃ F, fns q = some F
  prop : ∀ C m q, T.prop C m = some q → ∃ A p, OwnCls g C A ∧ PropOf g.K A m p (ad q) ∧ ∃ F, fns q = some F
  eqm : ∀ C q, T.eqm C = some q → ∃ A, OwnCls g C A ∧ EqFacts g.K A (ad q) ∧ ∃ F, fns q = some F
  lnm : ∀ C q, T.lnm C = some q → ∃ A, OwnCls g C A ∧ PySem.W.findIn g.K (.ref A) "__len__" = some (some (.ref (ad q))) ∧ PySem.W.isFn g.K (.ref (ad q)) = true ∧ ∃ F, fns q = some F
  make : ∀ C, T.own C = true → ∃ A, OwnCls g C A ∧ Mk g.K A (ad (C ++ ".__init__")) ∧ ∃ F, fns (C ++ ".__init__") = some F
  exn : ∀ c tag flds, T.exn c = some (tag, flds) → ∃ C, ErOk g.P g.w g.K g.mg g.base c C tag flds
  why : ∀ bs r, T.why = some (bs, r) → WhyOk g T.exn bs r
  smet : ∀ C m q, T.smet C m = some q → ∃ A mc p, g.mg C = some (.ref A) ∧ ClX.CRead g.K A mc ∧ SMet g.K A mc m p (ad q) ∧ ∃ F, fns q = some F
  smek : ∀ C m q kn, T.smek C m = some (q, kn) → ∃ A mc p, g.mg C = some (.ref A) ∧ ClX.CRead g.K A mc ∧ SMet g.K A mc m p (ad q) ∧ ∃ F, fns q = some F ∧ F.ps = [kn]
theorem wf_of {g : Gr} {T : Pg} {fns : Str → Option Fn} {ad : Str → Addr} {cf : Cf} {lv : Nat} (B : Base g T fns ad) (htb : ∀ p ∈ csOf g.K, LamX.TabB g.base g.mg p.1 p.2) (h : ∀ q F, fns q = some F → DefOk g (g.wr T.kd) cf lv q (ad q)) (hk : ∀ q F kn, fns q = some F → F.ps = [kn] → DefKOk g (g.wr T.kd) cf lv q kn (ad q)) : Wf g T cf lv where
  kdo := B.kdo
  blt := B.blt
  gv := B.gv
  isa := B.isa
  cls := B.cls
  isi := B.isi
  fld := B.fld
  con := B.con
  call := fun x hx => let ⟨a, b, F, c⟩ := B.call x hx; ⟨_, a, b, h x F c⟩
  meth := fun C m q hx => let ⟨A, a, b, F, c⟩ := B.meth C m q hx; ⟨A, _, a, b, h q F c⟩
  prop := fun C m q hx => let ⟨A, p, a, b, F, c⟩ := B.prop C m q hx; ⟨A, p, _, a, b, h q F c⟩
  eqm := fun C q hx => let ⟨A, a, b, F, c⟩ := B.eqm C q hx; ⟨A, _, a, b, h q F c⟩
  lnm := fun C q hx => let ⟨A, a, b, b2, F, c⟩ := B.lnm C q hx; ⟨A, _, a, b, b2, h q F c⟩
  make := fun C hx => let ⟨A, a, b, F, c⟩ := B.make C hx; ⟨A, _, a, b, h _ F c⟩
  exn := B.exn
  tabs := htb
  why := B.why
  smet := fun C m q hx => let ⟨A, mc, p, a, b, c, F, d⟩ := B.smet C m q hx; ⟨A, mc, p, _, a, b, c, h q F d⟩
  smek := fun C m q kn hx => let ⟨A, mc, p, a, b, c, F, d, e⟩ := B.smek C m q kn hx; let ⟨fd, k1, k2⟩ := hk q F kn d e; ⟨A, mc, p, _, fd, a, b, c, k1, k2⟩
theorem Base.all2 {g : Gr} {T : Pg} {fns : Str → Option Fn} {ad : Str → Addr} (B : Base g T fns ad) (htb : ∀ p ∈ csOf g.K, LamX.TabB g.base g.mg p.1 p.2) : ∀ (k : Nat), (∀ (q : Str) (F : Fn), fns q = some F → DefOk g (g.wr T.kd) (callN T fns k) (4 * k) q (ad q)) ∧
    ∀ (q : Str) (F : Fn) (kn : Str), fns q = some F → F.ps = [kn] → DefKOk g (g.wr T.kd) (callN T fns k) (4 * k) q kn (ad q)
  | 0 => by
    refine ⟨fun q F hF => ?_, fun q F kn hF hp => ?_⟩
    · obtain ⟨name, qual, params, body, scope, kws, fd, sc, D, S, hb, hkb, hsc, hcode, hm⟩ := B.fn q F hF
      exact call_ok0 (F := F) hb
    · obtain ⟨name, qual, params, body, scope, kws, fd, sc, D, S, hb, hkb, hsc, hcode, hm⟩ := B.fn q F hF
      exact call_ok0k (hkb kn hp)
  | k + 1 => by
    obtain ⟨i1, i2⟩ := Base.all2 B htb k
    have W := wf_of B htb i1 i2
    refine ⟨fun q F hF => ?_, fun q F kn hF hp => ?_⟩
    · obtain ⟨name, qual, params, body, scope, kws, fd, sc, D, S, hb, hkb, hsc, hcode, hm⟩ := B.fn q F hF
      obtain ⟨oc, od, dV, kV, doc, pm, an, cdv, ct, osl, rfl, lk, hcd, _, _⟩ := D.ex
      exact call_ok hF lk hcd S hb hsc hcode hm W
    · obtain ⟨name, qual, params, body, scope, kws, fd, sc, D, S, hb, hkb, hsc, hcode, hm⟩ := B.fn q F hF
      obtain ⟨oc, od, dV, kV, doc, pm, an, cdv, ct, osl, rfl, lk, hcd, _, _⟩ := D.ex
      have z := call_fn hF lk hcd S hsc hcode hm W
      rw [hp] at z
      exact ⟨_, hkb kn hp, z⟩
theorem Base.all {g : Gr} {T : Pg} {fns : Str → Option Fn} {ad : Str → Addr} (B : Base g T fns ad) (htb : ∀ p ∈ csOf g.K, LamX.TabB g.base g.mg p.1 p.2) (k : Nat) : ∀ (q : Str) (F : Fn), fns q = some F → DefOk g (g.wr T.kd) (callN T fns k) (4 * k) q (ad q) := (Base.all2 B htb k).1
/-- the law's promise at the end -/
theorem law_sp {Y : Wr} {cf : Cf} {ns : List Int} {H : Hp} {a : Addr} (hl : (∃ G, cf "law" [.fro (ns.map U.int)] [] = .ok (.bl true) G) ∧ ∃ G, cf "law" [.ref 0] [.lst (ns.map U.int)] = .ok (.bl true) G) (hTb : LamX.Tabs (tbOf Y.K) H) (hS : SqL Y.K H a (ns.map V.int)) :
    spC Y cf "law" [.ref a] H (fun v _ => v = .bl true) fun _ _ _ => False := by
  obtain ⟨⟨G, hG⟩, G2, hG2⟩ := hl
  have hr : ∀ (f : Nat → Addr) (n : Nat) (ns : List Int), RUs Y H f n (ns.map U.int) (ns.map V.int) := by
    intro f n ns
    induction ns with
    | nil => exact RUs.nil
    | cons i r ih => exact RUs.cons (by simp [RU]) ih
  have fro : SqF Y.K H a (ns.map V.int) → spC Y cf "law" [.ref a] H (fun v _ => v = .bl true) fun _ _ _ => False := fun hF => by
    refine ⟨fun _ => 0, [], [.fro (ns.map U.int)], ⟨fun i j h => by simp at h, fun i o h => by simp at h, hTb⟩, RUs.cons ?_ RUs.nil, ?_⟩
    · simp only [RU]
      exact ⟨a, _, rfl, hF, hr _ _ ns⟩
    · rw [hG]
      exact fun f' H' _ _ v r => by simpa [RU] using r
  rcases hS with (h | ⟨o, h⟩) | h
  · refine ⟨fun _ => a, [.lst (ns.map U.int)], [.ref 0], ⟨fun i j h1 h2 _ => ?_, fun i o h1 => ?_, hTb⟩, RUs.cons ?_ RUs.nil, ?_⟩
    · simp only [List.length_cons, List.length_nil] at h1 h2; omega
    · cases i with
      | zero =>
        simp only [List.getElem?_cons_zero, Option.some.injEq] at h1
        subst h1
        exact ⟨_, h, hr _ _ ns⟩
      | succ i => simp at h1
    · simp only [RU]
      first | exact ⟨by simp, rfl⟩ | exact ⟨by simp, trivial⟩ | simp
    · rw [hG2]
      exact fun f' H' _ _ v r => by simpa [RU] using r
  · exact fro (.inl ⟨o, h⟩)
  · exact fro (.inr h)
end Z
namespace Z
open PySem PySem.Spec PyProof.Rows L2
/-! ## own errors as they stand behind the top -/
structure Ef where
  nm : Str
  name : Str
  qual : Str
  params : Arguments
  body : List Stmt
  scope : Scope
  sf : Str
  tag : Str
  flds : List Str
def erB1 (K : PySem.W.Frag) (C : Addr) : Bool := match K.lookup C with
  | some ⟨.type "type", _, .cls cd, sl⟩ => (match cd.mro, sl.toList with
    | .ref C' :: bm, [_, _, _, _, some (.builtin n), _] => decide (C' = C) && (decide (n = "ValueError.__new__") && (!cd.hasDel && (cd.hasDict && PySem.HandSPX.refsVE bm)))
    | _, _ => false)
  | _ => false
theorem erB1_ok {K : PySem.W.Frag} {C : Addr} (q : erB1 K C = true) : ∃ nm q N bs bm sn sub ab col dd k0 k1 k2 k3 k5, K.lookup C = some (excClassObj nm q C N bs bm true sn sub ab col dd k0 k1 k2 k3 k5 "ValueError.__new__") ∧ PySem.HandSPX.refsVE bm = true := by
  unfold erB1 at q
  split at q
  · rename_i dd cd sl ho
    split at q
    · rename_i C' bm k0 k1 k2 k3 n k5 hm hs
      simp only [Bool.and_eq_true, decide_eq_true_eq, Bool.not_eq_true'] at q
      obtain ⟨rfl, rfl, hdel, hdc, ht⟩ := q
      obtain ⟨nm, bs, mro, ns, qn, hd, sn, sub, ab, col, del⟩ := cd
      dsimp only at hm hdel hdc
      subst hm hdel hdc
      have hsl : sl = #[k0, k1, k2, k3, some (.builtin "ValueError.__new__"), k5] := by
        obtain ⟨l⟩ := sl
        simp only at hs
        rw [hs]
      subst hsl
      exact ⟨_, _, _, _, _, _, _, _, _, _, _, _, _, _, _, ho, ht⟩
    · cases q
  · cases q
def fnE (K : PySem.W.Frag) (a : Addr) : Option (Str × Str × Arguments × FuncBody × Scope × Addr × List Str × Addr) := match K.lookup a with
  | some ⟨_, _, .func fd, _⟩ => some (fd.name, fd.qualname, fd.params, fd.body, fd.scope, fd.globals, fd.closure.map (·.1), fd.builtins)
  | _ => none
def Ef.val (d : Ef) : Option (Str × Str × Arguments × FuncBody × Scope × Addr × List Str × Addr) := some (d.name, d.qual, d.params, .stmts d.body, d.scope, mainGlobals, ["__class__"], builtinsNs)
abbrev Ef.C (e : Ef) (K : PySem.W.Frag) : Addr := He.ga K e.nm
abbrev Ef.f (e : Ef) (K : PySem.W.Frag) : Addr := He.ma K (e.C K) "__init__"
def erB2 (K : PySem.W.Frag) (file : Str) (C f : Addr) : Bool := match K.lookup f with
  | some ⟨_, _, .func fd, _⟩ => (match fd.closure, fd.code with
    | [(_, cc)], .ref cda => PySem.W.codeIn K fd.code fd.qualname && (He.dflB K fd.defaults [] && (He.kwdB K fd.kwdefaults [] &&
      ((match K.lookup cc with | some ⟨_, _, .cell (some (.ref D)), _⟩ => decide (D = C) | _ => false) &&
      (match K.lookup cda with
        | some ⟨_, _, Data.fields vs, _⟩ => (match (vs[2]? : Option Value) with | some (Value.str fl _) => fl == file | _ => false)
        | _ => false))))
    | _, _ => false)
  | _ => false
/-- what is looked at behind the top -/
def erB (file : Str) (K : PySem.W.Frag) (e : Ef) : Bool :=
  (He.Fa.glo e.nm).ok K && (PySem.W.keepIn K (.ref (e.C K)) && (erB1 K (e.C K) && (erB2 K file (e.C K) (e.f K) &&
  (He.eqO (PySem.W.findIn K (.ref (e.C K)) "__setattr__") (some (some (.builtin "object.__setattr__"))) && (decide (PySem.W.subIn K (.ref (e.C K)) (.type "BaseException") = some true) && (decide (PySem.W.typeIn K (.ref (e.C K)) = some (.type "type")) &&
  (He.eqO (PySem.W.findIn K (.ref (e.C K)) "__init__") (some (some (.ref (e.f K)))) && (decide (PySem.W.typeIn K (.ref (e.f K)) = some (.type "function")) && (He.eqO (PySem.W.findIn K (.ref (e.C K)) "tag") (some none) &&
  (e.flds.all (fun x => He.eqO (PySem.W.findIn K (.ref (e.C K)) x) (some none)) && ((He.Fa.free "super").ok K && (He.eqO (PySem.W.nsIn K cStatics "thirdparty.any") (some none) &&
  (He.eqO (PySem.W.ks_superIn K (e.C K) (e.C K) "__init__") (some (some (.builtin "ValueError.__init__"))) && (decide (PySem.W.mroIn K (e.C K) (.ref (e.C K)) = some true) && decide (PySem.W.subIn K (.ref (e.C K)) (.type "ValueError") = some true)))))))))))))))
def okN (x : Str) : Bool := !(x == ("__debug__" : Str)) && !(x == ("__classdict__" : Str))
/-- the body's form -/
def erBd (sf tag : Str) : List Str → List Stmt → Bool
  | [fld], [.Expr (.Call (.Attribute (.Call (.Name sp _) [] [] _) ini q2) [.JoinedStr [.Constant (.str m) _ _, .FormattedValue (.Name x _) c none _] _] [] q3) _,
      .Assign [.Attribute (.Name s1 _) t1 _] (.Constant (.str tg) _ _) _, .Assign [.Attribute (.Name s2 _) f1 _] (.Name f2 _) _] =>
    sp == "super" && (ini == "__init__" && (q2.endLine == q3.line && (decide (m.length ≤ 1000) && (x == fld && (decide (c = -1) && (s1 == sf && (t1 == "tag" && (tg == tag && (s2 == sf && (f1 == fld && (f2 == fld && (okN fld && okN sf))))))))))))
  | [], [.Expr (.Call (.Attribute (.Call (.Name sp _) [] [] _) ini q2) [.Constant (.str m) _ _] [] q3) _, .Assign [.Attribute (.Name s1 _) t1 _] (.Constant (.str tg) _ _) _] =>
    sp == "super" && (ini == "__init__" && (q2.endLine == q3.line && (s1 == sf && (t1 == "tag" && (tg == tag && okN sf)))))
  | _, _ => false
def scK (P : List Str) (sc : Scope) : Bool := decide (sc.kind = .function) && (!sc.isCoroutine && (!sc.isGenerator && (decide P.Nodup && (P.all (fun x => decide (sc.names.lookup x = some .local)) && (sc.names.all (fun y => decide (y.2 ≠ .cell)) &&
  (sc.names.all (fun y => decide (y.2 = .free → y.1 = ("__class__" : Str))) && (decide (sc.names.lookup ("super" : Str) = some .globalImplicit) && decide (sc.names.lookup ("__class__" : Str) = some .free))))))))
theorem scK_ok {P : List Str} {sc : Scope} (h : scK P sc = true) : KsScope P P sc ∧ sc.names.lookup ("super" : Str) = some .globalImplicit ∧ sc.names.lookup ("__class__" : Str) = some .free := by
  unfold scK at h
  simp only [Bool.and_eq_true, decide_eq_true_eq, Bool.not_eq_true', List.all_eq_true] at h
  obtain ⟨h1, h2, h3, h4, h5, h6, h7, h8, h9⟩ := h
  exact ⟨⟨h1, h2, h3, h4, List.take_length, h5, h6, h7⟩, h8, h9⟩
end Z
namespace Z
open PySem PySem.Spec PyProof.Rows L2
/-! ## where a def stands -/
inductive At where
  | glo (x : Str) | glam (x : Str) | meth (C m : Str) | gett (C m : Str) | stat (C m : Str)
def getterOf (K : PySem.W.Frag) (p : Addr) : Addr := match PySem.W.recIn K p "property" with
  | some (.ref g :: _) => g
  | _ => 0
def rawOf (K : PySem.W.Frag) (C : Addr) (m : Str) : Addr := match PySem.W.findIn K (.ref C) m with
  | some (some (.ref p)) => p
  | _ => 0
def statOf (K : PySem.W.Frag) (p : Addr) : Addr := match PySem.W.recIn K p "staticmethod" with
  | some (.ref g :: _) => g
  | _ => 0
def At.ad (K : PySem.W.Frag) : At → Addr
  | .glo x => He.ga K x
  | .glam x => He.ga K x
  | .stat C m => statOf K (rawOf K (He.ga K C) m)
  | .meth C m => He.ma K (He.ga K C) m
  | .gett C m => getterOf K (He.ma K (He.ga K C) m)
/-- a def: its name here, mine, where it stands, theirs -/
structure Df where
  q : Str
  F : Fn
  at_ : At
  name : Str
  qual : Str
  params : Arguments
  body : List Stmt
  scope : Scope
abbrev FnW : Type := Option (Str × Str × Arguments × FuncBody × Scope × Addr × List (Str × Addr) × Addr)
def fnW (K : PySem.W.Frag) (a : Addr) : FnW := match K.lookup a with
  | some ⟨_, _, .func fd, _⟩ => some (fd.name, fd.qualname, fd.params, fd.body, fd.scope, fd.globals, fd.closure, fd.builtins)
  | _ => none
def Df.val (d : Df) : FnW := some (d.name, d.qual, d.params, .stmts d.body, d.scope, mainGlobals, [], builtinsNs)
def codeAtB (K : PySem.W.Frag) (cdv : Value) (qual : Str) : Bool := match cdv with
  | .ref c => let t := tb3 K; t.any fun y => y.1 == c && (y.2.2 == (qual ++ ".<locals>." ++ "<lambda>" : Str) && t.all fun p => p.2.1 != y.2.1 || p.2.2 == (qual ++ ".<locals>." ++ "<lambda>" : Str))
  | _ => false
theorem codeAtB_ok {K : PySem.W.Frag} {cdv : Value} {qual : Str} (h : codeAtB K cdv qual = true) : CodeAt K cdv qual := by
  unfold codeAtB at h
  split at h
  · rename_i c
    obtain ⟨y, hy, h2⟩ := List.any_eq_true.mp h
    simp only [Bool.and_eq_true, beq_iff_eq, List.all_eq_true, Bool.or_eq_true, bne_iff_ne, ne_eq] at h2
    obtain ⟨h3, h4, h5⟩ := h2
    refine ⟨c, y.2.1, rfl, List.mem_map.mpr ⟨y, hy, by rw [h3]⟩, List.mem_map.mpr ⟨y, hy, by rw [h4]⟩, fun p hp e => ?_⟩
    obtain ⟨z, hz, rfl⟩ := List.mem_map.mp hp
    rcases h5 z hz with k | k
    · exact (k e).elim
    · exact k
  · cases h
def At.lam : At → Bool
  | .glam _ => true
  | _ => false
def Df.sc (d : Df) : Scope := if d.at_.lam = true then d.scope else { d.scope with isCoroutine := true }
def Df.ok (K : PySem.W.Frag) (d : Df) : Bool := PySem.W.keepIn K (.ref (d.at_.ad K)) && (match K.lookup (d.at_.ad K) with
  | some ⟨_, _, .func fd, _⟩ => PySem.W.codeIn K fd.code d.qual && (He.dflB K fd.defaults [] && (He.kwdB K fd.kwdefaults [] && (!d.at_.lam || codeAtB K fd.code d.qual)))
  | _ => false)
theorem Df.funD {K : PySem.W.Frag} {d : Df} (e : fnW K (d.at_.ad K) = d.val) (c : d.ok K = true) : ∃ fd, FunD K d.name d.qual d.params d.body d.scope [] [] (d.at_.ad K) fd ∧ (d.at_.lam = true → CodeAt K fd.code d.qual) := by
  obtain ⟨kp, c2⟩ := He.ba c
  unfold fnW at e
  cases q : K.lookup (d.at_.ad K) with
  | none => rw [q] at c2; cases c2
  | some o =>
    obtain ⟨oc, od, dt, osl⟩ := o
    rw [q] at c2 e
    cases dt with
    | func fd =>
      obtain ⟨n1, n2, n3, n4, n5, n6, n7, n8, n9, n10, n11, n12, n13, n14, n15⟩ := fd
      have e2 : (some (n1, n2, n3, n4, n5, n6, n7, n15) : FnW) = some (d.name, d.qual, d.params, .stmts d.body, d.scope, mainGlobals, [], builtinsNs) := e
      simp only [Option.some.injEq, Prod.mk.injEq] at e2
      obtain ⟨h1, h2, h3, h4, h5, h6, h7, h8⟩ := e2
      subst h1 h2 h3 h4 h5 h6 h7 h8
      have c3 : (PySem.W.codeIn K n13 d.qual && (He.dflB K n8 [] && (He.kwdB K n9 [] && (!d.at_.lam || codeAtB K n13 d.qual)))) = true := c2
      obtain ⟨k1, k2⟩ := He.ba c3
      obtain ⟨k3, k5⟩ := He.ba k2
      obtain ⟨k4, k6⟩ := He.ba k5
      exact ⟨_, ⟨⟨oc, od, n8, n9, n10, n11, n12, n13, n14, osl, rfl, q, k1, He.dflB_ok k3, He.kwdB_ok k4⟩, kp⟩, fun hl => by rw [hl] at k6; exact codeAtB_ok k6⟩
    | _ => cases c2
/-! ## plain parameters -/
def plainP (a : Arguments) (ps : List Str) : Bool := a.posonlyargs.isEmpty && decide (a.args.map (·.arg) = ps) && a.vararg.isNone && a.kwonlyargs.isEmpty && a.kw_defaults.isEmpty && a.kwarg.isNone && a.defaults.isEmpty && decide ps.Nodup
theorem look_app {α : Type} : ∀ {l r : List (Str × α)} {k : Str}, (l ++ r).lookup k = match l.lookup k with | some x => some x | none => r.lookup k
  | [], _, _ => rfl
  | (a, x) :: l, r, k => by
    simp only [List.cons_append, List.lookup_cons]
    cases k == a <;> simp [look_app]
theorem look_zip : ∀ {ns : List Str} {us : List Value}, ns.Nodup → us.length = ns.length → ∀ (pre : List (Str × Value)), (∀ n ∈ ns, pre.lookup n = none) → ns.filterMap (fun n => ((pre ++ ns.zip us).lookup n).map (n, ·)) = ns.zip us ∧ ∀ n ∈ ns, ((pre ++ ns.zip us).lookup n).isNone = false
  | [], us, _, _, pre, _ => by simp
  | n :: ns, [], _, h, _, _ => by simp at h
  | n :: ns, u :: us, nd, h, pre, hp => by
    have nd2 := List.nodup_cons.mp nd
    have e1 : (pre ++ (n, u) :: ns.zip us).lookup n = some u := by rw [look_app, hp n List.mem_cons_self]; simp
    have e2 : pre ++ (n, u) :: ns.zip us = (pre ++ [(n, u)]) ++ ns.zip us := by simp
    have ih := look_zip nd2.2 (by simpa using h) (pre ++ [(n, u)]) fun m hm => by
      rw [look_app, hp m (List.mem_cons_of_mem _ hm)]
      simp only [List.lookup_cons]
      have : (m == n) = false := by
        cases q : m == n with
        | false => rfl
        | true => rw [beq_iff_eq] at q; rw [q] at hm; exact absurd hm nd2.1
      rw [this]; rfl
    simp only [List.zip_cons_cons]
    refine ⟨?_, fun m hm => ?_⟩
    · rw [List.filterMap_cons, e1, e2]
      simp only [Option.map_some]
      rw [ih.1]
    · rw [e2]
      rcases List.mem_cons.mp hm with q | q
      · rw [q, ← e2, e1]; rfl
      · exact ih.2 m q
theorem plain_bind0 {a : List Arg} {x qual : Str} {body : List Stmt} {scope : Scope} {kV doc pm : Value} {an : Option Addr} {cdv ct : Value} {us : List Value} (nd : (a.map (·.arg)).Nodup) (hl : us.length = a.length) :
    bindArgs (PySem.W.fnOf x qual ⟨[], a, none, [], [], none, []⟩ body scope .none kV doc pm an cdv ct) ⟨us, []⟩ = pure ((a.map (·.arg)).zip us) := by
  obtain ⟨z1, z2⟩ := look_zip nd (by simpa using hl) [] (by simp)
  simp only [List.nil_append] at z1 z2
  have z3 : ∀ l : List Str, (∀ n ∈ l, n ∈ a.map (·.arg)) → l.filter (fun n => (List.lookup n ((a.map (·.arg)).zip us)).isNone) = [] := fun l hl => List.filter_eq_nil_iff.mpr fun n hn => by rw [z2 n (hl n hn)]; simp
  rw [List.filterMap_map] at z1
  unfold bindArgs
  simp only [PySem.W.fnOf]
  simp [hl, seqItems?]
  have z4 : notAStandIn Value.none = (pure () : Sem Unit) := rfl
  simp only [z4, pure_bind]
  split
  · rename_i h
    exfalso
    rw [z3 _ (fun n hn => List.mem_of_mem_take (by simpa using hn))] at h
    simp at h
  · rw [z1]
theorem plain_bind {a : Arguments} {ps : List Str} (h : plainP a ps = true) {x qual : Str} {body : List Stmt} {scope : Scope} {kV doc pm : Value} {an : Option Addr} {cdv ct : Value} {us : List Value} (hl : us.length = ps.length) :
    bindArgs (PySem.W.fnOf x qual a body scope .none kV doc pm an cdv ct) ⟨us, []⟩ = pure (ps.zip us) := by
  obtain ⟨po, as, va, ko, kd, kw, df⟩ := a
  unfold plainP at h
  simp only [Bool.and_eq_true, List.isEmpty_iff, Option.isNone_iff_eq_none, decide_eq_true_eq] at h
  obtain ⟨⟨⟨⟨⟨⟨⟨h1, h2⟩, h3⟩, h4⟩, h5⟩, h6⟩, h7⟩, h8⟩ := h
  subst h1 h2 h3 h4 h5 h6 h7
  exact plain_bind0 h8 (by simpa using hl)
theorem plain_bindk0 {a : Arg} {x qual : Str} {body : List Stmt} {scope : Scope} {kV doc pm : Value} {an : Option Addr} {cdv ct u : Value} :
    bindArgs (PySem.W.fnOf x qual ⟨[], [a], none, [], [], none, []⟩ body scope .none kV doc pm an cdv ct) ⟨[], [(a.arg, u)]⟩ = pure [(a.arg, u)] := by
  unfold bindArgs
  simp only [PySem.W.fnOf]
  have z4 : notAStandIn Value.none = (pure () : Sem Unit) := rfl
  simp [seqItems?, z4]
theorem plain_bindk {a : Arguments} {kn : Str} (h : plainP a [kn] = true) {x qual : Str} {body : List Stmt} {scope : Scope} {kV doc pm : Value} {an : Option Addr} {cdv ct u : Value} :
    bindArgs (PySem.W.fnOf x qual a body scope .none kV doc pm an cdv ct) ⟨[], [(kn, u)]⟩ = pure [(kn, u)] := by
  obtain ⟨po, as, va, ko, kd, kw, df⟩ := a
  unfold plainP at h
  simp only [Bool.and_eq_true, List.isEmpty_iff, Option.isNone_iff_eq_none, decide_eq_true_eq] at h
  obtain ⟨⟨⟨⟨⟨⟨⟨h1, h2⟩, h3⟩, h4⟩, h5⟩, h6⟩, h7⟩, h8⟩ := h
  subst h1 h3 h4 h5 h6 h7
  match as, h2 with
  | [a], h2 =>
    simp only [List.map_cons, List.map_nil, List.cons.injEq, and_true] at h2
    subst h2
    exact plain_bindk0
def scB (N P : List Str) (sc : Scope) : Bool := decide (sc.kind = .function) && !sc.isCoroutine && !sc.isGenerator && decide N.Nodup && decide (N.take P.length = P) && P.all (fun x => decide (sc.names.lookup x = some .local ∨ sc.names.lookup x = some .cell)) && sc.names.all fun y => decide (y.2 ≠ .free)
theorem scB_ok {N P : List Str} {sc : Scope} (h : scB N P sc = true) : FnScope N P sc := by
  unfold scB at h
  simp only [Bool.and_eq_true, decide_eq_true_eq, Bool.not_eq_true', List.all_eq_true] at h
  obtain ⟨⟨⟨⟨⟨⟨h1, h2⟩, h3⟩, h4⟩, h5⟩, h6⟩, h7⟩ := h
  exact ⟨h1, h2, h3, h4, h5, h6, h7⟩
/-- what is seen of a def without the run -/
def Df.st (d : Df) : Bool := plainP d.params d.F.ps && scB d.F.N d.F.ps d.scope && mSs d.F.N d.sc d.F.body d.body
theorem Df.fnAt {g : Gr} {d : Df} (e : fnW g.K (d.at_.ad g.K) = d.val) (c : d.ok g.K = true) (s : d.st = true) : FnAt g d.F (d.at_.ad g.K) := by
  unfold Df.st at s
  simp only [Bool.and_eq_true] at s
  obtain ⟨⟨s1, s2⟩, s3⟩ := s
  obtain ⟨fd, D, hl⟩ := Df.funD e c
  refine ⟨d.name, d.qual, d.params, d.body, d.scope, [], fd, d.sc, D, scB_ok s2, D.bindsN fun _ _ _ _ _ _ us hl => plain_bind s1 hl, fun kn hp => ?_, ?_, fun hc => ?_, s3⟩
  · rw [hp] at s1
    obtain ⟨oc, od, dV, kV, doc, pm, an, cdv, ct, osl, rfl, lk, hcd, hd, _⟩ := D.ex
    rcases hd with ⟨_, rfl⟩ | ⟨e, _⟩
    · exact fun s u _ => BindsTo.of_eq (plain_bindk s1)
    · exact absurd rfl e
  · unfold Df.sc
    split <;> rfl
  · refine hl ?_
    unfold Df.sc at hc
    split at hc
    · assumption
    · cases hc

end Z
namespace Z
open PySem PySem.Spec PyProof.Rows L2
theorem plain_bindS {a : Arguments} {ps : List Str} (h : plainP a ps = true) {x qual : Str} {body : List Stmt} {scope : Scope} {kV doc pm : Value} {an : Option Addr} {cdv ct : Value} {cc : Addr} {us : List Value} (hl : us.length = ps.length) :
    bindArgs (PySem.W.ksFn x qual a body scope .none kV doc pm an cdv ct cc) ⟨us, []⟩ = pure (ps.zip us) := by
  have z := plain_bind h (x := x) (qual := qual) (body := body) (scope := scope) (kV := kV) (doc := doc) (pm := pm) (an := an) (cdv := cdv) (ct := ct) hl
  exact z
def Ef.st (e : Ef) : Bool := plainP e.params (e.sf :: e.flds) && (scK (e.sf :: e.flds) e.scope && erBd e.sf e.tag e.flds e.body)
theorem erB2_ok {K : PySem.W.Frag} {file : Str} {e : Ef} (h : erB2 K file (e.C K) (e.f K) = true) (hv : fnE K (e.f K) = e.val) : ∃ oc od kV doc pm an cda ct osl cc, K.lookup (e.f K) = some ⟨oc, od, .func (PySem.W.ksFn e.name e.qual e.params e.body e.scope .none kV doc pm an (.ref cda) ct cc), osl⟩ ∧
    PySem.W.codeIn K (.ref cda) e.qual = true ∧ (∃ ccl cdd vs ccs fl tf, K.lookup cda = some ⟨ccl, cdd, .fields vs, ccs⟩ ∧ vs[2]? = some (.str fl tf) ∧ (fl == file) = true) ∧ ∃ cl cld csl, K.lookup cc = some ⟨cl, cld, .cell (some (.ref (e.C K))), csl⟩ := by
  unfold erB2 at h
  unfold fnE at hv
  split at h
  · rename_i oc od fd osl q
    rw [q] at hv
    obtain ⟨n1, n2, n3, n4, n5, n6, n7, n8, n9, n10, n11, n12, n13, n14, n15⟩ := fd
    dsimp only at h hv
    split at h
    · rename_i nm cc cda
      simp only [Bool.and_eq_true] at h
      obtain ⟨h1, h2, h3, h4, h5⟩ := h
      unfold Ef.val at hv
      simp only [Option.some.injEq, Prod.mk.injEq, List.map_cons, List.map_nil] at hv
      obtain ⟨v1, v2, v3, v4, v5, v6, v7, v8⟩ := hv
      have v7' : nm = ("__class__" : Str) := by
        injection v7
      subst v1 v2 v3 v4 v5 v6 v7' v8
      have hd := He.dflB_ok h2
      rcases hd with ⟨_, rfl⟩ | ⟨z, _⟩
      · refine ⟨oc, od, _, _, _, _, cda, _, osl, cc, q, h1, ?_, ?_⟩
        · split at h5
          · rename_i ccl cdd vs ccs q2
            split at h5
            · rename_i fl tf q3
              exact ⟨_, _, vs, _, fl, tf, q2, q3, h5⟩
            · cases h5
          · cases h5
        · split at h4
          · rename_i cl cld D csl q2
            have := of_decide_eq_true h4
            subst this
            exact ⟨_, _, _, q2⟩
          · cases h4
      · exact absurd rfl z
    · cases h
  · cases h
theorem okN_ok {x : Str} (h : okN x = true) : (x == ("__debug__" : Str)) = false ∧ (x == ("__classdict__" : Str)) = false := by
  unfold okN at h
  simp only [Bool.and_eq_true, Bool.not_eq_true'] at h
  exact h
theorem er_ok {P : Program} {w : World} {K : PySem.W.Frag} {mg : Str → Option Value} {base h : Heap} {file : Str} {e : Ef} (X : K.In h) (G : h.Ns mainGlobals mg) (hs : e.st = true) (hc : erB file K e = true) (hv : fnE K (e.f K) = e.val)
    (hfile : P.main.file = file) (htop : (P.main.scope.names.lookup ("super" : Str)).isSome = false) : ErOk P w K mg base e.nm (e.C K) e.tag e.flds := by
  unfold Ef.st at hs
  simp only [Bool.and_eq_true] at hs
  obtain ⟨s1, s2, s3⟩ := hs
  obtain ⟨S, s4, s5⟩ := scK_ok s2
  unfold erB at hc
  simp only [Bool.and_eq_true, decide_eq_true_eq, List.all_eq_true] at hc
  obtain ⟨c1, c2, c3, c4, c5, c6, c7, c8, c9, c10, c11, c12, c13, c14, c15, c16⟩ := hc
  have oex : OexC K (e.C K) := ⟨erB1_ok c3, He.eqO_ok c5, c6, c7, c2⟩
  obtain ⟨oc, od, kV, doc, pm, an, cda, ct, osl, cc, lk, hcd, ⟨ccl, cdd, vs, ccs, fl, tf, q2, q3, q4⟩, hcell⟩ := erB2_ok c4 hv
  have hb : Binds K (PySem.W.ksFn e.name e.qual e.params e.body e.scope .none kV doc pm an (.ref cda) ct cc) (e.sf :: e.flds) [] := .all fun us hl => plain_bindS s1 hl
  have har : ∃ ar : Arg, (e.params.posonlyargs ++ e.params.args).head? = some ar ∧ ar.arg = e.sf := by
    unfold plainP at s1
    simp only [Bool.and_eq_true, List.isEmpty_iff, decide_eq_true_eq] at s1
    obtain ⟨⟨⟨⟨⟨⟨⟨h1, h2⟩, _⟩, _⟩, _⟩, _⟩, _⟩, _⟩ := s1
    rw [h1, List.nil_append]
    cases q : e.params.args with
    | nil => rw [q] at h2; cases h2
    | cons a r => rw [q] at h2; exact ⟨a, rfl, (List.cons.inj h2).1⟩
  obtain ⟨ar, ha1, ha2⟩ := har
  have F : ∀ N : List Str, N[0]? = some e.sf → KsInit P K mg N e.scope (e.f K) cc cda (e.C K) e.sf := fun N hN =>
    ⟨⟨_, _, _, _, ar, lk, ha1, ha2⟩, hN, S.par _ List.mem_cons_self, s4, s5, ⟨_, _, vs, _, fl, tf, q2, q3, by rw [hfile]; rw [beq_iff_eq] at q4 ⊢; exact q4.symm⟩, hcell, He.free_ok X G c12, htop, He.eqO_ok c13, oex, He.eqO_ok c14, c15, c16⟩
  refine ⟨He.glo_ok X G c1, c2, oex, e.f K, _, e.sf :: e.flds, He.eqO_ok c8, c9, hb, ?_⟩
  obtain ⟨nm, name, qual, params, body, scope, sf, tag, flds⟩ := e
  dsimp only at *
  unfold erBd at s3
  split at s3
  · rename_i fld sp q0 p1 ini q2' m j p2 x p3 c p4 p5 q3' p6 s1' r0 t1 r1 tg j2 r2 r3 s2' s0 f1 s1'' f2 s2'' s3'
    simp only [Bool.and_eq_true, beq_iff_eq, decide_eq_true_eq] at s3
    obtain ⟨rfl, rfl, hln, hm, rfl, rfl, rfl, rfl, rfl, rfl, rfl, rfl, k1, k2⟩ := s3
    exact .inl ⟨_, rfl, fn_init1 lk hcd (F _ rfl) S hm (He.eqO_ok c10) (He.eqO_ok (c11 _ List.mem_cons_self)) (okN_ok k1).1 (okN_ok k1).2 (okN_ok k2).1 (okN_ok k2).2 (by simpa using hln)⟩
  · simp only [Bool.and_eq_true, beq_iff_eq] at s3
    obtain ⟨rfl, rfl, hln, rfl, rfl, rfl, k2⟩ := s3
    exact .inr ⟨rfl, fn_init0 lk hcd (F _ rfl) S (He.eqO_ok c10) (okN_ok k2).1 (okN_ok k2).2 (by simpa using hln)⟩
  · cases s3
end Z
namespace Z
open PySem PySem.Spec PyProof.Rows L2
/-! ## the def that calls what it gets and tells its error: looked at without the run, and behind the top -/
structure WyN where
  ask : Str
  told : Str
  ev : Str
  fld : Str
  x1 : Str
  x2 : Str
  x3 : Str
def whyQ : List Stmt → Option WyN
  | [.Try [.Assign [.Name told _] (.Call (.Name ask _) [] [] _) _]
      [.ExceptHandler (some (.Tuple [.Name x1 _, .Name x2 _, .Name x3 _] _ _)) (some ev) [.Return (some (.Tuple [.Attribute (.Name ev1 _) t _, .Call (.Name fld _) [.Name ev2 _] [] _] _ _)) _] _] [] [] _,
     .Return (some (.Tuple [.Constant (.str em) _ _, .Name told2 _] _ _)) _] => if ev1 = ev ∧ ev2 = ev ∧ t = "tag" ∧ told2 = told ∧ em = Str.empty then some ⟨ask, told, ev, fld, x1, x2, x3⟩ else none
  | _ => none
theorem whyQ_ok {b : List Stmt} {n : WyN} (h : whyQ b = some n) : ∃ kk k2 k3 j1 a1 a2 a3 a4 b1 b2 b3 b4 c1 c2 c3 c4 c5 c6 d1 d2 e1 e2 e3 e4 e5, b = whyBody n.ask n.told n.ev n.fld n.x1 n.x2 n.x3 Str.empty kk k2 k3 j1 a1 a2 a3 a4 b1 b2 b3 b4 c1 c2 c3 c4 c5 c6 d1 d2 e1 e2 e3 e4 e5 := by
  unfold whyQ at h
  split at h
  · split at h
    · rename_i hh
      obtain ⟨rfl, rfl, rfl, rfl, rfl⟩ := hh
      cases h
      exact ⟨_, _, _, _, _, _, _, _, _, _, _, _, _, _, _, _, _, _, _, _, _, _, _, _, _, rfl⟩
    · cases h
  · cases h
def whyS (dW dF : Df) (bs : List (List Str × FR)) (r : FR) : Bool := match whyQ dW.body, dW.F.ps, dF.F.ps with
  | some n, [p], [sf] => n.ask == p && (n.fld == "_law_field" && (dW.name == "_law_why" && (dW.qual == "_law_why" && (decide (dW.F.N[dW.F.N.idxOf n.ev]? = some n.ev) && (decide (dW.F.N[dW.F.N.idxOf n.told]? = some n.told) &&
    (decide (dW.F.N.idxOf n.ev ≠ dW.F.N.idxOf n.told ∧ dW.F.N.idxOf n.ev ≠ 0 ∧ dW.F.N.idxOf n.told ≠ 0) && (decide (dW.scope.names.lookup n.ev = some .local ∧ dW.scope.names.lookup n.told = some .local) &&
    ([n.fld, n.x1, n.x2, n.x3].all (fun x => decide (dW.scope.names.lookup x = some .globalImplicit)) && ([n.ev, n.told, n.fld, n.x1, n.x2, n.x3, n.ask, sf].all okN' && fbB sf bs r dF.body)))))))))
  | _, _, _ => false
def fldCB (K : PySem.W.Frag) (C : Addr) (bs : List (List Str × FR)) (r : FR) : Bool := xfB K C && (("tag" : Str) :: r.names ++ bs.flatMap (fun p => p.2.names)).all fun n => He.eqO (PySem.W.findIn K (.ref C) n) (some none)
theorem fldCB_ok {K : PySem.W.Frag} {C : Addr} {bs : List (List Str × FR)} {r : FR} (h : fldCB K C bs r = true) : FldC K C bs r := by
  unfold fldCB at h
  obtain ⟨h1, h2⟩ := He.ba h
  have h3 := List.all_eq_true.mp h2
  exact ⟨xfB_ok h1, He.eqO_ok (h3 _ (by simp)), fun n hn => He.eqO_ok (h3 _ (by simp [hn])), fun p hp n hn => He.eqO_ok (h3 _ (by
    simp only [List.cons_append, List.mem_cons, List.mem_append, List.mem_flatMap]
    exact .inr (.inr ⟨p, hp, hn⟩)))⟩
def whyC (K : PySem.W.Frag) (dW : Df) (bs : List (List Str × FR)) (r : FR) (exn : List Ef) : Bool := (He.Fa.glo "_law_why").ok K && ((He.Fa.glo "_law_field").ok K && (match whyQ dW.body with
  | some n => (He.Fa.glo n.x1).ok K && ((He.Fa.glo n.x2).ok K && ((He.Fa.glo n.x3).ok K && exn.all fun e => (He.Fa.glo e.nm).ok K && (decide (PySem.W.exmAny K (.ref (He.ga K e.nm)) [.ref (He.ga K n.x1), .ref (He.ga K n.x2), .ref (He.ga K n.x3)] = some true) && fldCB K (He.ga K e.nm) bs r)))
  | none => false))
theorem why_ok {g : Gr} {h : Heap} {dW dF : Df} {bs : List (List Str × FR)} {r : FR} {exn : List Ef} {ex : Str → Option (Str × List Str)} (KX : g.K.In h) (NS : h.Ns mainGlobals g.mg) (s : whyS dW dF bs r = true) (c : whyC g.K dW bs r exn = true)
    (aW : dW.at_.ad g.K = He.ga g.K "_law_why") (aF : dF.at_.ad g.K = He.ga g.K "_law_field") (eW : fnW g.K (dW.at_.ad g.K) = dW.val) (cW : dW.ok g.K = true) (sW : dW.st = true) (eF : fnW g.K (dF.at_.ad g.K) = dF.val) (cF : dF.ok g.K = true) (sF : dF.st = true)
    (hex : ∀ c tf, ex c = some tf → ∃ e ∈ exn, e.nm = c) : WhyOk g ex bs r := by
  unfold whyS at s
  split at s
  · rename_i n p sf q1 q2 q3
    simp only [Bool.and_eq_true, beq_iff_eq, decide_eq_true_eq] at s
    obtain ⟨s1, s2, s3, s4, s5, s6, ⟨s7, s8, s9⟩, ⟨s10, s11⟩, s12, s13, s14⟩ := s
    unfold whyC at c
    rw [q1] at c
    obtain ⟨c1, c⟩ := He.ba c
    obtain ⟨c2, c⟩ := He.ba c
    obtain ⟨c3, c⟩ := He.ba c
    obtain ⟨c4, c⟩ := He.ba c
    obtain ⟨c5, c6⟩ := He.ba c
    unfold Df.st at sW sF
    simp only [Bool.and_eq_true] at sW sF
    obtain ⟨⟨w1, w2⟩, _⟩ := sW
    obtain ⟨⟨f1, f2⟩, _⟩ := sF
    obtain ⟨fdW, DW, _⟩ := Df.funD eW cW
    obtain ⟨fdF, DF, _⟩ := Df.funD eF cF
    have SW := scB_ok w2
    have SF := scB_ok f2
    rw [q2] at w1 SW
    rw [q3] at f1 SF
    have BW := DW.bindsN fun _ _ _ _ _ _ us hl => plain_bind w1 hl
    have BF := DF.bindsN fun _ _ _ _ _ _ us hl => plain_bind f1 hl
    have kW := DW.kp
    have kF := DF.kp
    rw [aW] at kW DW
    rw [aF] at kF DF
    obtain ⟨oc, od, dV, kV, doc, pm, an, cdv, ct, osl, rfl, lk, hcd, _, _⟩ := DW.ex
    obtain ⟨oc', od', dV', kV', doc', pm', an', cdv', ct', osl', rfl, lk', hcd', _, _⟩ := DF.ex
    have ok := List.all_eq_true.mp s13
    have oka := ok n.ask (by simp)
    have oks := ok sf (by simp)
    unfold okN' at oka oks
    simp only [Bool.and_eq_true, Bool.not_eq_true'] at oka oks
    have N0 : dW.F.N[0]? = some n.ask := by
      have z := SW.pre
      rw [s1]
      have z2 : (dW.F.N.take 1)[0]? = some p := by rw [show dW.F.N.take 1 = [p] from z]; rfl
      rw [List.getElem?_take_of_lt (by omega)] at z2
      exact z2
    have F0 : dF.F.N[0]? = some sf := by
      have z := SF.pre
      have z2 : (dF.F.N.take 1)[0]? = some sf := by rw [show dF.F.N.take 1 = [sf] from z]; rfl
      rw [List.getElem?_take_of_lt (by omega)] at z2
      exact z2
    have FD : FldD g.K g.mg n.fld (He.ga g.K "_law_field") sf dF.F.N bs r := by
      rw [s2]
      exact ⟨He.glo_ok KX NS c2, kF, ⟨_, _, _, _, _, _, _, _, _, _, _, _, _, _, _, lk', hcd', SF, BF, s14⟩, F0, oks.1, oks.2⟩
    have gl := List.all_eq_true.mp s12
    obtain ⟨kk, k2, k3, j1, a1, a2, a3, a4, b1, b2, b3, b4, p1, p2, p3, p4, p5, p6, d1, d2, e1, e2, e3, e4, e5, hb⟩ := whyQ_ok q1
    have m1 := He.glo_ok KX NS c3
    have m2 := He.glo_ok KX NS c4
    have m3 := He.glo_ok KX NS c5
    rw [s3, s4] at lk BW
    rw [s4] at hcd
    rw [← s1] at BW SW
    refine ⟨He.ga g.K "_law_why", [.ref (He.ga g.K n.x1), .ref (He.ga g.K n.x2), .ref (He.ga g.K n.x3)], n.ask, dW.F.N, dW.params, dW.body, dW.scope, dV, kV, doc, pm, cdv, ct, oc, an, od, osl, He.glo_ok KX NS c1, kW, lk, hcd, BW, SW, N0, ?_, oka.1, oka.2, fun X q hX hr => ?_, fun c tf hc => ?_⟩
    · rcases SW.par n.ask (by simp) with z | z
      · exact .inl z
      · exact .inr (.inl z)
    · subst hX
      rw [hb]
      refine why_gives (gf := He.ga X.K "_law_field") (sf := sf) (N := dF.F.N) FD hr SW.nd (fun f => ?_) s5 s6 s7 s8 s9 s10 s11 (of_decide_eq_true (gl _ (by simp))) (of_decide_eq_true (gl _ (by simp))) (of_decide_eq_true (gl _ (by simp))) (of_decide_eq_true (gl _ (by simp))) m1 m2 m3 fun y hy => ok y (by
        simp only [List.mem_cons, List.not_mem_nil, or_false] at hy ⊢
        rcases hy with h | h | h | h | h | h <;> simp [h])
      rfl
    · obtain ⟨e, he, rfl⟩ := hex c tf hc
      have z := List.all_eq_true.mp c6 e he
      obtain ⟨z1, z2⟩ := He.ba z
      obtain ⟨z3, z4⟩ := He.ba z2
      exact ⟨_, He.glo_ok KX NS z1, of_decide_eq_true z3, fldCB_ok z4⟩
  · cases s
/-! ## static methods -/
def smtB (K : PySem.W.Frag) (p : Str × Str × Str) : Bool := (He.Fa.glo p.1).ok K && (PySem.W.readsIn K (He.ga K p.1) (.type "type") && (He.eqO (PySem.W.specialIn K (.ref (He.ga K p.1)) "__getattribute__") (some (some (.builtin "type.__getattribute__"))) &&
  ((match PySem.W.findCls K (.ref (He.ga K p.1)) (.type "type") p.2.1 with
    | some (.get g a n c) => decide (g = .builtin "staticmethod.__get__") && (decide (a = .ref (rawOf K (He.ga K p.1) p.2.1)) && (decide (n = .none) && decide (c = .ref (He.ga K p.1))))
    | _ => false) && (match PySem.W.recIn K (rawOf K (He.ga K p.1) p.2.1) "staticmethod" with
    | some (.ref g :: _) => PySem.W.keepIn K (.ref g)
    | _ => false))))
theorem smtB_ok {g : Gr} {h : Heap} (X : g.K.In h) (G : h.Ns mainGlobals g.mg) {C m q : Str} (e : smtB g.K (C, m, q) = true) : g.mg C = some (.ref (He.ga g.K C)) ∧ ClX.CRead g.K (He.ga g.K C) (.type "type") ∧ SMet g.K (He.ga g.K C) (.type "type") m (rawOf g.K (He.ga g.K C) m) (statOf g.K (rawOf g.K (He.ga g.K C) m)) := by
  unfold smtB at e
  obtain ⟨e1, e⟩ := He.ba e
  obtain ⟨e2, e⟩ := He.ba e
  obtain ⟨e3, e⟩ := He.ba e
  obtain ⟨e4, e5⟩ := He.ba e
  refine ⟨He.glo_ok X G e1, ⟨e2, He.eqO_ok e3⟩, ?_⟩
  dsimp only at e4 e5
  split at e4
  · rename_i g1 a n c hf
    simp only [Bool.and_eq_true, decide_eq_true_eq] at e4
    obtain ⟨rfl, rfl, rfl, rfl⟩ := e4
    split at e5
    · rename_i gt rest hr
      have hs : statOf g.K (rawOf g.K (He.ga g.K C) m) = gt := by unfold statOf; rw [hr]
      exact ⟨hf, ⟨rest, by rw [hs]; exact hr⟩, by rw [hs]; exact e5⟩
    · cases e5
  · cases e4
end Z
namespace Z
open PySem PySem.Spec PyProof.Rows L2
/-! ## the tables -/
structure Tb where
  defs : List Df
  cst : List (Str × U)
  dic : List (Str × List (Str × U))
  cls : List Str
  fld : List (Str × Str)
  mth : List (Str × Str × Str)
  prp : List (Str × Str × Str)
  con : List (Str × Str × U)
  isa : List (Ty × Ty × Bool)
  isc : List Str
  clv : List Str
  mak : List Str
  gfs : List Str
  eqm : List (Str × Str)
  lnm : List (Str × Str)
  exn : List Ef := []
  file : Str := Str.empty
  why : Option (List (List Str × FR) × FR) := none
  smt : List (Str × Str × Str) := []
def look2 {α : Type} (l : List (Str × Str × α)) (a b : Str) : Option α := (l.find? fun p => p.1 == a && p.2.1 == b).map (·.2.2)
theorem look2_mem {α : Type} {l : List (Str × Str × α)} {a b : Str} {x : α} (h : look2 l a b = some x) : (a, b, x) ∈ l := by
  unfold look2 at h
  cases e : l.find? fun p => p.1 == a && p.2.1 == b with
  | none => rw [e] at h; cases h
  | some p =>
    rw [e] at h
    obtain ⟨p1, p2, p3⟩ := p
    have h2 := List.find?_some e
    simp only [Bool.and_eq_true, beq_iff_eq] at h2
    obtain ⟨rfl, rfl⟩ := h2
    cases h
    exact List.mem_of_find?_eq_some e
theorem look_mem {α : Type} {l : List (Str × α)} {a : Str} {x : α} (h : l.lookup a = some x) : (a, x) ∈ l := by
  induction l with
  | nil => cases h
  | cons p r ih =>
    obtain ⟨b, y⟩ := p
    simp only [List.lookup_cons] at h
    split at h
    · rename_i e
      rw [beq_iff_eq.mp e]
      cases h
      exact List.mem_cons_self
    · exact List.mem_cons_of_mem _ (ih h)
def Tb.df (t : Tb) (q : Str) : Option Df := t.defs.find? fun d => d.q == q
def Tb.fns (t : Tb) (q : Str) : Option Fn := (t.df q).map (·.F)
def Tb.ad (t : Tb) (K : PySem.W.Frag) (q : Str) : Addr := match t.df q with
  | some d => d.at_.ad K
  | none => 0
def isaL (l : List (Ty × Ty × Bool)) (a b : Ty) : Option Bool := (l.find? fun p => decide (p.1 = a) && decide (p.2.1 = b)).map (·.2.2)
theorem isaL_mem {l : List (Ty × Ty × Bool)} {a b : Ty} {x : Bool} (h : isaL l a b = some x) : (a, b, x) ∈ l := by
  unfold isaL at h
  cases e : l.find? fun p => decide (p.1 = a) && decide (p.2.1 = b) with
  | none => rw [e] at h; cases h
  | some p =>
    rw [e] at h
    obtain ⟨p1, p2, p3⟩ := p
    have h2 := List.find?_some e
    simp only [Bool.and_eq_true, decide_eq_true_eq] at h2
    obtain ⟨rfl, rfl⟩ := h2
    cases h
    exact List.mem_of_find?_eq_some e
def Tb.pg (t : Tb) : Pg where
  kd := fun x => t.dic.lookup x
  gv := fun x => t.cst.lookup x
  meth := look2 t.mth
  prop := look2 t.prp
  con := look2 t.con
  isa := isaL t.isa
  kws := fun _ _ _ _ => none
  own := t.mak.contains
  gf := t.gfs.contains
  fld := fun C f => t.fld.contains (C, f)
  cls := t.clv.contains
  eqm := fun C => t.eqm.lookup C
  lnm := fun C => t.lnm.lookup C
  exn := fun c => (t.exn.find? fun e => e.nm == c).map fun e => (e.tag, e.flds)
  why := t.why
  smet := look2 t.smt
  smek := fun C m => (look2 t.smt C m).bind fun q => (t.fns q).bind fun F => match F.ps with
    | [k] => some (q, k)
    | _ => none
/-! ## what is looked at behind the top -/
def uvB (K : PySem.W.Frag) : U → Value → Bool
  | .non, .none => true
  | .bl b, .bool c => b == c
  | .int i, .int j _ => decide (i = j)
  | .str x, .str y _ => decide (x = y)
  | .glb x, .ref a => He.eqO (PySem.W.nsIn K mainGlobals x) (some (some (.ref a)))
  | _, _ => false
theorem uvB_ok {g : Gr} {kd : Str → Option (List (Str × U))} {h : Heap} (X : g.K.In h) (G : h.Ns mainGlobals g.mg) {u : U} {val : Value} (e : uvB g.K u val = true) : GV (g.wr kd) u val := by
  unfold uvB at e
  split at e
  · exact ⟨.non, rfl, fun H f n => by simp [RU]⟩
  · rename_i b c; have e2 := eq_of_beq e; subst e2; exact ⟨.bl b, rfl, fun H f n => by simp [RU]⟩
  · rename_i i j t; have e2 := of_decide_eq_true e; subst e2; exact ⟨.int i, ⟨_, rfl⟩, fun H f n => by simp [RU]⟩
  · rename_i i j t; have e2 := of_decide_eq_true e; subst e2; exact ⟨.str i, ⟨_, rfl⟩, fun H f n => by simp [RU]⟩
  · rename_i x a
    have e2 := PySem.W.mg_of X G (He.eqO_ok e)
    exact ⟨.ref a, rfl, fun H f n => by simp only [RU]; exact ⟨_, e2, rfl⟩⟩
  · cases e
def gvB (K : PySem.W.Frag) (p : Str × U) : Bool := match PySem.W.nsIn K mainGlobals p.1 with
  | some (some val) => uvB K p.2 val
  | _ => false
def dkB (K : PySem.W.Frag) (p : Str × List (Str × U)) : Bool := (He.Fa.glo p.1).ok K && p.2.all fun q => match PySem.W.nsIn K (He.ga K p.1) q.1 with
  | some (some val) => uvB K q.2 val
  | _ => false
def tyVal (K : PySem.W.Frag) : Ty → Value
  | .own C => .ref (He.ga K C)
  | t => .type (tyS t)
def tyOwn : Ty → List Str
  | .own C => [C]
  | _ => []
def isaB (K : PySem.W.Frag) (p : Ty × Ty × Bool) : Bool := (tyOwn p.1 ++ tyOwn p.2.1).all (fun C => (He.Fa.glo C).ok K) && decide (PySem.W.kitOne K (tyVal K p.1) (tyVal K p.2.1) = some p.2.2)
def clsB (K : PySem.W.Frag) (C : Str) : Bool := (He.Fa.glo C).ok K && (He.Fa.cls C).ok K
def iscB (K : PySem.W.Frag) (C : Str) : Bool := clsB K C && (He.eqO (PySem.W.findIn K (.ref (He.ga K C)) "__class__") (some (some (.builtin "object.__class__"))) && (decide (PySem.W.mroIn K (He.ga K C) (.type "object") = some true)))
def prpB (K : PySem.W.Frag) (p : Str × Str × Str) : Bool := clsB K p.1 && (He.eqO (PySem.W.findIn K (.ref (He.ga K p.1)) p.2.1) (some (some (.ref (He.ma K (He.ga K p.1) p.2.1)))) &&
  (He.eqO (PySem.W.specialIn K (.ref (He.ma K (He.ga K p.1) p.2.1)) "__get__") (some (some (.builtin "property.__get__"))) && (decide (PySem.W.takesIn K (.ref (He.ma K (He.ga K p.1) p.2.1)) = some true) &&
  (match PySem.W.recIn K (He.ma K (He.ga K p.1) p.2.1) "property" with
    | some (.ref _ :: _) => true
    | _ => false))))
def conB (K : PySem.W.Frag) (p : Str × Str × U) : Bool := clsB K p.1 && (match PySem.W.findIn K (.ref (He.ga K p.1)) p.2.1 with
  | some (some u) => uvB K p.2.2 u && (He.eqO (PySem.W.specialIn K u "__get__") (some none) && !PySem.W.copiedNames.contains p.2.1)
  | _ => false)
/-- the class's own object, its names: no __ne__, no names but texts -/
def eqnB (K : PySem.W.Frag) (C f : Addr) : Bool := match K.lookup C with
  | some ⟨.type "type", _, .cls cd, sl⟩ => decide (cd.mro = [.ref C, .type "object"]) && cd.hasDict && !cd.abstract && !cd.hasDel && (decide (sl.toList[4]? = some (some (.builtin "object.__new__")) ∧ sl.size = 6)) && (match K.lookup cd.ns with
    | some ⟨_, _, .dict es _, _⟩ => es.toList.all (fun e => match e.key with | .str _ _ => true | _ => false) && (decide (findBy (fun (n : Str) (v : Value) => v.isStr n) es "__eq__" = some (.ref f)) && decide (findBy (fun (n : Str) (v : Value) => v.isStr n) es "__ne__" = none))
    | _ => false)
  | _ => false
theorem eqnB_ok {K : PySem.W.Frag} {C f : Addr} (e : eqnB K C f = true) (hf : PySem.W.isFn K (.ref f) = true) (a : Addr) (h : Heap) (o : Obj) (X : K.In h) (ho : h.get? a = some o) (hc : o.cls = .ref C) : h.OwnEqNoNe a C f "object" [.type "object"] := by
  unfold eqnB at e
  split at e
  · rename_i od cd sl hC
    simp only [Bool.and_eq_true, decide_eq_true_eq, Bool.not_eq_true'] at e
    obtain ⟨⟨⟨⟨⟨e1, e2⟩, e3⟩, e4⟩, e5, e6⟩, e7⟩ := e
    split at e7
    · rename_i c2 d2 es n2 sl2 hN
      simp only [Bool.and_eq_true, decide_eq_true_eq, List.all_eq_true] at e7
      obtain ⟨e8, e9, e10⟩ := e7
      obtain ⟨k0, k1, k2, k3, k4, k5, rfl⟩ : ∃ k0 k1 k2 k3 k4 k5, sl = #[k0, k1, k2, k3, k4, k5] := by
        obtain ⟨l⟩ := sl
        match l, e6 with
        | [a, b, c, d, e, f], _ => exact ⟨a, b, c, d, e, f, rfl⟩
      have e11 : k4 = some (.builtin "object.__new__") := Option.some.inj e5
      subst e11
      have tf : ∃ of, K.lookup f = some of ∧ of.cls = .type "function" := by
        unfold PySem.W.isFn at hf
        have h1 := eq_of_beq hf
        exact Option.map_eq_some_iff.mp h1
      obtain ⟨of, lf, cf⟩ := tf
      obtain ⟨nm, bs, mro, ns, q, hd, sn, sub, ab, col, del⟩ := cd
      have hC2 := X _ _ hC
      dsimp only at e1 e2 e3 e4 hN
      subst e1 e2 e3 e4
      exact ⟨o, of, nm, q, ns, bs, true, sn, sub, false, col, od, k0, k1, k2, k3, k5, "object.__new__", fun z => nsFind es z, _, ho, hc, hC2,
        ⟨_, es, n2, X _ _ hN, rfl, fun en hen => by
          have := e8 en (Array.mem_toList_iff.mpr hen)
          revert this
          cases en.key <;> simp, fun _ => rfl⟩, e9, X _ _ lf, cf, PySem.F.mro_object, rfl, e10⟩
    · cases e7
  · cases e
/-! ### a dict of the top -/
theorem nsIn_keys {K : PySem.W.Frag} {w : World} {a : Addr} {ks : List Str} (h : He.dicW K a = some (He.keysIn w.params ks)) {z : Str} (hz : z ∉ ks) : PySem.W.nsIn K a z = some none := by
  unfold He.dicW at h
  unfold PySem.W.nsIn
  cases q : K.lookup a with
  | none => rw [q] at h; cases h
  | some o =>
    obtain ⟨oc, od, dt, osl⟩ := o
    rw [q] at h
    cases oc with
    | type c =>
      cases od with
      | none =>
        cases dt with
        | dict es n =>
          have h1 : (match decide (c = "dict") && (osl.isEmpty && !(a == sysModules)) with
            | true => some (es.toList.map He.keyOf)
            | false => none) = some (He.keysIn w.params ks) := h
          split at h1
          · have h2 := Option.some.inj h1
            have key : ∀ (l : List DictEntry) (ks : List Str), l.map He.keyOf = He.keysIn w.params ks → z ∉ ks → l.find? (fun e => e.key.isStr z) = none ∧ l.any (fun e => e.refKey) = false := by
              intro l
              induction l with
              | nil => intro ks _ _; exact ⟨rfl, rfl⟩
              | cons e r ih =>
                intro ks h hz
                cases ks with
                | nil => cases h
                | cons k ks =>
                  have h1 : He.keyOf e :: r.map He.keyOf = some (k, PyData.keyHash w.params k) :: He.keysIn w.params ks := h
                  injection h1 with h2 h3
                  obtain ⟨i1, i2⟩ := ih ks h3 fun q => hz (List.mem_cons_of_mem _ q)
                  unfold He.keyOf at h2
                  split at h2
                  · rename_i x t q
                    have h4 := Option.some.inj h2
                    obtain ⟨h5, h6⟩ := Prod.mk.inj h4
                    have nz : (e.key.isStr z) = false := by
                      rw [q]
                      show (x == z) = false
                      cases y : x == z with
                      | false => rfl
                      | true => rw [beq_iff_eq] at y; exact absurd (by rw [← y, h5]; exact List.mem_cons_self) hz
                    have nr : e.refKey = false := by
                      unfold DictEntry.refKey
                      rw [q]
                    exact ⟨by rw [List.find?_cons, nz]; exact i1, by rw [List.any_cons, nr, i2]; rfl⟩
                  · cases h2
            obtain ⟨k1, k2⟩ := key _ _ h2 hz
            dsimp only
            rw [k1]
            dsimp only
            rw [k2]; rfl
          · cases h1
        | _ => cases h
      | some b => cases dt <;> cases h
    | _ => cases od <;> cases dt <;> cases h
theorem look_none {α : Type} {l : List (Str × α)} {a : Str} (h : l.lookup a = none) : a ∉ l.map (·.1) := by
  induction l with
  | nil => simp
  | cons p r ih =>
    obtain ⟨b, y⟩ := p
    simp only [List.lookup_cons] at h
    split at h
    · cases h
    · rename_i e
      simp only [List.map_cons, List.mem_cons, not_or]
      exact ⟨fun z => by rw [z] at e; simp at e, ih h⟩
theorem kdo_ok {g : Gr} {t : List (Str × List (Str × U))} {h : Heap} (X : g.K.In h) (G : h.Ns mainGlobals g.mg) (e : t.all (dkB g.K) = true) (ed : ∀ p ∈ t, He.dicW g.K (He.ga g.K p.1) = some (He.keysIn g.w.params (p.2.map (·.1)))) : KdO g fun x => t.lookup x := by
  intro x kvs hx
  have hm := look_mem hx
  have h1 := List.all_eq_true.mp e _ hm
  have h2 := ed _ hm
  unfold dkB at h1
  obtain ⟨h3, h4⟩ := He.ba h1
  obtain ⟨es, n, D⟩ := He.dicW_ok h2
  refine ⟨_, es, n, He.glo_ok X G h3, D, fun z => ?_⟩
  cases q : kvs.lookup z with
  | none => exact ⟨none, nsIn_keys h2 (look_none q), rfl⟩
  | some u =>
    have h5 := List.all_eq_true.mp h4 _ (look_mem q)
    dsimp only at h5
    split at h5
    · rename_i val hv
      obtain ⟨v, rv, ru⟩ := uvB_ok X G h5
      exact ⟨_, hv, _, _, rfl, rv, ru⟩
    · cases h5
/-! ### all of it -/
def Tb.atIs (t : Tb) (q : Str) (a : At → Bool) : Bool := match t.df q with
  | some d => a d.at_
  | none => false
def isMeth (C m : Str) : At → Bool
  | .meth D n => C == D && m == n
  | _ => false
def isGett (C m : Str) : At → Bool
  | .gett D n => C == D && m == n
  | _ => false
def isGlo (x : Str) : At → Bool
  | .glo y => x == y
  | .glam y => x == y
  | _ => false
def isStat (C m : Str) : At → Bool
  | .stat D n => C == D && m == n
  | _ => false
def Tb.whyS (t : Tb) : Bool := match t.why with
  | none => true
  | some (bs, r) => match t.df "_law_why", t.df "_law_field" with
    | some dW, some dF => isGlo "_law_why" dW.at_ && (isGlo "_law_field" dF.at_ && Z.whyS dW dF bs r)
    | _, _ => false
def Tb.whyC (t : Tb) (K : PySem.W.Frag) : Bool := match t.why with
  | none => true
  | some (bs, r) => match t.df "_law_why" with
    | some dW => Z.whyC K dW bs r t.exn
    | none => false
/-- what is looked at without the run -/
def Tb.st (t : Tb) : Bool :=
  t.defs.all Df.st && (t.mth.all (fun p => t.atIs p.2.2 (isMeth p.1 p.2.1)) && (t.prp.all (fun p => t.atIs p.2.2 (isGett p.1 p.2.1)) && (t.gfs.all (fun x => t.atIs x (isGlo x)) && (t.mak.all (fun C => t.atIs (C ++ ".__init__") (isMeth C "__init__")) &&
    (t.eqm.all (fun p => t.atIs p.2 (isMeth p.1 "__eq__")) && (t.lnm.all (fun p => t.atIs p.2 (isMeth p.1 "__len__")) && (t.isa.all (fun p => (tyOwn p.1).all fun C => t.isc.contains C) && (t.exn.all Ef.st && (t.smt.all (fun p => t.atIs p.2.2 (isStat p.1 p.2.1)) && t.whyS)))))))))
/-- what is looked at behind the top -/
def Tb.ck (t : Tb) (K : PySem.W.Frag) : Bool :=
  t.defs.all (Df.ok K) && (bltNames.all (fun x => (He.Fa.free x).ok K) && (t.cst.all (gvB K) && (t.dic.all (dkB K) && (t.cls.all (clsB K) && (t.fld.all (fun p => clsB K p.1 && (He.Fa.noat p.1 p.2).ok K) &&
    (t.mth.all (fun p => clsB K p.1 && (He.Fa.meth p.1 p.2.1).ok K) && (t.prp.all (prpB K) && (t.con.all (conB K) && (t.isa.all (isaB K) && (t.isc.all (iscB K) && (t.clv.all (fun C => (He.Fa.glo C).ok K) &&
    (t.mak.all (fun C => clsB K C && (He.Fa.mkr C).ok K) && (t.gfs.all (fun x => (He.Fa.glo x).ok K && PySem.W.keepIn K (.ref (He.ga K x))) &&
    (t.eqm.all (fun p => clsB K p.1 && ((He.Fa.meth p.1 "__eq__").ok K && (PySem.W.notFirst K (He.ga K p.1) (.type "tuple") && eqnB K (He.ga K p.1) (He.ma K (He.ga K p.1) "__eq__")))) &&
    (t.lnm.all (fun p => clsB K p.1 && (He.Fa.meth p.1 "__len__").ok K) && (t.exn.all (erB t.file K) && (t.smt.all (smtB K) && t.whyC K)))))))))))))))))
theorem Tb.at_ {t : Tb} {q : Str} {a : At → Bool} (h : t.atIs q a = true) : ∃ d, t.df q = some d ∧ a d.at_ = true ∧ t.fns q = some d.F := by
  unfold Tb.atIs at h
  split at h
  · rename_i d e
    exact ⟨d, e, h, by unfold Tb.fns; rw [e]; rfl⟩
  · cases h
theorem Tb.ad_of {t : Tb} {q : Str} {d : Df} (h : t.df q = some d) (K : PySem.W.Frag) : t.ad K q = d.at_.ad K := by
  unfold Tb.ad; rw [h]
theorem isMeth_eq {C m : Str} {a : At} (h : isMeth C m a = true) (K : PySem.W.Frag) : a.ad K = He.ma K (He.ga K C) m := by
  cases a <;> simp only [isMeth, Bool.and_eq_true, beq_iff_eq] at h
  case meth D n => obtain ⟨rfl, rfl⟩ := h; rfl
  all_goals cases h
theorem isGett_eq {C m : Str} {a : At} (h : isGett C m a = true) (K : PySem.W.Frag) : a.ad K = getterOf K (He.ma K (He.ga K C) m) := by
  cases a <;> simp only [isGett, Bool.and_eq_true, beq_iff_eq] at h
  case gett D n => obtain ⟨rfl, rfl⟩ := h; rfl
  all_goals cases h
theorem isGlo_eq {x : Str} {a : At} (h : isGlo x a = true) (K : PySem.W.Frag) : a.ad K = He.ga K x := by
  cases a <;> simp only [isGlo, beq_iff_eq] at h
  · rw [h]; rfl
  · rw [h]; rfl
  all_goals cases h
theorem isStat_eq {C m : Str} {a : At} (h : isStat C m a = true) (K : PySem.W.Frag) : a.ad K = statOf K (rawOf K (He.ga K C) m) := by
  cases a <;> simp only [isStat, Bool.and_eq_true, beq_iff_eq] at h
  case stat D n => obtain ⟨rfl, rfl⟩ := h; rfl
  all_goals cases h
theorem tyVal_ok {g : Gr} {h : Heap} (X : g.K.In h) (G : h.Ns mainGlobals g.mg) {t : Ty} {v : Value} (e : (tyOwn t).all (fun C => (He.Fa.glo C).ok g.K) = true) (hv : TyVal g t v) : v = tyVal g.K t := by
  cases t with
  | own C =>
    have e1 : (He.Fa.glo C).ok g.K = true := List.all_eq_true.mp e C (by simp [tyOwn])
    have e2 := He.glo_ok X G e1
    have e3 := hv.1
    rw [e2] at e3
    exact (Option.some.inj e3).symm
  | _ => exact hv
theorem clsB_ok {g : Gr} {h : Heap} (X : g.K.In h) (G : h.Ns mainGlobals g.mg) {C : Str} (e : clsB g.K C = true) : OwnCls g C (He.ga g.K C) := by
  obtain ⟨h1, h2⟩ := He.ba e
  exact ⟨He.glo_ok X G h1, He.cls_ok h2⟩
theorem inst_gs (K : PySem.W.Frag) : PySem.W.specialIn K (.builtin "object.__class__") "__get__" = some (some (.builtin "getset_descriptor.__get__")) := by kernel_rfl
theorem inst_tk (K : PySem.W.Frag) : PySem.W.takesIn K (.builtin "object.__class__") = some true := by kernel_rfl
theorem base_of {g : Gr} {t : Tb} {h : Heap} (X : g.K.In h) (G : h.Ns mainGlobals g.mg) (s : t.st = true) (c : t.ck g.K = true) (ef : t.defs.map (fun d => fnW g.K (d.at_.ad g.K)) = t.defs.map Df.val)
    (ed : t.dic.map (fun p => He.dicW g.K (He.ga g.K p.1)) = t.dic.map fun p => some (He.keysIn g.w.params (p.2.map (·.1))))
    (ee : t.exn.map (fun e => fnE g.K (e.f g.K)) = t.exn.map Ef.val) (hfile : t.exn = [] ∨ (g.P.main.file = t.file ∧ (g.P.main.scope.names.lookup ("super" : Str)).isSome = false)) : Base g t.pg t.fns (t.ad g.K) := by
  unfold Tb.st at s
  simp only [Bool.and_eq_true] at s
  obtain ⟨s1, s2, s3, s4, s5, s6, s7, s8, s9, s10, s11⟩ := s
  unfold Tb.ck at c
  simp only [Bool.and_eq_true] at c
  obtain ⟨c1, c2, c3, c4, c5, c6, c7, c8, c9, c10, c11, c12, c13, c14, c15, c16, c17, c18, c19⟩ := c
  have fnsOf : ∀ {q : Str} {d : Df}, t.df q = some d → t.fns q = some d.F := fun e => by unfold Tb.fns; rw [e]; rfl
  exact {
    kdo := kdo_ok X G c4 fun p hp => List.map_inj_left.mp ed p hp
    blt := fun x hx => He.free_ok X G (List.all_eq_true.mp c2 x hx)
    gv := fun x u hx => by
      have h1 := List.all_eq_true.mp c3 _ (look_mem hx)
      unfold gvB at h1
      dsimp only at h1
      split at h1
      · rename_i val hv
        exact ⟨val, PySem.W.mg_of X G hv, uvB_ok X G h1⟩
      · cases h1
    isa := fun a b r hr tv cv h1 h2 => by
      have h3 := List.all_eq_true.mp c10 _ (isaL_mem hr)
      unfold isaB at h3
      obtain ⟨h4, h5⟩ := He.ba h3
      rw [List.all_append] at h4
      obtain ⟨h6, h7⟩ := He.ba h4
      rw [tyVal_ok X G h6 h1, tyVal_ok X G h7 h2]
      exact of_decide_eq_true h5
    cls := fun C hC => ⟨_, He.glo_ok X G (List.all_eq_true.mp c12 C (by simpa [Tb.pg] using hC))⟩
    isi := fun C b r hr => by
      have h1 := List.all_eq_true.mp s8 _ (isaL_mem hr)
      have h2 : C ∈ t.isc := by simpa [tyOwn] using h1
      have h3 := List.all_eq_true.mp c11 _ h2
      unfold iscB at h3
      obtain ⟨h4, h5⟩ := He.ba h3
      obtain ⟨h6, h7⟩ := He.ba h5
      exact ⟨⟨_, clsB_ok X G h4, He.eqO_ok h6, of_decide_eq_true h7⟩, inst_gs _, inst_tk _⟩
    fld := fun C m hm => by
      have h1 : (C, m) ∈ t.fld := by simpa [Tb.pg] using hm
      obtain ⟨h2, h3⟩ := He.ba (List.all_eq_true.mp c6 _ h1)
      exact ⟨_, clsB_ok X G h2, He.noat_ok h3⟩
    con := fun C m u hu => by
      have h1 := List.all_eq_true.mp c9 _ (look2_mem hu)
      unfold conB at h1
      obtain ⟨h2, h3⟩ := He.ba h1
      dsimp only at h3
      split at h3
      · rename_i val hv
        obtain ⟨h4, h5⟩ := He.ba h3
        obtain ⟨h6, h7⟩ := He.ba h5
        obtain ⟨v, rv, ru⟩ := uvB_ok X G (kd := t.pg.kd) h4
        exact ⟨_, v, val, clsB_ok X G h2, ⟨hv, rv, He.eqO_ok h6, by simpa using h7⟩, ru⟩
      · cases h3
    fn := fun q F hF => by
      unfold Tb.fns at hF
      cases e : t.df q with
      | none => rw [e] at hF; cases hF
      | some d =>
        rw [e] at hF
        cases hF
        have hd : d ∈ t.defs := List.mem_of_find?_eq_some e
        rw [Tb.ad_of e]
        exact Df.fnAt (List.map_inj_left.mp ef d hd) (List.all_eq_true.mp c1 d hd) (List.all_eq_true.mp s1 d hd)
    call := fun x hx => by
      have h1 : x ∈ t.gfs := by simpa [Tb.pg] using hx
      obtain ⟨h2, h3⟩ := He.ba (List.all_eq_true.mp c14 _ h1)
      obtain ⟨d, e, ha, hf⟩ := Tb.at_ (List.all_eq_true.mp s4 _ h1)
      rw [Tb.ad_of e, isGlo_eq ha]
      exact ⟨He.glo_ok X G h2, h3, _, hf⟩
    meth := fun C m q hq => by
      have h1 := look2_mem hq
      obtain ⟨h2, h3⟩ := He.ba (List.all_eq_true.mp c7 _ h1)
      obtain ⟨d, e, ha, hf⟩ := Tb.at_ (List.all_eq_true.mp s2 _ h1)
      rw [Tb.ad_of e, isMeth_eq ha]
      exact ⟨_, clsB_ok X G h2, He.meth_ok h3, _, hf⟩
    prop := fun C m q hq => by
      have h1 := look2_mem hq
      have h2 := List.all_eq_true.mp c8 _ h1
      obtain ⟨d, e, ha, hf⟩ := Tb.at_ (List.all_eq_true.mp s3 _ h1)
      rw [Tb.ad_of e, isGett_eq ha]
      unfold prpB at h2
      obtain ⟨h3, h4⟩ := He.ba h2
      obtain ⟨h5, h6⟩ := He.ba h4
      obtain ⟨h7, h8⟩ := He.ba h6
      obtain ⟨h9, h10⟩ := He.ba h8
      dsimp only at h10
      split at h10
      · rename_i gt rest hr
        refine ⟨_, _, clsB_ok X G h3, ⟨He.eqO_ok h5, He.eqO_ok h7, of_decide_eq_true h9, rest, ?_⟩, _, hf⟩
        have : getterOf g.K (He.ma g.K (He.ga g.K C) m) = gt := by unfold getterOf; rw [hr]
        rw [this]; exact hr
      · cases h10
    eqm := fun C q hq => by
      have h1 := look_mem hq
      obtain ⟨h2, h3⟩ := He.ba (List.all_eq_true.mp c15 _ h1)
      obtain ⟨h4, h5⟩ := He.ba h3
      obtain ⟨h6, h7⟩ := He.ba h5
      obtain ⟨d, e, ha, hf⟩ := Tb.at_ (List.all_eq_true.mp s6 _ h1)
      rw [Tb.ad_of e, isMeth_eq ha]
      have M := He.meth_ok h4
      exact ⟨_, clsB_ok X G h2, ⟨M.at_, M.fn, h6, fun a hp o X2 ho hc => eqnB_ok h7 M.fn a hp o X2 ho hc⟩, _, hf⟩
    lnm := fun C q hq => by
      have h1 := look_mem hq
      obtain ⟨h2, h4⟩ := He.ba (List.all_eq_true.mp c16 _ h1)
      obtain ⟨d, e, ha, hf⟩ := Tb.at_ (List.all_eq_true.mp s7 _ h1)
      rw [Tb.ad_of e, isMeth_eq ha]
      have M := He.meth_ok h4
      exact ⟨_, clsB_ok X G h2, M.at_, M.fn, _, hf⟩
    make := fun C hC => by
      have h1 : C ∈ t.mak := by simpa [Tb.pg] using hC
      obtain ⟨h2, h3⟩ := He.ba (List.all_eq_true.mp c13 _ h1)
      obtain ⟨d, e, ha, hf⟩ := Tb.at_ (List.all_eq_true.mp s5 _ h1)
      rw [Tb.ad_of e, isMeth_eq ha]
      exact ⟨_, clsB_ok X G h2, He.mkr_ok h3, _, hf⟩
    smet := fun C m q hq => by
      have h1 := look2_mem hq
      have h2 := List.all_eq_true.mp c18 _ h1
      obtain ⟨d, e, ha, hf⟩ := Tb.at_ (List.all_eq_true.mp s10 _ h1)
      rw [Tb.ad_of e, isStat_eq ha]
      obtain ⟨z1, z2, z3⟩ := smtB_ok X G h2
      exact ⟨_, _, _, z1, z2, z3, _, hf⟩
    smek := fun C m q kn hq => by
      have hq' : ((look2 t.smt C m).bind fun q => (t.fns q).bind fun F => match F.ps with
        | [k] => some (q, k)
        | _ => none) = some (q, kn) := hq
      obtain ⟨q', hq1, hq2⟩ := Option.bind_eq_some_iff.mp hq'
      obtain ⟨F, hF, hq3⟩ := Option.bind_eq_some_iff.mp hq2
      have h1 := look2_mem hq1
      have h2 := List.all_eq_true.mp c18 _ h1
      obtain ⟨d, e, ha, hf⟩ := Tb.at_ (List.all_eq_true.mp s10 _ h1)
      split at hq3
      · rename_i k hk
        cases hq3
        rw [Tb.ad_of e, isStat_eq ha]
        obtain ⟨z1, z2, z3⟩ := smtB_ok X G h2
        exact ⟨_, _, _, z1, z2, z3, F, hF, hk⟩
      · cases hq3
    why := fun bs r hw => by
      have hw' : t.why = some (bs, r) := hw
      unfold Tb.whyS at s11
      unfold Tb.whyC at c19
      rw [hw'] at s11 c19
      dsimp only at s11 c19
      split at s11
      · rename_i dW dF eW eF
        rw [eW] at c19
        dsimp only at c19
        obtain ⟨k1, k2⟩ := He.ba s11
        obtain ⟨k2, k3⟩ := He.ba k2
        have hW : dW ∈ t.defs := List.mem_of_find?_eq_some eW
        have hF : dF ∈ t.defs := List.mem_of_find?_eq_some eF
        refine why_ok X G k3 c19 (isGlo_eq k1 _) (isGlo_eq k2 _) (List.map_inj_left.mp ef dW hW) (List.all_eq_true.mp c1 dW hW) (List.all_eq_true.mp s1 dW hW) (List.map_inj_left.mp ef dF hF) (List.all_eq_true.mp c1 dF hF) (List.all_eq_true.mp s1 dF hF) fun c tf hc => ?_
        have hc' : (t.exn.find? fun e => e.nm == c).map (fun e => (e.tag, e.flds)) = some tf := hc
        cases q : t.exn.find? fun e => e.nm == c with
        | none => rw [q] at hc'; cases hc'
        | some e =>
          have hn := List.find?_some q
          rw [beq_iff_eq] at hn
          exact ⟨e, List.mem_of_find?_eq_some q, hn⟩
      · cases s11
    exn := fun c tag flds hc => by
      have hc' : (t.exn.find? fun e => e.nm == c).map (fun e => (e.tag, e.flds)) = some (tag, flds) := hc
      cases q : t.exn.find? fun e => e.nm == c with
      | none => rw [q] at hc'; cases hc'
      | some e =>
        rw [q] at hc'
        obtain ⟨rfl, rfl⟩ := Prod.mk.inj (Option.some.inj hc')
        have hm := List.mem_of_find?_eq_some q
        have hn := List.find?_some q
        rw [beq_iff_eq] at hn
        subst hn
        rcases hfile with z | ⟨z1, z2⟩
        · rw [z] at hm; cases hm
        · exact ⟨_, er_ok X G (List.all_eq_true.mp s9 e hm) (List.all_eq_true.mp c17 e hm) (List.map_inj_left.mp ee e hm) z1 z2⟩ }
end Z
namespace Z
open PySem PySem.Spec PyProof.Rows L2
/-! ## the Hook, the law's end -/
/-- what is reached, the cells of closures too -/
def clsO : Option Obj → List Addr
  | some ⟨_, _, .func fd, _⟩ => fd.closure.map (·.2)
  | _ => []
def asZ (g : Addr → Option Obj) (n : Nat) : List Addr := let as := He.asD g n; as ++ cStatics :: as.flatMap fun a => clsO (g a)
abbrev AlE : Type := Option (Str × Str × Arguments × FuncBody × Scope × Addr × List Str × Addr)
abbrev AlZ : Type := Bool × List FnW × List (Option (List (Option (Str × Int)))) × List AlE
def Tb.see (t : Tb) (K : PySem.W.Frag) : AlZ := (t.ck K, t.defs.map fun d => fnW K (d.at_.ad K), t.dic.map (fun p => He.dicW K (He.ga K p.1)), t.exn.map fun e => fnE K (e.f K))
def Tb.due (t : Tb) (w : World) : AlZ := (true, t.defs.map Df.val, t.dic.map (fun p => some (He.keysIn w.params (p.2.map (·.1)))), t.exn.map Ef.val)
def frK {β : Type} (K : PySem.W.Frag) (k : PySem.W.Frag → β) : β := match K with
  | [] => k []
  | (a, o) :: r => frK r fun r' => k ((a, o) :: r')
theorem frK_eq {β : Type} : ∀ (K : PySem.W.Frag) (k : PySem.W.Frag → β), frK K k = k K
  | [], _ => rfl
  | (a, o) :: r, k => by
    show frK r (fun r' => k ((a, o) :: r')) = _
    rw [frK_eq r]
/-- a code object and its table -/
def codeB (K : PySem.W.Frag) (p : Addr × Addr) : Bool := (K.lookup p.2).isNone && (match K.lookup p.1 with
  | some ⟨.type "code", _, Data.fields vs, _⟩ => decide (vs[11]? = some (.ref p.2)) && (decide (vs.getD 11 .none = .ref p.2) && ((match vs.getD 18 .none with | .str _ _ => true | _ => false) && ((match vs.getD 7 .none with | .int _ _ => true | _ => false) &&
    ((match vs.getD 9 .none with | .bool _ => true | _ => false) && ((match vs.getD 10 .none with | .int _ _ => true | _ => false) && decide (p.1 ≠ p.2))))))
  | _ => false)
theorem codeB_ok {K : PySem.W.Frag} {h : Heap} {p : Addr × Addr} (X : K.In h) (e : codeB K p = true) : K.lookup p.2 = none ∧ PySem.W.CodeHd h p.1 p.2 := by
  unfold codeB at e
  obtain ⟨e1, e2⟩ := He.ba e
  refine ⟨by simpa using e1, ?_⟩
  split at e2
  · rename_i od vs sl q
    simp only [Bool.and_eq_true, decide_eq_true_eq] at e2
    obtain ⟨h1, h2, h3, h4, h5, h6, h7⟩ := e2
    split at h3
    · rename_i fl tf q1
      split at h4
      · rename_i fg tg q2
        split at h5
        · rename_i b q3
          split at h6
          · rename_i tx tt q4
            exact ⟨_, vs, fl, tf, fg, tg, b, tx, tt, X _ _ q, rfl, rfl, h1, h2, q1, q2, q3, q4, h7⟩
          · cases h6
        · cases h5
      · cases h4
    · cases h3
  · cases e2
def tabsB (g : Addr → Option Obj) (K : PySem.W.Frag) : Bool := (csOf K).all fun p => codeB K p && (match g p.2 with | some o => He.emptyTab o | none => false)
def Tb.obs (n : Nat) (t : Tb) (g : Addr → Option Obj) : AlZ × Bool := frK (He.frT g (asZ g n)) fun K => (t.see K, tabsB g K)
theorem Tb.obs_eq {n : Nat} {t : Tb} {g : Addr → Option Obj} : t.obs n g = (t.see (He.frT g (asZ g n)), tabsB g (He.frT g (asZ g n))) := frK_eq _ _
def Tabbed (K : PySem.W.Frag) (h : Heap) : Prop := ∀ p ∈ csOf K, codeB K p = true ∧ h.get? p.2 = some { cls := .none, data := .fields #[] }
theorem tabsB_ok {K : PySem.W.Frag} {h : Heap} (e : tabsB h.get? K = true) : Tabbed K h := fun p hp => by
  have z := List.all_eq_true.mp e p hp
  obtain ⟨z1, z2⟩ := He.ba z
  refine ⟨z1, ?_⟩
  split at z2
  · rename_i o q
    rw [q, He.emptyTab_eq z2]
  · cases z2
def hookZ (n : Nat) (t : Tb) : PySem.W.Hook where
  α := AlZ × Bool
  obs := fun s => t.obs n s.heap.get?
  val := fun w => (t.due w, true)
  says := fun w h => ∃ K : PySem.W.Frag, K.In h ∧ t.see K = t.due w ∧ Tabbed K h
  of := fun w s e => by
    have e' : t.obs n s.heap.get? = (t.due w, true) := e
    rw [Tb.obs_eq] at e'
    obtain ⟨e1, e2⟩ := Prod.mk.inj e'
    exact ⟨He.frT s.heap.get? (asZ s.heap.get? n), He.frT_in, e1, tabsB_ok e2⟩
  keeps := fun _ _ _ ⟨K, hK, c, tb⟩ k => ⟨K, PySem.W.Frag.In.keeps hK k, c, fun p hp => ⟨(tb p hp).1, k _ _ (tb p hp).2⟩⟩
def obT (n : Nat) (t : Tb) (s : PySem.W.SharedT) : AlZ × Bool := t.obs n (HandSHeadRun.getT s)
theorem obT_eq {n : Nat} {t : Tb} (s : PySem.W.SharedT) : obT n t s = (hookZ n t).obs s.abs := by
  have e : HandSHeadRun.getT s = s.abs.heap.get? := funext fun a => HandSHeadRun.getT_eq s a
  unfold obT
  rw [e]; rfl
theorem cx_out {P : Program} {w : World} (H : Hp) (s : Shared) (e : Value) (s' : Shared) (h : L2.CX P w [] H s (fun _ _ _ => False) e s') : False := by
  obtain ⟨_, _, _, _, _, _, _, _, _, _, _, _, h⟩ := h
  exact h
/-- the law's end: its def's value at every script -/
theorem law_walk {l : PySem.W.OpenLaw} {q : Program} {loose : List Str} {XP : (Str → Option Value) → Heap → Prop} {d : DefRec} {t : Tb} {m k : Nat} {D : Df} {x : Str} (hn : l.most = some 63) (hdf : d.params.defaults = []) (hr : Room (4 * (k + 1)) callerA) (hd : d.name = ("law" : Str)) (st : t.st = true)
    (hfile : t.exn = [] ∨ (l.prog.main.file = t.file ∧ (l.prog.main.scope.names.lookup ("super" : Str)).isSome = false)) (hD : t.df "law" = some D) (hg : t.gfs.contains "law" = true) (hps : D.F.ps = [x])
    (hF : ∀ ns : List Int, ns.length ≤ 63 → (∀ z ∈ ns, Builtin.Int.intBits z ≤ 1048576) → (∃ G, callN t.pg t.fns (k + 1) "law" [.fro (ns.map U.int)] [] = .ok (.bl true) G) ∧ ∃ G, callN t.pg t.fns (k + 1) "law" [.ref 0] [.lst (ns.map U.int)] = .ok (.bl true) G) :
    PySem.W.WalkO q loose XP (hookZ m t).says l.row.toRowW d [] (fun f vs => PySem.call f vs) := by
  refine Att.attach_callB hn hdf fun w s₀ s₁ mg mb fa o pm cd doc a vs ns G Y ho hd2 hcd hmg hobj hints hlen hbits hgs => ?_
  obtain ⟨K, KX, e, tbd⟩ := Y
  obtain ⟨e1, e2⟩ := Prod.mk.inj (show (t.ck K, t.defs.map (fun d => fnW K (d.at_.ad K)), t.dic.map (fun p => He.dicW K (He.ga K p.1)), t.exn.map fun e => fnE K (e.f K)) = (true, t.defs.map Df.val, t.dic.map (fun p => some (He.keysIn w.params (p.2.map (·.1)))), t.exn.map Ef.val) from e)
  obtain ⟨e3, e45⟩ := Prod.mk.inj e2
  obtain ⟨e4, e5⟩ := Prod.mk.inj e45
  have hq : t.fns "law" = some D.F := by unfold Tb.fns; rw [hD]; rfl
  have B0 := base_of (g := ⟨l.prog, w, K, mg, s₁.heap⟩) KX G.T.g st e1 e3 e4 e5 hfile
  obtain ⟨hm, _, _⟩ := B0.call "law" hg
  rw [hd] at hmg
  obtain rfl : fa = t.ad K "law" := by
    have := hmg.symm.trans hm
    cases this; rfl
  have hpl : plainP D.params D.F.ps = true := by
    have hm2 : D ∈ t.defs := List.mem_of_find?_eq_some hD
    unfold Tb.st at st
    simp only [Bool.and_eq_true] at st
    have h2 := List.all_eq_true.mp st.1 D hm2
    unfold Df.st at h2
    simp only [Bool.and_eq_true] at h2
    exact h2.1.1
  have hbind : ∃ fd, (∀ (s : Shared) (u : Value), BindsTo s fd ⟨[u], []⟩ [(x, u)]) ∧ ∀ base : Heap, K.In base → base.Ns mainGlobals mg → (∀ p ∈ csOf K, LamX.TabB base mg p.1 p.2) → FnOk l.prog w K mg base (L2.CX l.prog w) (4 * (k + 1)) (t.ad K "law") fd [x] (spC (Gr.wr ⟨l.prog, w, K, mg, base⟩ t.pg.kd) (callN t.pg t.fns (k + 1)) "law") := by
    have hm2 : D ∈ t.defs := List.mem_of_find?_eq_some hD
    have st2 := st
    unfold Tb.st at st2
    simp only [Bool.and_eq_true] at st2
    have c := e1
    unfold Tb.ck at c
    simp only [Bool.and_eq_true] at c
    obtain ⟨fd, FD, hlm⟩ := Df.funD (List.map_inj_left.mp e3 D hm2) (List.all_eq_true.mp c.1 D hm2)
    have h2 := List.all_eq_true.mp st2.1 D hm2
    unfold Df.st at h2
    simp only [Bool.and_eq_true] at h2
    obtain ⟨⟨h3, h4⟩, h5⟩ := h2
    rw [Tb.ad_of hD]
    refine ⟨fd, fun s u => ?_, fun base X2 G2 T2 => ?_⟩
    · have b := FD.bindsA (ps := D.F.ps) (fun _ _ _ _ _ _ us hl => plain_bind h3 hl) s [u] (by rw [hps]; rfl)
      rw [hps] at b
      exact b
    · obtain ⟨oc, od, dV, kV, doc, pm, an, cdv, ct, osl, rfl, lk, hcd, _, _⟩ := FD.ex
      have B := base_of (g := ⟨l.prog, w, K, mg, base⟩) X2 G2 st e1 e3 e4 e5 hfile
      have r := call_fn (g := ⟨l.prog, w, K, mg, base⟩) (T := t.pg) (k := k) hq lk hcd (scB_ok h4) (sc := D.sc) (by unfold Df.sc; split <;> rfl) (fun hc => hlm (by
        unfold Df.sc at hc
        split at hc
        · assumption
        · cases hc)) h5 (wf_of B T2 (Base.all2 B T2 k).1 (Base.all2 B T2 k).2)
      rw [hps] at r
      exact r
  obtain ⟨fd2, hb2, hF2⟩ := hbind
  refine LamX.law_callTs (cs := csOf K) (CX := L2.CX l.prog w) (sp := spC (Gr.wr ⟨l.prog, w, K, mg, s₁.heap⟩ t.pg.kd) (callN t.pg t.fns (k + 1)) "law") KX G.T.g G.T.b G.T.builtins G.T.nolimit hgs (fun p hp => (tbd p hp).2) (fun p hp => (codeB_ok KX (tbd p hp).1).1) (fun p hp => (codeB_ok KX (tbd p hp).1).2) G.T.bmain hobj hints (Nat.le_trans hlen (by decide)) hr hF2 hb2 (fun H hH hS => ?_) fun H e s' => cx_out H s₁ e s'
  refine law_sp (Y := Gr.wr ⟨l.prog, w, K, mg, s₁.heap⟩ t.pg.kd) (hF ns hlen hbits) (fun p hp => ?_) hS
  obtain ⟨x3, hx3, rfl⟩ := List.mem_map.mp hp
  exact LamX.TabS.nil (hH (x3.1, x3.2.1) (List.mem_map.mpr ⟨x3, hx3, rfl⟩))
end Z
namespace Z
open PySem PySem.Spec PyProof.Rows L2
/-! # values: lists, dicts and instances as what they hold -/
inductive D where
  | non | bl (b : Bool) | int (i : Int) | str (x : Str) | tup (xs : List D) | lst (xs : List D) | fro (xs : List D) | dK (kvs : List (Key × D)) | ins (C : Str) (fs : List (Str × D)) | glb (x : Str) | mut (i : Nat)
/-- what stands in the store -/
inductive MO where
  | lst (xs : List D) | dK (kvs : List (Key × D)) | ins (C : Str) (fs : List (Str × D))
abbrev Mem := List MO
/-- a slot: a value, or a list that no other name has -/
inductive Sl where
  | v (d : D) | own (d : D)
abbrev Rv := List (Option Sl)
inductive OV (α : Type) where
  | ok (a : α) (M : Mem)
  | exc (c : Str) (fs : List (Str × D)) (M : Mem)
  | stuck
def OV.bind {α β : Type} : OV α → (α → Mem → OV β) → OV β
  | .ok a M, k => k a M
  | .exc c fs M, _ => .exc c fs M
  | .stuck, _ => .stuck
def ofV {α : Type} (o : Option α) (M : Mem) : OV α := match o with
  | some a => .ok a M
  | none => .stuck
/-- the store's lists and dicts as they are now -/
def res (M : Mem) : D → D
  | .mut i => match M[i]? with
    | some (.lst xs) => .lst xs
    | some (.dK kvs) => .dK kvs
    | _ => .mut i
  | d => d
/-! ## the operations -/
def asIntsV : List D → Option (List Int)
  | [] => some []
  | .int i :: r => (asIntsV r).map (i :: ·)
  | _ => none
def asBlsV : List D → Option (List Bool)
  | [] => some []
  | .bl i :: r => (asBlsV r).map (i :: ·)
  | _ => none
def asStrsV : List D → Option (List Str)
  | [] => some []
  | .str i :: r => (asStrsV r).map (i :: ·)
  | _ => none
def toDV : Nat → D → Option PyData
  | 0, _ => none
  | n + 1, u => match u with
    | .non => some .none
    | .bl b => some (.bool b)
    | .int i => some (.int i)
    | .str x => some (.str x)
    | .tup xs => (trav (toDV n) xs).map .tuple
    | .fro xs => (trav (toDV n) xs).map .list
    | .lst xs => (trav (toDV n) xs).map .list
    | _ => none
def truthyV : D → Option Bool
  | .non => some false
  | .bl b => some b
  | .int i => some (i != 0)
  | .str x => if x.length ≤ sizeLine then some ((x.length : Int) != 0) else none
  | .tup xs => some (!xs.isEmpty)
  | .fro xs => some (!xs.isEmpty)
  | .lst xs => some (!xs.isEmpty)
  | .dK kvs => some (!kvs.isEmpty)
  | _ => none
def itemsV : D → Option (List D)
  | .tup xs => some xs
  | .fro xs => some xs
  | .lst xs => some xs
  | _ => none
def binopV (op : Operator) (x y : D) : Option D :=
  match op, x, y with
  | .Add, .int i, .int j => some (.int (i + j))
  | .Sub, .int i, .int j => some (.int (i - j))
  | .Mult, .int i, .int j => if i.natAbs.log2 + j.natAbs.log2 < 1000000 then some (.int (i * j)) else none
  | .FloorDiv, .int i, .int j => if 0 < j ∧ j.natAbs.log2 < 9000 then some (.int (i / j)) else none
  | .Mod, .int i, .int j => if 0 < j then some (.int (i % j)) else none
  | .Pow, .int i, .int j => if 0 ≤ j ∧ j ≤ 1000000 ∧ i.natAbs < 2 ^ 64 then some (.int (i ^ j.toNat)) else none
  | .Add, .str a, .str b => if a.length + b.length ≤ sizeLine then some (.str (a ++ b)) else none
  | .Add, .tup xs, .tup ys => if xs.length + ys.length ≤ sizeLine then some (.tup (xs ++ ys)) else none
  | .Add, .lst xs, .lst ys => if xs.length + ys.length ≤ sizeLine then some (.lst (xs ++ ys)) else none
  | .Mult, .lst xs, .int k => if k < 2 ^ 63 ∧ -(2 ^ 63) ≤ k ∧ xs.length * k.toNat ≤ sizeLine then some (.lst (List.replicate k.toNat xs).flatten) else none
  | _, _, _ => none
def eqV (x y : D) : Option Bool :=
  (toDV 70 x).bind fun d => (toDV 70 y).bind fun e => if SeqAt.shaped d = true ∧ SeqAt.shaped e = true then some (PyData.eqv d e) else none
def flatV : D → Bool
  | .non => true | .bl _ => true | .int _ => true | .str _ => true
  | _ => false
def eqD : D → D → Bool
  | .non, .non => true
  | .bl a, .bl b => a == b
  | .bl a, .int b => (if a then 1 else 0) == b
  | .int a, .bl b => a == (if b then 1 else 0)
  | .int a, .int b => a == b
  | .str a, .str b => a == b
  | _, _ => false
def keyV : D → Option Key
  | .int i => some (.inl i)
  | .str x => some (.inr x)
  | _ => none
def inSeqV (x : D) (ys : List D) : Option Bool := if flatV x = true ∧ ys.all flatV = true then some (ys.any fun y => eqD y x) else none
def inopV (kd : Str → Option (List (Str × U))) (x y : D) : Option Bool :=
  match y with
  | .glb d => match kd d, x with
    | some kvs, .str z => some (kvs.lookup z).isSome
    | _, _ => none
  | .str b => match x with
    | .str a => some (!(Builtin.Str.occurrences b a 0 b.length 1).isEmpty)
    | _ => none
  | .tup ys => inSeqV x ys
  | .fro ys => inSeqV x ys
  | .lst ys => inSeqV x ys
  | .dK kvs => (keyV x).map fun k => (kvs.find? fun kv => decide (kv.1 = k)).isSome
  | _ => none
def isNonV : D → Option Bool
  | .non => some true
  | .glb _ => none
  | _ => some false
def cmpopV (kd : Str → Option (List (Str × U))) (op : CmpOp) (x y : D) : Option Bool :=
  match op with
  | .Eq => eqV x y
  | .NotEq => (eqV x y).map (!·)
  | .Lt => match x, y with
    | .int i, .int j => some (decide (i < j))
    | .tup xs, .tup ys => (asIntsV xs).bind fun ns => (asIntsV ys).map fun ms => HT.lexLt ns ms
    | _, _ => none
  | .LtE => match x, y with
    | .int i, .int j => some (decide (i ≤ j))
    | _, _ => none
  | .Gt => match x, y with
    | .int i, .int j => some (decide (j < i))
    | _, _ => none
  | .GtE => match x, y with
    | .int i, .int j => some (decide (j ≤ i))
    | _, _ => none
  | .Is => match y with
    | .non => isNonV x
    | _ => none
  | .IsNot => match y with
    | .non => (isNonV x).map (!·)
    | _ => none
  | .In => inopV kd x y
  | .NotIn => (inopV kd x y).map (!·)
/-- a value of the top's dicts -/
def ofU : U → Option D
  | .non => some .non
  | .bl b => some (.bl b)
  | .int i => some (.int i)
  | .str x => some (.str x)
  | .glb x => some (.glb x)
  | _ => none
def ixopV (kd : Str → Option (List (Str × U))) (x y : D) : Option D :=
  match x, y with
  | .str z, .int i => if z.length ≤ sizeLine then (atI z.cps.toList i).map fun c => .str ⟨#[c]⟩ else none
  | .tup xs, .int i => atI xs i
  | .fro xs, .int i => atI xs i
  | .lst xs, .int i => atI xs i
  | .dK kvs, y => (keyV y).bind fun k => (kvs.find? fun kv => decide (kv.1 = k)).map fun kv => kv.2
  | .glb d, .str z => match kd d with
    | some kvs => (kvs.lookup z).bind ofU
    | none => none
  | _, _ => none
def slopV (x : D) (lo hi : Option Int) : Option D :=
  match x with
  | .str z => if z.length ≤ sizeLine then some (.str (cutS z lo hi)) else none
  | .tup xs => some (.tup (cutU xs lo hi))
  | .fro xs => some (.lst (cutU xs lo hi))
  | .lst xs => some (.lst (cutU xs lo hi))
  | _ => none
def lenV : D → Option Nat
  | .str x => if x.length ≤ sizeLine then some x.length else none
  | .tup xs => some xs.length
  | .fro xs => some xs.length
  | .lst xs => some xs.length
  | .dK kvs => some kvs.length
  | _ => none
def lstIntsV : D → Option (List Int)
  | .lst xs => asIntsV xs
  | _ => none
def lstBlsV : D → Option (List Bool)
  | .lst xs => asBlsV xs
  | _ => none
def bfopV (b : Bf) (vs : List D) : Option D :=
  match b, vs with
  | .blen, [x] => (lenV x).map fun (n : Nat) => D.int (n : Int)
  | .ball, [x] => (lstBlsV x).map fun bs => .bl (bs.all id)
  | .bany, [x] => (lstBlsV x).map fun bs => .bl (bs.any id)
  | .bsum, [x] => (lstIntsV x).map fun ns => .int ns.sum
  | .bmax, [x] => (lstIntsV x).bind fun ns => (maxI ns).map fun m => .int m
  | .bmin, [x] => (lstIntsV x).bind fun ns => (minI ns).map fun m => .int m
  | .bmax, [.int i, .int j] => some (.int (if j > i then j else i))
  | .bmin, [.int i, .int j] => some (.int (if j < i then j else i))
  | .babs, [.int i] => some (.int (if i < 0 then -i else i))
  | .bint, [.int i] => some (.int i)
  | .bint, [.bl k] => some (.int (if k then 1 else 0))
  | .bint, [.str a] => if a.length ≤ 640 then (PySem.intText? a).map fun n => .int n else none
  | .bstr, [.int i] => if i.natAbs.log2 < 1920 then some (.str (toString i)) else none
  | .blist, [x] => (itemsV x).map fun xs => .lst xs
  | .btuple, [.tup xs] => some (.tup xs)
  | .btuple, [x] => (itemsV x).map fun xs => .tup xs
  | _, _ => none
def tyV : D → Option Ty
  | .non => some .tnone
  | .bl _ => some .tbool
  | .int _ => some .tint
  | .str _ => some .tstr
  | .tup _ => some .ttup
  | .fro _ => some .tlist
  | .lst _ => some .tlist
  | .dK _ => some .tdict
  | .ins C _ => some (.own C)
  | _ => none
/-- .. of the store too -/
def tyM (M : Mem) : D → Option Ty
  | .mut i => match M[i]? with
    | some (.lst _) => some .tlist
    | some (.dK _) => some .tdict
    | some (.ins C _) => some (.own C)
    | none => none
  | d => tyV d
def clsV (M : Mem) : D → Option (Str × List (Str × D))
  | .ins C fs => some (C, fs)
  | .mut i => match M[i]? with
    | some (.ins C fs) => some (C, fs)
    | _ => none
  | _ => none
def joinV (a : Str) : List D → Option D
  | [x] => (itemsV x).bind fun xs => (asStrsV xs).bind fun ys => if (ys.map (·.length)).sum + ys.length * a.length ≤ 16777216 then some (.str (Txt.join a ys)) else none
  | _ => none
def splitV (a : Str) : List D → Option D
  | [.str b] => if (b.length == 0) = false ∧ a.length + 2 ≤ sizeLine then some (.lst ((Txt.split a b).map .str)) else none
  | _ => none
/-- a list's methods: what it holds afterwards, what they give -/
def lmeth (m : Bm) (xs : List D) (vs : List D) : Option (D × List D) := match m, vs with
  | .append, [y] => if xs.length < sizeLine then some (.non, xs ++ [y]) else none
  | .clear, [] => some (.non, [])
  | .pop, [] => (xs[xs.length - 1]?).map fun y => (y, xs.dropLast)
  | .extend, [.lst ys] => if xs.length + ys.length ≤ sizeLine then some (.non, xs ++ ys) else none
  | _, _ => none
/-- o[i] = v of what a list or a dict holds -/
def setV (o i v : D) : Option D := match o with
  | .lst xs => match i with
    | .int k => (ixN xs.length k).map fun j => .lst (xs.set j v)
    | _ => none
  | .dK kvs => if kvs.length < sizeLine then (keyV i).map fun k => .dK (if kvs.any fun kv => decide (kv.1 = k) then kvs.map fun kv => if kv.1 = k then (kv.1, v) else kv else kvs ++ [(k, v)]) else none
  | _ => none
def moOf : D → Option MO
  | .lst xs => some (.lst xs)
  | .dK kvs => some (.dK kvs)
  | .ins C fs => some (.ins C fs)
  | _ => none
def putV (f : Str) (v : D) : List (Str × D) → List (Str × D)
  | [] => [(f, v)]
  | (g, u) :: r => if g = f then (g, v) :: r else (g, u) :: putV f v r
/-! ## what a loop goes over -/
def enumF : Nat → List D → List D
  | _, [] => []
  | i, x :: r => .tup [.int i, x] :: enumF (i + 1) r
def rngF (lo : Int) : Nat → List D
  | 0 => []
  | n + 1 => .int lo :: rngF (lo + 1) n
def zipF : List D → List D → List D
  | x :: xs, y :: ys => .tup [x, y] :: zipF xs ys
  | _, _ => []
def isTupV : D → Bool
  | .tup _ => true
  | _ => false
def iterV (kind : Nat) (vs : List D) : Option (List D) :=
  match kind, vs with
  | 0, [.str x] => some (x.cps.toList.map fun c => .str ⟨#[c]⟩)
  | 0, [u] => itemsV u
  | 1, [.int n] => if -(2 ^ 62) ≤ n ∧ n < 2 ^ 62 then some (rngF 0 n.toNat) else none
  | 2, [.int a, .int b] => if -(2 ^ 62) ≤ a ∧ a < 2 ^ 62 ∧ -(2 ^ 62) ≤ b ∧ b < 2 ^ 62 then some (rngF a (b - a).toNat) else none
  | 3, [u] => if isTupV u = true then none else (itemsV u).map (enumF 0)
  | 4, [u, w] => if isTupV u = isTupV w then (itemsV u).bind fun xs => (itemsV w).map fun ys => zipF xs ys else none
  | _, _ => none
def setAllV : List Nat → List D → Rv → Option Rv
  | [], [], ρ => some ρ
  | i :: is, u :: us, ρ => setAllV is us (ρ.set i (some (.v u)))
  | _, _, _ => none
def assignV (tg : Tg) (u : D) (ρ : Rv) : Option Rv :=
  match tg, u with
  | .nm i, u => some (ρ.set i (some (.v u)))
  | .tp is, .tup us => setAllV is us ρ
  | _, _ => none
def wipeV (ρ : Rv) : List Nat → Rv
  | [] => ρ
  | v :: vs => (wipeV ρ vs).set v none
def noxV {α : Type} : OV α → OV α
  | .exc _ _ _ => .stuck
  | o => o
/-- a comprehension: the items, one by one -/
def lcV (tg : Tg) (own : List Nat) (ρ : Rv) (test : Rv → Mem → OV Bool) (elt : Rv → Mem → OV D) : List D → Mem → OV (List D)
  | [], M => .ok [] M
  | u :: us, M => match assignV tg u (wipeV ρ own) with
    | none => .stuck
    | some ρ1 => (noxV (test ρ1 M)).bind fun b M => if b = true then (noxV (elt ρ1 M)).bind fun y M => (lcV tg own ρ test elt us M).bind fun ys M => .ok (y :: ys) M
      else lcV tg own ρ test elt us M
end Z
namespace Z
open PySem PySem.Spec PyProof.Rows L2
/-! ## the evaluator by values -/
abbrev CfV := Str → List D → Mem → OV (D × Bool)
abbrev IfV := Str → List D → Mem → OV D
def seqV : D → Bool
  | .lst _ => true | .dK _ => true
  | _ => false
def ownEqV (T : Pg) (M : Mem) (op : CmpOp) (x y : D) : Option (Option (Str × Bool)) :=
  if op = .Eq ∨ op = .NotEq then match clsV M x with
    | none => none
    | some (C, _) => match T.eqm C with
      | none => none
      | some q => match clsV M y with
        | some (D, _) => if D = C then some (some (q, decide (op = .NotEq))) else some none
        | none => match y with
          | .tup _ => if op = .Eq then some (some (q, false)) else some none
          | _ => some none
  else none
def eqBackV (neg : Bool) (r : D × Bool) (M : Mem) : OV Bool := match r.1 with
  | .bl c => .ok (if neg = true then !c else c) M
  | _ => .stuck
def cmpKV (T : Pg) (cf : CfV) (op : CmpOp) (x y : D) (M : Mem) : OV Bool := match ownEqV T M op x y with
  | none => ofV (cmpopV T.kd op (res M x) (res M y)) M
  | some none => .stuck
  | some (some (q, neg)) => (cf q [x, y] M).bind (eqBackV neg)
def ownLenV (T : Pg) (M : Mem) (b : Bf) (us : List D) : Option Str := match b, us with
  | .blen, [x] => (clsV M x).bind fun c => T.lnm c.1
  | _, _ => none
def lenBackV (r : D × Bool) (M : Mem) : OV D := match r.1 with
  | .int n => if 0 ≤ n ∧ n < 2 ^ 63 then .ok (.int n) M else .stuck
  | _ => .stuck
def bfKV (T : Pg) (cf : CfV) (b : Bf) (us : List D) (M : Mem) : OV D := match ownLenV T M b us with
  | none => ofV (bfopV b (us.map (res M))) M
  | some q => (cf q us M).bind lenBackV
/-- the list that extend goes over -/
def resX (m : Bm) (M : Mem) (vs : List D) : List D := match m with
  | .extend => vs.map (res M)
  | _ => vs
/-- a method of a list in the store -/
def mmeth (m : Bm) (x : D) (vs : List D) (M : Mem) : OV D := match x with
  | .mut i => match M[i]? with
    | some (.lst xs) => match lmeth m xs (resX m M vs) with
      | some (r, ys) => .ok r (M.set i (.lst ys))
      | none => .stuck
    | _ => .stuck
  | _ => .stuck
def mutLst (M : Mem) : D → Bool
  | .mut i => match M[i]? with
    | some (.lst _) => true
    | _ => false
  | _ => false
def sbm (m : Bm) : Bool := match m with
  | .join | .split => true
  | _ => false
def sbmV (m : Bm) (o : D) (vs : List D) : Option D := match m, o with
  | .join, .str a => joinV a vs
  | .split, .str a => splitV a vs
  | _, _ => none
def locV (b : Bool) (o : Option (Option Sl)) (M : Mem) : OV D := match o with
  | some (some (.v d)) => .ok d M
  | some (some (.own d)) => if b = true ∧ seqV d = true then .ok d M else .stuck
  | _ => .stuck
def attrV (T : Pg) (M : Mem) (f : Str) (c : Str × List (Str × D)) : OV D := match c.2.lookup f with
  | some u => if T.fld c.1 f = true then .ok u M else .stuck
  | none => match T.con c.1 f with
    | some u => ofV (ofU u) M
    | none => .stuck
def whyXV (T : Pg) (c : Str) (fs : List (Str × D)) (M : Mem) : OV D := match T.why, T.exn c, fs.lookup ("tag" : Str) with
  | some (bs, r), some _, some (.str z) => if PyData.strOk z = true then match fbG D.non z fs r bs with
    | some u => .ok (.tup [.str z, u]) M
    | none => .stuck
    else .stuck
  | _, _, _ => .stuck
def whyKV (T : Pg) (o : OV D) : OV D := match o with
  | .ok u M => if T.why.isSome = true then .ok (.tup [.str Str.empty, u]) M else .stuck
  | .exc c fs M => whyXV T c fs M
  | .stuck => .stuck
mutual
def evV (T : Pg) (cf : CfV) (jf : IfV) (b : Bool) : Ex → Rv → Mem → OV D
  | .loc i, ρ, M => locV b ρ[i]? M
  | .gl x, _, M => ofV ((T.gv x).bind ofU) M
  | .non, _, M => .ok .non M
  | .bl k, _, M => .ok (.bl k) M
  | .int i, _, M => .ok (.int i) M
  | .str x, _, M => .ok (.str x) M
  | .bin op x y, ρ, M => (evV T cf jf true x ρ M).bind fun x M => (evV T cf jf true y ρ M).bind fun y M => ofV (binopV op (res M x) (res M y)) M
  | .neg a, ρ, M => (evV T cf jf true a ρ M).bind fun x M => match x with
    | .int i => .ok (.int (-i)) M
    | _ => .stuck
  | .cmp op x y, ρ, M => (evV T cf jf true x ρ M).bind fun x M => (evV T cf jf true y ρ M).bind fun y M => (cmpKV T cf op x y M).bind fun b M => .ok (.bl b) M
  | .chain o1 o2 x y z, ρ, M => (evV T cf jf true x ρ M).bind fun x M => (evV T cf jf true y ρ M).bind fun y M => (ofV (cmpopV T.kd o1 (res M x) (res M y)) M).bind fun r M =>
      if r = true then (evV T cf jf true z ρ M).bind fun z M => ofV ((cmpopV T.kd o2 (res M y) (res M z)).map .bl) M else .ok (.bl false) M
  | .bop op es, ρ, M => evBV T cf jf b op es ρ M
  | .not a, ρ, M => (evV T cf jf true a ρ M).bind fun x M => (ofV (truthyV (res M x)) M).bind fun b M => .ok (.bl (!b)) M
  | .ite c x y, ρ, M => (evTV T cf jf c ρ M).bind fun r M => if r = true then evV T cf jf b x ρ M else evV T cf jf b y ρ M
  | .lst es, ρ, M => (evLV T cf jf false es ρ M).bind fun us M => if us.length ≤ sizeLine then .ok (.lst us) M else .stuck
  | .tup es, ρ, M => (evLV T cf jf false es ρ M).bind fun us M => if us.length ≤ sizeLine then .ok (.tup us) M else .stuck
  | .dict0, _, M => .ok (.dK []) M
  | .ix x y, ρ, M => (evV T cf jf true x ρ M).bind fun x M => (evV T cf jf true y ρ M).bind fun y M => ofV (ixopV T.kd (res M x) y) M
  | .sl x lo hi, ρ, M => (evV T cf jf true x ρ M).bind fun x M => (evOV T cf jf lo ρ M).bind fun l M => (evOV T cf jf hi ρ M).bind fun h M => ofV (slopV (res M x) l h) M
  | .call f es, ρ, M => if T.gf f = true then (evLV T cf jf false es ρ M).bind fun us M => (cf f us M).bind fun r M => .ok r.1 M else .stuck
  | .callk f es kn ke, ρ, M => .stuck
  | .make C es, ρ, M => if T.own C = true then (evLV T cf jf false es ρ M).bind fun us M => jf C us M else .stuck
  | .makek C es kn ke, ρ, M => .stuck
  | .bf k es, ρ, M => (evLV T cf jf true es ρ M).bind fun us M => bfKV T cf k us M
  | .isi a ts _, ρ, M => if ts.all (clsOk T.cls) = true then (evV T cf jf true a ρ M).bind fun x M => (ofV (tyM M x) M).bind fun t M => (ofV (isaAny T.isa t ts) M).bind fun b M => .ok (.bl b) M else .stuck
  | .bm m o es, ρ, M => (evV T cf jf true o ρ M).bind fun x M => if sbm m = true then (match x with
      | .str _ => (evLV T cf jf true es ρ M).bind fun us M => ofV (sbmV m x (us.map (res M))) M
      | _ => .stuck)
    else if mutLst M x = true then (evLV T cf jf false es ρ M).bind fun us M => mmeth m x us M else .stuck
  | .meth o m es, ρ, M => (evV T cf jf false o ρ M).bind fun x M => (ofV (clsV M x) M).bind fun c M => match c.2.lookup m, T.meth c.1 m with
    | none, some q => (evLV T cf jf false es ρ M).bind fun us M => (cf q (x :: us) M).bind fun r M => .ok r.1 M
    | _, _ => .stuck
  | .attr o f, ρ, M => match o with
    | .loc i => match ρ[i]? with
      | some (some (.own (.ins C fs))) => attrV T M f (C, fs)
      | x => (locV false x M).bind fun x M => (ofV (clsV M x) M).bind fun c M => attrV T M f c
    | o => (evV T cf jf false o ρ M).bind fun x M => (ofV (clsV M x) M).bind fun c M => attrV T M f c
  | .prop o f, ρ, M => (evV T cf jf false o ρ M).bind fun x M => (ofV (clsV M x) M).bind fun c M => match T.prop c.1 f with
    | some q => (noxV (cf q [x] M)).bind fun r M => .ok r.1 M
    | none => .stuck
  | .lc elt tg it kind test own, ρ, M => (evLV T cf jf true it ρ M).bind fun vs M => (ofV (iterV kind vs) M).bind fun J M => if J.length ≤ sizeLine then
      (lcV tg own ρ (evToV T cf jf test) (evV T cf jf false elt) J M).bind fun ys M => .ok (.lst ys) M
      else .stuck
  | .why e, ρ, M => whyKV T (evV T cf jf false e ρ M)
  | .smeth C m es, ρ, M => match T.smet C m with
    | some q => (evLV T cf jf false es ρ M).bind fun us M => (cf q us M).bind fun r M => .ok r.1 M
    | none => .stuck
  | .smetk C m kn e, ρ, M => match T.smek C m with
    | some (q, k) => if k = kn then (evV T cf jf false e ρ M).bind fun u M => (cf q [u] M).bind fun r M => .ok r.1 M else .stuck
    | none => .stuck
def evTV (T : Pg) (cf : CfV) (jf : IfV) : Tx → Rv → Mem → OV Bool
  | .not a, ρ, M => (evTV T cf jf a ρ M).bind fun b M => .ok (!b) M
  | .bop op es, ρ, M => evTBV T cf jf op es ρ M
  | .val e, ρ, M => (evV T cf jf true e ρ M).bind fun x M => ofV (truthyV (res M x)) M
def evToV (T : Pg) (cf : CfV) (jf : IfV) : Option Tx → Rv → Mem → OV Bool
  | none, _, M => .ok true M
  | some e, ρ, M => evTV T cf jf e ρ M
def evBV (T : Pg) (cf : CfV) (jf : IfV) (b : Bool) (op : BoolOp) : List Ex → Rv → Mem → OV D
  | [], _, _ => .stuck
  | [e], ρ, M => evV T cf jf b e ρ M
  | e :: r, ρ, M => (evV T cf jf b e ρ M).bind fun x M => (ofV (truthyV (res M x)) M).bind fun k M => match op, k with
    | .And, true | .Or, false => evBV T cf jf b op r ρ M
    | _, _ => .ok x M
def evTBV (T : Pg) (cf : CfV) (jf : IfV) (op : BoolOp) : List Tx → Rv → Mem → OV Bool
  | [], _, _ => .stuck
  | [e], ρ, M => evTV T cf jf e ρ M
  | e :: r, ρ, M => (evTV T cf jf e ρ M).bind fun b M => match op, b with
    | .And, true | .Or, false => evTBV T cf jf op r ρ M
    | _, b => .ok b M
def evLV (T : Pg) (cf : CfV) (jf : IfV) (b : Bool) : List Ex → Rv → Mem → OV (List D)
  | [], _, M => .ok [] M
  | e :: r, ρ, M => (evV T cf jf b e ρ M).bind fun x M => (evLV T cf jf b r ρ M).bind fun xs M => .ok (x :: xs) M
def evOV (T : Pg) (cf : CfV) (jf : IfV) : Option Ex → Rv → Mem → OV (Option Int)
  | none, _, M => .ok none M
  | some e, ρ, M => (evV T cf jf true e ρ M).bind fun x M => match x with
    | .int i => .ok (some i) M
    | _ => .stuck
end
/-- whether what it gives is its own -/
def frE : Ex → Bool
  | .lst _ => true | .lc _ _ _ _ _ _ => true | .sl _ _ _ => true | .bin _ _ _ => true | .dict0 => true
  | .bf .blist _ => true
  | .bm .split _ _ => true
  | _ => false
/-- a value and whether no one else has it -/
def evFV (T : Pg) (cf : CfV) (jf : IfV) : Ex → Rv → Mem → OV (D × Bool)
  | .call f es, ρ, M => if T.gf f = true then (evLV T cf jf false es ρ M).bind fun us M => cf f us M else .stuck
  | e, ρ, M => (evV T cf jf false e ρ M).bind fun x M => .ok (x, frE e) M
/-! ### statements -/
inductive FlV where
  | nx (ρ : Rv) | rt (d : D) (fr : Bool) | bk (ρ : Rv) | ct (ρ : Rv)
/-- what an f-string tells in a bounded text -/
def prID : List D → Bool
  | [.int i] => decide (i.natAbs.log2 < 1920)
  | _ => false
def prD : D → Bool
  | .str y => decide (y.length ≤ 1000000)
  | .int i => decide (i.natAbs.log2 < 1920)
  | .non => true
  | .bl _ => true
  | .tup ds => prID ds
  | .fro ds => prID ds
  | .lst ds => prID ds
  | _ => false
inductive OSV where
  | ok (fl : FlV) (M : Mem)
  | exc (c : Str) (fs : List (Str × D)) (ρ : Rv) (M : Mem)
  | stuck
def liftV {α : Type} (m : OV α) (ρ : Rv) (k : α → Mem → OSV) : OSV := match m with
  | .ok a M => k a M
  | .exc c fs M => .exc c fs ρ M
  | .stuck => .stuck
def OSV.seq (o : OSV) (k : Rv → Mem → OSV) : OSV := match o with
  | .ok (.nx ρ) M => k ρ M
  | o => o
def OSV.turn (o : OSV) (k : Rv → Mem → OSV) : OSV := match o with
  | .ok (.nx ρ) M => k ρ M
  | .ok (.ct ρ) M => k ρ M
  | .ok (.bk ρ) M => .ok (.nx ρ) M
  | o => o
/-- slots that another name is given -/
def frz (is : List Nat) (ρ : Rv) : Rv := match is with
  | [] => ρ
  | i :: is => frz is (match ρ[i]? with
    | some (some (.own d)) => if seqV d = true then ρ.set i (some (.v d)) else ρ
    | _ => ρ)
mutual
/-- the locals that an expression hands on -/
def escE : Bool → Ex → List Nat
  | b, .loc i => if b = true then [i] else []
  | _, .bin _ x y => escE false x ++ escE false y
  | _, .neg a => escE false a
  | _, .cmp _ x y => escE false x ++ escE false y
  | _, .chain _ _ x y z => escE false x ++ escE false y ++ escE false z
  | b, .bop _ es => escL b es
  | _, .not a => escE false a
  | b, .ite c x y => escT c ++ escE b x ++ escE b y
  | _, .lst es => escL true es
  | _, .tup es => escL true es
  | _, .ix x y => escE false x ++ escE false y
  | _, .sl x lo hi => escE false x ++ escO lo ++ escO hi
  | _, .call _ es => escL true es
  | _, .callk _ es _ ke => escL true es ++ escL true ke
  | _, .make _ es => escL true es
  | _, .makek _ es _ ke => escL true es ++ escL true ke
  | _, .bf _ es => escL false es
  | _, .isi a _ _ => escE false a
  | _, .bm m o es => escE false o ++ escL (!sbm m) es
  | _, .meth o _ es => escE true o ++ escL true es
  | _, .attr o _ => escE false o
  | _, .prop o _ => escE true o
  | _, .lc elt _ it _ test _ => escL false it ++ escE true elt ++ escTo test
  | _, .why e => escE true e
  | _, .smeth _ _ es => escL true es
  | _, .smetk _ _ _ e => escE true e
  | _, _ => []
def escT : Tx → List Nat
  | .not a => escT a
  | .bop _ es => escTL es
  | .val e => escE false e
def escTo : Option Tx → List Nat
  | none => []
  | some e => escT e
def escTL : List Tx → List Nat
  | [] => []
  | e :: r => escT e ++ escTL r
def escL (b : Bool) : List Ex → List Nat
  | [] => []
  | e :: r => escE b e ++ escL b r
def escO : Option Ex → List Nat
  | none => []
  | some e => escE false e
end
/-- a slot's content: by its mode: 0 a value, 1 a list of its own, 2 a place of the store -/
def prepM (mode : Nat → Nat) (i : Nat) (r : D × Bool) (M : Mem) : OV Sl := match mode i with
  | 0 => .ok (.v r.1) M
  | 1 => .ok (if r.2 = true ∧ seqV r.1 = true then .own r.1 else .v r.1) M
  | _ => if r.2 = true then match moOf r.1 with
    | some o => .ok (.v (.mut M.length)) (M ++ [o])
    | none => .stuck
    else .stuck
def evPV (T : Pg) (cf : CfV) (jf : IfV) (mode : Nat → Nat) (i : Nat) (e : Ex) (ρ : Rv) (M : Mem) : OV Sl := (evFV T cf jf e ρ M).bind fun r M => prepM mode i r M
def retM (ρ : Rv) (e : Ex) (r : D × Bool) : FlV := .rt r.1 (match e with
  | .loc i => match ρ[i]? with
    | some (some (.own d)) => seqV d
    | _ => false
  | _ => r.2)
def forV (tg : Tg) (body : Rv → Mem → OSV) : List D → Rv → Mem → OSV
  | [], ρ, M => .ok (.nx ρ) M
  | u :: us, ρ, M => match assignV tg u ρ with
    | none => .stuck
    | some ρ1 => (body ρ1 M).turn fun ρ M => forV tg body us ρ M
def whlV (test : Rv → Mem → OV Bool) (body : Rv → Mem → OSV) (fz : Rv → Rv) : Nat → Rv → Mem → OSV
  | 0, _, _ => .stuck
  | m + 1, ρ, M => liftV (test (fz ρ) M) (fz ρ) fun b M => if b = true then (body (fz ρ) M).turn fun ρ M => whlV test body fz m ρ M else .ok (.nx (fz ρ)) M
/-- o[i] = v -/
def setMem (o : MO) (y v : D) : Option MO := match o with
  | .lst xs => (setV (.lst xs) y v).bind moOf
  | .dK kvs => (setV (.dK kvs) y v).bind moOf
  | .ins _ _ => none
def setSub (l : Nat) (y v : D) (ρ : Rv) (M : Mem) : OSV := match ρ[l]? with
  | some (some (.own d)) => match setV d y v with
    | some d' => .ok (.nx (ρ.set l (some (.own d')))) M
    | none => .stuck
  | some (some (.v (.mut j))) => match (M[j]?).bind fun o => setMem o y v with
    | some o => .ok (.nx ρ) (M.set j o)
    | none => .stuck
  | _ => .stuck
def subOk (ρ : Rv) (l : Nat) : Bool := match ρ[l]? with
  | some (some (.own _)) => true
  | some (some (.v (.mut _))) => true
  | _ => false
mutual
def asgV (T : Pg) (cf : CfV) (jf : IfV) : TX → D → Rv → Mem → OSV
  | .nm i, u, ρ, M => .ok (.nx (ρ.set i (some (.v u)))) M
  | .sub o i, u, ρ, M => match o with
    | .loc l => if subOk ρ l = true then liftV (evV T cf jf true i ρ M) ρ fun y M => setSub l y u ρ M else .stuck
    | _ => .stuck
  | .tp ts, u, ρ, M => match u with
    | .tup us => if us.length = ts.length then asgsV T cf jf ts us ρ M else .stuck
    | _ => .stuck
def asgsV (T : Pg) (cf : CfV) (jf : IfV) : List TX → List D → Rv → Mem → OSV
  | t :: ts, u :: us, ρ, M => (asgV T cf jf t u ρ M).seq fun ρ M => asgsV T cf jf ts us ρ M
  | _, _, ρ, M => .ok (.nx ρ) M
end
/-- a method of a list that a slot has: what it gives, the slot afterwards -/
def ownBm (m : Bm) (i : Nat) (vs : List D) (ρ : Rv) (M : Mem) : OV (D × Rv) := match ρ[i]? with
  | some (some (.own (.lst xs))) => match lmeth m xs (resX m M vs) with
    | some (r, ys) => .ok (r, ρ.set i (some (.own (.lst ys)))) M
    | none => .stuck
  | _ => .stuck
def isOwn (ρ : Rv) (i : Nat) : Bool := match ρ[i]? with
  | some (some (.own (.lst _))) => true
  | _ => false
/-- x.m(..) of such a list, as a whole statement -/
def bmOwn (ρ : Rv) : Ex → Option (Bm × Nat × List Ex)
  | .bm m (.loc i) es => if !sbm m && isOwn ρ i then some (m, i, es) else none
  | _ => none
mutual
def evVS (T : Pg) (cf : CfV) (jf : IfV) (mode : Nat → Nat) : Sx → Rv → Mem → OSV
  | .set i e, ρ, M => match bmOwn ρ e with
    | some (m, j, es) => let ρ := frz (escL true es) ρ
      liftV (evLV T cf jf false es ρ M) ρ fun us M => liftV (ownBm m j us ρ M) ρ fun r M => .ok (.nx (r.2.set i (some (.v r.1)))) M
    | none => let ρ := frz (escE true e) ρ
      liftV (evPV T cf jf mode i e ρ M) ρ fun x M => .ok (.nx (ρ.set i (some x))) M
  | .asg t e, ρ, M => let ρ := frz (escE true e) ρ
    liftV (evV T cf jf false e ρ M) ρ fun x M => asgV T cf jf t x ρ M
  | .par i j a b, ρ, M => let ρ := frz (escE true a ++ escE true b) ρ
    liftV (evPV T cf jf mode i a ρ M) ρ fun x M => liftV (evPV T cf jf mode j b ρ M) ρ fun y M => if i ≠ j then .ok (.nx ((ρ.set i (some x)).set j (some y))) M else .stuck
  | .par3 i j l a b c, ρ, M => let ρ := frz (escE true a ++ escE true b ++ escE true c) ρ
    liftV (evLV T cf jf false [a, b, c] ρ M) ρ fun us M => match us with
      | [x, y, z] => .ok (.nx (((ρ.set i (some (.v x))).set j (some (.v y))).set l (some (.v z)))) M
      | _ => .stuck
  | .seta o f e, ρ, M => let ρ := frz (escE true e) ρ
    liftV (evV T cf jf false e ρ M) ρ fun v M => match o with
      | .loc i => match (ρ[i]? : Option (Option Sl)) with
        | some (some (.own (.ins C fs))) => if fs.length < 1000 ∧ T.fld C f = true then .ok (.nx (ρ.set i (some (.own (.ins C (putV f v fs)))))) M else .stuck
        | some (some (.v (.mut j))) => match M[j]? with
          | some (.ins C fs) => if fs.length < 1000 ∧ T.fld C f = true then .ok (.nx ρ) (M.set j (.ins C (putV f v fs))) else .stuck
          | _ => .stuck
        | _ => .stuck
      | _ => .stuck
  | .star i j e, ρ, M => let ρ := frz (escE true e) ρ
    liftV (evV T cf jf false e ρ M) ρ fun x M => match x with
      | .tup (u :: us) => if us.length < 16384 then .ok (.nx ((ρ.set i (some (.v u))).set j (some (.v (.lst us))))) M else .stuck
      | _ => .stuck
  | .aug i op e, ρ, M => let ρ := frz (escE true e) ρ
    match ρ[i]? with
    | some (some (.v u)) => liftV (evV T cf jf false e ρ M) ρ fun y M => match op, u, y with
      | .Add, .int a, .int b => .ok (.nx (ρ.set i (some (.v (.int (a + b)))))) M
      | .Sub, .int a, .int b => .ok (.nx (ρ.set i (some (.v (.int (a - b)))))) M
      | _, _, _ => .stuck
    | _ => .stuck
  | .expr e, ρ, M => match bmOwn ρ e with
    | some (m, j, es) => let ρ := frz (escL true es) ρ
      liftV (evLV T cf jf false es ρ M) ρ fun us M => liftV (ownBm m j us ρ M) ρ fun r M => .ok (.nx r.2) M
    | none => let ρ := frz (escE true e) ρ
      liftV (evV T cf jf false e ρ M) ρ fun _ M => .ok (.nx ρ) M
  | .ret e, ρ, M => liftV (evFV T cf jf e (frz (escE true e) ρ) M) (frz (escE true e) ρ) fun x M => .ok (retM ρ e x) M
  | .retN, _, M => .ok (.rt .non false) M
  | .pass, ρ, M => .ok (.nx ρ) M
  | .brk, ρ, M => .ok (.bk ρ) M
  | .cnt, ρ, M => .ok (.ct ρ) M
  | .iff c a b, ρ, M => let ρ := frz (escT c) ρ
    liftV (evTV T cf jf c ρ M) ρ fun r M => if r = true then evVSs T cf jf mode a ρ M else evVSs T cf jf mode b ρ M
  | .whl c b, ρ, M => whlV (evTV T cf jf c) (evVSs T cf jf mode b) (frz (escT c)) FU ρ M
  | .for_ tg it kind b, ρ, M => let ρ := frz (escL true it) ρ
    liftV (evLV T cf jf false it ρ M) ρ fun vs M => liftV (ofV (iterV kind vs) M) ρ fun J M => if J.length ≤ sizeLine then forV tg (evVSs T cf jf mode b) J ρ M else .stuck
  | .never, _, _ => .stuck
  | .rse n es, ρ, M => match T.exn n with
    | some (tag, flds) => let ρ := frz (escL true es) ρ
      liftV (evLV T cf jf false es ρ M) ρ fun us M => if us.length = flds.length ∧ us.all prD = true then .exc n (flds.zip us ++ [((("tag" : Str), D.str tag) : Str × D)]) ρ M else .stuck
    | none => .stuck
def evVSs (T : Pg) (cf : CfV) (jf : IfV) (mode : Nat → Nat) : List Sx → Rv → Mem → OSV
  | [], ρ, M => .ok (.nx ρ) M
  | s :: r, ρ, M => (evVS T cf jf mode s ρ M).seq fun ρ M => evVSs T cf jf mode r ρ M
end
def startV (N : List Str) (us : List D) : Rv := us.map (fun d => some (.v d)) ++ List.replicate (N.length - us.length) none
/-- by slot: how its lists are held -/
structure Md where
  md : Str → Nat → Nat
def initN : Str → Str := fun C => C ++ ".__init__"
mutual
def cfV (T : Pg) (md : Str → Nat → Nat) (fns : Str → Option Fn) : Nat → CfV
  | 0, _, _, _ => .stuck
  | k + 1, q, us, M => match fns q with
    | none => .stuck
    | some F => if us.length = F.ps.length then match evVSs T (cfV T md fns k) (jfV T md fns k) (md q) F.body (startV F.N us) M with
        | .ok (.nx _) M => .ok (.non, false) M
        | .ok (.rt u b) M => .ok (u, b) M
        | .exc c fs _ M => .exc c fs M
        | _ => .stuck
      else .stuck
def jfV (T : Pg) (md : Str → Nat → Nat) (fns : Str → Option Fn) : Nat → IfV
  | 0, _, _, _ => .stuck
  | k + 1, C, us, M => match fns (initN C) with
    | none => .stuck
    | some F => if us.length + 1 = F.ps.length then match evVSs T (cfV T md fns k) (jfV T md fns k) (md (initN C)) F.body ((startV F.N (.non :: us)).set 0 (some (.own (.ins C [])))) M with
        | .ok (.nx ρ) M => match (ρ[0]? : Option (Option Sl)) with
          | some (some (.own (.ins C fs))) => .ok (.ins C fs) M
          | _ => .stuck
        | .exc c fs _ M => .exc c fs M
        | _ => .stuck
      else .stuck
end
end Z
namespace Z
open PySem PySem.Spec PyProof.Rows L2
/-! ## values as the heap has them -/
/-- what a reference may not be: the lists that are some name's own, the store's places -/
structure Fb where
  O : Nat → Prop
  c : Nat → Nat
  m : Nat
def Fb.nst (F : Fb) (n : Nat) : Prop := ∀ i, i < F.m → F.c i ≠ n
def Fb.add (F : Fb) (n : Nat) : Fb := ⟨fun k => F.O k ∨ k = n, F.c, F.m⟩
mutual
def Rp (F : Fb) (G : Gp) : D → U → Prop
  | .non, u => u = .non
  | .bl b, u => u = .bl b
  | .int i, u => u = .int i
  | .str x, u => u = .str x
  | .tup ds, u => ∃ us, u = .tup us ∧ Rps F G ds us
  | .fro ds, u => ∃ us, u = .fro us ∧ Rps F G ds us
  | .lst ds, u => ∃ n us, u = .ref n ∧ ¬ F.O n ∧ F.nst n ∧ G[n]? = some (.lst us) ∧ Rps F G ds us
  | .dK kvs, u => ∃ n ws, u = .ref n ∧ ¬ F.O n ∧ F.nst n ∧ G[n]? = some (.dK ws) ∧ RpK F G kvs ws
  | .ins C fs, u => ∃ n ws, u = .ref n ∧ ¬ F.O n ∧ F.nst n ∧ G[n]? = some (.ins C ws) ∧ RpF F G fs ws
  | .glb x, u => u = .glb x
  | .mut i, u => i < F.m ∧ u = .ref (F.c i)
def Rps (F : Fb) (G : Gp) : List D → List U → Prop
  | [], us => us = []
  | d :: ds, us => ∃ u r, us = u :: r ∧ Rp F G d u ∧ Rps F G ds r
def RpK (F : Fb) (G : Gp) : List (Key × D) → List (Key × U) → Prop
  | [], us => us = []
  | (k, d) :: ds, us => ∃ u r, us = (k, u) :: r ∧ Rp F G d u ∧ RpK F G ds r
def RpF (F : Fb) (G : Gp) : List (Str × D) → List (Str × U) → Prop
  | [], us => us = []
  | (k, d) :: ds, us => ∃ u r, us = (k, u) :: r ∧ Rp F G d u ∧ RpF F G ds r
end
/-- what one holds, whoever has it -/
def Rc (F : Fb) (G : Gp) : D → U → Prop
  | .lst ds, u => ∃ n us, u = .ref n ∧ G[n]? = some (.lst us) ∧ Rps F G ds us
  | .dK kvs, u => ∃ n ws, u = .ref n ∧ G[n]? = some (.dK ws) ∧ RpK F G kvs ws
  | .ins C fs, u => ∃ n ws, u = .ref n ∧ G[n]? = some (.ins C ws) ∧ RpF F G fs ws
  | d, u => Rp F G d u
/-- .. but not in the store -/
def Rb (F : Fb) (G : Gp) : D → U → Prop
  | .lst ds, u => ∃ n us, u = .ref n ∧ F.nst n ∧ G[n]? = some (.lst us) ∧ Rps F G ds us
  | .dK kvs, u => ∃ n ws, u = .ref n ∧ F.nst n ∧ G[n]? = some (.dK ws) ∧ RpK F G kvs ws
  | d, u => Rp F G d u
theorem Rp.rb {F G} : ∀ {d u}, Rp F G d u → Rb F G d u := by
  intro d u h
  cases d <;> simp only [Rb, Rp] at h ⊢ <;> first
    | exact h
    | (obtain ⟨n, us, a, b, c, d, e⟩ := h; exact ⟨n, us, a, c, d, e⟩)
theorem Rb.rc {F G} : ∀ {d u}, Rb F G d u → Rc F G d u := by
  intro d u h
  cases d <;> simp only [Rb, Rc, Rp] at h ⊢ <;> first
    | exact h
    | (obtain ⟨n, us, a, c, d, e⟩ := h; exact ⟨n, us, a, d, e⟩)
    | (obtain ⟨n, us, a, b, c, d, e⟩ := h; exact ⟨n, us, a, d, e⟩)
/-- from one state to another: free places stay -/
structure Mv (F : Fb) (G : Gp) (F' : Fb) (G' : Gp) : Prop where
  gl : G.length ≤ G'.length
  ho : ∀ n, F'.O n → F.O n ∨ G.length ≤ n
  hc : ∀ i, i < F'.m → (i < F.m ∧ F'.c i = F.c i) ∨ G.length ≤ F'.c i ∨ F.O (F'.c i)
  hm : ∀ i, i < F.m → i < F'.m ∧ F'.c i = F.c i
  hg : ∀ n o, G[n]? = some o → ¬ F.O n → F.nst n → G'[n]? = some o
theorem ltG {G : Gp} {n : Nat} {o : GO} (h : G[n]? = some o) : n < G.length := (List.getElem?_eq_some_iff.mp h).1
theorem Mv.nO {F G F' G'} (h : Mv F G F' G') {n o} (e : G[n]? = some o) (k : ¬ F.O n) : ¬ F'.O n := fun q => by
  have := ltG e
  rcases h.ho n q with z | z
  · exact k z
  · omega
theorem Mv.nst {F G F' G'} (h : Mv F G F' G') {n o} (e : G[n]? = some o) (k1 : ¬ F.O n) (k : F.nst n) : F'.nst n := fun i hi q => by
  have := ltG e
  rcases h.hc i hi with ⟨z, z2⟩ | z | z
  · exact k i z (z2 ▸ q)
  · omega
  · exact k1 (q ▸ z)
theorem Mv.refl {F G} : Mv F G F G := ⟨Nat.le_refl _, fun _ h => .inl h, fun i h => .inl ⟨h, rfl⟩, fun i h => ⟨h, rfl⟩, fun _ _ h _ _ => h⟩
theorem Mv.trans {F G F1 G1 F2 G2} (a : Mv F G F1 G1) (b : Mv F1 G1 F2 G2) : Mv F G F2 G2 where
  gl := Nat.le_trans a.gl b.gl
  ho := fun n h => by
    rcases b.ho n h with q | q
    · exact a.ho n q
    · exact .inr (Nat.le_trans a.gl q)
  hc := fun i hi => by
    rcases b.hc i hi with ⟨q, q2⟩ | q | q
    · rcases a.hc i q with ⟨r, r2⟩ | r | r
      · exact .inl ⟨r, q2.trans r2⟩
      · exact .inr (.inl (q2 ▸ r))
      · exact .inr (.inr (q2 ▸ r))
    · exact .inr (.inl (Nat.le_trans a.gl q))
    · rcases a.ho _ q with r | r
      · exact .inr (.inr r)
      · exact .inr (.inl r)
  hm := fun i hi => let ⟨p, p2⟩ := a.hm i hi; let ⟨q, q2⟩ := b.hm i p; ⟨q, q2.trans p2⟩
  hg := fun n o e k1 k2 => b.hg n o (a.hg n o e k1 k2) (a.nO e k1) (a.nst e k1 k2)
mutual
theorem Rp.mv {F G F' G'} (h : Mv F G F' G') : ∀ {d : D} {u : U}, Rp F G d u → Rp F' G' d u
  | .non, _, r => by simpa only [Rp] using r
  | .bl _, _, r => by simpa only [Rp] using r
  | .int _, _, r => by simpa only [Rp] using r
  | .str _, _, r => by simpa only [Rp] using r
  | .glb _, _, r => by simpa only [Rp] using r
  | .mut i, _, r => by
    simp only [Rp] at r ⊢
    obtain ⟨q, q2⟩ := h.hm i r.1
    exact ⟨q, by rw [q2]; exact r.2⟩
  | .tup ds, _, r => by
    simp only [Rp] at r ⊢
    obtain ⟨us, e, q⟩ := r
    exact ⟨us, e, Rps.mv h q⟩
  | .fro ds, _, r => by
    simp only [Rp] at r ⊢
    obtain ⟨us, e, q⟩ := r
    exact ⟨us, e, Rps.mv h q⟩
  | .lst ds, _, r => by
    simp only [Rp] at r ⊢
    obtain ⟨n, us, e, k1, k2, g, q⟩ := r
    exact ⟨n, us, e, h.nO g k1, h.nst g k1 k2, h.hg _ _ g k1 k2, Rps.mv h q⟩
  | .dK ds, _, r => by
    simp only [Rp] at r ⊢
    obtain ⟨n, us, e, k1, k2, g, q⟩ := r
    exact ⟨n, us, e, h.nO g k1, h.nst g k1 k2, h.hg _ _ g k1 k2, RpK.mv h q⟩
  | .ins C ds, _, r => by
    simp only [Rp] at r ⊢
    obtain ⟨n, us, e, k1, k2, g, q⟩ := r
    exact ⟨n, us, e, h.nO g k1, h.nst g k1 k2, h.hg _ _ g k1 k2, RpF.mv h q⟩
theorem Rps.mv {F G F' G'} (h : Mv F G F' G') : ∀ {d : List D} {u : List U}, Rps F G d u → Rps F' G' d u
  | [], _, r => by simpa only [Rps] using r
  | d :: ds, _, r => by
    simp only [Rps] at r ⊢
    obtain ⟨u, r, e, q1, q2⟩ := r
    exact ⟨u, r, e, Rp.mv h q1, Rps.mv h q2⟩
theorem RpK.mv {F G F' G'} (h : Mv F G F' G') : ∀ {d : List (Key × D)} {u : List (Key × U)}, RpK F G d u → RpK F' G' d u
  | [], _, r => by simpa only [RpK] using r
  | (k, d) :: ds, _, r => by
    simp only [RpK] at r ⊢
    obtain ⟨u, r, e, q1, q2⟩ := r
    exact ⟨u, r, e, Rp.mv h q1, RpK.mv h q2⟩
theorem RpF.mv {F G F' G'} (h : Mv F G F' G') : ∀ {d : List (Str × D)} {u : List (Str × U)}, RpF F G d u → RpF F' G' d u
  | [], _, r => by simpa only [RpF] using r
  | (k, d) :: ds, _, r => by
    simp only [RpF] at r ⊢
    obtain ⟨u, r, e, q1, q2⟩ := r
    exact ⟨u, r, e, Rp.mv h q1, RpF.mv h q2⟩
end
/-- no place but the store's is changed -/
structure Up (c : Nat → Nat) (m : Nat) (G : Gp) (c' : Nat → Nat) (m' : Nat) (G' : Gp) : Prop where
  gl : G.length ≤ G'.length
  hg : ∀ n o, G[n]? = some o → (∀ i, i < m → c i ≠ n) → G'[n]? = some o
  ml : m ≤ m'
  cs : ∀ i, i < m → c' i = c i
  cn : ∀ i, m ≤ i → i < m' → G.length ≤ c' i
theorem Up.refl {c m G} : Up c m G c m G := ⟨Nat.le_refl _, fun _ _ h _ => h, Nat.le_refl _, fun _ _ => rfl, fun i h1 h2 => by omega⟩
theorem Up.trans {c m G c1 m1 G1 c2 m2 G2} (a : Up c m G c1 m1 G1) (b : Up c1 m1 G1 c2 m2 G2) : Up c m G c2 m2 G2 where
  gl := Nat.le_trans a.gl b.gl
  hg := fun n o e k => b.hg n o (a.hg n o e k) fun i hi => by
    by_cases q : i < m
    · rw [a.cs i q]; exact k i q
    · have h1 := a.cn i (by omega) hi
      have h2 := ltG e
      omega
  ml := Nat.le_trans a.ml b.ml
  cs := fun i hi => (b.cs i (Nat.lt_of_lt_of_le hi a.ml)).trans (a.cs i hi)
  cn := fun i h1 h2 => by
    by_cases q : i < m1
    · rw [b.cs i q]; exact a.cn i h1 q
    · exact Nat.le_trans a.gl (b.cn i (by omega) h2)
theorem Up.mv {O c m G c' m' G'} (u : Up c m G c' m' G') : Mv ⟨O, c, m⟩ G ⟨O, c', m'⟩ G' where
  gl := u.gl
  ho := fun _ h => .inl h
  hc := fun i hi => by
    by_cases q : i < m
    · exact .inl ⟨q, u.cs i q⟩
    · exact .inr (.inl (u.cn i (by omega) hi))
  hm := fun i hi => ⟨Nat.lt_of_lt_of_le hi u.ml, u.cs i hi⟩
  hg := fun n o e _ k => u.hg n o e k
theorem Up.nst {O O' c m G c' m' G'} (u : Up c m G c' m' G') {n o} (e : G[n]? = some o) (k : (⟨O, c, m⟩ : Fb).nst n) : (⟨O', c', m'⟩ : Fb).nst n := fun i hi => by
  by_cases q : i < m
  · show c' i ≠ n; rw [u.cs i q]; exact k i q
  · have h1 := u.cn i (by omega) hi
    have h2 := ltG e
    show c' i ≠ n
    omega
theorem Rb.up {O c m G c' m' G'} (u : Up c m G c' m' G') : ∀ {d : D} {x : U}, Rb ⟨O, c, m⟩ G d x → Rb ⟨O, c', m'⟩ G' d x := by
  intro d x h
  cases d <;> simp only [Rb] at h ⊢ <;> first
    | exact h.mv u.mv
    | (obtain ⟨n, us, a, c, e, f⟩ := h; exact ⟨n, us, a, u.nst e c, u.hg _ _ e c, f.mv u.mv⟩)
/-! ### the store -/
def RpO (F : Fb) (G : Gp) (n : Nat) : MO → Prop
  | .lst ds => ∃ us, G[n]? = some (.lst us) ∧ Rps F G ds us
  | .dK ds => ∃ us, G[n]? = some (.dK us) ∧ RpK F G ds us
  | .ins C ds => ∃ us, G[n]? = some (.ins C us) ∧ RpF F G ds us
structure StO (F : Fb) (M : Mem) (G : Gp) : Prop where
  len : F.m = M.length
  lt : ∀ n, F.O n → n < G.length
  inj : ∀ i j, i < F.m → j < F.m → F.c i = F.c j → i = j
  no : ∀ i, i < F.m → ¬ F.O (F.c i)
  ob : ∀ i o, M[i]? = some o → RpO F G (F.c i) o
theorem RpO.mv {F G F' G' n o} (h : Mv F G F' G') (hn : ∀ o, G[n]? = some o → G'[n]? = some o) (r : RpO F G n o) : RpO F' G' n o := by
  cases o <;> (obtain ⟨us, e, q⟩ := r; exact ⟨us, hn _ e, q.mv h⟩)
theorem StO.at_lt {F M G} (S : StO F M G) {i} (hi : i < F.m) : F.c i < G.length := by
  have : i < M.length := by rw [← S.len]; exact hi
  have r := S.ob i _ (List.getElem?_eq_getElem this)
  cases e : M[i] <;> rw [e] at r <;> exact ltG r.choose_spec.1
/-! ## outcomes that agree -/
def Ag {α β : Type} (O : Nat → Prop) (c : Nat → Nat) (M : Mem) (G : Gp) (R : Fb → Mem → Gp → α → β → Prop) : OV α → Out β → Prop
  | .ok a M', h => ∃ b G' c', h = .ok b G' ∧ Up c M.length G c' M'.length G' ∧ StO ⟨O, c', M'.length⟩ M' G' ∧ R ⟨O, c', M'.length⟩ M' G' a b
  | .exc n fs M', h => ∃ ws G' c', h = .exc n ws G' ∧ Up c M.length G c' M'.length G' ∧ StO ⟨O, c', M'.length⟩ M' G' ∧ RpF ⟨O, c', M'.length⟩ G' fs ws
  | .stuck, _ => True
section
variable {α β γ δ : Type} {O : Nat → Prop} {c : Nat → Nat} {M : Mem} {G : Gp}
theorem Ag.bind {R : Fb → Mem → Gp → α → β → Prop} {R' : Fb → Mem → Gp → γ → δ → Prop} {v : OV α} {h : Out β} {k : α → Mem → OV γ} {k' : β → Gp → Out δ} (a : Ag O c M G R v h)
    (n : ∀ x y c' M' G', Up c M.length G c' M'.length G' → StO ⟨O, c', M'.length⟩ M' G' → R ⟨O, c', M'.length⟩ M' G' x y → Ag O c' M' G' R' (k x M') (k' y G')) : Ag O c M G R' (v.bind k) (h.bind k') := by
  cases v with
  | stuck => trivial
  | exc q fs M' =>
    obtain ⟨ws, G', c', e, u, s, r⟩ := a
    subst e
    exact ⟨ws, G', c', rfl, u, s, r⟩
  | ok x M' =>
    obtain ⟨y, G', c', e, u, s, r⟩ := a
    subst e
    have z := n x y c' M' G' u s r
    show Ag O c M G R' (k x M') (k' y G')
    cases hk : k x M' with
    | stuck => trivial
    | exc q fs M2 =>
      rw [hk] at z
      obtain ⟨ws, G2, c2, e2, u2, s2, r2⟩ := z
      exact ⟨ws, G2, c2, e2, u.trans u2, s2, r2⟩
    | ok x2 M2 =>
      rw [hk] at z
      obtain ⟨ws, G2, c2, e2, u2, s2, r2⟩ := z
      exact ⟨ws, G2, c2, e2, u.trans u2, s2, r2⟩
theorem Ag.ok {R : Fb → Mem → Gp → α → β → Prop} {a : α} {b : β} (S : StO ⟨O, c, M.length⟩ M G) (r : R ⟨O, c, M.length⟩ M G a b) : Ag O c M G R (.ok a M) (.ok b G) := ⟨b, G, c, rfl, Up.refl, S, r⟩
theorem Ag.imp {R R' : Fb → Mem → Gp → α → β → Prop} {v : OV α} {h : Out β} (a : Ag O c M G R v h) (i : ∀ c' M' G' x y, Up c M.length G c' M'.length G' → StO ⟨O, c', M'.length⟩ M' G' → R ⟨O, c', M'.length⟩ M' G' x y → R' ⟨O, c', M'.length⟩ M' G' x y) : Ag O c M G R' v h := by
  cases v with
  | stuck => trivial
  | exc q fs M' => exact a
  | ok x M' =>
    obtain ⟨y, G', c', e, u, s, r⟩ := a
    exact ⟨y, G', c', e, u, s, i _ _ _ _ _ u s r⟩
theorem Ag.nox {R : Fb → Mem → Gp → α → β → Prop} {v : OV α} {h : Out β} (a : Ag O c M G R v h) : Ag O c M G R (noxV v) (nox h) := by
  cases v with
  | stuck => trivial
  | exc q fs M' => trivial
  | ok x M' =>
    obtain ⟨y, G', c', e, u, s, r⟩ := a
    subst e
    exact ⟨y, G', c', rfl, u, s, r⟩
/-- a value that does not lean on the heap -/
theorem Ag.ofO {x : Option α} {y : Option α} (S : StO ⟨O, c, M.length⟩ M G) (e : ∀ a, x = some a → y = some a) : Ag O c M G (fun _ _ _ a b => a = b) (ofV x M) (ofO y G) := by
  cases x with
  | none => trivial
  | some a => rw [e a rfl]; exact Ag.ok S rfl
end
abbrev eqR {α : Type} : Fb → Mem → Gp → α → α → Prop := fun _ _ _ a b => a = b
abbrev rP : Fb → Mem → Gp → D → U → Prop := fun F _ G d u => Rp F G d u
abbrev rB (b : Bool) : Fb → Mem → Gp → D → U → Prop := fun F _ G d u => if b = true then Rb F G d u else Rp F G d u
abbrev rBs (b : Bool) : Fb → Mem → Gp → List D → List U → Prop := fun F _ G ds us => Paired (fun d u => if b = true then Rb F G d u else Rp F G d u) ds us
theorem Rps.iff {F G} : ∀ {ds : List D} {us : List U}, Rps F G ds us ↔ Paired (Rp F G) ds us
  | [], us => by
    simp only [Rps]
    exact ⟨fun h => h ▸ .nil, fun h => by cases h; rfl⟩
  | x :: xs, us => by
    simp only [Rps]
    constructor
    · rintro ⟨y, r, rfl, h1, h2⟩; exact .cons h1 (Rps.iff.mp h2)
    · intro h; cases h with | cons h1 h2 => exact ⟨_, _, rfl, h1, Rps.iff.mpr h2⟩
end Z
namespace Z
open PySem PySem.Spec PyProof.Rows L2
section
variable {F : Fb} {G : Gp}
/-! ### lists -/
theorem Rps.len : ∀ {ds : List D} {us : List U}, Rps F G ds us → ds.length = us.length
  | [], us, h => by simp only [Rps] at h; subst h; rfl
  | d :: ds, us, h => by
    simp only [Rps] at h
    obtain ⟨u, r, rfl, h1, h2⟩ := h
    simp [h2.len]
theorem Rps.get : ∀ {ds : List D} {us : List U} {i : Nat} {d : D}, Rps F G ds us → ds[i]? = some d → ∃ u, us[i]? = some u ∧ Rp F G d u
  | [], us, i, d, h, e => by simp at e
  | x :: ds, us, i, d, h, e => by
    simp only [Rps] at h
    obtain ⟨u, r, rfl, h1, h2⟩ := h
    cases i with
    | zero => simp at e; subst e; exact ⟨u, by simp, h1⟩
    | succ i => simp at e; obtain ⟨w, q1, q2⟩ := h2.get e; exact ⟨w, by simpa using q1, q2⟩
theorem Rps.none_of {ds : List D} {us : List U} {i : Nat} (h : Rps F G ds us) (e : ds[i]? = none) : us[i]? = none := by
  rw [List.getElem?_eq_none_iff] at e ⊢
  rw [← h.len]; exact e
theorem Rps.nil : Rps F G [] [] := by simp [Rps]
theorem Rps.cons {d ds u us} (h1 : Rp F G d u) (h2 : Rps F G ds us) : Rps F G (d :: ds) (u :: us) := by simp only [Rps]; exact ⟨u, us, rfl, h1, h2⟩
theorem Rps.app : ∀ {ds : List D} {us : List U} {es : List D} {ws : List U}, Rps F G ds us → Rps F G es ws → Rps F G (ds ++ es) (us ++ ws)
  | [], us, es, ws, h, k => by simp only [Rps] at h; subst h; exact k
  | d :: ds, us, es, ws, h, k => by
    simp only [Rps] at h
    obtain ⟨u, r, rfl, h1, h2⟩ := h
    exact Rps.cons h1 (h2.app k)
theorem Rps.take : ∀ {ds : List D} {us : List U} (n : Nat), Rps F G ds us → Rps F G (ds.take n) (us.take n)
  | [], us, n, h => by simp only [Rps] at h; subst h; simp [Rps]
  | d :: ds, us, n, h => by
    simp only [Rps] at h
    obtain ⟨u, r, rfl, h1, h2⟩ := h
    cases n with
    | zero => exact Rps.nil
    | succ n => exact Rps.cons h1 (h2.take n)
theorem Rps.drop : ∀ {ds : List D} {us : List U} (n : Nat), Rps F G ds us → Rps F G (ds.drop n) (us.drop n)
  | [], us, n, h => by simp only [Rps] at h; subst h; simp [Rps]
  | d :: ds, us, n, h => by
    have h' := h
    simp only [Rps] at h
    obtain ⟨u, r, rfl, h1, h2⟩ := h
    cases n with
    | zero => exact h'
    | succ n => exact h2.drop n
theorem Rps.set : ∀ {ds : List D} {us : List U} {d : D} {u : U} (n : Nat), Rps F G ds us → Rp F G d u → Rps F G (ds.set n d) (us.set n u)
  | [], us, d, u, n, h, r => by simp only [Rps] at h; subst h; simp [Rps]
  | x :: ds, us, d, u, n, h, r => by
    simp only [Rps] at h
    obtain ⟨w, r2, rfl, h1, h2⟩ := h
    cases n with
    | zero => exact Rps.cons r h2
    | succ n => exact Rps.cons h1 (h2.set n r)
theorem Rps.dropLast {ds : List D} {us : List U} (h : Rps F G ds us) : Rps F G ds.dropLast us.dropLast := by
  rw [List.dropLast_eq_take, List.dropLast_eq_take, h.len]
  exact h.take _
theorem Rps.rep {ds : List D} {us : List U} (h : Rps F G ds us) : ∀ n, Rps F G (List.replicate n ds).flatten (List.replicate n us).flatten
  | 0 => Rps.nil
  | n + 1 => by
    rw [List.replicate_succ, List.replicate_succ, List.flatten_cons, List.flatten_cons]
    exact h.app (h.rep n)
theorem Rps.cut {ds : List D} {us : List U} (h : Rps F G ds us) (lo hi : Option Int) : Rps F G (cutU ds lo hi) (cutU us lo hi) := by
  unfold cutU
  rw [h.len]
  exact (h.drop _).take _
theorem Rps.atI {ds : List D} {us : List U} {i : Int} {d : D} (h : Rps F G ds us) (e : L2.atI ds i = some d) : ∃ u, L2.atI us i = some u ∧ Rp F G d u := by
  unfold L2.atI at e ⊢
  rw [← h.len]
  cases q : L2.ixN ds.length i with
  | none => rw [q] at e; cases e
  | some j => rw [q] at e; exact h.get e
theorem Rps.empty {ds : List D} {us : List U} (h : Rps F G ds us) : ds.isEmpty = us.isEmpty := by
  cases ds with
  | nil => simp only [Rps] at h; subst h; rfl
  | cons d ds => simp only [Rps] at h; obtain ⟨u, r, rfl, _⟩ := h; rfl
theorem Rps.ints : ∀ {ds : List D} {us : List U} {ns : List Int}, asIntsV ds = some ns → Rps F G ds us → asInts us = some ns
  | [], us, ns, e, h => by simp only [Rps] at h; subst h; simpa [asIntsV, asInts] using e
  | d :: ds, us, ns, e, h => by
    simp only [Rps] at h
    obtain ⟨u, r, rfl, h1, h2⟩ := h
    cases d <;> simp only [asIntsV] at e <;> try (cases e; done)
    obtain ⟨ms, q, rfl⟩ := Option.map_eq_some_iff.mp e
    simp only [Rp] at h1
    subst h1
    simp only [asInts, Rps.ints q h2, Option.map_some]
theorem Rps.bls : ∀ {ds : List D} {us : List U} {ns : List Bool}, asBlsV ds = some ns → Rps F G ds us → asBls us = some ns
  | [], us, ns, e, h => by simp only [Rps] at h; subst h; simpa [asBlsV, asBls] using e
  | d :: ds, us, ns, e, h => by
    simp only [Rps] at h
    obtain ⟨u, r, rfl, h1, h2⟩ := h
    cases d <;> simp only [asBlsV] at e <;> try (cases e; done)
    obtain ⟨ms, q, rfl⟩ := Option.map_eq_some_iff.mp e
    simp only [Rp] at h1
    subst h1
    simp only [asBls, Rps.bls q h2, Option.map_some]
theorem Rps.strs : ∀ {ds : List D} {us : List U} {ns : List Str}, asStrsV ds = some ns → Rps F G ds us → asStrs us = some ns
  | [], us, ns, e, h => by simp only [Rps] at h; subst h; simpa [asStrsV, asStrs] using e
  | d :: ds, us, ns, e, h => by
    simp only [Rps] at h
    obtain ⟨u, r, rfl, h1, h2⟩ := h
    cases d <;> simp only [asStrsV] at e <;> try (cases e; done)
    obtain ⟨ms, q, rfl⟩ := Option.map_eq_some_iff.mp e
    simp only [Rp] at h1
    subst h1
    simp only [asStrs, Rps.strs q h2, Option.map_some]
theorem Rps.ofStrs : ∀ (ys : List Str), Rps F G (ys.map .str) (ys.map .str)
  | [] => Rps.nil
  | y :: ys => Rps.cons (by simp [Rp]) (Rps.ofStrs ys)
/-! ### by operations -/
theorem toD_v : ∀ (k : Nat) {d : D} {u : U} {p : PyData}, toDV k d = some p → Rc F G d u → toD G k u = some p
  | 0, d, u, p, e, _ => by simp [toDV] at e
  | k + 1, d, u, p, e, r => by
    have key : ∀ {ds : List D} {us : List U} {ps : List PyData}, trav (toDV k) ds = some ps → Rps F G ds us → trav (toD G k) us = some ps := by
      intro ds
      induction ds with
      | nil => intro us ps e r; simp only [Rps] at r; subst r; simpa [trav] using e
      | cons d ds ih =>
        intro us ps e r
        simp only [Rps] at r
        obtain ⟨u, r, rfl, h1, h2⟩ := r
        simp only [trav, Option.bind_eq_some_iff, Option.map_eq_some_iff] at e ⊢
        obtain ⟨y, q1, l, q2, q3⟩ := e
        exact ⟨y, toD_v k q1 h1.rb.rc, l, ih q2 h2, q3⟩
    cases d <;> simp only [toDV] at e <;> try (cases e; done)
    · cases e; simp only [Rc, Rp] at r; subst r; rfl
    · cases e; simp only [Rc, Rp] at r; subst r; rfl
    · cases e; simp only [Rc, Rp] at r; subst r; rfl
    · cases e; simp only [Rc, Rp] at r; subst r; rfl
    · simp only [Rc, Rp] at r; obtain ⟨us, rfl, h⟩ := r; obtain ⟨ps, q, rfl⟩ := Option.map_eq_some_iff.mp e; simp only [toD, key q h, Option.map_some]
    · simp only [Rc] at r; obtain ⟨n, us, rfl, g, h⟩ := r; obtain ⟨ps, q, rfl⟩ := Option.map_eq_some_iff.mp e; simp only [toD, g, key q h, Option.map_some]
    · simp only [Rc, Rp] at r; obtain ⟨us, rfl, h⟩ := r; obtain ⟨ps, q, rfl⟩ := Option.map_eq_some_iff.mp e; simp only [toD, key q h, Option.map_some]
theorem RpK.len : ∀ {ds : List (Key × D)} {us : List (Key × U)}, RpK F G ds us → ds.length = us.length
  | [], us, h => by simp only [RpK] at h; subst h; rfl
  | (k, d) :: ds, us, h => by
    simp only [RpK] at h
    obtain ⟨u, r, rfl, h1, h2⟩ := h
    simp [h2.len]
theorem RpK.empty {ds : List (Key × D)} {us : List (Key × U)} (h : RpK F G ds us) : ds.isEmpty = us.isEmpty := by
  cases ds with
  | nil => simp only [RpK] at h; subst h; rfl
  | cons d ds => obtain ⟨k, d⟩ := d; simp only [RpK] at h; obtain ⟨u, r, rfl, _⟩ := h; rfl
theorem RpK.find (k : Key) : ∀ {ds : List (Key × D)} {us : List (Key × U)}, RpK F G ds us → match ds.find? fun kv => decide (kv.1 = k) with
    | some kv => ∃ u, us.find? (fun kv => decide (kv.1 = k)) = some (kv.1, u) ∧ Rp F G kv.2 u
    | none => us.find? (fun kv => decide (kv.1 = k)) = none
  | [], us, h => by simp only [RpK] at h; subst h; rfl
  | (a, d) :: ds, us, h => by
    simp only [RpK] at h
    obtain ⟨u, r, rfl, h1, h2⟩ := h
    have ih := RpK.find k h2
    simp only [List.find?_cons]
    cases q : decide (a = k) with
    | true => exact ⟨u, rfl, h1⟩
    | false => exact ih
theorem RpF.look (k : Str) : ∀ {ds : List (Str × D)} {us : List (Str × U)}, RpF F G ds us → match ds.lookup k with
    | some d => ∃ u, us.lookup k = some u ∧ Rp F G d u
    | none => us.lookup k = none
  | [], us, h => by simp only [RpF] at h; subst h; rfl
  | (a, d) :: ds, us, h => by
    simp only [RpF] at h
    obtain ⟨u, r, rfl, h1, h2⟩ := h
    have ih := RpF.look k h2
    simp only [List.lookup_cons]
    cases k == a with
    | true => exact ⟨u, rfl, h1⟩
    | false => exact ih
theorem RpF.len : ∀ {ds : List (Str × D)} {us : List (Str × U)}, RpF F G ds us → ds.length = us.length
  | [], us, h => by simp only [RpF] at h; subst h; rfl
  | (k, d) :: ds, us, h => by
    simp only [RpF] at h
    obtain ⟨u, r, rfl, h1, h2⟩ := h
    simp [h2.len]
theorem RpF.put (k : Str) {d : D} {u : U} (r : Rp F G d u) : ∀ {ds : List (Str × D)} {us : List (Str × U)}, RpF F G ds us → RpF F G (putV k d ds) (putU k u us)
  | [], us, h => by simp only [RpF] at h; subst h; simp only [putV, putU, RpF]; exact ⟨u, [], rfl, r, rfl⟩
  | (a, x) :: ds, us, h => by
    simp only [RpF] at h
    obtain ⟨w, rr, rfl, h1, h2⟩ := h
    simp only [putV, putU]
    split
    · simp only [RpF]; exact ⟨u, rr, rfl, r, h2⟩
    · simp only [RpF]; exact ⟨w, _, rfl, h1, RpF.put k r h2⟩
theorem truthy_v {d : D} {u : U} {b : Bool} (e : truthyV d = some b) (r : Rc F G d u) : truthy G u = some b := by
  cases d <;> simp only [truthyV] at e <;> try (cases e; done)
  · simp only [Rc, Rp] at r; subst r; exact e
  · simp only [Rc, Rp] at r; subst r; exact e
  · simp only [Rc, Rp] at r; subst r; exact e
  · simp only [Rc, Rp] at r; subst r; exact e
  · simp only [Rc, Rp] at r; obtain ⟨us, rfl, h⟩ := r; simp only [truthy]; rw [← h.empty]; exact e
  · simp only [Rc] at r; obtain ⟨n, us, rfl, g, h⟩ := r; simp only [truthy, g]; rw [← h.empty]; exact e
  · simp only [Rc, Rp] at r; obtain ⟨us, rfl, h⟩ := r; simp only [truthy]; rw [← h.empty]; exact e
  · simp only [Rc] at r; obtain ⟨n, us, rfl, g, h⟩ := r; simp only [truthy, g]; rw [← h.empty]; exact e
theorem items_v {d : D} {u : U} {ds : List D} (e : itemsV d = some ds) (r : Rc F G d u) : ∃ us, items G u = some us ∧ Rps F G ds us := by
  cases d <;> simp only [itemsV] at e <;> try (cases e; done)
  · cases e; simp only [Rc, Rp] at r; obtain ⟨us, rfl, h⟩ := r; exact ⟨us, rfl, h⟩
  · cases e; simp only [Rc] at r; obtain ⟨n, us, rfl, g, h⟩ := r; exact ⟨us, by simp only [items, g], h⟩
  · cases e; simp only [Rc, Rp] at r; obtain ⟨us, rfl, h⟩ := r; exact ⟨us, rfl, h⟩
theorem len_v {d : D} {u : U} {n : Nat} (e : lenV d = some n) (r : Rc F G d u) : lenU G u = some n := by
  cases d <;> simp only [lenV] at e <;> try (cases e; done)
  · simp only [Rc, Rp] at r; subst r; exact e
  · cases e; simp only [Rc, Rp] at r; obtain ⟨us, rfl, h⟩ := r; simp only [lenU, h.len]
  · cases e; simp only [Rc] at r; obtain ⟨n, us, rfl, g, h⟩ := r; simp only [lenU, g, h.len]
  · cases e; simp only [Rc, Rp] at r; obtain ⟨us, rfl, h⟩ := r; simp only [lenU, h.len]
  · cases e; simp only [Rc] at r; obtain ⟨n, us, rfl, g, h⟩ := r; simp only [lenU, g, h.len]
theorem flat_v {d : D} {u : U} (e : flatV d = true) (r : Rp F G d u) : flatU u = true := by
  cases d <;> simp only [flatV] at e <;> try (cases e; done)
  all_goals (simp only [Rp] at r; subst r; rfl)
theorem eq_v {d d' : D} {u u' : U} (e : flatV d = true) (e' : flatV d' = true) (r : Rp F G d u) (r' : Rp F G d' u') : eqU' u u' = eqD d d' := by
  cases d <;> simp only [flatV] at e <;> try (cases e; done)
  all_goals
    cases d' <;> simp only [flatV] at e' <;> try (cases e'; done)
    all_goals (simp only [Rp] at r r'; subst r; subst r'; rfl)
theorem inSeq_v {x : D} {u : U} {b : Bool} {ys : List D} {us : List U} (e : inSeqV x ys = some b) (r : Rc F G x u) (h : Rps F G ys us) : inSeq u us = some b := by
  unfold inSeqV at e
  split at e
  · rename_i q
    obtain ⟨q1, q2⟩ := q
    have rx : Rp F G x u := by cases x <;> simp only [flatV] at q1 <;> first | (cases q1; done) | exact r
    have key : ∀ {ys : List D} {us : List U}, ys.all flatV = true → Rps F G ys us → us.all flatU = true ∧ (us.any fun y => eqU' y u) = ys.any fun y => eqD y x := by
      intro ys
      induction ys with
      | nil => intro us _ h; simp only [Rps] at h; subst h; exact ⟨rfl, rfl⟩
      | cons d ds ih =>
        intro us q h
        simp only [Rps] at h
        obtain ⟨w, r, rfl, h1, h2⟩ := h
        simp only [List.all_cons, Bool.and_eq_true] at q
        obtain ⟨i1, i2⟩ := ih q.2 h2
        exact ⟨by simp only [List.all_cons, flat_v q.1 h1, i1, Bool.and_self], by simp only [List.any_cons, i2, eq_v q.1 q1 h1 rx]⟩
    obtain ⟨k1, k2⟩ := key q2 h
    unfold inSeq
    rw [if_pos ⟨flat_v q1 rx, k1⟩, k2]
    exact e
  · cases e
theorem key_v {d : D} {u : U} {k : Key} (e : keyV d = some k) (r : Rc F G d u) : keyOf u = some k := by
  cases d <;> simp only [keyV] at e <;> try (cases e; done)
  all_goals (simp only [Rc, Rp] at r; subst r; exact e)
theorem in_v {kd : Str → Option (List (Str × U))} {x y : D} {u w : U} {b : Bool} (e : inopV kd x y = some b) (rx : Rc F G x u) (ry : Rc F G y w) : inop kd u w G = some b := by
  cases y <;> simp only [inopV] at e <;> try (cases e; done)
  · simp only [Rc, Rp] at ry; subst ry
    split at e
    · simp only [Rc, Rp] at rx; subst rx; exact e
    · cases e
  · simp only [Rc, Rp] at ry; obtain ⟨us, rfl, h⟩ := ry; exact inSeq_v e rx h
  · simp only [Rc] at ry; obtain ⟨n, us, rfl, g, h⟩ := ry; simp only [inop, g]; exact inSeq_v e rx h
  · simp only [Rc, Rp] at ry; obtain ⟨us, rfl, h⟩ := ry; exact inSeq_v e rx h
  · simp only [Rc] at ry; obtain ⟨n, us, rfl, g, h⟩ := ry
    obtain ⟨k, q, rfl⟩ := Option.map_eq_some_iff.mp e
    simp only [inop, g, inDict, key_v q rx, Option.map_some]
    have := h.find k
    split at this
    · rename_i z; obtain ⟨v, z1, _⟩ := this; rw [z1, z]; rfl
    · rename_i z; rw [this, z]; rfl
  · rename_i dn
    simp only [Rc, Rp] at ry; subst ry
    cases hk : kd dn with
    | none => rw [hk] at e; cases e
    | some kvs =>
      rw [hk] at e
      cases x <;> try (cases e; done)
      simp only [Rc, Rp] at rx; subst rx
      simp only [inop, hk]; exact e
theorem isNon_v {d : D} {u : U} {b : Bool} (e : isNonV d = some b) (r : Rc F G d u) : isNon u = some b := by
  cases d <;> simp only [isNonV] at e <;> try (cases e; done)
  all_goals cases e
  · simp only [Rc, Rp] at r; subst r; rfl
  · simp only [Rc, Rp] at r; subst r; rfl
  · simp only [Rc, Rp] at r; subst r; rfl
  · simp only [Rc, Rp] at r; subst r; rfl
  · simp only [Rc, Rp] at r; obtain ⟨us, rfl, h⟩ := r; rfl
  · simp only [Rc] at r; obtain ⟨n, us, rfl, g, h⟩ := r; rfl
  · simp only [Rc, Rp] at r; obtain ⟨us, rfl, h⟩ := r; rfl
  · simp only [Rc] at r; obtain ⟨n, us, rfl, g, h⟩ := r; rfl
  · simp only [Rc] at r; obtain ⟨n, us, rfl, g, h⟩ := r; rfl
  · simp only [Rc, Rp] at r; obtain ⟨h, rfl⟩ := r; rfl
theorem eqData_v {x y : D} {u w : U} {b : Bool} (e : eqV x y = some b) (rx : Rc F G x u) (ry : Rc F G y w) : eqData u w G = some b := by
  unfold eqV at e
  obtain ⟨p, h1, e⟩ := Option.bind_eq_some_iff.mp e
  obtain ⟨q, h2, e⟩ := Option.bind_eq_some_iff.mp e
  unfold eqData
  rw [toD_v _ h1 rx, toD_v _ h2 ry]
  exact e
theorem cmp_v {kd : Str → Option (List (Str × U))} {op : CmpOp} {x y : D} {u w : U} {b : Bool} (e : cmpopV kd op x y = some b) (rx : Rc F G x u) (ry : Rc F G y w) : cmpop kd op u w G = some b := by
  cases op <;> simp only [cmpopV, cmpop] at e ⊢
  · exact eqData_v e rx ry
  · obtain ⟨k, q, rfl⟩ := Option.map_eq_some_iff.mp e; rw [eqData_v q rx ry]; rfl
  · split at e
    · simp only [Rc, Rp] at rx ry; subst rx; subst ry; exact e
    · simp only [Rc, Rp] at rx ry; obtain ⟨us, rfl, h⟩ := rx; obtain ⟨ws, rfl, h'⟩ := ry
      obtain ⟨ns, q1, e⟩ := Option.bind_eq_some_iff.mp e
      obtain ⟨ms, q2, e⟩ := Option.map_eq_some_iff.mp e
      simp only [Rps.ints q1 h, Rps.ints q2 h', Option.bind_some, Option.map_some, e]
    · cases e
  · split at e
    · simp only [Rc, Rp] at rx ry; subst rx; subst ry; exact e
    · cases e
  · split at e
    · simp only [Rc, Rp] at rx ry; subst rx; subst ry; exact e
    · cases e
  · split at e
    · simp only [Rc, Rp] at rx ry; subst rx; subst ry; exact e
    · cases e
  · split at e
    · simp only [Rc, Rp] at ry; subst ry; exact isNon_v e rx
    · cases e
  · split at e
    · simp only [Rc, Rp] at ry; subst ry; obtain ⟨k, q, rfl⟩ := Option.map_eq_some_iff.mp e; simp only [isNon_v q rx, Option.map_some]
    · cases e
  · exact in_v e rx ry
  · obtain ⟨k, q, rfl⟩ := Option.map_eq_some_iff.mp e; rw [in_v q rx ry]; rfl
/-! ### what they make -/
def isObj : D → Bool
  | .lst _ => true | .dK _ => true | .ins _ _ => true
  | _ => false
/-- an object as it stands in the store or in a value -/
def RpG (F : Fb) (G : Gp) : GO → MO → Prop
  | .lst us, .lst ds => Rps F G ds us
  | .dK us, .dK ds => RpK F G ds us
  | .ins C us, .ins C' ds => C = C' ∧ RpF F G ds us
  | _, _ => False
theorem RpG.mv {F' G' o m} (h : Mv F G F' G') (r : RpG F G o m) : RpG F' G' o m := by
  cases o <;> cases m <;> simp only [RpG] at r ⊢
  · exact r.mv h
  · exact r.mv h
  · exact ⟨r.1, r.2.mv h⟩
theorem RpG.at_ {o m n} (r : RpG F G o m) (h : G[n]? = some o) : RpO F G n m := by
  cases o <;> cases m <;> simp only [RpG] at r
  · exact ⟨_, h, r⟩
  · exact ⟨_, h, r⟩
  · obtain ⟨rfl, r⟩ := r; exact ⟨_, h, r⟩
theorem RpO.rc {n d m} (r : RpO F G n m) (e : moOf d = some m) : Rc F G d (.ref n) := by
  cases d <;> simp only [moOf] at e <;> try (cases e; done)
  all_goals (cases e; obtain ⟨us, h, q⟩ := r; simp only [Rc]; exact ⟨n, us, rfl, h, q⟩)
theorem Rc.rp {n d m} (r : Rc F G d (.ref n)) (e : moOf d = some m) (h1 : ¬ F.O n) (h2 : F.nst n) : Rp F G d (.ref n) := by
  cases d <;> simp only [moOf] at e <;> try (cases e; done)
  all_goals (cases e; simp only [Rc] at r; obtain ⟨k, us, z, h, q⟩ := r; cases z; simp only [Rp]; exact ⟨n, us, rfl, h1, h2, h, q⟩)
/-- what an operation gives: a value that is there, or a new object at the heap's end -/
inductive Made (F : Fb) (G : Gp) (d : D) : U → Gp → Prop where
  | old {u} (h : Rp F G d u) : Made F G d u G
  | new {o m} (e : moOf d = some m) (r : RpG F G o m) : Made F G d (.ref G.length) (G ++ [o])
theorem get_end {G : Gp} {o : GO} : (G ++ [o])[G.length]? = some o := by simp
theorem get_app' {G : Gp} {o x : GO} {n : Nat} (h : G[n]? = some x) : (G ++ [o])[n]? = some x := by
  rw [List.getElem?_append_left (ltG h)]; exact h
end
theorem up_push {c m} {G : Gp} {o : GO} : Up c m G c m (G ++ [o]) := ⟨by simp, fun n x h _ => get_app' h, Nat.le_refl _, fun _ _ => rfl, fun i h1 h2 => by omega⟩
theorem mv_add {F : Fb} {G : Gp} {o : GO} : Mv F G (F.add G.length) (G ++ [o]) where
  gl := by simp
  ho := fun n h => by
    rcases h with h | h
    · exact .inl h
    · exact .inr (by omega)
  hc := fun i h => .inl ⟨h, rfl⟩
  hm := fun i h => ⟨h, rfl⟩
  hg := fun n x h _ _ => get_app' h
theorem StO.push {F : Fb} {M : Mem} {G : Gp} {o : GO} (S : StO F M G) : StO F M (G ++ [o]) where
  len := S.len
  lt := fun n h => by have := S.lt n h; simp; omega
  inj := S.inj
  no := S.no
  ob := fun i x h => (S.ob i x h).mv (Up.mv (O := F.O) up_push) fun _ e => get_app' e
theorem StO.add {F : Fb} {M : Mem} {G : Gp} {o : GO} (S : StO F M G) : StO (F.add G.length) M (G ++ [o]) where
  len := S.len
  lt := fun n h => by
    rcases h with h | h
    · have := S.lt n h; simp; omega
    · rw [h]; simp
  inj := S.inj
  no := fun i hi h => by
    rcases h with h | h
    · exact S.no i hi h
    · have h1 : F.c i < G.length := S.at_lt (i := i) hi
      have h2 : F.c i = G.length := h
      omega
  ob := fun i x h => (S.ob i x h).mv mv_add fun _ e => get_app' e
/-- a value and whether no one else has it -/
def RFr (g : Nat) : Fb → Mem → Gp → D × Bool → U → Prop := fun F M G r u => Rp F G r.1 u ∧ (r.2 = true → isObj r.1 = true → ∃ n, u = .ref n ∧ g ≤ n ∧ StO (F.add n) M G ∧ Rc (F.add n) G r.1 u)
theorem isObj_mo {d : D} (h : isObj d = true) : ∃ m, moOf d = some m := by
  cases d <;> simp only [isObj] at h <;> first
    | (cases h; done)
    | exact ⟨_, rfl⟩
theorem Made.fr {O c M G d u G'} {g : Nat} (S : StO ⟨O, c, M.length⟩ M G) (h : Made ⟨O, c, M.length⟩ G d u G') (hg : g ≤ G.length) (b : Bool) (hb : b = true → isObj d = true → ∃ n, u = .ref n ∧ G.length ≤ n) :
    Up c M.length G c M.length G' ∧ StO ⟨O, c, M.length⟩ M G' ∧ RFr g ⟨O, c, M.length⟩ M G' (d, b) u := by
  cases h with
  | old h =>
    refine ⟨Up.refl, S, h, fun k1 k2 => ?_⟩
    obtain ⟨n, e, hn⟩ := hb k1 k2
    subst e
    obtain ⟨m, hm⟩ := isObj_mo k2
    exfalso
    cases d <;> simp only [isObj] at k2 <;> try (cases k2; done)
    all_goals (simp only [Rp] at h; obtain ⟨n', us, e, _, _, g', _⟩ := h; cases e; have := ltG g'; omega)
  | new e r =>
    have r1 : Rc ((⟨O, c, M.length⟩ : Fb).add G.length) _ d (.ref G.length) := ((r.mv mv_add).at_ get_end).rc e
    have r2 : Rc ⟨O, c, M.length⟩ _ d (.ref G.length) := ((r.mv (Up.mv (O := O) up_push)).at_ get_end).rc e
    refine ⟨up_push, S.push, r2.rp e (fun h => ?_) (fun i hi => ?_), fun _ _ => ⟨_, rfl, hg, S.add, r1⟩⟩
    · have := S.lt _ h; omega
    · have h1 : c i < G.length := S.at_lt (i := i) hi
      show c i ≠ G.length; omega
theorem Made.ag {O c M G d u G'} (S : StO ⟨O, c, M.length⟩ M G) {h : Out U} (e : h = .ok u G') (m : Made ⟨O, c, M.length⟩ G d u G') : Ag O c M G rP (.ok d M) h := by
  obtain ⟨a, b, r⟩ := m.fr (g := 0) S (Nat.zero_le _) false (fun h => by cases h)
  exact ⟨u, G', c, e, a, b, r.1⟩
theorem Made.agF {O c M G d u G'} {g : Nat} {b : Bool} (S : StO ⟨O, c, M.length⟩ M G) {h : Out U} (e : h = .ok u G') (m : Made ⟨O, c, M.length⟩ G d u G') (hg : g ≤ G.length) (hb : b = true → isObj d = true → ∃ n, u = .ref n ∧ G.length ≤ n) : Ag O c M G (RFr g) (.ok (d, b) M) h := by
  obtain ⟨a, b, r⟩ := m.fr (g := g) S hg b hb
  exact ⟨u, G', c, e, a, b, r⟩
section
variable {F : Fb} {G : Gp}
theorem Rp.int {i} : Rp F G (.int i) (.int i) := by simp only [Rp]
theorem Rp.str {i} : Rp F G (.str i) (.str i) := by simp only [Rp]
theorem Rp.bl {i} : Rp F G (.bl i) (.bl i) := by simp only [Rp]
theorem Rp.non : Rp F G .non .non := by simp only [Rp]
theorem Rp.tup {ds us} (h : Rps F G ds us) : Rp F G (.tup ds) (.tup us) := by simp only [Rp]; exact ⟨_, rfl, h⟩
theorem bin_v {op : Operator} {x y d : D} {u w : U} (e : binopV op x y = some d) (rx : Rc F G x u) (ry : Rc F G y w) : ∃ z G', binop op u w G = some (z, G') ∧ Made F G d z G' ∧ (isObj d = true → ∃ n, z = .ref n ∧ G.length ≤ n) := by
  unfold binopV at e
  split at e
  · cases e; simp only [Rc, Rp] at rx ry; subst rx; subst ry; exact ⟨_, _, rfl, .old .int, fun h => by cases h⟩
  · cases e; simp only [Rc, Rp] at rx ry; subst rx; subst ry; exact ⟨_, _, rfl, .old .int, fun h => by cases h⟩
  · split at e
    · rename_i hh; cases e; simp only [Rc, Rp] at rx ry; subst rx; subst ry; exact ⟨_, _, if_pos hh, .old .int, fun h => by cases h⟩
    · cases e
  · split at e
    · rename_i hh; cases e; simp only [Rc, Rp] at rx ry; subst rx; subst ry; exact ⟨_, _, if_pos hh, .old .int, fun h => by cases h⟩
    · cases e
  · split at e
    · rename_i hh; cases e; simp only [Rc, Rp] at rx ry; subst rx; subst ry; exact ⟨_, _, if_pos hh, .old .int, fun h => by cases h⟩
    · cases e
  · split at e
    · rename_i hh; cases e; simp only [Rc, Rp] at rx ry; subst rx; subst ry; exact ⟨_, _, if_pos hh, .old .int, fun h => by cases h⟩
    · cases e
  · split at e
    · rename_i hh; cases e; simp only [Rc, Rp] at rx ry; subst rx; subst ry; exact ⟨_, _, if_pos hh, .old .str, fun h => by cases h⟩
    · cases e
  · split at e
    · rename_i hh; cases e; simp only [Rc, Rp] at rx ry; obtain ⟨us, rfl, h⟩ := rx; obtain ⟨ws, rfl, h'⟩ := ry
      rw [h.len, h'.len] at hh
      exact ⟨_, _, if_pos hh, .old (.tup (h.app h')), fun h => by cases h⟩
    · cases e
  · split at e
    · rename_i hh; cases e; simp only [Rc, Rp] at rx ry; obtain ⟨n, us, rfl, g, h⟩ := rx; obtain ⟨n', ws, rfl, g', h'⟩ := ry
      rw [h.len, h'.len] at hh
      exact ⟨_, _, by simp only [binop, g, g']; exact if_pos hh, .new (d := .lst _) rfl (o := .lst _) (h.app h'), fun _ => ⟨_, rfl, Nat.le_refl _⟩⟩
    · cases e
  · split at e
    · rename_i hh; cases e; simp only [Rc, Rp] at rx ry; obtain ⟨n, us, rfl, g, h⟩ := rx; subst ry
      rw [h.len] at hh
      exact ⟨_, _, by simp only [binop, g]; exact if_pos hh, .new (d := .lst _) rfl (o := .lst _) (h.rep _), fun _ => ⟨_, rfl, Nat.le_refl _⟩⟩
    · cases e
  · cases e
theorem ofU_rp {u : U} {d : D} (e : ofU u = some d) : Rp F G d u := by
  cases u <;> simp only [ofU] at e <;> try (cases e; done)
  all_goals (cases e; simp only [Rp])
theorem ix_v {kd : Str → Option (List (Str × U))} {x y d : D} {u w : U} (e : ixopV kd x y = some d) (rx : Rc F G x u) (ry : Rc F G y w) : ∃ z, ixop kd u w G = some (z, G) ∧ Rp F G d z := by
  unfold ixopV at e
  split at e
  · split at e
    · obtain ⟨c, q, rfl⟩ := Option.map_eq_some_iff.mp e
      simp only [Rc, Rp] at rx ry; subst rx; subst ry
      exact ⟨.str ⟨#[c]⟩, by simp only [ixop]; rw [if_pos (by assumption), q]; rfl, .str⟩
    · cases e
  · simp only [Rc, Rp] at rx ry; obtain ⟨us, rfl, h⟩ := rx; subst ry; obtain ⟨z, q, r⟩ := h.atI e; exact ⟨z, by simp only [ixop, q, Option.map_some], r⟩
  · simp only [Rc, Rp] at rx ry; obtain ⟨us, rfl, h⟩ := rx; subst ry; obtain ⟨z, q, r⟩ := h.atI e; exact ⟨z, by simp only [ixop, q, Option.map_some], r⟩
  · simp only [Rc, Rp] at rx ry; obtain ⟨n, us, rfl, g, h⟩ := rx; subst ry; obtain ⟨z, q, r⟩ := h.atI e; exact ⟨z, by simp only [ixop, g, q, Option.map_some], r⟩
  · simp only [Rc] at rx; obtain ⟨n, us, rfl, g, h⟩ := rx
    obtain ⟨k, q, e⟩ := Option.bind_eq_some_iff.mp e
    obtain ⟨kv, q2, rfl⟩ := Option.map_eq_some_iff.mp e
    have := h.find k
    rw [q2] at this
    obtain ⟨z, z1, z2⟩ := this
    refine ⟨z, ?_, z2⟩
    simp only [ixop, g, key_v q ry, Option.bind_some, z1, Option.map_some]
  · simp only [Rc, Rp] at rx ry; subst rx; subst ry
    split at e
    · rename_i kvs q
      obtain ⟨z, q1, q2⟩ := Option.bind_eq_some_iff.mp e
      exact ⟨z, by simp only [ixop, q, q1, Option.map_some], ofU_rp q2⟩
    · cases e
  · cases e
theorem sl_v {x d : D} {u : U} {lo hi : Option Int} (e : slopV x lo hi = some d) (rx : Rc F G x u) : ∃ z G', slop u lo hi G = some (z, G') ∧ Made F G d z G' ∧ (isObj d = true → ∃ n, z = .ref n ∧ G.length ≤ n) := by
  unfold slopV at e
  split at e
  · split at e
    · cases e; simp only [Rc, Rp] at rx; subst rx
      exact ⟨_, _, by simp only [slop]; rw [if_pos (by assumption)], Made.old (by simp only [Rp]), fun h => by cases h⟩
    · cases e
  · cases e; simp only [Rc, Rp] at rx; obtain ⟨us, rfl, h⟩ := rx
    exact ⟨_, _, rfl, Made.old (.tup (h.cut _ _)), fun h => by cases h⟩
  · cases e; simp only [Rc, Rp] at rx; obtain ⟨us, rfl, h⟩ := rx
    exact ⟨_, _, by simp only [slop], Made.new (d := .lst _) rfl (o := .lst _) (h.cut _ _), fun _ => ⟨_, rfl, Nat.le_refl _⟩⟩
  · cases e; simp only [Rc] at rx; obtain ⟨n, us, rfl, g, h⟩ := rx
    exact ⟨_, _, by simp only [slop, g], Made.new (d := .lst _) rfl (o := .lst _) (h.cut _ _), fun _ => ⟨_, rfl, Nat.le_refl _⟩⟩
  · cases e
end
end Z
namespace Z
open PySem PySem.Spec PyProof.Rows L2
section
variable {F : Fb} {G : Gp}
theorem Rps.one {d : D} {us : List U} (h : Rps F G [d] us) : ∃ u, us = [u] ∧ Rp F G d u := by
  simp only [Rps] at h; obtain ⟨y, r, rfl, h1, rfl⟩ := h; exact ⟨y, rfl, h1⟩
abbrev Rcs (F : Fb) (G : Gp) : List D → List U → Prop := Paired (Rc F G)
theorem lstInts_v {d : D} {u : U} {ns : List Int} (e : lstIntsV d = some ns) (r : Rc F G d u) : lstInts G u = some ns := by
  cases d <;> simp only [lstIntsV] at e <;> try (cases e; done)
  simp only [Rc] at r; obtain ⟨n, us, rfl, g, h⟩ := r; simp only [lstInts, g]; exact h.ints e
theorem lstBls_v {d : D} {u : U} {ns : List Bool} (e : lstBlsV d = some ns) (r : Rc F G d u) : lstBls G u = some ns := by
  cases d <;> simp only [lstBlsV] at e <;> try (cases e; done)
  simp only [Rc] at r; obtain ⟨n, us, rfl, g, h⟩ := r; simp only [lstBls, g]; exact h.bls e
theorem bf_v {b : Bf} {ds : List D} {us : List U} {d : D} (e : bfopV b ds = some d) (r : Rcs F G ds us) : ∃ z G', bfop b us G = some (z, G') ∧ Made F G d z G' ∧ (isObj d = true → ∃ n, z = .ref n ∧ G.length ≤ n) := by
  unfold bfopV at e
  split at e
  · obtain ⟨n, q, rfl⟩ := Option.map_eq_some_iff.mp e; cases r with | cons r r2 => cases r2; exact ⟨_, _, by simp only [bfop, len_v q r, Option.map_some], .old .int, fun h => by cases h⟩
  · obtain ⟨n, q, rfl⟩ := Option.map_eq_some_iff.mp e; cases r with | cons r r2 => cases r2; exact ⟨_, _, by simp only [bfop, lstBls_v q r, Option.map_some], .old .bl, fun h => by cases h⟩
  · obtain ⟨n, q, rfl⟩ := Option.map_eq_some_iff.mp e; cases r with | cons r r2 => cases r2; exact ⟨_, _, by simp only [bfop, lstBls_v q r, Option.map_some], .old .bl, fun h => by cases h⟩
  · obtain ⟨n, q, rfl⟩ := Option.map_eq_some_iff.mp e; cases r with | cons r r2 => cases r2; exact ⟨_, _, by simp only [bfop, lstInts_v q r, Option.map_some], .old .int, fun h => by cases h⟩
  · obtain ⟨n, q, e⟩ := Option.bind_eq_some_iff.mp e; obtain ⟨m, q2, rfl⟩ := Option.map_eq_some_iff.mp e
    cases r with | cons r r2 => cases r2; exact ⟨_, _, by simp only [bfop, lstInts_v q r, Option.bind_some, q2, Option.map_some], .old .int, fun h => by cases h⟩
  · obtain ⟨n, q, e⟩ := Option.bind_eq_some_iff.mp e; obtain ⟨m, q2, rfl⟩ := Option.map_eq_some_iff.mp e
    cases r with | cons r r2 => cases r2; exact ⟨_, _, by simp only [bfop, lstInts_v q r, Option.bind_some, q2, Option.map_some], .old .int, fun h => by cases h⟩
  · cases e; cases r with | cons r r2 => cases r2 with | cons r3 r4 => cases r4; simp only [Rc, Rp] at r r3; subst r; subst r3; exact ⟨_, _, rfl, .old .int, fun h => by cases h⟩
  · cases e; cases r with | cons r r2 => cases r2 with | cons r3 r4 => cases r4; simp only [Rc, Rp] at r r3; subst r; subst r3; exact ⟨_, _, rfl, .old .int, fun h => by cases h⟩
  · cases e; cases r with | cons r r2 => cases r2; simp only [Rc, Rp] at r; subst r; exact ⟨_, _, rfl, .old .int, fun h => by cases h⟩
  · cases e; cases r with | cons r r2 => cases r2; simp only [Rc, Rp] at r; subst r; exact ⟨_, _, rfl, .old .int, fun h => by cases h⟩
  · cases e; cases r with | cons r r2 => cases r2; simp only [Rc, Rp] at r; subst r; exact ⟨_, _, rfl, .old .int, fun h => by cases h⟩
  · split at e
    · rename_i hh; obtain ⟨n, q, rfl⟩ := Option.map_eq_some_iff.mp e; cases r with | cons r r2 => cases r2; simp only [Rc, Rp] at r; subst r; exact ⟨_, _, by simp only [bfop]; rw [if_pos hh, q]; rfl, .old .int, fun h => by cases h⟩
    · cases e
  · split at e
    · rename_i hh; cases e; cases r with | cons r r2 => cases r2; simp only [Rc, Rp] at r; subst r; exact ⟨_, _, if_pos hh, .old .str, fun h => by cases h⟩
    · cases e
  · obtain ⟨n, q, rfl⟩ := Option.map_eq_some_iff.mp e; cases r with | cons r r2 => cases r2; obtain ⟨us, z, h⟩ := items_v q r; exact ⟨_, _, by simp only [bfop, z, Option.map_some], .new (d := .lst _) rfl (o := .lst _) h, fun _ => ⟨_, rfl, Nat.le_refl _⟩⟩
  · cases e; cases r with | cons r r2 => cases r2; simp only [Rc, Rp] at r; obtain ⟨us, rfl, h⟩ := r; exact ⟨_, _, rfl, .old (.tup h), fun h => by cases h⟩
  · rename_i x hx
    obtain ⟨n, q, rfl⟩ := Option.map_eq_some_iff.mp e; 
    cases r with
    | cons r r2 =>
      cases r2
      obtain ⟨us, z, h⟩ := items_v q r
      rename_i w
      refine ⟨.tup us, G, ?_, .old (.tup h), fun h => by cases h⟩
      cases w <;> simp only [bfop, z, Option.map_some]
      simp only [items, Option.some.injEq] at z
      rw [z]
  · cases e
theorem Txt_split_rp {a b : Str} : Rps F G ((Txt.split a b).map .str) ((Txt.split a b).map .str) := Rps.ofStrs _
theorem sbm_v {m : Bm} {x d : D} {u : U} {ds : List D} {us : List U} (e : sbmV m x ds = some d) (hx : Rc F G x u) (r : Rcs F G ds us) : ∃ z G', bmop m u us G = some (z, G') ∧ Made F G d z G' ∧ (isObj d = true → ∃ n, z = .ref n ∧ G.length ≤ n) := by
  unfold sbmV at e
  split at e
  · simp only [Rc, Rp] at hx; subst hx
    unfold joinV at e
    split at e
    · obtain ⟨xs, q, e⟩ := Option.bind_eq_some_iff.mp e; obtain ⟨ys, q2, e⟩ := Option.bind_eq_some_iff.mp e
      split at e
      · rename_i hh; cases e
        cases r with | cons r r2 => cases r2; obtain ⟨ws, z, h⟩ := items_v q r; exact ⟨_, _, by simp only [bmop, opJoin, z, Option.bind_some, h.strs q2]; exact if_pos hh, .old .str, fun h => by cases h⟩
      · cases e
    · cases e
  · simp only [Rc, Rp] at hx; subst hx
    unfold splitV at e
    split at e
    · split at e
      · rename_i hh; cases e
        cases r with | cons r r2 => cases r2; simp only [Rc, Rp] at r; subst r; exact ⟨_, _, by simp only [bmop, opSplit]; exact if_pos hh, .new (d := .lst _) rfl (o := .lst _) Txt_split_rp, fun _ => ⟨_, rfl, Nat.le_refl _⟩⟩
      · cases e
    · cases e
  · cases e
theorem sbm_ty {m : Bm} {x d : D} {u : U} {ds : List D} (e : sbmV m x ds = some d) (hx : Rc F G x u) : tyOkM m u G = true := by
  unfold sbmV at e
  split at e
  · simp only [Rc, Rp] at hx; subst hx; rfl
  · simp only [Rc, Rp] at hx; subst hx; rfl
  · cases e
/-- a list's methods -/
theorem lm_v {m : Bm} {n : Nat} {xs ws : List D} {us vs : List U} {d : D} {ys : List D} (e : lmeth m xs ws = some (d, ys)) (g : G[n]? = some (.lst us)) (h : Rps F G xs us) (r : Paired (fun d u => Rc F G d u ∧ (m = .extend ∨ Rp F G d u)) ws vs) :
    ∃ z zs, bmop m (.ref n) vs G = some (z, G.set n (.lst zs)) ∧ tyOkM m (.ref n) G = true ∧ Rp F G d z ∧ Rps F G ys zs := by
  have ok : tyOkM m (.ref n) G = isLst G (.ref n) ∨ sbm m = true := by cases m <;> simp [tyOkM, sbm]
  have okl : isLst G (.ref n) = true := by simp only [isLst, g]
  unfold lmeth at e
  split at e
  · split at e
    · rename_i hh; cases e
      cases r with | cons r r2 => cases r2; rcases r with ⟨_, z | r⟩
                                  · cases z
                                  · exact ⟨_, _, by simp only [bmop, lstOf, g, Option.bind_some, opAppend]; rw [h.len] at hh; exact if_pos hh, okl, .non, h.app (Rps.cons r Rps.nil)⟩
    · cases e
  · cases e; cases r; exact ⟨_, _, by simp only [bmop, lstOf, g, Option.bind_some, opClear], okl, .non, Rps.nil⟩
  · obtain ⟨y, q, z⟩ := Option.map_eq_some_iff.mp e
    cases z; cases r
    obtain ⟨w, q1, q2⟩ := h.get q
    rw [h.len] at q1
    exact ⟨_, _, by simp only [bmop, lstOf, g, Option.bind_some, opPop, q1, Option.map_some], okl, q2, h.dropLast⟩
  · split at e
    · rename_i hh; cases e
      cases r with | cons r r2 => cases r2; obtain ⟨r, _⟩ := r; simp only [Rc] at r; obtain ⟨k, us2, rfl, g2, h2⟩ := r
                                  exact ⟨_, _, by simp only [bmop, lstOf, g, g2, Option.bind_some, opExtend]; rw [h.len, h2.len] at hh; exact if_pos hh, okl, .non, h.app h2⟩
    · cases e
  · cases e
/-- o[i] = v -/
theorem RpK.store {k : Key} {d : D} {u : U} (r : Rp F G d u) : ∀ {ds : List (Key × D)} {us : List (Key × U)}, RpK F G ds us → (ds.any (fun kv => decide (kv.1 = k)) = us.any fun kv => decide (kv.1 = k)) ∧
    RpK F G (ds.map fun kv => if kv.1 = k then (kv.1, d) else kv) (us.map fun kv => if kv.1 = k then (kv.1, u) else kv) ∧ RpK F G (ds ++ [(k, d)]) (us ++ [(k, u)])
  | [], us, h => by simp only [RpK] at h; subst h; exact ⟨rfl, by simp [RpK], by simp only [List.nil_append, RpK]; exact ⟨u, [], rfl, r, rfl⟩⟩
  | (a, x) :: ds, us, h => by
    simp only [RpK] at h
    obtain ⟨w, rr, rfl, h1, h2⟩ := h
    obtain ⟨i1, i2, i3⟩ := RpK.store (k := k) r h2
    refine ⟨by simp only [List.any_cons, i1], ?_, ?_⟩
    · simp only [List.map_cons]
      by_cases q : a = k
      · simp only [q, if_true, RpK]; exact ⟨_, _, rfl, r, by rw [q] at *; exact i2⟩
      · simp only [q, if_false, RpK]; exact ⟨_, _, rfl, h1, i2⟩
    · simp only [List.cons_append, RpK]; exact ⟨_, _, rfl, h1, i3⟩
theorem set_v {x y v d : D} {n : Nat} {w z : U} (e : setV x y v = some d) (hx : Rc F G x (.ref n)) (hy : Rc F G y w) (hv : Rp F G v z) : ∃ o m, setItem' (.ref n) w z G = some (G.set n o) ∧ moOf d = some m ∧ RpG F G o m ∧ seqV d = true := by
  unfold setV at e
  split at e
  · split at e
    · obtain ⟨j, q, rfl⟩ := Option.map_eq_some_iff.mp e
      simp only [Rc, Rp] at hx hy; obtain ⟨k, us, z1, g, h⟩ := hx; cases z1; subst hy
      rw [h.len] at q
      exact ⟨.lst (us.set j z), _, by simp only [setItem', g, q, Option.map_some], rfl, h.set _ hv, rfl⟩
    · cases e
  · split at e
    · rename_i hh
      obtain ⟨j, q, rfl⟩ := Option.map_eq_some_iff.mp e
      simp only [Rc] at hx; obtain ⟨k, us, z1, g, h⟩ := hx; cases z1
      obtain ⟨s1, s2, s3⟩ := h.store (k := j) hv
      rw [h.len] at hh
      refine ⟨.dK (if us.any (fun kv => decide (kv.1 = j)) then us.map (fun kv => if kv.1 = j then (kv.1, z) else kv) else us ++ [(j, z)]), _, ?_, rfl, ?_, rfl⟩
      · simp only [setItem', g]; rw [if_pos hh, key_v q hy]; rfl
      · rw [← s1]
        split
        · exact s2
        · exact s3
    · cases e
  · cases e
/-! ### classes, kinds -/
theorem cls_v {O c M} (S : StO ⟨O, c, M.length⟩ M G) {d : D} {u : U} {C : Str} {fs : List (Str × D)} (e : clsV M d = some (C, fs)) (r : Rc ⟨O, c, M.length⟩ G d u) : ∃ ws, clsU G u = some (C, ws) ∧ RpF ⟨O, c, M.length⟩ G fs ws := by
  cases d <;> simp only [clsV] at e <;> try (cases e; done)
  · cases e; simp only [Rc] at r; obtain ⟨n, ws, rfl, g, h⟩ := r; exact ⟨ws, by simp only [clsU, g], h⟩
  · rename_i i
    simp only [Rc, Rp] at r
    obtain ⟨hi, rfl⟩ := r
    split at e
    · rename_i q; cases e
      obtain ⟨ws, g, h⟩ := S.ob i _ q
      exact ⟨ws, by simp only [clsU, g], h⟩
    · cases e
theorem cls_none {O c M} (S : StO ⟨O, c, M.length⟩ M G) {d : D} {u : U} (e : clsV M d = none) (r : Rb ⟨O, c, M.length⟩ G d u) : clsU G u = none := by
  cases d <;> simp only [clsV] at e <;> simp only [Rb, Rp] at r
  · subst r; rfl
  · subst r; rfl
  · subst r; rfl
  · subst r; rfl
  · obtain ⟨us, rfl, h⟩ := r; rfl
  · obtain ⟨n, us, rfl, _, g, h⟩ := r; simp only [clsU, g]
  · obtain ⟨us, rfl, h⟩ := r; rfl
  · obtain ⟨n, us, rfl, _, g, h⟩ := r; simp only [clsU, g]
  · cases e
  · subst r; rfl
  · rename_i i
    obtain ⟨hi, rfl⟩ := r
    have hi' : i < M.length := hi
    rw [List.getElem?_eq_getElem hi'] at e
    have := S.ob i _ (List.getElem?_eq_getElem hi')
    cases q : M[i] <;> rw [q] at e this
    · obtain ⟨us, g, _⟩ := this; simp only [clsU]; rw [show G[c i]? = _ from g]
    · obtain ⟨us, g, _⟩ := this; simp only [clsU]; rw [show G[c i]? = _ from g]
    · cases e
theorem ty_v {O c M} (S : StO ⟨O, c, M.length⟩ M G) {d : D} {u : U} {t : Ty} (e : tyM M d = some t) (r : Rb ⟨O, c, M.length⟩ G d u) : tyB G u = some t := by
  cases d <;> simp only [tyM, tyV] at e <;> try (cases e; done)
  all_goals simp only [Rb, Rp] at r
  · subst r; exact e
  · subst r; exact e
  · subst r; exact e
  · subst r; exact e
  · obtain ⟨us, rfl, h⟩ := r; exact e
  · obtain ⟨n, us, rfl, _, g, h⟩ := r; simp only [tyB, g]; exact e
  · obtain ⟨us, rfl, h⟩ := r; exact e
  · obtain ⟨n, us, rfl, _, g, h⟩ := r; simp only [tyB, g]; exact e
  · obtain ⟨n, us, rfl, _, _, g, h⟩ := r; simp only [tyB, g]; exact e
  · rename_i i
    obtain ⟨hi, rfl⟩ := r
    have hi' : i < M.length := hi
    rw [List.getElem?_eq_getElem hi'] at e
    have := S.ob i _ (List.getElem?_eq_getElem hi')
    cases q : M[i] <;> rw [q] at e this <;> obtain ⟨us, g, _⟩ := this <;> (simp only [tyB]; rw [show G[c i]? = _ from g]; exact e)
theorem res_v {O c M} (S : StO ⟨O, c, M.length⟩ M G) {d : D} {u : U} (r : Rb ⟨O, c, M.length⟩ G d u) : Rc ⟨O, c, M.length⟩ G (res M d) u := by
  cases d <;> simp only [res] <;> try exact r.rc
  rename_i i
  simp only [Rb, Rp] at r
  obtain ⟨hi, rfl⟩ := r
  split
  · rename_i xs q; obtain ⟨us, g, h⟩ := S.ob i _ q; simp only [Rc]; exact ⟨_, us, rfl, g, h⟩
  · rename_i xs q; obtain ⟨us, g, h⟩ := S.ob i _ q; simp only [Rc]; exact ⟨_, us, rfl, g, h⟩
  · simp only [Rc, Rp]; exact ⟨hi, trivial⟩
end
end Z
namespace Z
open PySem PySem.Spec PyProof.Rows L2
/-! ## slots -/
structure RSl (F : Fb) (G : Gp) (ρv : Rv) (ρ : Rho) : Prop where
  len : ρv.length = ρ.length
  v : ∀ (i : Nat) (d : D), ρv[i]? = some (some (Sl.v d)) → ∃ u, ρ[i]? = some (some u) ∧ Rp F G d u
  own : ∀ (i : Nat) (d : D), ρv[i]? = some (some (Sl.own d)) → ∃ n, ρ[i]? = some (some (U.ref n)) ∧ F.O n ∧ F.nst n ∧ Rc F G d (U.ref n) ∧ isObj d = true
/-- from one heap to another: but the store's places and P's all stay -/
structure UpX (P : Nat → Prop) (c : Nat → Nat) (m : Nat) (G : Gp) (c' : Nat → Nat) (m' : Nat) (G' : Gp) : Prop where
  gl : G.length ≤ G'.length
  hg : ∀ n o, G[n]? = some o → (∀ i, i < m → c i ≠ n) → ¬ P n → G'[n]? = some o
  ml : m ≤ m'
  cs : ∀ i, i < m → c' i = c i
  cn : ∀ i, m ≤ i → i < m' → G.length ≤ c' i
theorem Up.x {P c m G c' m' G'} (u : Up c m G c' m' G') : UpX P c m G c' m' G' := ⟨u.gl, fun n o e k _ => u.hg n o e k, u.ml, u.cs, u.cn⟩
theorem UpX.up {P c m G c' m' G'} (u : UpX P c m G c' m' G') (h : ∀ n, P n → G.length ≤ n) : Up c m G c' m' G' := ⟨u.gl, fun n o e k => u.hg n o e k fun q => by have := h n q; have := ltG e; omega, u.ml, u.cs, u.cn⟩
theorem UpX.trans {P c m G c1 m1 G1 c2 m2 G2} (a : UpX P c m G c1 m1 G1) (b : UpX P c1 m1 G1 c2 m2 G2) : UpX P c m G c2 m2 G2 where
  gl := Nat.le_trans a.gl b.gl
  hg := fun n o e k q => b.hg n o (a.hg n o e k q) (fun i hi => by
    by_cases q : i < m
    · rw [a.cs i q]; exact k i q
    · have h1 := a.cn i (by omega) hi
      have h2 := ltG e
      omega) q
  ml := Nat.le_trans a.ml b.ml
  cs := fun i hi => (b.cs i (Nat.lt_of_lt_of_le hi a.ml)).trans (a.cs i hi)
  cn := fun i h1 h2 => by
    by_cases q : i < m1
    · rw [b.cs i q]; exact a.cn i h1 q
    · exact Nat.le_trans a.gl (b.cn i (by omega) h2)
theorem UpX.nst {P O O' c m G c' m' G'} (u : UpX P c m G c' m' G') {n o} (e : G[n]? = some o) (k : (⟨O, c, m⟩ : Fb).nst n) : (⟨O', c', m'⟩ : Fb).nst n := fun i hi => by
  by_cases q : i < m
  · show c' i ≠ n; rw [u.cs i q]; exact k i q
  · have h1 := u.cn i (by omega) hi
    have h2 := ltG e
    show c' i ≠ n
    omega
theorem UpX.mv {P O O' : Nat → Prop} {c m G c' m' G'} (u : UpX P c m G c' m' G') (ho : ∀ n, O' n → O n ∨ G.length ≤ n) (hp : ∀ n, P n → O n ∨ G.length ≤ n) : Mv ⟨O, c, m⟩ G ⟨O', c', m'⟩ G' where
  gl := u.gl
  ho := ho
  hc := fun i hi => by
    by_cases q : i < m
    · exact .inl ⟨q, u.cs i q⟩
    · exact .inr (.inl (u.cn i (by omega) hi))
  hm := fun i hi => ⟨Nat.lt_of_lt_of_le hi u.ml, u.cs i hi⟩
  hg := fun n o e k1 k => u.hg n o e k fun q => by
    rcases hp n q with z | z
    · exact k1 z
    · have := ltG e; omega
theorem Rc.at_ {F G d n} (r : Rc F G d (.ref n)) (k : isObj d = true) : ∃ o, G[n]? = some o := by
  cases d <;> simp only [isObj] at k <;> try (cases k; done)
  all_goals (simp only [Rc] at r; obtain ⟨j, us, z, g, _⟩ := r; cases z; exact ⟨_, g⟩)
theorem Rc.mv {F G F' G' d n} (h : Mv F G F' G') (hn : ∀ o, G[n]? = some o → G'[n]? = some o) (k : isObj d = true) (r : Rc F G d (.ref n)) : Rc F' G' d (.ref n) := by
  cases d <;> simp only [isObj] at k <;> try (cases k; done)
  all_goals (simp only [Rc] at r ⊢; obtain ⟨j, us, z, g, q⟩ := r; cases z; exact ⟨n, us, rfl, hn _ g, q.mv h⟩)
theorem RSl.upx {P O O' : Nat → Prop} {c m G c' m' G' ρv ρ} (u : UpX P c m G c' m' G') (ho : ∀ n, O' n ↔ O n ∨ (G.length ≤ n ∧ O' n)) (hp : ∀ n, P n → G.length ≤ n) (R : RSl ⟨O, c, m⟩ G ρv ρ) : RSl ⟨O', c', m'⟩ G' ρv ρ where
  len := R.len
  v := fun i d e => let ⟨x, a, b⟩ := R.v i d e; ⟨x, a, b.mv (u.mv (fun n h => by rcases (ho n).mp h with h | h; exact .inl h; exact .inr h.1) fun n h => .inr (hp n h))⟩
  own := fun i d e => by
    obtain ⟨n, a, b, k, r, z⟩ := R.own i d e
    obtain ⟨o, g⟩ := r.at_ z
    refine ⟨n, a, (ho n).mpr (.inl b), u.nst (O := O) g k, r.mv (u.mv (fun n h => by rcases (ho n).mp h with h | h; exact .inl h; exact .inr h.1) fun n h => .inr (hp n h)) (fun o e => u.hg n o e k fun q => ?_) z, z⟩
    have := hp n q; have := ltG g; omega
theorem RSl.up {O c m G c' m' G' ρv ρ} (u : Up c m G c' m' G') (R : RSl ⟨O, c, m⟩ G ρv ρ) : RSl ⟨O, c', m'⟩ G' ρv ρ :=
  R.upx (P := fun _ => False) u.x (fun n => ⟨fun h => .inl h, fun h => h.elim id (·.2)⟩) (fun _ h => h.elim)
theorem RSl.set {F G ρv ρ i d u} (R : RSl F G ρv ρ) (r : Rp F G d u) : RSl F G (ρv.set i (some (.v d))) (ρ.set i (some u)) where
  len := by simp [R.len]
  v := fun j d' e => by
    by_cases h : i = j
    · subst h
      by_cases hi : i < ρv.length
      · rw [List.getElem?_set_self hi] at e
        cases e
        exact ⟨u, List.getElem?_set_self (by rw [← R.len]; exact hi), r⟩
      · rw [List.getElem?_eq_none (by simpa using hi)] at e; cases e
    · rw [List.getElem?_set_ne h] at e ⊢
      exact R.v j d' e
  own := fun j d' e => by
    by_cases h : i = j
    · subst h
      by_cases hi : i < ρv.length
      · rw [List.getElem?_set_self hi] at e; cases e
      · rw [List.getElem?_eq_none (by simpa using hi)] at e; cases e
    · rw [List.getElem?_set_ne h] at e ⊢
      exact R.own j d' e
theorem RSl.setNone {F G ρv ρ i} (R : RSl F G ρv ρ) : RSl F G (ρv.set i none) (ρ.set i none) where
  len := by simp [R.len]
  v := fun j d' e => by
    by_cases h : i = j
    · subst h
      by_cases hi : i < ρv.length
      · rw [List.getElem?_set_self hi] at e; cases e
      · rw [List.getElem?_eq_none (by simpa using hi)] at e; cases e
    · rw [List.getElem?_set_ne h] at e ⊢
      exact R.v j d' e
  own := fun j d' e => by
    by_cases h : i = j
    · subst h
      by_cases hi : i < ρv.length
      · rw [List.getElem?_set_self hi] at e; cases e
      · rw [List.getElem?_eq_none (by simpa using hi)] at e; cases e
    · rw [List.getElem?_set_ne h] at e ⊢
      exact R.own j d' e
theorem RSl.wipe {F G ρv ρ} (R : RSl F G ρv ρ) : ∀ is : List Nat, RSl F G (wipeV ρv is) (wipeU ρ is)
  | [] => R
  | i :: is => (R.wipe is).setNone
theorem RSl.setAll {F G} : ∀ {is : List Nat} {ds : List D} {us : List U} {ρv ρv' : Rv} {ρ : Rho}, setAllV is ds ρv = some ρv' → RSl F G ρv ρ → Rps F G ds us → ∃ ρ', setAll is us ρ = some ρ' ∧ RSl F G ρv' ρ'
  | [], [], us, ρv, ρv', ρ, e, R, r => by simp only [Rps] at r; subst r; simp only [setAllV, Option.some.injEq] at e; subst e; exact ⟨ρ, rfl, R⟩
  | [], d :: ds, us, ρv, ρv', ρ, e, R, r => by simp [setAllV] at e
  | i :: is, [], us, ρv, ρv', ρ, e, R, r => by simp [setAllV] at e
  | i :: is, d :: ds, us, ρv, ρv', ρ, e, R, r => by
    simp only [Rps] at r
    obtain ⟨u, q, rfl, h1, h2⟩ := r
    exact RSl.setAll (is := is) e (R.set h1) h2
theorem RSl.assign {F G tg d u ρv ρv' ρ} (e : assignV tg d ρv = some ρv') (R : RSl F G ρv ρ) (r : Rp F G d u) : ∃ ρ', assignU tg u ρ = some ρ' ∧ RSl F G ρv' ρ' := by
  unfold assignV at e
  split at e
  · cases e; exact ⟨_, rfl, R.set r⟩
  · simp only [Rp] at r; obtain ⟨us, rfl, h⟩ := r; exact RSl.setAll e R h
  · cases e
/-! ## what a loop goes over -/
def RIt (R : D → U → Prop) (it : ItV) (J : List D) : Prop := match it with
  | .seq u => ∃ d, R d u ∧ itemsV d = some J
  | .str x => J = x.cps.toList.map fun c => .str ⟨#[c]⟩
  | .rng lo n => J = rngF lo n
  | .enum u => ∃ d ds, R d u ∧ itemsV d = some ds ∧ J = enumF 0 ds
  | .zip u w => ∃ d e ds es, R d u ∧ R e w ∧ itemsV d = some ds ∧ itemsV e = some es ∧ J = zipF ds es
theorem RIt.mono {R R' : D → U → Prop} (h : ∀ d u, R d u → R' d u) {it J} (r : RIt R it J) : RIt R' it J := by
  cases it with
  | seq u => obtain ⟨d, a, b⟩ := r; exact ⟨d, h _ _ a, b⟩
  | str x => exact r
  | rng lo n => exact r
  | enum u => obtain ⟨d, ds, a, b⟩ := r; exact ⟨d, ds, h _ _ a, b⟩
  | zip u w => obtain ⟨d, e, ds, es, a, b, c⟩ := r; exact ⟨d, e, ds, es, h _ _ a, h _ _ b, c⟩
theorem rngF_get : ∀ (n : Nat) (lo : Int) (i : Nat), (rngF lo n)[i]? = if i < n then some (.int (lo + i)) else none
  | 0, lo, i => by simp [rngF]
  | n + 1, lo, 0 => by simp [rngF]
  | n + 1, lo, i + 1 => by
    simp only [rngF, List.getElem?_cons_succ, rngF_get n (lo + 1) i, Nat.add_lt_add_iff_right]
    split
    · congr 2; omega
    · rfl
theorem enumF_get : ∀ (ds : List D) (k i : Nat), (enumF k ds)[i]? = (ds[i]?).map fun x => .tup [.int ((k + i : Nat) : Int), x]
  | [], k, i => by simp [enumF]
  | d :: ds, k, 0 => by simp [enumF]
  | d :: ds, k, i + 1 => by
    simp only [enumF, List.getElem?_cons_succ, enumF_get ds (k + 1) i]
    rw [show k + 1 + i = k + (i + 1) by omega]
theorem zipF_get : ∀ (ds es : List D) (i : Nat), (zipF ds es)[i]? = match ds[i]?, es[i]? with
    | some x, some y => some (.tup [x, y])
    | _, _ => none
  | [], es, i => by simp [zipF]
  | d :: ds, [], i => by simp [zipF]
  | d :: ds, e :: es, 0 => by simp [zipF]
  | d :: ds, e :: es, i + 1 => by simp only [zipF, List.getElem?_cons_succ, zipF_get ds es i]
theorem rngF_len : ∀ (n : Nat) (lo : Int), (rngF lo n).length = n
  | 0, _ => rfl
  | n + 1, lo => by simp [rngF, rngF_len n]
theorem item_v {F G it J} (r : RIt (Rc F G) it J) (i : Nat) : match J[i]? with
    | some x => ∃ u, item it i G = some (some u) ∧ Rp F G x u
    | none => item it i G = some none := by
  cases it with
  | seq u =>
    obtain ⟨d, a, b⟩ := r
    obtain ⟨us, e, h⟩ := items_v b a
    cases q : J[i]? with
    | none => simp only [item, e, Option.map_some, h.none_of q]
    | some x => obtain ⟨w, z1, z2⟩ := h.get q; exact ⟨w, by simp only [item, e, Option.map_some, z1], z2⟩
  | str x =>
    cases (show J = _ from r)
    rw [List.getElem?_map, Array.getElem?_toList]
    simp only [item]
    cases x.cps[i]? with
    | none => rfl
    | some c => exact ⟨_, rfl, .str⟩
  | rng lo n =>
    cases (show J = _ from r)
    rw [rngF_get]
    simp only [item]
    split
    · rename_i h; split at h
      · rename_i h2; cases h; exact ⟨.int _, by rw [if_pos h2], .int⟩
      · cases h
    · rename_i h; split at h
      · cases h
      · rename_i h2; rw [if_neg h2]
  | enum u =>
    obtain ⟨d, ds, a, b, rfl⟩ := r
    obtain ⟨us, e, h⟩ := items_v b a
    rw [enumF_get]
    cases q : ds[i]? with
    | none => simp only [item, e, Option.map_some, h.none_of q, Option.map_none]
    | some x =>
      obtain ⟨w, z1, z2⟩ := h.get q
      simp only [Option.map_some, Nat.zero_add]
      exact ⟨.tup [.int i, w], by simp only [item, e, Option.map_some, z1], .tup (Rps.cons .int (Rps.cons z2 Rps.nil))⟩
  | zip u w =>
    obtain ⟨d, e, ds, es, a, a', b, b', rfl⟩ := r
    obtain ⟨us, e1, h⟩ := items_v b a
    obtain ⟨ws, e2, h'⟩ := items_v b' a'
    rw [zipF_get]
    cases q : ds[i]? with
    | none => simp only [item, e1, e2, Option.bind_some, Option.map_some, h.none_of q]
    | some x =>
      obtain ⟨z, z1, z2⟩ := h.get q
      cases q' : es[i]? with
      | none => simp only [item, e1, e2, Option.bind_some, Option.map_some, z1, h'.none_of q']
      | some x' =>
        obtain ⟨z', z1', z2'⟩ := h'.get q'
        exact ⟨.tup [z, z'], by simp only [item, e1, e2, Option.bind_some, Option.map_some, z1, z1'], .tup (Rps.cons z2 (Rps.cons z2' Rps.nil))⟩
theorem isTup_v {F G d u} (h : Rb F G d u) (k : (itemsV d).isSome = true) : isTupU u = isTupV d := by
  cases d <;> simp only [itemsV] at k <;> try (cases k; done)
  all_goals simp only [Rb, Rp] at h
  · obtain ⟨us, rfl, _⟩ := h; rfl
  · obtain ⟨n, us, rfl, _⟩ := h; rfl
  · obtain ⟨us, rfl, _⟩ := h; rfl
theorem iter_v {F G kind ds us J} {R : D → U → Prop} (hR : ∀ d u, R d u → Rb F G d u) (e : iterV kind ds = some J) (r : Paired R ds us) : ∃ it, iterOf kind us G = some it ∧ RIt R it J := by
  unfold iterV at e
  split at e
  · cases e; cases r with | cons r r2 => cases r2; have r := hR _ _ r; simp only [Rb, Rp] at r; subst r; exact ⟨_, rfl, rfl⟩
  · rename_i x hx
    cases r with
    | cons r r2 =>
      cases r2
      rename_i w
      obtain ⟨us, z, h⟩ := items_v e (hR _ _ r).rc
      refine ⟨.seq w, ?_, x, r, e⟩
      cases w <;> simp only [iterOf, it0, z, Option.map_some]
      simp only [items] at z; cases z
  · split at e
    · rename_i hh; cases e; cases r with | cons r r2 => cases r2; have r := hR _ _ r; simp only [Rb, Rp] at r; subst r; exact ⟨_, if_pos hh, rfl⟩
    · cases e
  · split at e
    · rename_i hh; cases e; cases r with | cons r r2 => cases r2 with | cons r3 r4 => cases r4; have r := hR _ _ r; have r3 := hR _ _ r3; simp only [Rb, Rp] at r r3; subst r; subst r3; exact ⟨_, if_pos hh, rfl⟩
    · cases e
  · rename_i x
    split at e
    · cases e
    · rename_i hh
      obtain ⟨ds, q, rfl⟩ := Option.map_eq_some_iff.mp e
      cases r with
      | cons r r2 =>
        cases r2
        rename_i w
        obtain ⟨us, z, h⟩ := items_v q (hR _ _ r).rc
        refine ⟨.enum w, ?_, x, ds, r, q, rfl⟩
        simp only [iterOf, it3]
        rw [if_neg (by rw [isTup_v (hR _ _ r) (by rw [q]; rfl)]; exact hh), z]; rfl
  · rename_i x y
    split at e
    · rename_i hh
      obtain ⟨ds, q, e⟩ := Option.bind_eq_some_iff.mp e
      obtain ⟨es, q', rfl⟩ := Option.map_eq_some_iff.mp e
      cases r with
      | cons r r2 =>
        cases r2 with
        | cons r3 r4 =>
          cases r4
          rename_i w w'
          obtain ⟨us, z, h⟩ := items_v q (hR _ _ r).rc
          obtain ⟨us', z', h'⟩ := items_v q' (hR _ _ r3).rc
          refine ⟨.zip w w', ?_, x, y, ds, es, r, r3, q, q', rfl⟩
          simp only [iterOf, it4]
          rw [if_pos (by rw [isTup_v (hR _ _ r) (by rw [q]; rfl), isTup_v (hR _ _ r3) (by rw [q']; rfl)]; exact hh), z, z']; rfl
    · cases e
  · cases e
end Z
namespace Z
open PySem PySem.Spec PyProof.Rows L2
/-! ## expressions agree -/
def CfOk (cv : CfV) (cf : Cf) : Prop := ∀ (O : Nat → Prop) (c : Nat → Nat) (M : Mem) (G : Gp) (q : Str) (ds : List D) (us : List U), StO ⟨O, c, M.length⟩ M G → Rps ⟨O, c, M.length⟩ G ds us → Ag O c M G (RFr G.length) (cv q ds M) (cf q us G)
def makeH (cf : Cf) (C : Str) (us : List U) (G : Gp) : Out U := (cf (C ++ ".__init__") (.ref G.length :: us) (G ++ [.ins C []])).bind fun r G' => match r with
  | .non => .ok (.ref G.length) G'
  | _ => .stuck
def JfOk (jv : IfV) (cf : Cf) : Prop := ∀ (O : Nat → Prop) (c : Nat → Nat) (M : Mem) (G : Gp) (C : Str) (ds : List D) (us : List U), StO ⟨O, c, M.length⟩ M G → Rps ⟨O, c, M.length⟩ G ds us → Ag O c M G (fun F M' G' d u => RFr G.length F M' G' (d, true) u) (jv C ds M) (makeH cf C us G)
section
variable {T : Pg} {cv : CfV} {jv : IfV} {cf : Cf} {O : Nat → Prop} {c : Nat → Nat} {M : Mem} {G : Gp} {ρv : Rv} {ρ : Rho}
theorem rB_of {b : Bool} {F : Fb} {d : D} {u : U} (h : Rp F G d u) : (if b = true then Rb F G d u else Rp F G d u) := by
  cases b
  · exact h
  · exact h.rb
theorem rB_true {F : Fb} {d : D} {u : U} (h : if (true : Bool) = true then Rb F G d u else Rp F G d u) : Rb F G d u := h
theorem rB_false {F : Fb} {d : D} {u : U} (h : if (false : Bool) = true then Rb F G d u else Rp F G d u) : Rp F G d u := h
theorem Ag.rB {b : Bool} {v : OV D} {h : Out U} (a : Ag O c M G rP v h) : Ag O c M G (rB b) v h := a.imp fun _ _ _ _ _ _ _ r => rB_of r
/-- an operation's outcome -/
theorem ag_of {ov : Option D} {oh : Option (U × Gp)} {b : Bool} (S : StO ⟨O, c, M.length⟩ M G) (h : ∀ d, ov = some d → ∃ z G', oh = some (z, G') ∧ Made ⟨O, c, M.length⟩ G d z G') : Ag O c M G (Z.rB b) (ofV ov M) (Out.of oh) := by
  cases ov with
  | none => trivial
  | some d =>
    obtain ⟨z, G', e, m⟩ := h d rfl
    subst e
    exact (m.ag S rfl).rB
theorem ag_loc {b : Bool} {i : Nat} (S : StO ⟨O, c, M.length⟩ M G) (R : RSl ⟨O, c, M.length⟩ G ρv ρ) : Ag O c M G (Z.rB b) (locV b ρv[i]? M) (match ρ[i]? with
    | some (some u) => .ok u G
    | _ => .stuck) := by
  unfold locV
  split
  · rename_i d e
    obtain ⟨u, a, r⟩ := R.v i d e
    rw [a]
    exact Ag.ok S (rB_of r)
  · rename_i d e
    split
    · rename_i h
      obtain ⟨h1, h2⟩ := h
      subst h1
      obtain ⟨n, a, _, k, r, _⟩ := R.own i d e
      rw [a]
      refine Ag.ok S ?_
      show Rb _ _ _ _
      cases d <;> simp only [seqV] at h2 <;> try (cases h2; done)
      · simp only [Rc] at r; obtain ⟨j, us, z, g, q⟩ := r; cases z; simp only [Rb]; exact ⟨n, us, rfl, k, g, q⟩
      · simp only [Rc] at r; obtain ⟨j, us, z, g, q⟩ := r; cases z; simp only [Rb]; exact ⟨n, us, rfl, k, g, q⟩
    · trivial
  · trivial
/-- the comparison -/
theorem isIns_of {d : D} {C : Str} {fs : List (Str × D)} (h : clsV M d = some (C, fs)) : seqV d = false := by
  cases d <;> simp only [clsV] at h <;> first
    | (cases h; done)
    | rfl
theorem Rb.rp {F : Fb} {d : D} {u : U} (h : seqV d = false) (r : Rb F G d u) : Rp F G d u := by
  cases d <;> simp only [seqV] at h <;> first
    | (cases h; done)
    | exact r
theorem ag_cmp (CF : CfOk cv cf) {op : CmpOp} {x y : D} {u w : U} (S : StO ⟨O, c, M.length⟩ M G) (rx : Rb ⟨O, c, M.length⟩ G x u) (ry : Rb ⟨O, c, M.length⟩ G y w) : Ag O c M G eqR (cmpKV T cv op x y M) (cmpK T cf op u w G) := by
  have plain : ownEq T G op u w = none → Ag O c M G eqR (ofV (cmpopV T.kd op (res M x) (res M y)) M) (cmpK T cf op u w G) := fun h => by
    unfold cmpK
    rw [h]
    exact Ag.ofO S fun a e => cmp_v e (res_v S rx) (res_v S ry)
  unfold cmpKV
  cases hc : clsV M x with
  | none =>
    have h1 : ownEqV T M op x y = none := by unfold ownEqV; rw [hc]; split <;> rfl
    rw [h1]
    exact plain (by unfold ownEq; rw [cls_none S hc rx]; split <;> rfl)
  | some p =>
    obtain ⟨C, fs⟩ := p
    obtain ⟨ws, hu, _⟩ := cls_v S hc rx.rc
    have rx' := rx.rp (isIns_of hc)
    by_cases ho : op = .Eq ∨ op = .NotEq
    · cases hq : T.eqm C with
      | none =>
        have h1 : ownEqV T M op x y = none := by unfold ownEqV; rw [if_pos ho, hc]; simp only [hq]
        rw [h1]
        exact plain (by unfold ownEq; rw [if_pos ho, hu]; simp only [hq])
      | some q =>
        cases hy : clsV M y with
        | some p2 =>
          obtain ⟨D2, fs2⟩ := p2
          obtain ⟨ws2, hu2, _⟩ := cls_v S hy ry.rc
          have ry' := ry.rp (isIns_of hy)
          have h1 : ownEqV T M op x y = if D2 = C then some (some (q, decide (op = .NotEq))) else some none := by unfold ownEqV; rw [if_pos ho, hc]; simp only [hq, hy]
          have h2 : ownEq T G op u w = if D2 = C then some (some (q, decide (op = .NotEq))) else some none := by unfold ownEq; rw [if_pos ho, hu]; simp only [hq, hu2]
          rw [h1]
          unfold cmpK
          rw [h2]
          by_cases hD : D2 = C
          · rw [if_pos hD]
            refine (CF O c M G q [x, y] [u, w] S (Rps.cons rx' (Rps.cons ry' Rps.nil))).bind fun r u1 c1 M1 G1 _ S1 h => ?_
            obtain ⟨h, _⟩ := h
            unfold eqBackV
            split
            · rename_i k e; rw [e] at h; simp only [Rp] at h; subst h; exact Ag.ok S1 rfl
            · trivial
          · rw [if_neg hD]; trivial
        | none =>
          have hu2 := cls_none S hy ry
          by_cases ht : ∃ xs, y = .tup xs
          · obtain ⟨xs, rfl⟩ := ht
            have h1 : ownEqV T M op x (.tup xs) = if op = .Eq then some (some (q, false)) else some none := by unfold ownEqV; rw [if_pos ho, hc]; simp only [hq, hy]
            have ry' : Rp _ _ _ _ := ry
            simp only [Rb, Rp] at ry
            obtain ⟨us, rfl, hr⟩ := ry
            have h2 : ownEq T G op u (.tup us) = if op = .Eq then some (some (q, false)) else some none := by unfold ownEq; rw [if_pos ho, hu]; simp only [hq, hu2]
            rw [h1]
            unfold cmpK
            rw [h2]
            by_cases hD : op = .Eq
            · rw [if_pos hD]
              refine (CF O c M G q [x, .tup xs] [u, .tup us] S (Rps.cons rx' (Rps.cons ry' Rps.nil))).bind fun r u1 c1 M1 G1 _ S1 h => ?_
              obtain ⟨h, _⟩ := h
              unfold eqBackV
              split
              · rename_i k e; rw [e] at h; simp only [Rp] at h; subst h; exact Ag.ok S1 rfl
              · trivial
            · rw [if_neg hD]; trivial
          · have h1 : ownEqV T M op x y = some none := by
              unfold ownEqV; rw [if_pos ho, hc]; simp only [hq, hy]
              split
              · exact (ht ⟨_, rfl⟩).elim
              · rfl
            rw [h1]; trivial
    · have h1 : ownEqV T M op x y = none := by unfold ownEqV; rw [if_neg ho]
      rw [h1]
      exact plain (by unfold ownEq; rw [if_neg ho])
theorem ag_bf (CF : CfOk cv cf) {k : Bf} {ds : List D} {us : List U} {b : Bool} (S : StO ⟨O, c, M.length⟩ M G) (r : Paired (Rb ⟨O, c, M.length⟩ G) ds us) : Ag O c M G (Z.rB b) (bfKV T cv k ds M) (bfK T cf k us G) := by
  have plain : ownLen T G k us = none → Ag O c M G (Z.rB b) (ofV (bfopV k (ds.map (res M))) M) (bfK T cf k us G) := fun h => by
    unfold bfK
    rw [h]
    refine ag_of S fun d e => ?_
    have r2 : Rcs ⟨O, c, M.length⟩ G (ds.map (res M)) us := by
      clear e
      clear h
      induction r with
      | nil => exact .nil
      | cons h' t ih => exact .cons (res_v S h') ih
    obtain ⟨z, G', h1, h2, _⟩ := bf_v e r2
    exact ⟨z, G', h1, h2⟩
  unfold bfKV
  by_cases hk : k = .blen ∧ ∃ x, ds = [x]
  · obtain ⟨rfl, x, rfl⟩ := hk
    cases r with
    | cons rx r2 =>
      cases r2
      rename_i u
      cases hc : clsV M x with
      | none =>
        have h1 : ownLenV T M .blen [x] = none := by simp only [ownLenV, hc, Option.bind_none]
        rw [h1]
        exact plain (by simp only [ownLen, cls_none S hc rx, Option.bind_none])
      | some p =>
        obtain ⟨C, fs⟩ := p
        obtain ⟨ws, hu, _⟩ := cls_v S hc rx.rc
        cases hq : T.lnm C with
        | none =>
          have h1 : ownLenV T M .blen [x] = none := by simp only [ownLenV, hc, Option.bind_some, hq]
          rw [h1]
          exact plain (by simp only [ownLen, hu, Option.bind_some, hq])
        | some q =>
          have h1 : ownLenV T M .blen [x] = some q := by simp only [ownLenV, hc, Option.bind_some, hq]
          have h2 : ownLen T G .blen [u] = some q := by simp only [ownLen, hu, Option.bind_some, hq]
          rw [h1]
          unfold bfK
          rw [h2]
          refine (CF O c M G q [x] [u] S (Rps.cons (rx.rp (isIns_of hc)) Rps.nil)).bind fun r u1 c1 M1 G1 _ S1 h => ?_
          obtain ⟨h, _⟩ := h
          unfold lenBackV
          split
          · rename_i k e
            rw [e] at h; simp only [Rp] at h; subst h
            split
            · rename_i hh; simp only [lenBack]; rw [if_pos hh]; exact Ag.ok S1 (rB_of .int)
            · trivial
          · trivial
  · have h1 : ownLenV T M k ds = none := by
      unfold ownLenV
      split
      · exact (hk ⟨rfl, _, rfl⟩).elim
      · rfl
    rw [h1]
    refine plain ?_
    unfold ownLen
    split
    · rename_i u
      cases r with
      | cons rx r2 => cases r2; exact (hk ⟨rfl, _, rfl⟩).elim
    · rfl
/-- attributes -/
theorem ag_attr {f : Str} {C : Str} {fs : List (Str × D)} {ws : List (Str × U)} {b : Bool} (S : StO ⟨O, c, M.length⟩ M G) (r : RpF ⟨O, c, M.length⟩ G fs ws) : Ag O c M G (Z.rB b) (attrV T M f (C, fs)) (match ws.lookup f with
    | some u => if T.fld C f = true then .ok u G else .stuck
    | none => match T.con C f with
      | some u => .ok u G
      | none => .stuck) := by
  unfold attrV
  have := r.look f
  dsimp only
  split
  · rename_i d q
    rw [q] at this
    obtain ⟨u, h1, h2⟩ := this
    rw [h1]
    dsimp only
    split
    · exact Ag.ok S (rB_of h2)
    · trivial
  · rename_i q
    rw [q] at this
    rw [this]
    dsimp only
    split
    · rename_i u e
      try rw [e]
      cases hu : ofU u with
      | none => trivial
      | some d => exact Ag.ok (R := Z.rB b) S (rB_of (ofU_rp hu))
    · trivial
/-- a method of a list in the store -/
theorem up_set {i : Nat} {o : GO} (hi : i < M.length) {m : MO} (e : (M.set i m).length = M.length := by simp) : Up c M.length G c (M.set i m).length (G.set (c i) o) := by
  rw [e]
  exact ⟨by simp, fun n x h k => by rw [List.getElem?_set_ne (k i hi)]; exact h, Nat.le_refl _, fun _ _ => rfl, fun j h1 h2 => by omega⟩
theorem StO.put {i : Nat} {o : GO} {m : MO} (S : StO ⟨O, c, M.length⟩ M G) (hi : i < M.length) (r : RpG ⟨O, c, M.length⟩ G o m) : StO ⟨O, c, (M.set i m).length⟩ (M.set i m) (G.set (c i) o) := by
  have el : (M.set i m).length = M.length := by simp
  have u : Up c M.length G c M.length (G.set (c i) o) := by have := up_set (c := c) (G := G) (o := o) (m := m) hi; rwa [el] at this
  rw [el]
  refine ⟨el.symm, fun n h => by have := S.lt n h; simpa using this, S.inj, S.no, fun j x h => ?_⟩
  have hci : c i < G.length := S.at_lt (i := i) hi
  by_cases e : i = j
  · subst e
    rw [List.getElem?_set_self hi] at h
    cases h
    exact (r.mv u.mv).at_ (List.getElem?_set_self hci)
  · rw [List.getElem?_set_ne e] at h
    have hj : j < M.length := (List.getElem?_eq_some_iff.mp h).1
    refine (S.ob j x h).mv u.mv fun o' h' => ?_
    rw [List.getElem?_set_ne (fun z => e (S.inj i j hi hj z))]
    exact h'
theorem resX_v {m : Bm} {ds : List D} {us : List U} (S : StO ⟨O, c, M.length⟩ M G) (r : Rps ⟨O, c, M.length⟩ G ds us) : Paired (fun d u => Rc ⟨O, c, M.length⟩ G d u ∧ (m = .extend ∨ Rp ⟨O, c, M.length⟩ G d u)) (resX m M ds) us := by
  have plain : Paired (fun d u => Rc ⟨O, c, M.length⟩ G d u ∧ (m = .extend ∨ Rp ⟨O, c, M.length⟩ G d u)) ds us := Paired.mapP (Rps.iff.mp r) fun d u h => ⟨h.rb.rc, .inr h⟩
  cases m <;> try exact plain
  unfold resX
  have key : ∀ {ds : List D} {us : List U}, Rps ⟨O, c, M.length⟩ G ds us → Paired (fun d u => Rc ⟨O, c, M.length⟩ G d u ∧ (Bm.extend = .extend ∨ Rp ⟨O, c, M.length⟩ G d u)) (ds.map (res M)) us := by
    intro ds
    induction ds with
    | nil => intro us r; simp only [Rps] at r; subst r; exact .nil
    | cons d ds ih =>
      intro us r
      simp only [Rps] at r
      obtain ⟨u, r', rfl, h1, h2⟩ := r
      exact .cons ⟨res_v S h1.rb, .inl rfl⟩ (ih h2)
  exact key r
theorem ag_mmeth {m : Bm} {x : D} {u : U} {ds : List D} {us : List U} {b : Bool} (S : StO ⟨O, c, M.length⟩ M G) (rx : Rb ⟨O, c, M.length⟩ G x u) (r : Rps ⟨O, c, M.length⟩ G ds us) : Ag O c M G (Z.rB b) (mmeth m x ds M) (Out.of (bmop m u us G)) := by
  unfold mmeth
  split
  · rename_i i
    simp only [Rb, Rp] at rx
    obtain ⟨hi, rfl⟩ := rx
    split
    · rename_i xs q
      obtain ⟨zs, g, h⟩ := S.ob i _ q
      split
      · rename_i d ys e
        have r2 := resX_v (m := m) S r
        obtain ⟨z, zs', e1, e2, e3, e4⟩ := lm_v e g h r2
        rw [e1]
        have hM : i < M.length := hi
        refine ⟨z, _, c, rfl, up_set hM, S.put hM (o := .lst zs') (m := .lst ys) e4, rB_of ?_⟩
        have el : (M.set i (.lst ys)).length = M.length := by simp
        have u : Up c M.length G c (M.set i (.lst ys)).length (G.set (c i) (.lst zs')) := up_set hM
        exact e3.mv u.mv
      · trivial
    · trivial
  · trivial
end
end Z
namespace Z
open PySem PySem.Spec PyProof.Rows L2
theorem mv_shrink {O O' : Nat → Prop} {c m G} (h : ∀ n, O n → O' n) : Mv ⟨O', c, m⟩ G ⟨O, c, m⟩ G := ⟨Nat.le_refl _, fun n k => .inl (h n k), fun i hi => .inl ⟨hi, rfl⟩, fun i hi => ⟨hi, rfl⟩, fun _ _ e _ _ => e⟩
theorem StO.shrink {O O' : Nat → Prop} {c m M G} (h : ∀ n, O n → O' n) (S : StO ⟨O', c, m⟩ M G) : StO ⟨O, c, m⟩ M G where
  len := S.len
  lt := fun n k => S.lt n (h n k)
  inj := S.inj
  no := fun i hi k => S.no i hi (h _ k)
  ob := fun i o e => (S.ob i o e).mv (mv_shrink h) fun _ e => e
theorem noxV_no {α : Type} {o : OV α} {c fs M} (h : noxV o = .exc c fs M) : False := by cases o <;> simp [noxV] at h
theorem mv_write {F : Fb} {G : Gp} {d : Nat} {o : GO} (h : F.O d) : Mv F G F (G.set d o) where
  gl := by simp
  ho := fun _ h => .inl h
  hc := fun i h => .inl ⟨h, rfl⟩
  hm := fun i h => ⟨h, rfl⟩
  hg := fun n x e k _ => by rw [List.getElem?_set_ne (fun z => k (by subst z; exact h))]; exact e
theorem StO.write {F : Fb} {M : Mem} {G : Gp} {d : Nat} {o : GO} (h : F.O d) (S : StO F M G) : StO F M (G.set d o) where
  len := S.len
  lt := fun n k => by have := S.lt n k; simpa using this
  inj := S.inj
  no := S.no
  ob := fun i x e => by
    refine (S.ob i x e).mv (mv_write h) fun o' e' => ?_
    have hi : i < F.m := by rw [S.len]; exact (List.getElem?_eq_some_iff.mp e).1
    rw [List.getElem?_set_ne (fun z => S.no i hi (by rw [← z]; exact h))]; exact e'
theorem Rb.rcx {P O O' : Nat → Prop} {c m G c' m' G'} (u : UpX P c m G c' m' G') (ho : ∀ n, O' n → O n ∨ G.length ≤ n) (hp : ∀ n, P n → G.length ≤ n) {d : D} {x : U} (h : Rb ⟨O, c, m⟩ G d x) : Rc ⟨O', c', m'⟩ G' d x := by
  have mv := u.mv ho fun n h => .inr (hp n h)
  cases d <;> simp only [Rb] at h <;> simp only [Rc] <;> try exact h.mv mv
  · obtain ⟨n, us, a, k, g, q⟩ := h
    exact ⟨n, us, a, u.hg _ _ g k (fun z => by have := hp n z; have := ltG g; omega), q.mv mv⟩
  · obtain ⟨n, us, a, k, g, q⟩ := h
    exact ⟨n, us, a, u.hg _ _ g k (fun z => by have := hp n z; have := ltG g; omega), q.mv mv⟩
  · simpa only [Rc] using (h.mv mv).rb.rc
theorem lc_v {O : Nat → Prop} {c1 : Nat → Nat} {M1 : Mem} {G1 : Gp} {it : ItV} {J0 : List D} {ρv : Rv} {ρ : Rho} {tg : Tg} {own : List Nat} {tv : Rv → Mem → OV Bool} {th : Rho → Gp → Out Bool} {ev : Rv → Mem → OV D} {eh : Rho → Gp → Out U}
    (hI : RIt (Rb ⟨O, c1, M1.length⟩ G1) it J0) (hR : RSl ⟨O, c1, M1.length⟩ G1 ρv ρ) (hO : ∀ n, O n → n < G1.length)
    (ht : ∀ (O : Nat → Prop) c M G ρv ρ, StO ⟨O, c, M.length⟩ M G → RSl ⟨O, c, M.length⟩ G ρv ρ → Ag O c M G eqR (tv ρv M) (th ρ G))
    (he : ∀ (O : Nat → Prop) c M G ρv ρ, StO ⟨O, c, M.length⟩ M G → RSl ⟨O, c, M.length⟩ G ρv ρ → Ag O c M G rP (ev ρv M) (eh ρ G)) :
    ∀ (J : List D) (i m : Nat) (acc : List U) (accv : List D) (c : Nat → Nat) (M : Mem) (G : Gp), J0.drop i = J → J.length < m → accv.length + J.length ≤ sizeLine → UpX (· = G1.length) c1 M1.length G1 c M.length G → StO ⟨fun n => O n ∨ n = G1.length, c, M.length⟩ M G →
      G[G1.length]? = some (.lst acc) → Rps ⟨fun n => O n ∨ n = G1.length, c, M.length⟩ G accv acc →
      match lcV tg own ρv tv ev J M with
      | .ok ys M' => ∃ G' c' acc', lcL it tg own ρ G1.length th eh m i G = .ok () G' ∧ UpX (· = G1.length) c1 M1.length G1 c' M'.length G' ∧ StO ⟨fun n => O n ∨ n = G1.length, c', M'.length⟩ M' G' ∧ G'[G1.length]? = some (.lst acc') ∧ Rps ⟨fun n => O n ∨ n = G1.length, c', M'.length⟩ G' (accv ++ ys) acc'
      | .exc _ _ _ => False
      | .stuck => True := by
  intro J
  induction J with
  | nil =>
    intro i m acc accv c M G hJ hm hs hu S hd ha
    cases m with
    | zero => omega
    | succ m =>
      have hn : J0[i]? = none := by
        rw [List.getElem?_eq_none_iff]
        exact List.drop_eq_nil_iff.mp hJ
      have hIt := item_v (F := ⟨fun n => O n ∨ n = G1.length, c, M.length⟩) (G := G) (hI.mono fun d u h => h.rcx hu (fun n h => by rcases h with h | h; exact .inl h; exact .inr (by omega)) (fun n h => by omega)) i
      rw [hn] at hIt
      simp only [lcV]
      refine ⟨G, c, acc, ?_, hu, S, hd, by simpa using ha⟩
      simp only [lcL, hIt]
  | cons x r ih =>
    intro i m acc accv c M G hJ hm hs hu S hd ha
    cases m with
    | zero => simp at hm
    | succ m =>
      have hn : J0[i]? = some x := by
        have := congrArg (fun l => l[0]?) hJ
        simpa using this
      have hr : J0.drop (i + 1) = r := by
        have := congrArg (fun l => l.drop 1) hJ
        simpa [Nat.add_comm] using this
      have hIt := item_v (F := ⟨fun n => O n ∨ n = G1.length, c, M.length⟩) (G := G) (hI.mono fun d u h => h.rcx hu (fun n h => by rcases h with h | h; exact .inl h; exact .inr (by omega)) (fun n h => by omega)) i
      rw [hn] at hIt
      obtain ⟨u, hu1, hu2⟩ := hIt
      have R1 : RSl ⟨fun n => O n ∨ n = G1.length, c, M.length⟩ G ρv ρ := hR.upx hu (fun n => ⟨fun h => by rcases h with h | h; exact .inl h; exact .inr ⟨by omega, .inr h⟩, fun h => by rcases h with h | h; exact .inl h; exact h.2⟩) (fun n h => by omega)
      simp only [lcV, lcL, hu1]
      cases ha1 : assignV tg x (wipeV ρv own) with
      | none => trivial
      | some ρ1 =>
        obtain ⟨ρ1', e1, R2⟩ := RSl.assign ha1 (R1.wipe own) hu2
        rw [e1]
        dsimp only [ofO, Out.bind]
        have A := (ht _ c M G ρ1 ρ1' S R2).nox
        cases hT : noxV (tv ρ1 M) with
        | stuck => trivial
        | exc _ _ _ => exact noxV_no hT
        | ok k M2 =>
          rw [hT] at A
          obtain ⟨k', G2, c2, e2, u2, S2, rfl⟩ := A
          rw [e2]
          dsimp only [OV.bind, Out.bind]
          have hu2' := hu.trans u2.x
          have hnst : ∀ j, j < M.length → c j ≠ G1.length := fun j hj z => S.no j hj (.inr z)
          have hd2 : G2[G1.length]? = some (.lst acc) := u2.hg _ _ hd hnst
          cases k with
          | false =>
            simp only [Bool.false_eq_true, if_false]
            exact ih (i + 1) m acc accv c2 M2 G2 hr (by simp at hm; omega) (by simp at hs; omega) hu2' S2 hd2 (ha.mv u2.mv)
          | true =>
            simp only [if_true]
            have A2 := (he _ c2 M2 G2 ρ1 ρ1' S2 (R2.up u2)).nox
            cases hE : noxV (ev ρ1 M2) with
            | stuck => trivial
            | exc _ _ _ => exact noxV_no hE
            | ok y M3 =>
              rw [hE] at A2
              obtain ⟨w, G3, c3, e3, u3, S3, ry⟩ := A2
              rw [e3]
              dsimp only [OV.bind, Out.bind]
              have hnst2 : ∀ j, j < M2.length → c2 j ≠ G1.length := fun j hj z => S2.no j hj (.inr z)
              have hd3 : G3[G1.length]? = some (.lst acc) := u3.hg _ _ hd2 hnst2
              rw [hd3]
              dsimp only
              have hal : acc.length < sizeLine := by rw [← ha.len]; simp at hs; omega
              rw [if_pos hal]
              have hOd : (fun n => O n ∨ n = G1.length) G1.length := .inr rfl
              have hlt : G1.length < G3.length := ltG hd3
              have S4 : StO ⟨fun n => O n ∨ n = G1.length, c3, M3.length⟩ M3 (G3.set G1.length (.lst (acc ++ [w]))) := S3.write (F := ⟨_, c3, M3.length⟩) hOd
              have mvw : Mv ⟨fun n => O n ∨ n = G1.length, c3, M3.length⟩ G3 ⟨fun n => O n ∨ n = G1.length, c3, M3.length⟩ (G3.set G1.length (.lst (acc ++ [w]))) := mv_write (F := ⟨_, c3, M3.length⟩) hOd
              have hu4 : UpX (· = G1.length) c1 M1.length G1 c3 M3.length (G3.set G1.length (.lst (acc ++ [w]))) :=
                (hu2'.trans u3.x).trans ⟨by simp, fun n o e k q => by rw [List.getElem?_set_ne (fun z => q z.symm)]; exact e, Nat.le_refl _, fun _ _ => rfl, fun i h1 h2 => by omega⟩
              have key := ih (i + 1) m (acc ++ [w]) (accv ++ [y]) c3 M3 _ hr (by simp at hm; omega) (by simp at hs ⊢; omega) hu4 S4 (List.getElem?_set_self hlt) ((((ha.mv u2.mv).mv u3.mv).mv mvw).app (Rps.cons (ry.mv mvw) Rps.nil))
              cases hL : lcV tg own ρv tv ev r M3 with
              | stuck => trivial
              | exc _ _ _ => rw [hL] at key; exact key.elim
              | ok ys M4 =>
                rw [hL] at key
                obtain ⟨G', c', acc', q1, q2, q3, q4, q5⟩ := key
                exact ⟨G', c', acc', q1, q2, q3, q4, by simpa using q5⟩
end Z
namespace Z
open PySem PySem.Spec PyProof.Rows L2
section
variable {T : Pg} {cv : CfV} {jv : IfV} {cf : Cf}
theorem nst_new {O : Nat → Prop} {c : Nat → Nat} {M : Mem} {G : Gp} (S : StO ⟨O, c, M.length⟩ M G) : ∀ i, i < M.length → c i ≠ G.length := fun i hi h => by
  have h1 : c i < G.length := S.at_lt (i := i) hi
  omega
/-- a new list, dict: no one else has it -/
theorem ag_newF {O : Nat → Prop} {c : Nat → Nat} {M : Mem} {G : Gp} {d : D} {m : MO} {o : GO} {g : Nat} {b : Bool} (S : StO ⟨O, c, M.length⟩ M G) (e : moOf d = some m) (r : RpG ⟨O, c, M.length⟩ G o m) (hg : g ≤ G.length) :
    Ag O c M G (RFr g) (.ok (d, b) M) (.ok (.ref G.length) (G ++ [o])) := (Made.new e r).agF S rfl hg fun _ _ => ⟨_, rfl, Nat.le_refl _⟩
theorem ag_new {O : Nat → Prop} {c : Nat → Nat} {M : Mem} {G : Gp} {d : D} {m : MO} {o : GO} (S : StO ⟨O, c, M.length⟩ M G) (e : moOf d = some m) (r : RpG ⟨O, c, M.length⟩ G o m) :
    Ag O c M G rP (.ok d M) (.ok (.ref G.length) (G ++ [o])) := (Made.new e r).ag S rfl
theorem Ag.fst {O : Nat → Prop} {c : Nat → Nat} {M : Mem} {G : Gp} {g : Nat} {b : Bool} {v : OV (D × Bool)} {h : Out U} (a : Ag O c M G (RFr g) v h) : Ag O c M G (Z.rB b) (v.bind fun r M => .ok r.1 M) h := by
  cases v with
  | stuck => trivial
  | exc n fs M' => exact a
  | ok r M' =>
    obtain ⟨u, G', c', e, u1, s, q, _⟩ := a
    exact ⟨u, G', c', e, u1, s, rB_of q⟩
theorem paired_map {α β γ : Type} {R : α → β → Prop} {R' : γ → β → Prop} {f : α → γ} {ds : List α} {us : List β} (h : Paired R ds us) (k : ∀ d u, R d u → R' (f d) u) : Paired R' (ds.map f) us := by
  induction h with
  | nil => exact .nil
  | cons h t ih => exact .cons (k _ _ h) ih
theorem evV_attr {b : Bool} {o : Ex} {f : Str} {ρ : Rv} {M : Mem} (h : ∀ i, o ≠ .loc i) : evV T cv jv b (.attr o f) ρ M = (evV T cv jv false o ρ M).bind fun x M => (ofV (clsV M x) M).bind fun c M => attrV T M f c := by
  cases o <;> first
    | exact (h _ rfl).elim
    | rfl
    | simp only [evV]
/-- a comprehension -/
theorem ag_lc {O : Nat → Prop} {c : Nat → Nat} {M : Mem} {G : Gp} {ρv : Rv} {ρ : Rho} {tg : Tg} {own : List Nat} {tv : Rv → Mem → OV Bool} {th : Rho → Gp → Out Bool} {ev : Rv → Mem → OV D} {eh : Rho → Gp → Out U} {kind : Nat} {ds : List D} {us : List U} {g : Nat}
    (S : StO ⟨O, c, M.length⟩ M G) (R : RSl ⟨O, c, M.length⟩ G ρv ρ) (r : Paired (Rb ⟨O, c, M.length⟩ G) ds us) (hg : g ≤ G.length)
    (ht : ∀ (O : Nat → Prop) c M G ρv ρ, StO ⟨O, c, M.length⟩ M G → RSl ⟨O, c, M.length⟩ G ρv ρ → Ag O c M G eqR (tv ρv M) (th ρ G))
    (he : ∀ (O : Nat → Prop) c M G ρv ρ, StO ⟨O, c, M.length⟩ M G → RSl ⟨O, c, M.length⟩ G ρv ρ → Ag O c M G rP (ev ρv M) (eh ρ G)) :
    Ag O c M G (fun F M G d u => RFr g F M G (d, true) u) ((ofV (iterV kind ds) M).bind fun J M => if J.length ≤ sizeLine then (lcV tg own ρv tv ev J M).bind fun ys M => .ok (.lst ys) M else .stuck)
      ((ofO (iterOf kind us G) G).bind fun J G => (lcL J tg own ρ G.length th eh FU 0 (G ++ [.lst []])).bind fun _ G' => .ok (.ref G.length) G') := by
  cases hj : iterV kind ds with
  | none => trivial
  | some J =>
    obtain ⟨it, e1, hI⟩ := iter_v (fun _ _ h => h) hj r
    rw [e1]
    dsimp only [ofV, ofO, OV.bind, Out.bind]
    split
    · rename_i hs
      have hu : UpX (· = G.length) c M.length G c M.length (G ++ [.lst []]) := (up_push (c := c) (m := M.length) (G := G) (o := .lst [])).x
      have key := lc_v (tg := tg) (own := own) hI R S.lt ht he J 0 FU [] [] c M (G ++ [.lst []]) rfl (by have : FU = 100000000 := rfl; have : sizeLine = 16777216 := sizeLine_eq; omega) (by simpa using hs) hu (show StO ⟨fun n => O n ∨ n = G.length, c, M.length⟩ M (G ++ [.lst []]) from S.add) get_end Rps.nil
      cases hl : lcV tg own ρv tv ev J M with
      | stuck => trivial
      | exc _ _ _ => rw [hl] at key; exact key.elim
      | ok ys M' =>
        rw [hl] at key
        obtain ⟨G', c', acc', q1, q2, q3, q4, q5⟩ := key
        rw [q1]
        dsimp only [OV.bind, Out.bind]
        have S' : StO ⟨O, c', M'.length⟩ M' G' := StO.shrink (O' := fun n => O n ∨ n = G.length) (fun n h => .inl h) q3
        have hno : ¬ O G.length := fun h => Nat.lt_irrefl _ (S.lt _ h)
        have hns : (⟨O, c', M'.length⟩ : Fb).nst G.length := fun i hi z => q3.no i hi (.inr z)
        refine ⟨_, G', c', rfl, q2.up fun n h => by omega, S', ?_, fun _ _ => ⟨_, rfl, hg, q3, ?_⟩⟩
        · simp only [Rp]
          exact ⟨_, acc', rfl, hno, hns, q4, q5.mv (mv_shrink fun n h => .inl h)⟩
        · simp only [Rc]
          exact ⟨_, acc', rfl, q4, q5⟩
    · trivial
end
theorem RpF.pair {F : Fb} {G : Gp} : ∀ {fs : List (Str × D)} {ws : List (Str × U)}, RpF F G fs ws → Paired (fun p q => p.1 = q.1 ∧ Rp F G p.2 q.2) fs ws
  | [], ws, h => by simp only [RpF] at h; rw [h]; exact .nil
  | (k, d) :: fs, ws, h => by
    simp only [RpF] at h
    obtain ⟨u, r, rfl, h1, h2⟩ := h
    exact .cons ⟨rfl, h1⟩ (RpF.pair h2)
theorem Ag.up1 {α β : Type} {O : Nat → Prop} {c c1 : Nat → Nat} {M M1 : Mem} {G G1 : Gp} {R : Fb → Mem → Gp → α → β → Prop} {v : OV α} {h : Out β} (a : Ag O c1 M1 G1 R v h) (u1 : Up c M.length G c1 M1.length G1) : Ag O c M G R v h := by
  cases v with
  | stuck => trivial
  | exc n fs M' => obtain ⟨ws, G', c', e, u, s, r⟩ := a; exact ⟨ws, G', c', e, u1.trans u, s, r⟩
  | ok x M' => obtain ⟨y, G', c', e, u, s, r⟩ := a; exact ⟨y, G', c', e, u1.trans u, s, r⟩
theorem why_v {T : Pg} {q : Str} {fs : List (Str × D)} {ws : List (Str × U)} {O : Nat → Prop} {c : Nat → Nat} {M : Mem} {G : Gp} {b : Bool} (S : StO ⟨O, c, M.length⟩ M G) (r : RpF ⟨O, c, M.length⟩ G fs ws) : Ag O c M G (rB b) (whyXV T q fs M) (whyX T q ws G) := by
  unfold whyXV
  split
  · rename_i bs rr tf z e1 e2 e3
    split
    · rename_i hz
      split
      · rename_i d hd
        obtain ⟨tv, t1, t2⟩ := lookG r.pair e3
        simp only [Rp] at t2
        subst t2
        obtain ⟨u, v1, v2⟩ := fbG_at (R := Rp ⟨O, c, M.length⟩ G) (non := D.non) (non' := U.non) (by simp only [Rp]) r.pair hd
        have e : whyX T q ws G = .ok (.tup [.str z, u]) G := by
          unfold whyX
          rw [e1, e2, t1]
          dsimp only
          rw [if_pos hz, v1]
        rw [e]
        exact Ag.ok S (rB_of (.tup (Rps.cons (by simp only [Rp]) (Rps.cons v2 Rps.nil))))
      · trivial
    · trivial
  · trivial
mutual
theorem vE {T : Pg} {cv : CfV} {jv : IfV} {cf : Cf} (CF : CfOk cv cf) (JF : JfOk jv cf) : ∀ (e : Ex) (b : Bool) (O : Nat → Prop) (c : Nat → Nat) (M : Mem) (G : Gp) (ρv : Rv) (ρ : Rho), StO ⟨O, c, M.length⟩ M G → RSl ⟨O, c, M.length⟩ G ρv ρ → Ag O c M G (rB b) (evV T cv jv b e ρv M) (evE T cf e ρ G)
  | .loc i, b, O, c, M, G, ρv, ρ, S, R => by
    simp only [evV, evE]
    exact ag_loc S R
  | .gl x, b, O, c, M, G, ρv, ρ, S, R => by
    simp only [evV, evE]
    cases e : T.gv x with
    | none => trivial
    | some u =>
      cases h : ofU u with
      | none => simp only [Option.bind_some, h]; trivial
      | some d => simp only [Option.bind_some, h]; exact Ag.ok (R := rB b) S (rB_of (ofU_rp h))
  | .non, b, O, c, M, G, ρv, ρ, S, R => by simp only [evV, evE]; exact Ag.ok S (rB_of .non)
  | .bl k, b, O, c, M, G, ρv, ρ, S, R => by simp only [evV, evE]; exact Ag.ok S (rB_of .bl)
  | .int k, b, O, c, M, G, ρv, ρ, S, R => by simp only [evV, evE]; exact Ag.ok S (rB_of .int)
  | .str k, b, O, c, M, G, ρv, ρ, S, R => by simp only [evV, evE]; exact Ag.ok S (rB_of .str)
  | .bin op x y, b, O, c, M, G, ρv, ρ, S, R => by
    simp only [evV, evE]
    refine (vE CF JF x true O c M G ρv ρ S R).bind fun d u c1 M1 G1 u1 S1 r1 => ?_
    refine (vE CF JF y true O c1 M1 G1 ρv ρ S1 (R.up u1)).bind fun d2 w c2 M2 G2 u2 S2 r2 => ?_
    exact ag_of S2 fun d e => let ⟨z, G', h1, h2, _⟩ := bin_v e (res_v S2 ((rB_true r1).up u2)) (res_v S2 r2); ⟨z, G', h1, h2⟩
  | .neg x, b, O, c, M, G, ρv, ρ, S, R => by
    simp only [evV, evE]
    refine (vE CF JF x true O c M G ρv ρ S R).bind fun d u c1 M1 G1 u1 S1 r1 => ?_
    split
    · have r1 := rB_true r1; simp only [Rb, Rp] at r1; subst r1; exact Ag.ok S1 (rB_of .int)
    · trivial
  | .cmp op x y, b, O, c, M, G, ρv, ρ, S, R => by
    simp only [evV, evE]
    refine (vE CF JF x true O c M G ρv ρ S R).bind fun d u c1 M1 G1 u1 S1 r1 => ?_
    refine (vE CF JF y true O c1 M1 G1 ρv ρ S1 (R.up u1)).bind fun d2 w c2 M2 G2 u2 S2 r2 => ?_
    refine (ag_cmp CF S2 ((rB_true r1).up u2) r2).bind fun k k' c3 M3 G3 u3 S3 r3 => ?_
    cases r3
    exact Ag.ok S3 (rB_of .bl)
  | .chain o1 o2 x y z, b, O, c, M, G, ρv, ρ, S, R => by
    simp only [evV, evE]
    refine (vE CF JF x true O c M G ρv ρ S R).bind fun d u c1 M1 G1 u1 S1 r1 => ?_
    refine (vE CF JF y true O c1 M1 G1 ρv ρ S1 (R.up u1)).bind fun d2 w c2 M2 G2 u2 S2 r2 => ?_
    refine (Ag.ofO S2 fun a e => cmp_v e (res_v S2 ((rB_true r1).up u2)) (res_v S2 r2)).bind fun k k' c3 M3 G3 u3 S3 r3 => ?_
    cases r3
    cases k with
    | false => exact Ag.ok S3 (rB_of .bl)
    | true =>
      refine (vE CF JF z true O c3 M3 G3 ρv ρ S3 (((R.up u1).up u2).up u3)).bind fun d3 w3 c4 M4 G4 u4 S4 r4 => ?_
      refine ag_of S4 fun d e => ?_
      obtain ⟨k, q, rfl⟩ := Option.map_eq_some_iff.mp e
      exact ⟨_, _, by rw [cmp_v q (res_v S4 (((rB_true r2).up u3).up u4)) (res_v S4 r4)]; rfl, .old .bl⟩
  | .bop op es, b, O, c, M, G, ρv, ρ, S, R => by
    simp only [evV, evE]
    exact vB CF JF es op b O c M G ρv ρ S R
  | .not x, b, O, c, M, G, ρv, ρ, S, R => by
    simp only [evV, evE]
    refine (vE CF JF x true O c M G ρv ρ S R).bind fun d u c1 M1 G1 u1 S1 r1 => ?_
    refine (Ag.ofO S1 fun a e => truthy_v e (res_v S1 r1)).bind fun k k' c3 M3 G3 u3 S3 r3 => ?_
    cases r3
    exact Ag.ok S3 (rB_of .bl)
  | .ite t x y, b, O, c, M, G, ρv, ρ, S, R => by
    simp only [evV, evE]
    refine (vT CF JF t O c M G ρv ρ S R).bind fun k k' c1 M1 G1 u1 S1 r1 => ?_
    cases r1
    cases k with
    | true => exact vE CF JF x b O c1 M1 G1 ρv ρ S1 (R.up u1)
    | false => exact vE CF JF y b O c1 M1 G1 ρv ρ S1 (R.up u1)
  | .lst es, b, O, c, M, G, ρv, ρ, S, R => by
    simp only [evV, evE]
    refine (vL CF JF es false O c M G ρv ρ S R).bind fun ds us c1 M1 G1 u1 S1 r1 => ?_
    have r1 : Rps ⟨O, c1, M1.length⟩ G1 ds us := Rps.iff.mpr (Paired.mapP r1 fun _ _ h => h)
    rw [r1.len]
    split
    · exact (ag_new (d := .lst ds) S1 rfl (o := .lst us) r1).rB
    · trivial
  | .tup es, b, O, c, M, G, ρv, ρ, S, R => by
    simp only [evV, evE]
    refine (vL CF JF es false O c M G ρv ρ S R).bind fun ds us c1 M1 G1 u1 S1 r1 => ?_
    have r1 : Rps ⟨O, c1, M1.length⟩ G1 ds us := Rps.iff.mpr (Paired.mapP r1 fun _ _ h => h)
    rw [r1.len]
    split
    · exact Ag.ok S1 (rB_of (.tup r1))
    · trivial
  | .dict0, b, O, c, M, G, ρv, ρ, S, R => by
    simp only [evV, evE]
    exact (ag_new (d := .dK []) S rfl (o := .dK []) (by simp only [RpG, RpK])).rB
  | .ix x y, b, O, c, M, G, ρv, ρ, S, R => by
    simp only [evV, evE]
    refine (vE CF JF x true O c M G ρv ρ S R).bind fun d u c1 M1 G1 u1 S1 r1 => ?_
    refine (vE CF JF y true O c1 M1 G1 ρv ρ S1 (R.up u1)).bind fun d2 w c2 M2 G2 u2 S2 r2 => ?_
    exact ag_of S2 fun d e => let ⟨z, h1, h2⟩ := ix_v e (res_v S2 ((rB_true r1).up u2)) (rB_true r2).rc; ⟨z, _, h1, .old h2⟩
  | .sl x lo hi, b, O, c, M, G, ρv, ρ, S, R => by
    simp only [evV, evE]
    refine (vE CF JF x true O c M G ρv ρ S R).bind fun d u c1 M1 G1 u1 S1 r1 => ?_
    refine (vO CF JF lo O c1 M1 G1 ρv ρ S1 (R.up u1)).bind fun l l' c2 M2 G2 u2 S2 r2 => ?_
    cases r2
    refine (vO CF JF hi O c2 M2 G2 ρv ρ S2 ((R.up u1).up u2)).bind fun h h' c3 M3 G3 u3 S3 r3 => ?_
    cases r3
    exact ag_of S3 fun d e => let ⟨z, G', h1, h2, _⟩ := sl_v e (res_v S3 (((rB_true r1).up u2).up u3)); ⟨z, G', h1, h2⟩
  | .call f es, b, O, c, M, G, ρv, ρ, S, R => by
    simp only [evV, evE]
    split
    · refine (vL CF JF es false O c M G ρv ρ S R).bind fun ds us c1 M1 G1 u1 S1 r1 => ?_
      have r1 : Rps ⟨O, c1, M1.length⟩ G1 ds us := Rps.iff.mpr (Paired.mapP r1 fun _ _ h => h)
      exact (CF O c1 M1 G1 f ds us S1 r1).fst
    · trivial
  | .callk f es kn ke, b, O, c, M, G, ρv, ρ, S, R => by simp only [evV]; trivial
  | .make C es, b, O, c, M, G, ρv, ρ, S, R => by
    simp only [evV, evE]
    split
    · refine (vL CF JF es false O c M G ρv ρ S R).bind fun ds us c1 M1 G1 u1 S1 r1 => ?_
      have r1 : Rps ⟨O, c1, M1.length⟩ G1 ds us := Rps.iff.mpr (Paired.mapP r1 fun _ _ h => h)
      exact (JF O c1 M1 G1 C ds us S1 r1).imp fun _ _ _ _ _ _ _ h => rB_of h.1
    · trivial
  | .makek C es kn ke, b, O, c, M, G, ρv, ρ, S, R => by simp only [evV]; trivial
  | .bf k es, b, O, c, M, G, ρv, ρ, S, R => by
    simp only [evV, evE]
    refine (vL CF JF es true O c M G ρv ρ S R).bind fun ds us c1 M1 G1 u1 S1 r1 => ?_
    exact ag_bf CF S1 (Paired.mapP r1 fun _ _ h => h)
  | .isi x ts k, b, O, c, M, G, ρv, ρ, S, R => by
    simp only [evV, evE]
    split
    · refine (vE CF JF x true O c M G ρv ρ S R).bind fun d u c1 M1 G1 u1 S1 r1 => ?_
      refine (Ag.ofO S1 fun a e => ty_v S1 e r1).bind fun t t' c2 M2 G2 u2 S2 r2 => ?_
      cases r2
      refine (Ag.ofO S2 (fun a e => e)).bind fun k k' c3 M3 G3 u3 S3 r3 => ?_
      cases r3
      exact Ag.ok S3 (rB_of .bl)
    · trivial
  | .bm m o es, b, O, c, M, G, ρv, ρ, S, R => by
    simp only [evV, evE]
    refine (vE CF JF o true O c M G ρv ρ S R).bind fun d u c1 M1 G1 u1 S1 r1 => ?_
    have r1 := rB_true r1
    split
    · rename_i hm
      cases d <;> try trivial
      rename_i x
      have ru := r1
      simp only [Rb, Rp] at ru
      have tyOk : tyOkM m u G1 = true := by
        subst ru
        cases m <;> simp only [sbm] at hm <;> first
          | (cases hm; done)
          | rfl
      rw [if_pos tyOk]
      dsimp only
      refine (vL CF JF es true O c1 M1 G1 ρv ρ S1 (R.up u1)).bind fun ds us c2 M2 G2 u2 S2 r2 => ?_
      have r2 : Rcs ⟨O, c2, M2.length⟩ G2 (ds.map (res M2)) us := paired_map r2 fun d u h => res_v S2 h
      exact ag_of S2 fun d e => let ⟨z, G', h1, h2, _⟩ := sbm_v e ((Rb.up u2 r1).rc) r2; ⟨z, G', h1, h2⟩
    · rename_i hm
      split
      · rename_i hl
        have tyOk : tyOkM m u G1 = true := by
          cases d <;> simp only [mutLst] at hl <;> try (cases hl; done)
          rename_i i _
          split at hl
          · rename_i xs q
            simp only [Rb, Rp] at r1
            obtain ⟨hi, rfl⟩ := r1
            obtain ⟨us, g, _⟩ := S1.ob i _ q
            have okl : isLst G1 (.ref (c1 i)) = true := by simp only [isLst]; rw [show G1[c1 i]? = _ from g]
            cases m <;> simp only [sbm, Bool.not_eq_true] at hm <;> first
              | exact okl
              | (cases hm; done)
              | (exact absurd trivial hm)
          · cases hl
        rw [if_pos tyOk]
        refine (vL CF JF es false O c1 M1 G1 ρv ρ S1 (R.up u1)).bind fun ds us c2 M2 G2 u2 S2 r2 => ?_
        have r2 : Rps ⟨O, c2, M2.length⟩ G2 ds us := Rps.iff.mpr (Paired.mapP r2 fun _ _ h => h)
        exact ag_mmeth S2 (Rb.up u2 r1) r2
      · trivial
  | .meth o m es, b, O, c, M, G, ρv, ρ, S, R => by
    simp only [evV, evE]
    refine (vE CF JF o false O c M G ρv ρ S R).bind fun d u c1 M1 G1 u1 S1 r1 => ?_
    have r1 := rB_false r1
    cases hc : clsV M1 d with
    | none => trivial
    | some p =>
      obtain ⟨C, fs⟩ := p
      obtain ⟨ws, hu, hw⟩ := cls_v S1 hc r1.rb.rc
      rw [hu]
      dsimp only [ofV, ofO, OV.bind, Out.bind]
      have hl := hw.look m
      cases q1 : fs.lookup m with
      | some x => trivial
      | none =>
        rw [q1] at hl
        rw [hl]
        cases q2 : T.meth C m with
        | none => trivial
        | some q =>
          dsimp only
          refine (vL CF JF es false O c1 M1 G1 ρv ρ S1 (R.up u1)).bind fun ds us c2 M2 G2 u2 S2 r2 => ?_
          have r2 : Rps ⟨O, c2, M2.length⟩ G2 ds us := Rps.iff.mpr (Paired.mapP r2 fun _ _ h => h)
          exact (CF O c2 M2 G2 q (d :: ds) (u :: us) S2 (Rps.cons (r1.mv u2.mv) r2)).fst
  | .attr o f, b, O, c, M, G, ρv, ρ, S, R => by
    have gen : ∀ (v : OV D), Ag O c M G (rB false) v (evE T cf o ρ G) → Ag O c M G (rB b) (v.bind fun x M => (ofV (clsV M x) M).bind fun c M => attrV T M f c) (evE T cf (.attr o f) ρ G) := fun v A => by
      simp only [evE]
      refine A.bind fun d u c1 M1 G1 u1 S1 r1 => ?_
      have r1 := rB_false r1
      cases hc : clsV M1 d with
      | none => trivial
      | some p =>
        obtain ⟨C, fs⟩ := p
        obtain ⟨ws, hu, hw⟩ := cls_v S1 hc r1.rb.rc
        rw [hu]
        exact ag_attr S1 hw
    have A : Ag O c M G (rB false) (evV T cv jv false o ρv M) (evE T cf o ρ G) := vE CF JF o false O c M G ρv ρ S R
    by_cases ho : ∃ i, o = .loc i
    · obtain ⟨i, rfl⟩ := ho
      simp only [evV] at A ⊢
      split
      · rename_i C fs e
        obtain ⟨n, h1, _, _, h4, _⟩ := R.own i _ e
        simp only [Rc] at h4
        obtain ⟨j, ws, z, g, q⟩ := h4
        cases z
        simp only [evE, h1]
        dsimp only [Out.bind]
        simp only [clsU, g]
        exact ag_attr S q
      · exact gen _ A
    · rw [evV_attr fun i z => ho ⟨i, z⟩]
      exact gen _ A
  | .prop o f, b, O, c, M, G, ρv, ρ, S, R => by
    simp only [evV, evE]
    refine (vE CF JF o false O c M G ρv ρ S R).bind fun d u c1 M1 G1 u1 S1 r1 => ?_
    have r1 := rB_false r1
    cases hc : clsV M1 d with
    | none => trivial
    | some p =>
      obtain ⟨C, fs⟩ := p
      obtain ⟨ws, hu, hw⟩ := cls_v S1 hc r1.rb.rc
      rw [hu]
      dsimp only [ofV, ofO, OV.bind, Out.bind]
      cases hq : T.prop C f with
      | none => trivial
      | some q => exact (CF O c1 M1 G1 q [d] [u] S1 (Rps.cons r1 Rps.nil)).nox.fst
  | .lc elt tg it kind test own, b, O, c, M, G, ρv, ρ, S, R => by
    simp only [evV, evE]
    refine (vL CF JF it true O c M G ρv ρ S R).bind fun ds us c1 M1 G1 u1 S1 r1 => ?_
    exact (ag_lc (g := 0) S1 (R.up u1) (Paired.mapP r1 fun _ _ h => h) (Nat.zero_le _) (fun O c M G ρv ρ S R => vTo CF JF test O c M G ρv ρ S R) (fun O c M G ρv ρ S R => vE CF JF elt false O c M G ρv ρ S R)).imp fun _ _ _ _ _ _ _ h => rB_of h.1
  | .why e, b, O, c, M, G, ρv, ρ, S, R => by
    have A := vE (T := T) CF JF e false O c M G ρv ρ S R
    simp only [evV, evE]
    cases hv : evV T cv jv false e ρv M with
    | stuck => trivial
    | ok d M' =>
      rw [hv] at A
      obtain ⟨u, G', c', e1, u1, s1, r1⟩ := A
      rw [e1]
      unfold whyKV whyK
      dsimp only
      split
      · refine ⟨_, G', c', rfl, u1, s1, rB_of (.tup ?_)⟩
        exact Rps.cons (by simp only [Rp]) (Rps.cons (rB_false r1) Rps.nil)
      · trivial
    | exc q fs M' =>
      rw [hv] at A
      obtain ⟨ws, G', c', e1, u1, s1, r1⟩ := A
      rw [e1]
      unfold whyKV whyK
      dsimp only
      exact (why_v (T := T) (q := q) s1 r1).up1 u1
  | .smeth C m es, b, O, c, M, G, ρv, ρ, S, R => by
    simp only [evV, evE]
    cases T.smet C m with
    | none => trivial
    | some q =>
      refine (vL CF JF es false O c M G ρv ρ S R).bind fun ds us c1 M1 G1 u1 S1 r1 => ?_
      have r1 : Rps ⟨O, c1, M1.length⟩ G1 ds us := Rps.iff.mpr (Paired.mapP r1 fun _ _ h => h)
      exact (CF O c1 M1 G1 q ds us S1 r1).fst
  | .smetk C m kn e, b, O, c, M, G, ρv, ρ, S, R => by
    simp only [evV, evE]
    cases T.smek C m with
    | none => trivial
    | some qk =>
      obtain ⟨q, k⟩ := qk
      dsimp only
      split
      · refine (vE CF JF e false O c M G ρv ρ S R).bind fun d u c1 M1 G1 u1 S1 r1 => ?_
        exact (CF O c1 M1 G1 q [d] [u] S1 (Rps.cons (rB_false r1) Rps.nil)).fst
      · trivial
theorem vT {T : Pg} {cv : CfV} {jv : IfV} {cf : Cf} (CF : CfOk cv cf) (JF : JfOk jv cf) : ∀ (e : Tx) (O : Nat → Prop) (c : Nat → Nat) (M : Mem) (G : Gp) (ρv : Rv) (ρ : Rho), StO ⟨O, c, M.length⟩ M G → RSl ⟨O, c, M.length⟩ G ρv ρ → Ag O c M G eqR (evTV T cv jv e ρv M) (evT T cf e ρ G)
  | .not a, O, c, M, G, ρv, ρ, S, R => by
    simp only [evTV, evT]
    refine (vT CF JF a O c M G ρv ρ S R).bind fun k k' c1 M1 G1 u1 S1 r1 => ?_
    cases r1
    exact Ag.ok S1 rfl
  | .bop op es, O, c, M, G, ρv, ρ, S, R => by
    simp only [evTV, evT]
    exact vTB CF JF es op O c M G ρv ρ S R
  | .val e, O, c, M, G, ρv, ρ, S, R => by
    simp only [evTV, evT]
    refine (vE CF JF e true O c M G ρv ρ S R).bind fun d u c1 M1 G1 u1 S1 r1 => ?_
    exact Ag.ofO S1 fun a e => truthy_v e (res_v S1 r1)
theorem vTo {T : Pg} {cv : CfV} {jv : IfV} {cf : Cf} (CF : CfOk cv cf) (JF : JfOk jv cf) : ∀ (e : Option Tx) (O : Nat → Prop) (c : Nat → Nat) (M : Mem) (G : Gp) (ρv : Rv) (ρ : Rho), StO ⟨O, c, M.length⟩ M G → RSl ⟨O, c, M.length⟩ G ρv ρ → Ag O c M G eqR (evToV T cv jv e ρv M) (evTo T cf e ρ G)
  | none, O, c, M, G, ρv, ρ, S, R => by simp only [evToV, evTo]; exact Ag.ok S rfl
  | some e, O, c, M, G, ρv, ρ, S, R => by simp only [evToV, evTo]; exact vT CF JF e O c M G ρv ρ S R
theorem vB {T : Pg} {cv : CfV} {jv : IfV} {cf : Cf} (CF : CfOk cv cf) (JF : JfOk jv cf) : ∀ (es : List Ex) (op : BoolOp) (b : Bool) (O : Nat → Prop) (c : Nat → Nat) (M : Mem) (G : Gp) (ρv : Rv) (ρ : Rho), StO ⟨O, c, M.length⟩ M G → RSl ⟨O, c, M.length⟩ G ρv ρ → Ag O c M G (rB b) (evBV T cv jv b op es ρv M) (evB T cf op es ρ G)
  | [], op, b, O, c, M, G, ρv, ρ, S, R => by simp only [evBV]; trivial
  | [e], op, b, O, c, M, G, ρv, ρ, S, R => by simp only [evBV, evB]; exact vE CF JF e b O c M G ρv ρ S R
  | e :: e2 :: r, op, b, O, c, M, G, ρv, ρ, S, R => by
    simp only [evBV, evB]
    refine (vE CF JF e b O c M G ρv ρ S R).bind fun d u c1 M1 G1 u1 S1 r1 => ?_
    have r1b : Rb ⟨O, c1, M1.length⟩ G1 d u := by
      cases b
      · exact (rB_false r1).rb
      · exact r1
    refine (Ag.ofO S1 fun a e => truthy_v e (res_v S1 r1b)).bind fun k k' c2 M2 G2 u2 S2 r2 => ?_
    cases r2
    have r3 : rB b ⟨O, c2, M2.length⟩ M2 G2 d u := by
      cases b
      · exact (rB_false r1).mv u2.mv
      · exact Rb.up u2 r1
    cases op <;> cases k <;> dsimp only
    · exact Ag.ok S2 r3
    · exact vB CF JF (e2 :: r) _ b O c2 M2 G2 ρv ρ S2 ((R.up u1).up u2)
    · exact vB CF JF (e2 :: r) _ b O c2 M2 G2 ρv ρ S2 ((R.up u1).up u2)
    · exact Ag.ok S2 r3
theorem vTB {T : Pg} {cv : CfV} {jv : IfV} {cf : Cf} (CF : CfOk cv cf) (JF : JfOk jv cf) : ∀ (es : List Tx) (op : BoolOp) (O : Nat → Prop) (c : Nat → Nat) (M : Mem) (G : Gp) (ρv : Rv) (ρ : Rho), StO ⟨O, c, M.length⟩ M G → RSl ⟨O, c, M.length⟩ G ρv ρ → Ag O c M G eqR (evTBV T cv jv op es ρv M) (evTB T cf op es ρ G)
  | [], op, O, c, M, G, ρv, ρ, S, R => by simp only [evTBV]; trivial
  | [e], op, O, c, M, G, ρv, ρ, S, R => by simp only [evTBV, evTB]; exact vT CF JF e O c M G ρv ρ S R
  | e :: e2 :: r, op, O, c, M, G, ρv, ρ, S, R => by
    simp only [evTBV, evTB]
    refine (vT CF JF e O c M G ρv ρ S R).bind fun k k' c1 M1 G1 u1 S1 r1 => ?_
    cases r1
    cases op <;> cases k <;> dsimp only
    · exact Ag.ok S1 rfl
    · exact vTB CF JF (e2 :: r) _ O c1 M1 G1 ρv ρ S1 (R.up u1)
    · exact vTB CF JF (e2 :: r) _ O c1 M1 G1 ρv ρ S1 (R.up u1)
    · exact Ag.ok S1 rfl
theorem vL {T : Pg} {cv : CfV} {jv : IfV} {cf : Cf} (CF : CfOk cv cf) (JF : JfOk jv cf) : ∀ (es : List Ex) (b : Bool) (O : Nat → Prop) (c : Nat → Nat) (M : Mem) (G : Gp) (ρv : Rv) (ρ : Rho), StO ⟨O, c, M.length⟩ M G → RSl ⟨O, c, M.length⟩ G ρv ρ → Ag O c M G (rBs b) (evLV T cv jv b es ρv M) (evL T cf es ρ G)
  | [], b, O, c, M, G, ρv, ρ, S, R => by simp only [evLV, evL]; exact Ag.ok S .nil
  | e :: r, b, O, c, M, G, ρv, ρ, S, R => by
    simp only [evLV, evL]
    refine (vE CF JF e b O c M G ρv ρ S R).bind fun d u c1 M1 G1 u1 S1 r1 => ?_
    refine (vL CF JF r b O c1 M1 G1 ρv ρ S1 (R.up u1)).bind fun ds us c2 M2 G2 u2 S2 r2 => ?_
    refine Ag.ok S2 (.cons ?_ r2)
    cases b
    · exact (rB_false r1).mv u2.mv
    · exact Rb.up u2 r1
theorem vO {T : Pg} {cv : CfV} {jv : IfV} {cf : Cf} (CF : CfOk cv cf) (JF : JfOk jv cf) : ∀ (e : Option Ex) (O : Nat → Prop) (c : Nat → Nat) (M : Mem) (G : Gp) (ρv : Rv) (ρ : Rho), StO ⟨O, c, M.length⟩ M G → RSl ⟨O, c, M.length⟩ G ρv ρ → Ag O c M G eqR (evOV T cv jv e ρv M) (evO T cf e ρ G)
  | none, O, c, M, G, ρv, ρ, S, R => by simp only [evOV, evO]; exact Ag.ok S rfl
  | some e, O, c, M, G, ρv, ρ, S, R => by
    simp only [evOV, evO]
    refine (vE CF JF e true O c M G ρv ρ S R).bind fun d u c1 M1 G1 u1 S1 r1 => ?_
    split
    · have r1 := rB_true r1; simp only [Rb, Rp] at r1; subst r1; exact Ag.ok S1 rfl
    · trivial
end
end Z
namespace Z
open PySem PySem.Spec PyProof.Rows L2
section
variable {T : Pg} {cv : CfV} {jv : IfV} {cf : Cf}
theorem RFr.le {g g' F M G r u} (h : g' ≤ g) (R : RFr g F M G r u) : RFr g' F M G r u := ⟨R.1, fun a b => let ⟨n, e, k, q⟩ := R.2 a b; ⟨n, e, Nat.le_trans h k, q⟩⟩
theorem ag_ofF {O : Nat → Prop} {c : Nat → Nat} {M : Mem} {G : Gp} {ov : Option D} {oh : Option (U × Gp)} {g : Nat} (S : StO ⟨O, c, M.length⟩ M G) (hg : g ≤ G.length) (h : ∀ d, ov = some d → ∃ z G', oh = some (z, G') ∧ Made ⟨O, c, M.length⟩ G d z G' ∧ (isObj d = true → ∃ n, z = .ref n ∧ G.length ≤ n)) :
    Ag O c M G (RFr g) ((ofV ov M).bind fun x M => .ok (x, true) M) (Out.of oh) := by
  cases ov with
  | none => trivial
  | some d =>
    obtain ⟨z, G', e, m, k⟩ := h d rfl
    subst e
    exact m.agF S rfl hg fun _ hk => k hk
theorem Ag.noF {O : Nat → Prop} {c : Nat → Nat} {M : Mem} {G : Gp} {v : OV D} {h : Out U} {g : Nat} (a : Ag O c M G (Z.rB false) v h) : Ag O c M G (RFr g) (v.bind fun x M => .ok (x, false) M) h := by
  cases v with
  | stuck => trivial
  | exc n fs M' => exact a
  | ok r M' =>
    obtain ⟨u, G', c', e, u1, s, q⟩ := a
    exact ⟨u, G', c', e, u1, s, rB_false q, fun h => by cases h⟩
theorem Ag.mkF {O : Nat → Prop} {c : Nat → Nat} {M : Mem} {G : Gp} {v : OV D} {h : Out U} {g : Nat} (a : Ag O c M G (fun F M G d u => RFr g F M G (d, true) u) v h) : Ag O c M G (RFr g) (v.bind fun x M => .ok (x, true) M) h := by
  cases v with
  | stuck => trivial
  | exc n fs M' => exact a
  | ok r M' => exact a
theorem OV.assoc {α β γ : Type} (m : OV α) (f : α → Mem → OV β) (g : β → Mem → OV γ) : (m.bind f).bind g = m.bind fun x M => (f x M).bind g := by cases m <;> rfl
theorem evF_no {e : Ex} {ρ : Rv} {M : Mem} (h : ∀ f es, e ≠ .call f es) : evFV T cv jv e ρ M = (evV T cv jv false e ρ M).bind fun x M => .ok (x, frE e) M := by
  cases e <;> first
    | exact (h _ _ rfl).elim
    | rfl
theorem vF (CF : CfOk cv cf) (JF : JfOk jv cf) (e : Ex) (O : Nat → Prop) (c : Nat → Nat) (M : Mem) (G : Gp) (ρv : Rv) (ρ : Rho) (S : StO ⟨O, c, M.length⟩ M G) (R : RSl ⟨O, c, M.length⟩ G ρv ρ) : Ag O c M G (RFr G.length) (evFV T cv jv e ρv M) (evE T cf e ρ G) := by
  have plain : (∀ f es, e ≠ .call f es) → frE e = false → Ag O c M G (RFr G.length) (evFV T cv jv e ρv M) (evE T cf e ρ G) := fun h1 h2 => by
    rw [evF_no h1, h2]
    exact (vE CF JF e false O c M G ρv ρ S R).noF
  cases e with
  | call f es =>
    simp only [evFV, evE]
    split
    · refine (vL CF JF es false O c M G ρv ρ S R).bind fun ds us c1 M1 G1 u1 S1 r1 => ?_
      have r1 : Rps ⟨O, c1, M1.length⟩ G1 ds us := Rps.iff.mpr (Paired.mapP r1 fun _ _ h => h)
      exact (CF O c1 M1 G1 f ds us S1 r1).imp fun _ _ _ _ _ _ _ h => h.le u1.gl
    · trivial
  | lst es =>
    rw [evF_no fun f es h => by cases h]
    simp only [evV, evE, frE, OV.assoc]
    refine (vL CF JF es false O c M G ρv ρ S R).bind fun ds us c1 M1 G1 u1 S1 r1 => ?_
    have r1 : Rps ⟨O, c1, M1.length⟩ G1 ds us := Rps.iff.mpr (Paired.mapP r1 fun _ _ h => h)
    rw [r1.len]
    split
    · exact ag_newF (d := .lst ds) S1 rfl (o := .lst us) r1 u1.gl
    · trivial
  | dict0 =>
    rw [evF_no fun f es h => by cases h]
    simp only [evV, evE, frE]
    exact ag_newF (d := .dK []) S rfl (o := .dK []) (by simp only [RpG, RpK]) (Nat.le_refl _)
  | bin op x y =>
    rw [evF_no fun f es h => by cases h]
    simp only [evV, evE, frE, OV.assoc]
    refine (vE CF JF x true O c M G ρv ρ S R).bind fun d u c1 M1 G1 u1 S1 r1 => ?_
    refine (vE CF JF y true O c1 M1 G1 ρv ρ S1 (R.up u1)).bind fun d2 w c2 M2 G2 u2 S2 r2 => ?_
    exact ag_ofF S2 (Nat.le_trans u1.gl u2.gl) fun d e => bin_v e (res_v S2 ((rB_true r1).up u2)) (res_v S2 r2)
  | sl x lo hi =>
    rw [evF_no fun f es h => by cases h]
    simp only [evV, evE, frE, OV.assoc]
    refine (vE CF JF x true O c M G ρv ρ S R).bind fun d u c1 M1 G1 u1 S1 r1 => ?_
    refine (vO CF JF lo O c1 M1 G1 ρv ρ S1 (R.up u1)).bind fun l l' c2 M2 G2 u2 S2 r2 => ?_
    cases r2
    refine (vO CF JF hi O c2 M2 G2 ρv ρ S2 ((R.up u1).up u2)).bind fun h h' c3 M3 G3 u3 S3 r3 => ?_
    cases r3
    exact ag_ofF S3 (Nat.le_trans u1.gl (Nat.le_trans u2.gl u3.gl)) fun d e => sl_v e (res_v S3 (((rB_true r1).up u2).up u3))
  | lc elt tg it kind test own =>
    rw [evF_no fun f es h => by cases h]
    simp only [evV, evE, frE]
    rw [OV.assoc]
    refine (vL CF JF it true O c M G ρv ρ S R).bind fun ds us c1 M1 G1 u1 S1 r1 => ?_
    exact (ag_lc (g := G.length) (tg := tg) (own := own) (kind := kind) S1 (R.up u1) (Paired.mapP r1 fun _ _ h => h) u1.gl (fun O c M G ρv ρ S R => vTo (T := T) CF JF test O c M G ρv ρ S R) (fun O c M G ρv ρ S R => vE (T := T) CF JF elt false O c M G ρv ρ S R)).mkF
  | bf k es =>
    cases k with
    | blist =>
      rw [evF_no fun f es h => by cases h]
      simp only [evV, evE, frE, OV.assoc]
      refine (vL CF JF es true O c M G ρv ρ S R).bind fun ds us c1 M1 G1 u1 S1 r1 => ?_
      have r1 : Paired (Rb ⟨O, c1, M1.length⟩ G1) ds us := Paired.mapP r1 fun _ _ h => h
      have h1 : bfKV T cv .blist ds M1 = ofV (bfopV .blist (ds.map (res M1))) M1 := by unfold bfKV; rfl
      have h2 : bfK T cf .blist us G1 = .of (bfop .blist us G1) := by unfold bfK; rfl
      rw [h1, h2]
      exact ag_ofF S1 u1.gl fun d e => bf_v e (paired_map r1 fun d u h => res_v S1 h)
    | _ => exact plain (fun f es h => by cases h) rfl
  | bm m o es =>
    by_cases hs : m = .split
    · subst hs
      rw [evF_no fun f es h => by cases h]
      simp only [evV, evE, frE, OV.assoc]
      refine (vE CF JF o true O c M G ρv ρ S R).bind fun d u c1 M1 G1 u1 S1 r1 => ?_
      have r1 := rB_true r1
      simp only [sbm, if_true]
      cases d <;> try trivial
      have ru := r1
      simp only [Rb, Rp] at ru
      have tyOk : tyOkM .split u G1 = true := by subst ru; rfl
      rw [if_pos tyOk]
      dsimp only
      rw [OV.assoc]
      refine (vL CF JF es true O c1 M1 G1 ρv ρ S1 (R.up u1)).bind fun ds us c2 M2 G2 u2 S2 r2 => ?_
      have r2 : Rcs ⟨O, c2, M2.length⟩ G2 (ds.map (res M2)) us := paired_map r2 fun d u h => res_v S2 h
      exact ag_ofF S2 (Nat.le_trans u1.gl u2.gl) fun d e => sbm_v e ((Rb.up u2 r1).rc) r2
    · refine plain (fun f es h => by cases h) ?_
      unfold frE
      split <;> first
        | rfl
        | (rename_i h; cases h; exact (hs rfl).elim)
        | (rename_i h; cases h)
  | _ => exact plain (fun f es h => by cases h) rfl
/-! ## statements -/
structure FrS (O0 : Nat → Prop) (g0 : Nat) (O : Nat → Prop) (c : Nat → Nat) (M : Mem) (G : Gp) (ρv : Rv) (ρ : Rho) : Prop where
  st : StO ⟨O, c, M.length⟩ M G
  sl : RSl ⟨O, c, M.length⟩ G ρv ρ
  sub : ∀ n, O0 n → O n
  ge : ∀ (i : Nat) (d : D) (n : Nat), ρv[i]? = some (some (Sl.own d)) → ρ[i]? = some (some (U.ref n)) → g0 ≤ n
  inj : ∀ (i j : Nat) (d d' : D) (n : Nat), ρv[i]? = some (some (Sl.own d)) → ρv[j]? = some (some (Sl.own d')) → ρ[i]? = some (some (U.ref n)) → ρ[j]? = some (some (U.ref n)) → i = j
  lt0 : ∀ n, O0 n → n < g0
  gl : g0 ≤ G.length
  slf : ∀ (i : Nat) (C : Str) (fs : List (Str × D)) (n : Nat), ρv[i]? = some (some (Sl.own (.ins C fs))) → ρ[i]? = some (some (U.ref n)) → n = g0
abbrev UpG (g0 : Nat) := UpX (fun n => g0 ≤ n)
def RFl (O0 : Nat → Prop) (g0 : Nat) (O : Nat → Prop) (c : Nat → Nat) (m : Nat) (G : Gp) (c' : Nat → Nat) (M' : Mem) (G' : Gp) : FlV → Fl → Prop
  | .nx ρv, .nx ρ => ∃ O', FrS O0 g0 O' c' M' G' ρv ρ ∧ Mv ⟨O, c, m⟩ G ⟨O', c', M'.length⟩ G'
  | .bk ρv, .bk ρ => ∃ O', FrS O0 g0 O' c' M' G' ρv ρ ∧ Mv ⟨O, c, m⟩ G ⟨O', c', M'.length⟩ G'
  | .ct ρv, .ct ρ => ∃ O', FrS O0 g0 O' c' M' G' ρv ρ ∧ Mv ⟨O, c, m⟩ G ⟨O', c', M'.length⟩ G'
  | .rt d b, .rt u => StO ⟨O0, c', M'.length⟩ M' G' ∧ RFr g0 ⟨O0, c', M'.length⟩ M' G' (d, b) u
  | _, _ => False
def AgS (O0 : Nat → Prop) (g0 : Nat) (O : Nat → Prop) (c : Nat → Nat) (M : Mem) (G : Gp) : OSV → OS → Prop
  | .ok fl M', h => ∃ fl' G' c', h = .ok fl' G' ∧ UpG g0 c M.length G c' M'.length G' ∧ RFl O0 g0 O c M.length G c' M' G' fl fl'
  | .exc n fs ρv M', h => ∃ ws ρ G' c' O', h = .exc n ws ρ G' ∧ UpG g0 c M.length G c' M'.length G' ∧ FrS O0 g0 O' c' M' G' ρv ρ ∧ Mv ⟨O, c, M.length⟩ G ⟨O', c', M'.length⟩ G' ∧ RpF ⟨O', c', M'.length⟩ G' fs ws
  | .stuck, _ => True
variable {O0 : Nat → Prop} {g0 : Nat} {O : Nat → Prop} {c : Nat → Nat} {M : Mem} {G : Gp} {ρv : Rv} {ρ : Rho}
theorem FrS.up {c' M' G'} (f : FrS O0 g0 O c M G ρv ρ) (u : Up c M.length G c' M'.length G') (S : StO ⟨O, c', M'.length⟩ M' G') : FrS O0 g0 O c' M' G' ρv ρ := ⟨S, f.sl.up u, f.sub, f.ge, f.inj, f.lt0, Nat.le_trans f.gl u.gl, f.slf⟩
/-- from an earlier state -/
theorem AgS.pre {O1 c1 M1 G1 v h} (u : UpG g0 c M.length G c1 M1.length G1) (m : Mv ⟨O, c, M.length⟩ G ⟨O1, c1, M1.length⟩ G1) (a : AgS O0 g0 O1 c1 M1 G1 v h) : AgS O0 g0 O c M G v h := by
  cases v with
  | stuck => trivial
  | exc n fs ρv M' =>
    obtain ⟨ws, ρ, G', c', O', e, u1, f, m1, r⟩ := a
    exact ⟨ws, ρ, G', c', O', e, u.trans u1, f, m.trans m1, r⟩
  | ok fl M' =>
    obtain ⟨fl', G', c', e, u1, r⟩ := a
    refine ⟨fl', G', c', e, u.trans u1, ?_⟩
    cases fl <;> cases fl' <;> simp only [RFl] at r ⊢
    · obtain ⟨O', f, m1⟩ := r; exact ⟨O', f, m.trans m1⟩
    · exact r
    · obtain ⟨O', f, m1⟩ := r; exact ⟨O', f, m.trans m1⟩
    · obtain ⟨O', f, m1⟩ := r; exact ⟨O', f, m.trans m1⟩
theorem UpG.refl : UpG g0 c M.length G c M.length G := Up.refl.x
theorem AgS.lift {α β : Type} {R : Fb → Mem → Gp → α → β → Prop} {v : OV α} {h : Out β} {k : α → Mem → OSV} {k' : β → Gp → OS} (a : Ag O c M G R v h) (f : FrS O0 g0 O c M G ρv ρ)
    (n : ∀ x y c' M' G', Up c M.length G c' M'.length G' → FrS O0 g0 O c' M' G' ρv ρ → R ⟨O, c', M'.length⟩ M' G' x y → AgS O0 g0 O c' M' G' (k x M') (k' y G')) : AgS O0 g0 O c M G (liftV v ρv k) (liftO h ρ k') := by
  cases v with
  | stuck => trivial
  | exc q fs M' =>
    obtain ⟨ws, G', c', e, u, s, r⟩ := a
    subst e
    exact ⟨ws, ρ, G', c', O, rfl, u.x, f.up u s, u.mv, r⟩
  | ok x M' =>
    obtain ⟨y, G', c', e, u, s, r⟩ := a
    subst e
    exact AgS.pre u.x u.mv (n x y c' M' G' u (f.up u s) r)
theorem AgS.seq {v : OSV} {h : OS} {k : Rv → Mem → OSV} {k' : Rho → Gp → OS} (a : AgS O0 g0 O c M G v h) (n : ∀ O' c' M' G' ρv' ρ', FrS O0 g0 O' c' M' G' ρv' ρ' → Mv ⟨O, c, M.length⟩ G ⟨O', c', M'.length⟩ G' → AgS O0 g0 O' c' M' G' (k ρv' M') (k' ρ' G')) : AgS O0 g0 O c M G (v.seq k) (h.seq k') := by
  cases v with
  | stuck => trivial
  | exc q fs ρv M' =>
    obtain ⟨ws, ρ, G', c', O', e, r⟩ := a
    subst e
    exact ⟨ws, ρ, G', c', O', rfl, r⟩
  | ok fl M' =>
    obtain ⟨fl', G', c', e, u, r⟩ := a
    subst e
    cases fl <;> cases fl' <;> simp only [RFl] at r
    · obtain ⟨O', f, m⟩ := r; exact AgS.pre u m (n _ _ _ _ _ _ f m)
    · exact ⟨_, G', c', rfl, u, r⟩
    · exact ⟨_, G', c', rfl, u, r⟩
    · exact ⟨_, G', c', rfl, u, r⟩
theorem AgS.nx {O'} (f : FrS O0 g0 O' c M G ρv ρ) (m : Mv ⟨O, c, M.length⟩ G ⟨O', c, M.length⟩ G) : AgS O0 g0 O c M G (.ok (.nx ρv) M) (.ok (.nx ρ) G) := ⟨_, G, c, rfl, UpG.refl, O', f, m⟩
theorem AgS.strip {v : OSV} {h : OS} (a : AgS O0 g0 O c M G v h) (hv : ∀ fl M', v = .ok fl M' → ∃ ρ, fl = .nx ρ) : AgS O0 g0 O c M G v h.strip := by
  cases v with
  | stuck => trivial
  | exc q fs ρv M' =>
    obtain ⟨ws, ρ, G', c', O', e, r⟩ := a
    subst e
    exact ⟨ws, ρ, G', c', O', rfl, r⟩
  | ok fl M' =>
    obtain ⟨ρ1, rfl⟩ := hv _ _ rfl
    obtain ⟨fl', G', c', e, u, r⟩ := a
    subst e
    cases fl' <;> simp only [RFl] at r
    exact ⟨_, G', c', rfl, u, r⟩
/-- slots are set -/
theorem own_set {i j : Nat} {d d' : D} {u : Option U} (h : (ρv.set i (some (Sl.v d)))[j]? = some (some (Sl.own d'))) : i ≠ j ∧ ρv[j]? = some (some (Sl.own d')) := by
  by_cases e : i = j
  · subst e
    by_cases hi : i < ρv.length
    · rw [List.getElem?_set_self hi] at h; cases h
    · rw [List.getElem?_eq_none (by simpa using hi)] at h; cases h
  · rw [List.getElem?_set_ne e] at h; exact ⟨e, h⟩
theorem FrS.set {i : Nat} {d : D} {u : U} (f : FrS O0 g0 O c M G ρv ρ) (r : Rp ⟨O, c, M.length⟩ G d u) : FrS O0 g0 O c M G (ρv.set i (some (.v d))) (ρ.set i (some u)) where
  st := f.st
  sl := f.sl.set r
  sub := f.sub
  lt0 := f.lt0
  gl := f.gl
  slf := fun j C fs n h1 h2 => by
    obtain ⟨e, h1⟩ := own_set (u := some u) h1
    rw [List.getElem?_set_ne e] at h2
    exact f.slf j C fs n h1 h2
  ge := fun j d' n h1 h2 => by
    obtain ⟨e, h1⟩ := own_set (u := some u) h1
    rw [List.getElem?_set_ne e] at h2
    exact f.ge j d' n h1 h2
  inj := fun j k d' d'' n h1 h2 h3 h4 => by
    obtain ⟨e, h1⟩ := own_set (u := some u) h1
    obtain ⟨e2, h2⟩ := own_set (u := some u) h2
    rw [List.getElem?_set_ne e] at h3
    rw [List.getElem?_set_ne e2] at h4
    exact f.inj j k d' d'' n h1 h2 h3 h4
end
end Z
namespace Z
open PySem PySem.Spec PyProof.Rows L2
section
variable {T : Pg} {cv : CfV} {jv : IfV} {cf : Cf} {O0 : Nat → Prop} {g0 : Nat} {O : Nat → Prop} {c : Nat → Nat} {M : Mem} {G : Gp} {ρv : Rv} {ρ : Rho}
theorem AgS.turn {v : OSV} {h : OS} {k : Rv → Mem → OSV} {k' : Rho → Gp → OS} (a : AgS O0 g0 O c M G v h) (n : ∀ O' c' M' G' ρv' ρ', FrS O0 g0 O' c' M' G' ρv' ρ' → Mv ⟨O, c, M.length⟩ G ⟨O', c', M'.length⟩ G' → AgS O0 g0 O' c' M' G' (k ρv' M') (k' ρ' G')) : AgS O0 g0 O c M G (v.turn k) (h.turn k') := by
  cases v with
  | stuck => trivial
  | exc q fs ρv M' =>
    obtain ⟨ws, ρ, G', c', O', e, r⟩ := a
    subst e
    exact ⟨ws, ρ, G', c', O', rfl, r⟩
  | ok fl M' =>
    obtain ⟨fl', G', c', e, u, r⟩ := a
    subst e
    cases fl <;> cases fl' <;> simp only [RFl] at r
    · obtain ⟨O', f, m⟩ := r; exact AgS.pre u m (n _ _ _ _ _ _ f m)
    · exact ⟨_, G', c', rfl, u, r⟩
    · exact ⟨.nx _, G', c', rfl, u, r⟩
    · obtain ⟨O', f, m⟩ := r; exact AgS.pre u m (n _ _ _ _ _ _ f m)
/-! ### handing on: a list is no one's own any more -/
theorem frz_one (f : FrS O0 g0 O c M G ρv ρ) {i : Nat} {d : D} (e : ρv[i]? = some (some (Sl.own d))) (k : seqV d = true) : ∃ O', FrS O0 g0 O' c M G (ρv.set i (some (.v d))) ρ ∧ Mv ⟨O, c, M.length⟩ G ⟨O', c, M.length⟩ G := by
  obtain ⟨n, h1, h2, h3, h4, h5⟩ := f.sl.own i d e
  have hg := f.ge i d n e h1
  have sh : ∀ k, (O k ∧ k ≠ n) → O k := fun _ h => h.1
  have mv : Mv ⟨O, c, M.length⟩ G ⟨fun k => O k ∧ k ≠ n, c, M.length⟩ G := mv_shrink sh
  obtain ⟨m, hm⟩ := isObj_mo h5
  have hi : i < ρv.length := (List.getElem?_eq_some_iff.mp e).1
  refine ⟨fun k => O k ∧ k ≠ n, ⟨f.st.shrink sh, ⟨by simp [f.sl.len], fun j d' q => ?_, fun j d' q => ?_⟩, fun k hk => ⟨f.sub k hk, fun z => by have := f.lt0 k hk; omega⟩, fun j d' n' q1 q2 => ?_, fun j k d' d'' n' q1 q2 q3 q4 => ?_, f.lt0, f.gl, fun j C fs n' q1 q2 => by
    obtain ⟨_, q1⟩ := own_set (u := none) q1; exact f.slf j C fs n' q1 q2⟩, mv⟩
  · by_cases z : i = j
    · subst z
      rw [List.getElem?_set_self hi] at q
      cases q
      exact ⟨_, h1, (h4.mv mv (fun _ h => h) h5).rp hm (fun z => z.2 rfl) h3⟩
    · rw [List.getElem?_set_ne z] at q
      obtain ⟨u, q1, q2⟩ := f.sl.v j d' q
      exact ⟨u, q1, q2.mv mv⟩
  · by_cases z : i = j
    · subst z; rw [List.getElem?_set_self hi] at q; cases q
    · rw [List.getElem?_set_ne z] at q
      obtain ⟨n', q1, q2, q3, q4, q5⟩ := f.sl.own j d' q
      exact ⟨n', q1, ⟨q2, fun w => z (f.inj i j d d' n e q h1 (w ▸ q1))⟩, q3, q4.mv mv (fun _ h => h) q5, q5⟩
  · obtain ⟨_, q1⟩ := own_set (u := none) q1; exact f.ge j d' n' q1 q2
  · obtain ⟨_, q1⟩ := own_set (u := none) q1
    obtain ⟨_, q2⟩ := own_set (u := none) q2
    exact f.inj j k d' d'' n' q1 q2 q3 q4
theorem FrS.frz : ∀ (is : List Nat) {O : Nat → Prop} {ρv : Rv}, FrS O0 g0 O c M G ρv ρ → ∃ O', FrS O0 g0 O' c M G (frz is ρv) ρ ∧ Mv ⟨O, c, M.length⟩ G ⟨O', c, M.length⟩ G
  | [], O, ρv, f => ⟨O, f, Mv.refl⟩
  | i :: is, O, ρv, f => by
    simp only [Z.frz]
    split
    · rename_i d e
      split
      · rename_i k
        obtain ⟨O1, f1, m1⟩ := frz_one f e k
        obtain ⟨O2, f2, m2⟩ := FrS.frz is f1
        exact ⟨O2, f2, m1.trans m2⟩
      · exact FrS.frz is f
    · exact FrS.frz is f
theorem AgS.frz {is : List Nat} {v : Rv → OSV} {h : OS} (f : FrS O0 g0 O c M G ρv ρ) (n : ∀ O', FrS O0 g0 O' c M G (Z.frz is ρv) ρ → AgS O0 g0 O' c M G (v (Z.frz is ρv)) h) : AgS O0 g0 O c M G (v (Z.frz is ρv)) h := by
  obtain ⟨O', f', m⟩ := f.frz is
  exact AgS.pre UpG.refl m (n O' f')
/-! ### a slot is given -/
theorem seq_obj {d : D} (h : seqV d = true) : isObj d = true := by cases d <;> simp only [seqV] at h <;> first | (cases h; done) | rfl
def Pend (g0 : Nat) (F : Fb) (G : Gp) (ρv : Rv) (ρ : Rho) (s : Sl) (u : U) : Prop := match s with
  | .v d => Rp F G d u
  | .own d => ∃ n, u = .ref n ∧ F.O n ∧ F.nst n ∧ Rc F G d (.ref n) ∧ seqV d = true ∧ g0 ≤ n ∧ ∀ (j : Nat) (d' : D), ρv[j]? = some (some (Sl.own d')) → ρ[j]? ≠ some (some (U.ref n))
theorem FrS.put {i b : Nat} {s : Sl} {u : U} (f : FrS O0 g0 O c M G ρv ρ) (hb : g0 ≤ b) (p : Pend b ⟨O, c, M.length⟩ G ρv ρ s u) : FrS O0 g0 O c M G (ρv.set i (some s)) (ρ.set i (some u)) := by
  cases s with
  | v d => exact f.set p
  | own d =>
    obtain ⟨n, rfl, p1, p2, p3, p4, p5, p6⟩ := p
    have oth : ∀ {j : Nat} {x : Sl}, i ≠ j → (ρv.set i (some (Sl.own d)))[j]? = some (some x) → ρv[j]? = some (some x) := fun h e => by rwa [List.getElem?_set_ne h] at e
    refine ⟨f.st, ⟨by simp [f.sl.len], fun j d' q => ?_, fun j d' q => ?_⟩, f.sub, fun j d' n' q1 q2 => ?_, fun j k d' d'' n' q1 q2 q3 q4 => ?_, f.lt0, f.gl, fun j C fs n' q1 q2 => ?_⟩
    · by_cases z : i = j
      · subst z
        by_cases hi : i < ρv.length
        · rw [List.getElem?_set_self hi] at q; cases q
        · rw [List.getElem?_eq_none (by simpa using hi)] at q; cases q
      · rw [List.getElem?_set_ne z]; exact f.sl.v j d' (oth z q)
    · by_cases z : i = j
      · subst z
        by_cases hi : i < ρv.length
        · rw [List.getElem?_set_self hi] at q; cases q
          exact ⟨n, List.getElem?_set_self (by rw [← f.sl.len]; exact hi), p1, p2, p3, seq_obj p4⟩
        · rw [List.getElem?_eq_none (by simpa using hi)] at q; cases q
      · rw [List.getElem?_set_ne z]; exact f.sl.own j d' (oth z q)
    · by_cases z : i = j
      · subst z
        by_cases hi : i < ρ.length
        · rw [List.getElem?_set_self hi] at q2; cases q2; exact Nat.le_trans hb p5
        · rw [List.getElem?_eq_none (by simpa using hi)] at q2; cases q2
      · rw [List.getElem?_set_ne z] at q2; exact f.ge j d' n' (oth z q1) q2
    · by_cases z : i = j
      · subst z
        by_cases w : i = k
        · exact w
        · exfalso
          rw [List.getElem?_set_ne w] at q4
          by_cases hi : i < ρ.length
          · rw [List.getElem?_set_self hi] at q3; cases q3
            exact p6 k d'' (oth w q2) q4
          · rw [List.getElem?_eq_none (by simpa using hi)] at q3; cases q3
      · by_cases w : i = k
        · subst w
          exfalso
          rw [List.getElem?_set_ne z] at q3
          by_cases hi : i < ρ.length
          · rw [List.getElem?_set_self hi] at q4; cases q4
            exact p6 j d' (oth z q1) q3
          · rw [List.getElem?_eq_none (by simpa using hi)] at q4; cases q4
        · rw [List.getElem?_set_ne z] at q3
          rw [List.getElem?_set_ne w] at q4
          exact f.inj j k d' d'' n' (oth z q1) (oth w q2) q3 q4
    · by_cases z : i = j
      · subst z
        by_cases hi : i < ρv.length
        · rw [List.getElem?_set_self hi] at q1; cases q1; cases p4
        · rw [List.getElem?_eq_none (by simpa using hi)] at q1; cases q1
      · rw [List.getElem?_set_ne z] at q2; exact f.slf j C fs n' (oth z q1) q2
/-- new places become own or the store's -/
structure Nxt (O : Nat → Prop) (c : Nat → Nat) (M : Mem) (G : Gp) (O' : Nat → Prop) (c' : Nat → Nat) (M' : Mem) (G' : Gp) : Prop where
  up : Up c M.length G c' M'.length G'
  ho : ∀ n, O' n ↔ O n ∨ (G.length ≤ n ∧ O' n)
  st : StO ⟨O', c', M'.length⟩ M' G'
theorem Nxt.mv {O' c' M' G'} (h : Nxt O c M G O' c' M' G') : Mv ⟨O, c, M.length⟩ G ⟨O', c', M'.length⟩ G' := (h.up.x (P := fun _ => False)).mv (fun n k => by rcases (h.ho n).mp k with q | q; exact .inl q; exact .inr q.1) fun _ h => h.elim
theorem Nxt.fr {O' c' M' G'} (h : Nxt O c M G O' c' M' G') (f : FrS O0 g0 O c M G ρv ρ) : FrS O0 g0 O' c' M' G' ρv ρ :=
  ⟨h.st, f.sl.upx (P := fun _ => False) h.up.x h.ho (fun _ h => h.elim), fun n k => (h.ho n).mpr (.inl (f.sub n k)), f.ge, f.inj, f.lt0, Nat.le_trans f.gl h.up.gl, f.slf⟩
theorem Nxt.pend {O' c' M' G' s u} {b : Nat} (h : Nxt O c M G O' c' M' G') (p : Pend b ⟨O, c, M.length⟩ G ρv ρ s u) : Pend b ⟨O', c', M'.length⟩ G' ρv ρ s u := by
  cases s with
  | v d => exact Rp.mv h.mv p
  | own d =>
    obtain ⟨n, rfl, p1, p2, p3, p4, p5⟩ := p
    obtain ⟨o, g⟩ := p3.at_ (seq_obj p4)
    exact ⟨n, rfl, (h.ho n).mpr (.inl p1), h.up.x.nst (P := fun _ => False) (O := O) g p2, p3.mv h.mv (fun o e => h.up.hg n o e p2) (seq_obj p4), p4, p5⟩
theorem Nxt.trans {O1 c1 M1 G1 O2 c2 M2 G2} (a : Nxt O c M G O1 c1 M1 G1) (b : Nxt O1 c1 M1 G1 O2 c2 M2 G2) : Nxt O c M G O2 c2 M2 G2 where
  up := a.up.trans b.up
  st := b.st
  ho := fun n => ⟨fun h => by
    rcases (b.ho n).mp h with q | q
    · rcases (a.ho n).mp q with r | r
      · exact .inl r
      · exact .inr ⟨r.1, h⟩
    · exact .inr ⟨Nat.le_trans a.up.gl q.1, h⟩, fun h => by
    rcases h with q | q
    · exact (b.ho n).mpr (.inl ((a.ho n).mpr (.inl q)))
    · exact q.2⟩
/-- a value for a slot: what comes of it -/
def AgP (ρv : Rv) (ρ : Rho) (O : Nat → Prop) (c : Nat → Nat) (M : Mem) (G : Gp) : OV Sl → Out U → Prop
  | .ok s M', h => ∃ u G' c' O', h = .ok u G' ∧ Nxt O c M G O' c' M' G' ∧ Pend G.length ⟨O', c', M'.length⟩ G' ρv ρ s u
  | .exc n fs M', h => ∃ ws G' c', h = .exc n ws G' ∧ Up c M.length G c' M'.length G' ∧ StO ⟨O, c', M'.length⟩ M' G' ∧ RpF ⟨O, c', M'.length⟩ G' fs ws
  | .stuck, _ => True
theorem vP (CF : CfOk cv cf) (JF : JfOk jv cf) (mode : Nat → Nat) (i : Nat) (e : Ex) (f : FrS O0 g0 O c M G ρv ρ) : AgP ρv ρ O c M G (evPV T cv jv mode i e ρv M) (evE T cf e ρ G) := by
  have A := vF (T := T) CF JF e O c M G ρv ρ f.st f.sl
  unfold evPV
  cases hv : evFV T cv jv e ρv M with
  | stuck => trivial
  | exc n fs M' => rw [hv] at A; exact A
  | ok r M' =>
    rw [hv] at A
    obtain ⟨u, G', c', e1, u1, S', r1, r2⟩ := A
    rw [e1]
    have nx0 : Nxt O c M G O c' M' G' := ⟨u1, fun n => ⟨.inl, fun h => h.elim id (·.2)⟩, S'⟩
    show AgP _ _ _ _ _ _ (prepM mode i r M') _
    have plain : AgP ρv ρ O c M G (.ok (.v r.1) M') (.ok u G') := ⟨u, G', c', O, rfl, nx0, r1⟩
    have notSlot : ∀ {n : Nat}, G.length ≤ n → ∀ (j : Nat) (d' : D), ρv[j]? = some (some (Sl.own d')) → ρ[j]? ≠ some (some (U.ref n)) := fun {n} hn j d' h1 h2 => by
      obtain ⟨n', q1, _, _, q4, q5⟩ := f.sl.own j d' h1
      rw [h2] at q1
      cases q1
      obtain ⟨o, g⟩ := q4.at_ q5
      have := ltG g
      omega
    unfold prepM
    split
    · exact plain
    · split
      · rename_i h
        obtain ⟨h1, h2⟩ := h
        have ho : isObj r.1 = true := by cases hr : r.1 <;> rw [hr] at h2 <;> simp only [seqV] at h2 <;> first | (cases h2; done) | rfl
        obtain ⟨n, e2, hn, S2, q⟩ := r2 h1 ho
        subst e2
        obtain ⟨o, g⟩ := q.at_ ho
        refine ⟨_, G', c', fun k => O k ∨ k = n, rfl, ⟨u1, fun k => ⟨fun h => ?_, fun h => h.elim .inl (·.2)⟩, S2⟩, n, rfl, .inr rfl, fun j hj z => S2.no j hj (.inr z), q, h2, hn, notSlot hn⟩
        rcases h with h | h
        · exact .inl h
        · exact .inr ⟨by omega, .inr h⟩
      · exact plain
    · split
      · rename_i h1
        split
        · rename_i o ho
          have hob : isObj r.1 = true := by cases hr : r.1 <;> rw [hr] at ho <;> simp only [moOf] at ho <;> first | (cases ho; done) | rfl
          obtain ⟨n, e2, hn, S2, q⟩ := r2 h1 hob
          subst e2
          obtain ⟨go, g⟩ := q.at_ hob
          have hlt := ltG g
          have hnO : ¬ O n := fun z => by have := f.st.lt n z; show False; have h9 : n < G.length := this; omega
          have hnst : ∀ j, j < M'.length → c' j ≠ n := fun j hj z => S2.no j hj (.inr z)
          let c2 : Nat → Nat := fun j => if j = M'.length then n else c' j
          have c2o : ∀ j, j < M'.length → c2 j = c' j := fun j hj => if_neg (Nat.ne_of_lt hj)
          have c2n : c2 M'.length = n := if_pos rfl
          have el : (M' ++ [o]).length = M'.length + 1 := by simp
          have mv2 : Mv ⟨fun k => O k ∨ k = n, c', M'.length⟩ G' ⟨O, c2, (M' ++ [o]).length⟩ G' := by
            rw [el]
            refine ⟨Nat.le_refl _, fun k hk => .inl (.inl hk), fun j hj => ?_, fun j hj => ⟨Nat.lt_succ_of_lt hj, c2o j hj⟩, fun _ _ e _ _ => e⟩
            by_cases hj2 : j < M'.length
            · exact .inl ⟨hj2, c2o j hj2⟩
            · have hj' : j < M'.length + 1 := hj
              have : j = M'.length := by omega
              subst this
              exact .inr (.inr (.inr c2n))
          have S3 : StO ⟨O, c2, (M' ++ [o]).length⟩ (M' ++ [o]) G' := by
            refine ⟨rfl, S'.lt, fun j k hj hk z => ?_, fun j hj z => ?_, fun j x hx => ?_⟩
            · have hj' : j < M'.length + 1 := by rw [← el]; exact hj
              have hk' : k < M'.length + 1 := by rw [← el]; exact hk
              have z : c2 j = c2 k := z
              by_cases a : j < M'.length
              · by_cases b : k < M'.length
                · rw [show c2 j = c' j from c2o j a, show c2 k = c' k from c2o k b] at z; exact S'.inj j k a b z
                · have : k = M'.length := by omega
                  subst this
                  exact (hnst j a (by rw [← c2o j a]; exact z.trans c2n)).elim
              · have : j = M'.length := by omega
                subst this
                by_cases b : k < M'.length
                · exact (hnst k b (by rw [← c2o k b]; exact z.symm.trans c2n)).elim
                · omega
            · have hj' : j < M'.length + 1 := by rw [← el]; exact hj
              have z : O (c2 j) := z
              by_cases a : j < M'.length
              · exact S'.no j a (by show O (c' j); rw [← c2o j a]; exact z)
              · have : j = M'.length := by omega
                subst this
                exact hnO (by rw [← c2n]; exact z)
            · by_cases a : j < M'.length
              · rw [List.getElem?_append_left a] at hx
                have := (S2.ob j x hx).mv mv2 fun _ e => e
                show RpO _ _ (c2 j) _
                rw [c2o j a]; exact this
              · have hj' : j < M'.length + 1 := by rw [← el]; exact (List.getElem?_eq_some_iff.mp hx).1
                have : j = M'.length := by omega
                subst this
                simp at hx
                subst hx
                show RpO _ _ (c2 M'.length) _
                rw [c2n]
                have q2 := q.mv mv2 (fun _ e => e) hob
                cases hr : r.1 <;> rw [hr] at ho q2 <;> simp only [moOf] at ho <;> try (cases ho; done)
                all_goals (cases ho; simp only [Rc] at q2; obtain ⟨n', us, z, g', q3⟩ := q2; cases z; exact ⟨us, g', q3⟩)
          refine ⟨_, G', c2, O, rfl, ⟨⟨u1.gl, u1.hg, by rw [el]; exact Nat.le_succ_of_le u1.ml, fun j hj => (c2o j (Nat.lt_of_lt_of_le hj u1.ml)).trans (u1.cs j hj), fun j h1 h2 => ?_⟩, fun n => ⟨.inl, fun h => h.elim id (·.2)⟩, S3⟩, ?_⟩
          · rw [el] at h2
            by_cases a : j < M'.length
            · rw [c2o j a]; exact u1.cn j h1 a
            · have : j = M'.length := by omega
              subst this
              rw [c2n]; exact hn
          · show Rp ⟨O, c2, (M' ++ [o]).length⟩ G' (.mut M'.length) (.ref n)
            simp only [Rp]
            exact ⟨by rw [el]; exact Nat.lt_succ_self _, by rw [c2n]⟩
        · trivial
      · trivial
theorem AgS.liftP {v : OV Sl} {h : Out U} {k : Sl → Mem → OSV} {k' : U → Gp → OS} (a : AgP ρv ρ O c M G v h) (f : FrS O0 g0 O c M G ρv ρ)
    (n : ∀ s u O' c' M' G', Nxt O c M G O' c' M' G' → FrS O0 g0 O' c' M' G' ρv ρ → Pend G.length ⟨O', c', M'.length⟩ G' ρv ρ s u → AgS O0 g0 O' c' M' G' (k s M') (k' u G')) : AgS O0 g0 O c M G (liftV v ρv k) (liftO h ρ k') := by
  cases v with
  | stuck => trivial
  | exc q fs M' =>
    obtain ⟨ws, G', c', e, u, s, r⟩ := a
    subst e
    exact ⟨ws, ρ, G', c', O, rfl, u.x, f.up u s, u.mv, r⟩
  | ok x M' =>
    obtain ⟨u, G', c', O', e, nx, p⟩ := a
    subst e
    exact AgS.pre nx.up.x nx.mv (n x u O' c' M' G' nx (nx.fr f) p)
/-! ### a slot's own object is written -/
theorem FrS.write {j n : Nat} {d d' : D} {o : GO} {m : MO} (f : FrS O0 g0 O c M G ρv ρ) (e : ρv[j]? = some (some (Sl.own d))) (h : ρ[j]? = some (some (U.ref n))) (hm : moOf d' = some m) (hs : ∀ C fs, d' = .ins C fs → ∃ C' fs', d = .ins C' fs') (r : RpG ⟨O, c, M.length⟩ G o m) :
    FrS O0 g0 O c M (G.set n o) (ρv.set j (some (.own d'))) ρ ∧ Mv ⟨O, c, M.length⟩ G ⟨O, c, M.length⟩ (G.set n o) ∧ UpG g0 c M.length G c M.length (G.set n o) := by
  obtain ⟨n1, h1, h2, h3, h4, h5⟩ := f.sl.own j d e
  rw [h] at h1
  cases h1
  have hg := f.ge j d n e h
  have mv : Mv ⟨O, c, M.length⟩ G ⟨O, c, M.length⟩ (G.set n o) := mv_write (F := ⟨O, c, M.length⟩) h2
  obtain ⟨o1, g1⟩ := h4.at_ h5
  have hn := ltG g1
  have hj : j < ρv.length := (List.getElem?_eq_some_iff.mp e).1
  have own : ∀ (i : Nat) (x : D), (ρv.set j (some (.own d')))[i]? = some (some (Sl.own x)) → ∃ x', ρv[i]? = some (some (Sl.own x')) := fun i x q => by
    by_cases z : j = i
    · subst z; exact ⟨d, e⟩
    · rw [List.getElem?_set_ne z] at q; exact ⟨x, q⟩
  refine ⟨⟨f.st.write (F := ⟨O, c, M.length⟩) h2, ⟨by simp [f.sl.len], fun i x q => ?_, fun i x q => ?_⟩, f.sub, fun i x n' q1 q2 => ?_, fun i k x x' n' q1 q2 q3 q4 => ?_, f.lt0, by simpa using f.gl, fun i C fs n' q1 q2 => ?_⟩, mv, ⟨by simp, fun k x q _ hk => ?_, Nat.le_refl _, fun _ _ => rfl, fun i h1 h2 => by omega⟩⟩
  · by_cases z : j = i
    · subst z; rw [List.getElem?_set_self hj] at q; cases q
    · rw [List.getElem?_set_ne z] at q
      obtain ⟨u, q1, q2⟩ := f.sl.v i x q
      exact ⟨u, q1, q2.mv mv⟩
  · by_cases z : j = i
    · subst z
      rw [List.getElem?_set_self hj] at q; cases q
      refine ⟨n, h, h2, h3, ((r.mv mv).at_ (List.getElem?_set_self hn)).rc hm, ?_⟩
      cases d' <;> simp only [moOf] at hm <;> first | (cases hm; done) | rfl
    · rw [List.getElem?_set_ne z] at q
      obtain ⟨n', q1, q2, q3, q4, q5⟩ := f.sl.own i x q
      refine ⟨n', q1, q2, q3, q4.mv mv (fun o' e' => ?_) q5, q5⟩
      rw [List.getElem?_set_ne (fun w => z (f.inj j i d x n e q h (by rw [w]; exact q1)))]; exact e'
  · obtain ⟨x', q⟩ := own i x q1; exact f.ge i x' n' q q2
  · obtain ⟨y, q5⟩ := own i x q1
    obtain ⟨y', q6⟩ := own k x' q2
    exact f.inj i k y y' n' q5 q6 q3 q4
  · by_cases z : j = i
    · subst z
      rw [List.getElem?_set_self hj] at q1
      injection q1 with q1
      injection q1 with q1
      injection q1 with q1
      obtain ⟨C', fs', hd⟩ := hs C fs q1
      subst hd
      exact f.slf j C' fs' n' e q2
    · rw [List.getElem?_set_ne z] at q1; exact f.slf i C fs n' q1 q2
  · rw [List.getElem?_set_ne (fun z => by subst z; exact hk hg)]; exact q
end
end Z
namespace Z
open PySem PySem.Spec PyProof.Rows L2
section
variable {T : Pg} {cv : CfV} {jv : IfV} {cf : Cf} {O0 : Nat → Prop} {g0 : Nat} {O : Nat → Prop} {c : Nat → Nat} {M : Mem} {G : Gp} {ρv : Rv} {ρ : Rho}
theorem lift_ok {α : Type} {m : OV α} {ρ : Rv} {k : α → Mem → OSV} {fl : FlV} {M' : Mem} (h : liftV m ρ k = .ok fl M') : ∃ a M1, k a M1 = .ok fl M' := by
  unfold liftV at h
  split at h
  · exact ⟨_, _, h⟩
  · cases h
  · cases h
theorem setSub_nx {l : Nat} {y v : D} {ρ : Rv} {M : Mem} {fl : FlV} {M' : Mem} (h : setSub l y v ρ M = .ok fl M') : ∃ ρ, fl = .nx ρ := by
  unfold setSub at h
  split at h
  · split at h
    · cases h; exact ⟨_, rfl⟩
    · cases h
  · split at h
    · cases h; exact ⟨_, rfl⟩
    · cases h
  · cases h
/-- x.m(..) of a slot's own list -/
theorem ag_own (CF : CfOk cv cf) (JF : JfOk jv cf) {m : Bm} {j : Nat} {es : List Ex} {k : D × Rv → Mem → OSV} {k' : U → Gp → OS} (f0 : FrS O0 g0 O c M G ρv ρ) (hm : sbm m = false) (hj : isOwn ρv j = true)
    (n : ∀ r u O' c' M' G', FrS O0 g0 O' c' M' G' r.2 ρ → Rp ⟨O', c', M'.length⟩ G' r.1 u → AgS O0 g0 O' c' M' G' (k r M') (k' u G')) :
    AgS O0 g0 O c M G (liftV (evLV T cv jv false es (Z.frz (escL true es) ρv) M) (Z.frz (escL true es) ρv) fun us M => liftV (ownBm m j us (Z.frz (escL true es) ρv) M) (Z.frz (escL true es) ρv) k) (liftO (evE T cf (.bm m (.loc j) es) ρ G) ρ k') := by
  have hr : ∃ nn us, ρ[j]? = some (some (U.ref nn)) ∧ G[nn]? = some (.lst us) := by
    unfold isOwn at hj
    split at hj
    · rename_i xs e
      obtain ⟨nn, h1, _, _, h4, _⟩ := f0.sl.own j _ e
      simp only [Rc] at h4
      obtain ⟨n', us, z, g, _⟩ := h4
      cases z
      exact ⟨nn, us, h1, g⟩
    · cases hj
  obtain ⟨nn, us0, hρ, hg0⟩ := hr
  have tyOk : tyOkM m (.ref nn) G = true := by
    have okl : isLst G (.ref nn) = true := by simp only [isLst, hg0]
    cases m <;> simp only [sbm] at hm <;> first
      | exact okl
      | (cases hm; done)
  have eE : evE T cf (.bm m (.loc j) es) ρ G = (evL T cf es ρ G).bind fun us G => .of (bmop m (.ref nn) us G) := by
    simp only [evE, hρ]
    dsimp only [Out.bind]
    rw [if_pos tyOk]
  rw [eE]
  refine AgS.frz (v := fun ρv => liftV (evLV T cv jv false es ρv M) ρv fun us M => liftV (ownBm m j us ρv M) ρv k) f0 fun O1 f => ?_
  generalize Z.frz (escL true es) ρv = ρ1 at f ⊢
  have A := vL (T := T) CF JF es false O1 c M G ρ1 ρ f.st f.sl
  cases hv : evLV T cv jv false es ρ1 M with
  | stuck => trivial
  | exc q fs M' =>
    rw [hv] at A
    obtain ⟨ws, G', c', e, u, s, r⟩ := A
    rw [e]
    exact ⟨ws, ρ, G', c', O1, rfl, u.x, f.up u s, u.mv, r⟩
  | ok ds M' =>
    rw [hv] at A
    obtain ⟨us, G', c', e, u, s, r⟩ := A
    rw [e]
    have f2 := f.up u s
    refine AgS.pre u.x u.mv ?_
    show AgS O0 g0 O1 c' M' G' (liftV (ownBm m j ds ρ1 M') ρ1 k) (liftO (Out.of (bmop m (.ref nn) us G')) ρ k')
    unfold ownBm
    split
    · rename_i xs e1
      obtain ⟨n', h1, h2, h3, h4, h5⟩ := f2.sl.own j _ e1
      rw [hρ] at h1
      cases h1
      simp only [Rc] at h4
      obtain ⟨n', vs, z, g, q⟩ := h4
      cases z
      split
      · rename_i rr ys e2
        obtain ⟨z, zs, q1, _, q3, q4⟩ := lm_v e2 g q (resX_v (m := m) s (Rps.iff.mpr (Paired.mapP r fun _ _ h => h)))
        rw [q1]
        obtain ⟨f3, mv3, u3⟩ := f2.write (d' := .lst ys) (o := .lst zs) (m := .lst ys) e1 hρ rfl (fun _ _ h => by cases h) q4
        exact AgS.pre u3 mv3 (n (rr, _) z O1 c' M' _ f3 (q3.mv mv3))
      · trivial
    · trivial
/-- o[i] = v -/
theorem bmOwn_eq {e : Ex} {m : Bm} {j : Nat} {es : List Ex} (h : bmOwn ρv e = some (m, j, es)) : e = .bm m (.loc j) es ∧ sbm m = false ∧ isOwn ρv j = true := by
  unfold bmOwn at h
  split at h
  · split at h
    · rename_i q
      cases h
      simp only [Bool.and_eq_true, Bool.not_eq_true'] at q
      exact ⟨rfl, q.1, q.2⟩
    · cases h
  · cases h
theorem ag_sub (CF : CfOk cv cf) (JF : JfOk jv cf) {l : Nat} {i : Ex} {x : D} {u : U} (f : FrS O0 g0 O c M G ρv ρ) (r : Rp ⟨O, c, M.length⟩ G x u) :
    AgS O0 g0 O c M G (asgV T cv jv (.sub (.loc l) i) x ρv M) (asgT T cf (.sub (.loc l) i) u ρ G) := by
  simp only [asgV]
  split
  · rename_i hs
    have hr : ∃ nn, ρ[l]? = some (some (U.ref nn)) := by
      unfold subOk at hs
      split at hs
      · rename_i d e; obtain ⟨nn, h1, _⟩ := f.sl.own l _ e; exact ⟨nn, h1⟩
      · rename_i j e; obtain ⟨u, h1, h2⟩ := f.sl.v l _ e; simp only [Rp] at h2; obtain ⟨_, rfl⟩ := h2; exact ⟨_, h1⟩
      · cases hs
    obtain ⟨nn, hρ⟩ := hr
    simp only [asgT, evE, hρ, liftO]
    refine AgS.lift (vE (T := T) CF JF i true O c M G ρv ρ f.st f.sl) f fun y w c' M' G' u1 f1 ry => ?_
    have ry := (rB_true ry).rc
    have rx := r.mv u1.mv
    unfold setSub
    split
    · rename_i d e
      split
      · rename_i d' e2
        obtain ⟨n', h1, h2, h3, h4, h5⟩ := f1.sl.own l _ e
        rw [hρ] at h1
        cases h1
        obtain ⟨o, mo, q1, q2, q3, q4⟩ := set_v e2 h4 ry rx
        rw [q1]
        obtain ⟨f3, mv3, u3⟩ := f1.write (d' := d') e hρ q2 (fun _ _ h => by subst h; cases q4) q3
        exact AgS.pre u3 mv3 (AgS.nx f3 Mv.refl)
      · trivial
    · rename_i j e
      obtain ⟨u2, h1, h2⟩ := f1.sl.v l _ e
      rw [hρ] at h1
      cases h1
      simp only [Rp] at h2
      obtain ⟨hj, z⟩ := h2
      cases z
      split
      · rename_i o e2
        obtain ⟨mo, q1, q2⟩ := Option.bind_eq_some_iff.mp e2
        have ob := f1.st.ob j mo q1
        have hM : j < M'.length := hj
        have key : ∃ go, setItem' (.ref (c' j)) w u G' = some (G'.set (c' j) go) ∧ RpG ⟨O, c', M'.length⟩ G' go o := by
          cases mo with
          | ins C fs => cases q2
          | lst xs =>
            obtain ⟨d', p1, p2⟩ := Option.bind_eq_some_iff.mp q2
            obtain ⟨us, g, h⟩ := ob
            obtain ⟨go, m2, z1, z2, z3, _⟩ := set_v (F := ⟨O, c', M'.length⟩) (n := c' j) p1 (by simp only [Rc]; exact ⟨_, us, rfl, g, h⟩) ry rx
            rw [z2] at p2; cases p2
            exact ⟨go, z1, z3⟩
          | dK xs =>
            obtain ⟨d', p1, p2⟩ := Option.bind_eq_some_iff.mp q2
            obtain ⟨us, g, h⟩ := ob
            obtain ⟨go, m2, z1, z2, z3, _⟩ := set_v (F := ⟨O, c', M'.length⟩) (n := c' j) p1 (by simp only [Rc]; exact ⟨_, us, rfl, g, h⟩) ry rx
            rw [z2] at p2; cases p2
            exact ⟨go, z1, z3⟩
        obtain ⟨go, k1, k2⟩ := key
        rw [k1]
        have up := up_set (c := c') (G := G') (o := go) (m := o) hM
        have S2 := f1.st.put hM k2
        have f2 : FrS O0 g0 O c' (M'.set j o) (G'.set (c' j) go) ρv ρ := f1.up up S2
        have mv : Mv ⟨O, c', M'.length⟩ G' ⟨O, c', (M'.set j o).length⟩ (G'.set (c' j) go) := up.mv
        exact AgS.pre up.x mv (AgS.nx f2 Mv.refl)
      · trivial
    · trivial
  · trivial
mutual
theorem ag_asg (CF : CfOk cv cf) (JF : JfOk jv cf) : ∀ (t : TX) (O : Nat → Prop) (c : Nat → Nat) (M : Mem) (G : Gp) (ρv : Rv) (ρ : Rho) (x : D) (u : U), FrS O0 g0 O c M G ρv ρ → Rp ⟨O, c, M.length⟩ G x u → AgS O0 g0 O c M G (asgV T cv jv t x ρv M) (asgT T cf t u ρ G) ∧ ∀ fl M', asgV T cv jv t x ρv M = .ok fl M' → ∃ ρ, fl = .nx ρ
  | .nm i, O, c, M, G, ρv, ρ, x, u, f, r => by
    simp only [asgV, asgT]
    exact ⟨AgS.nx (f.set r) Mv.refl, fun fl M' h => by cases h; exact ⟨_, rfl⟩⟩
  | .sub o i, O, c, M, G, ρv, ρ, x, u, f, r => by
    by_cases ho : ∃ l, o = .loc l
    · obtain ⟨l, rfl⟩ := ho
      refine ⟨ag_sub CF JF f r, fun fl M' h => ?_⟩
      simp only [asgV] at h
      split at h
      · obtain ⟨a, M1, h⟩ := lift_ok h
        exact setSub_nx h
      · cases h
    · have : asgV T cv jv (.sub o i) x ρv M = .stuck := by
        cases o <;> first
          | (exact (ho ⟨_, rfl⟩).elim)
          | (simp only [asgV])
      rw [this]
      exact ⟨trivial, fun fl M' h => by cases h⟩
  | .tp ts, O, c, M, G, ρv, ρ, x, u, f, r => by
    cases x <;> (simp only [asgV]; try exact ⟨trivial, fun fl M' h => by cases h⟩)
    rename_i ds
    simp only [Rp] at r
    obtain ⟨us, rfl, h⟩ := r
    simp only [asgT]
    rw [h.len]
    split
    · exact ag_asgs CF JF ts O c M G ρv ρ ds us f h
    · exact ⟨trivial, fun fl M' h => by cases h⟩
theorem ag_asgs (CF : CfOk cv cf) (JF : JfOk jv cf) : ∀ (ts : List TX) (O : Nat → Prop) (c : Nat → Nat) (M : Mem) (G : Gp) (ρv : Rv) (ρ : Rho) (xs : List D) (us : List U), FrS O0 g0 O c M G ρv ρ → Rps ⟨O, c, M.length⟩ G xs us → AgS O0 g0 O c M G (asgsV T cv jv ts xs ρv M) (asgTs T cf ts us ρ G) ∧ ∀ fl M', asgsV T cv jv ts xs ρv M = .ok fl M' → ∃ ρ, fl = .nx ρ
  | [], O, c, M, G, ρv, ρ, xs, us, f, r => by
    simp only [asgsV, asgTs]
    exact ⟨AgS.nx f Mv.refl, fun fl M' h => by cases h; exact ⟨_, rfl⟩⟩
  | t :: ts, O, c, M, G, ρv, ρ, [], us, f, r => by
    simp only [Rps] at r
    subst r
    simp only [asgsV, asgTs]
    exact ⟨AgS.nx f Mv.refl, fun fl M' h => by cases h; exact ⟨_, rfl⟩⟩
  | t :: ts, O, c, M, G, ρv, ρ, x :: xs, us, f, r => by
    simp only [Rps] at r
    obtain ⟨u, r', rfl, h1, h2⟩ := r
    simp only [asgsV, asgTs]
    obtain ⟨a1, a2⟩ := ag_asg CF JF t O c M G ρv ρ x u f h1
    refine ⟨a1.seq fun O' c' M' G' ρv' ρ' f' m => (ag_asgs CF JF ts O' c' M' G' ρv' ρ' xs r' f' (h2.mv m)).1, fun fl M' h => ?_⟩
    cases hv : asgV T cv jv t x ρv M with
    | stuck => rw [hv] at h; cases h
    | exc q fs ρ2 M2 => rw [hv] at h; cases h
    | ok fl2 M2 =>
      obtain ⟨ρ3, rfl⟩ := a2 _ _ hv
      rw [hv] at h
      exact asgs_nx ts xs ρ3 M2 fl M' h
theorem asgs_nx : ∀ (ts : List TX) (xs : List D) (ρ : Rv) (M : Mem) (fl : FlV) (M' : Mem), asgsV T cv jv ts xs ρ M = .ok fl M' → ∃ ρ, fl = .nx ρ
  | [], xs, ρ, M, fl, M', h => by simp only [asgsV] at h; cases h; exact ⟨_, rfl⟩
  | t :: ts, [], ρ, M, fl, M', h => by simp only [asgsV] at h; cases h; exact ⟨_, rfl⟩
  | t :: ts, x :: xs, ρ, M, fl, M', h => by
    simp only [asgsV] at h
    cases hv : asgV T cv jv t x ρ M with
    | stuck => rw [hv] at h; cases h
    | exc q fs ρ2 M2 => rw [hv] at h; cases h
    | ok fl2 M2 =>
      rw [hv] at h
      cases fl2 with
      | nx ρ3 => exact asgs_nx ts xs ρ3 M2 fl M' h
      | rt d b =>
        exfalso
        exact asg_rt t x ρ M (.rt d b) M2 hv (fun ρ z => by cases z)
      | bk ρ3 =>
        exfalso
        exact asg_rt t x ρ M (.bk ρ3) M2 hv (fun ρ z => by cases z)
      | ct ρ3 =>
        exfalso
        exact asg_rt t x ρ M (.ct ρ3) M2 hv (fun ρ z => by cases z)
theorem asg_rt : ∀ (t : TX) (x : D) (ρ : Rv) (M : Mem) (fl : FlV) (M' : Mem), asgV T cv jv t x ρ M = .ok fl M' → (∀ ρ, fl ≠ .nx ρ) → False
  | .nm i, x, ρ, M, fl, M', h, k => by simp only [asgV] at h; cases h; exact k _ rfl
  | .sub o i, x, ρ, M, fl, M', h, k => by
    cases o <;> simp only [asgV] at h <;> try (cases h; done)
    split at h
    · obtain ⟨a, M1, h⟩ := lift_ok h
      obtain ⟨ρ2, z⟩ := setSub_nx h
      exact k _ z
    · cases h
  | .tp ts, x, ρ, M, fl, M', h, k => by
    cases x <;> simp only [asgV] at h <;> try (cases h; done)
    split at h
    · obtain ⟨ρ2, z⟩ := asgs_nx ts _ ρ M fl M' h
      exact k _ z
    · cases h
end
end
end Z
namespace Z
open PySem PySem.Spec PyProof.Rows L2
section
variable {T : Pg} {cv : CfV} {jv : IfV} {cf : Cf} {O0 : Nat → Prop} {g0 : Nat} {O : Nat → Prop} {c : Nat → Nat} {M : Mem} {G : Gp} {ρv : Rv} {ρ : Rho}
theorem for_v {tg : Tg} {bv : Rv → Mem → OSV} {bh : Rho → Gp → OS} {it : ItV} {J0 : List D} {Ob : Nat → Prop} {cb : Nat → Nat} {mb : Nat} {Gb : Gp} (hI : RIt (Rp ⟨Ob, cb, mb⟩ Gb) it J0)
    (hb : ∀ O c M G ρv ρ, FrS O0 g0 O c M G ρv ρ → AgS O0 g0 O c M G (bv ρv M) (bh ρ G)) : ∀ (J : List D) (i m : Nat) (O : Nat → Prop) (c : Nat → Nat) (M : Mem) (G : Gp) (ρv : Rv) (ρ : Rho), J0.drop i = J → J.length < m → FrS O0 g0 O c M G ρv ρ →
      Mv ⟨Ob, cb, mb⟩ Gb ⟨O, c, M.length⟩ G → AgS O0 g0 O c M G (forV tg bv J ρv M) (forL it tg bh m i ρ G) := by
  intro J
  induction J with
  | nil =>
    intro i m O c M G ρv ρ hJ hm f mv
    cases m with
    | zero => omega
    | succ m =>
      have hn : J0[i]? = none := by rw [List.getElem?_eq_none_iff]; exact List.drop_eq_nil_iff.mp hJ
      have hIt := item_v (hI.mono fun d u h => (Rp.mv mv h).rb.rc) i
      rw [hn] at hIt
      simp only [forV, forL, hIt]
      exact AgS.nx f Mv.refl
  | cons x r ih =>
    intro i m O c M G ρv ρ hJ hm f mv
    cases m with
    | zero => simp at hm
    | succ m =>
      have hn : J0[i]? = some x := by have := congrArg (fun l => l[0]?) hJ; simpa using this
      have hr : J0.drop (i + 1) = r := by have := congrArg (fun l => l.drop 1) hJ; simpa [Nat.add_comm] using this
      have hIt := item_v (hI.mono fun d u h => (Rp.mv mv h).rb.rc) i
      rw [hn] at hIt
      obtain ⟨u, hu1, hu2⟩ := hIt
      simp only [forV, forL, hu1]
      cases ha : assignV tg x ρv with
      | none => trivial
      | some ρ1 =>
        have key : ∃ ρ', assignU tg u ρ = some ρ' ∧ FrS O0 g0 O c M G ρ1 ρ' := by
          unfold assignV at ha
          split at ha
          · cases ha; exact ⟨_, rfl, f.set hu2⟩
          · simp only [Rp] at hu2
            obtain ⟨us, rfl, h⟩ := hu2
            have go : ∀ {is : List Nat} {ds : List D} {us : List U} {ρv ρv' : Rv} {ρ : Rho}, setAllV is ds ρv = some ρv' → FrS O0 g0 O c M G ρv ρ → Rps ⟨O, c, M.length⟩ G ds us → ∃ ρ', setAll is us ρ = some ρ' ∧ FrS O0 g0 O c M G ρv' ρ' := by
              intro is
              induction is with
              | nil =>
                intro ds us ρv ρv' ρ e f r
                cases ds with
                | nil => simp only [Rps] at r; subst r; simp only [setAllV, Option.some.injEq] at e; subst e; exact ⟨ρ, rfl, f⟩
                | cons d ds => simp [setAllV] at e
              | cons i is ih2 =>
                intro ds us ρv ρv' ρ e f r
                cases ds with
                | nil => simp [setAllV] at e
                | cons d ds =>
                  simp only [Rps] at r
                  obtain ⟨u, q, rfl, h1, h2⟩ := r
                  exact ih2 e (f.set h1) h2
            exact go ha f h
          · cases ha
        obtain ⟨ρ', e1, f1⟩ := key
        rw [e1]
        dsimp only
        exact (hb O c M G ρ1 ρ' f1).turn fun O' c' M' G' ρv' ρ'' f' mv' => ih (i + 1) m O' c' M' G' ρv' ρ'' hr (by simp at hm; omega) f' (mv.trans mv')
theorem whl_v {tv : Rv → Mem → OV Bool} {th : Rho → Gp → Out Bool} {bv : Rv → Mem → OSV} {bh : Rho → Gp → OS} {is : List Nat} (ht : ∀ O c M G ρv ρ, StO ⟨O, c, M.length⟩ M G → RSl ⟨O, c, M.length⟩ G ρv ρ → Ag O c M G eqR (tv ρv M) (th ρ G))
    (hb : ∀ O c M G ρv ρ, FrS O0 g0 O c M G ρv ρ → AgS O0 g0 O c M G (bv ρv M) (bh ρ G)) : ∀ (m : Nat) (O : Nat → Prop) (c : Nat → Nat) (M : Mem) (G : Gp) (ρv : Rv) (ρ : Rho), FrS O0 g0 O c M G ρv ρ → AgS O0 g0 O c M G (whlV tv bv (frz is) m ρv M) (whlL th bh m ρ G)
  | 0, O, c, M, G, ρv, ρ, f => by simp only [whlV]; trivial
  | m + 1, O, c, M, G, ρv, ρ, f => by
    simp only [whlV, whlL]
    refine AgS.frz (v := fun ρv => liftV (tv ρv M) ρv fun b M => if b = true then (bv ρv M).turn fun ρ M => whlV tv bv (frz is) m ρ M else .ok (.nx ρv) M) f fun O1 f1 => ?_
    generalize frz is ρv = ρ1 at f1 ⊢
    refine AgS.lift (ht O1 c M G ρ1 ρ f1.st f1.sl) f1 fun k k' c' M' G' u f2 r => ?_
    cases r
    cases k with
    | false => exact AgS.nx f2 Mv.refl
    | true => exact (hb O1 c' M' G' ρ1 ρ f2).turn fun O' c' M' G' ρv' ρ'' f' mv' => whl_v ht hb m O' c' M' G' ρv' ρ'' f'
theorem ag_ret (CF : CfOk cv cf) (JF : JfOk jv cf) (e : Ex) (f : FrS O0 g0 O c M G ρv ρ) : AgS O0 g0 O c M G (liftV (evFV T cv jv e (frz (escE true e) ρv) M) (frz (escE true e) ρv) fun x M => .ok (retM ρv e x) M) (liftO (evE T cf e ρ G) ρ fun x G => .ok (.rt x) G) := by
  have gen : ∀ {b : D × Bool → Bool}, (∀ r, b r = true → r.2 = true) → AgS O0 g0 O c M G (liftV (evFV T cv jv e (frz (escE true e) ρv) M) (frz (escE true e) ρv) fun x M => .ok (.rt x.1 (b x)) M) (liftO (evE T cf e ρ G) ρ fun x G => .ok (.rt x) G) := fun {b} hb => by
    refine AgS.frz (v := fun ρ1 => liftV (evFV T cv jv e ρ1 M) ρ1 fun x M => .ok (.rt x.1 (b x)) M) f fun O1 f1 => ?_
    refine AgS.lift (vF (T := T) CF JF e O1 c M G _ ρ f1.st f1.sl) f1 fun r u c' M' G' u1 f2 hr => ?_
    obtain ⟨r1, r2⟩ := hr
    refine ⟨_, G', c', rfl, UpG.refl, f2.st.shrink f2.sub, Rp.mv (mv_shrink f2.sub) r1, fun h1 h2 => ?_⟩
    obtain ⟨n, e1, hn, S2, q⟩ := r2 (hb r h1) h2
    have sh : ∀ k, (O0 k ∨ k = n) → (O1 k ∨ k = n) := fun k h => h.elim (fun h => .inl (f2.sub k h)) .inr
    refine ⟨n, e1, Nat.le_trans f1.gl hn, StO.shrink sh S2, ?_⟩
    subst e1
    exact Rc.mv (mv_shrink sh) (fun _ h => h) h2 q
  cases e with
  | loc i =>
    by_cases ho : ∃ d, ρv[i]? = some (some (Sl.own d)) ∧ seqV d = true
    · obtain ⟨d, e1, e2⟩ := ho
      have hi : i < ρv.length := (List.getElem?_eq_some_iff.mp e1).1
      obtain ⟨n, h1, h2, h3, h4, h5⟩ := f.sl.own i d e1
      have hg := f.ge i d n e1 h1
      obtain ⟨m, hm⟩ := isObj_mo h5
      have ef : frz (escE true (.loc i)) ρv = ρv.set i (some (.v d)) := by
        simp only [escE, if_true, frz, e1, e2]
      have hr : retM ρv (.loc i) (d, false) = .rt d true := by simp only [retM, e1, e2]
      rw [ef]
      have hv : evFV T cv jv (.loc i) (ρv.set i (some (.v d))) M = .ok (d, false) M := by
        simp only [evFV, evV, List.getElem?_set_self hi, locV, OV.bind, frE]
      rw [hv]
      simp only [evE, h1]
      show AgS O0 g0 O c M G (.ok (retM ρv (.loc i) (d, false)) M) (.ok (.rt (.ref n)) G)
      rw [hr]
      have shO : ∀ k, (O0 k ∨ k = n) → O k := fun k h => h.elim (f.sub k) fun h => h ▸ h2
      have hnO0 : ¬ O0 n := fun z => by have := f.lt0 n z; omega
      refine ⟨_, G, c, rfl, UpG.refl, f.st.shrink f.sub, Rc.rp (Rc.mv (mv_shrink f.sub) (fun _ h => h) h5 h4) hm hnO0 h3, fun _ _ => ⟨n, rfl, hg, StO.shrink shO f.st, Rc.mv (mv_shrink shO) (fun _ h => h) h5 h4⟩⟩
    · have : ∀ x, retM ρv (.loc i) x = .rt x.1 false := fun x => by
        unfold retM
        congr 1
        dsimp only
        split
        · rename_i d e
          cases hs : seqV d with
          | false => rfl
          | true => exact (ho ⟨d, e, hs⟩).elim
        · rfl
      simp only [this]
      exact gen (b := fun _ => false) fun r h => by cases h
  | _ => exact gen (b := fun x => x.2) fun r h => h
end
theorem prI_u {F : Fb} {G : Gp} {ds : List D} {us : List U} (r : Rps F G ds us) (h : prID ds = true) : prI us = true := by
  unfold prID at h
  split at h
  · simp only [Rps, Rp] at r
    obtain ⟨u, w, rfl, rfl, rfl⟩ := r
    exact h
  · cases h
theorem prD_u {F : Fb} {G : Gp} {d : D} {u : U} (r : Rp F G d u) (h : prD d = true) : prU G u = true := by
  cases d with
  | non => simp only [Rp] at r; rw [r]; rfl
  | bl b => simp only [Rp] at r; rw [r]; rfl
  | int i => simp only [Rp] at r; rw [r]; exact h
  | str y => simp only [Rp] at r; rw [r]; exact h
  | tup ds => simp only [Rp] at r; obtain ⟨us, rfl, q⟩ := r; exact prI_u q h
  | fro ds => simp only [Rp] at r; obtain ⟨us, rfl, q⟩ := r; exact prI_u q h
  | lst ds => simp only [Rp] at r; obtain ⟨n, us, rfl, _, _, g, q⟩ := r; simp only [prU, g]; exact prI_u q h
  | _ => cases h
theorem prD_U {F : Fb} {G : Gp} {ds : List D} {us : List U} (r : Paired (Rp F G) ds us) (h : ds.all prD = true) : us.all (prU G) = true := by
  induction r with
  | nil => rfl
  | cons a _ ih =>
    simp only [List.all_cons, Bool.and_eq_true] at h ⊢
    exact ⟨prD_u a h.1, ih h.2⟩
theorem zip_RF {F : Fb} {G : Gp} {tag : Str} {ds : List D} {us : List U} (r : Paired (Rp F G) ds us) : ∀ {flds : List Str}, RpF F G (flds.zip ds ++ [((("tag" : Str), D.str tag) : Str × D)]) (flds.zip us ++ [((("tag" : Str), U.str tag) : Str × U)]) := by
  have base : RpF F G [((("tag" : Str), D.str tag) : Str × D)] [((("tag" : Str), U.str tag) : Str × U)] := by
    simp only [RpF]
    exact ⟨_, _, rfl, by simp only [Rp], rfl⟩
  induction r with
  | nil => intro flds; simpa using base
  | cons a _ ih =>
    intro flds
    cases flds with
    | nil => simpa using base
    | cons x fl =>
      simp only [List.zip_cons_cons, List.cons_append, RpF]
      exact ⟨_, _, rfl, a, ih⟩
mutual
theorem vS {T : Pg} {cv : CfV} {jv : IfV} {cf : Cf} {O0 : Nat → Prop} {g0 : Nat} {mode : Nat → Nat} (CF : CfOk cv cf) (JF : JfOk jv cf) : ∀ (s : Sx) (O : Nat → Prop) (c : Nat → Nat) (M : Mem) (G : Gp) (ρv : Rv) (ρ : Rho), FrS O0 g0 O c M G ρv ρ → AgS O0 g0 O c M G (evVS T cv jv mode s ρv M) (evS T cf s ρ G)
  | .set i e, O, c, M, G, ρv, ρ, f => by
    simp only [evVS, evS]
    split
    · rename_i m j es h
      obtain ⟨rfl, h1, h2⟩ := bmOwn_eq h
      exact ag_own CF JF f h1 h2 fun r u O' c' M' G' f' r' => AgS.nx (f'.set r') Mv.refl
    · refine AgS.frz (v := fun ρv => liftV (evPV T cv jv mode i e ρv M) ρv fun x M => .ok (.nx (ρv.set i (some x))) M) f fun O1 f1 => ?_
      exact AgS.liftP (vP CF JF mode i e f1) f1 fun s u O' c' M' G' nx f' p => AgS.nx (f'.put f1.gl p) Mv.refl
  | .asg t e, O, c, M, G, ρv, ρ, f => by
    simp only [evVS, evS]
    refine AgS.frz (v := fun ρv => liftV (evV T cv jv false e ρv M) ρv fun x M => asgV T cv jv t x ρv M) f fun O1 f1 => ?_
    refine AgS.lift (vE (T := T) CF JF e false O1 c M G _ ρ f1.st f1.sl) f1 fun x u c' M' G' u1 f2 r => ?_
    obtain ⟨a1, a2⟩ := ag_asg CF JF t O1 c' M' G' _ ρ x u f2 (rB_false r)
    exact a1.strip a2
  | .par i j a b, O, c, M, G, ρv, ρ, f => by
    simp only [evVS, evS]
    refine AgS.frz (v := fun ρv => liftV (evPV T cv jv mode i a ρv M) ρv fun x M => liftV (evPV T cv jv mode j b ρv M) ρv fun y M => if i ≠ j then .ok (.nx ((ρv.set i (some x)).set j (some y))) M else .stuck) f fun O1 f1 => ?_
    generalize frz (escE true a ++ escE true b) ρv = ρ1 at f1 ⊢
    have e1 : evL T cf [a, b] ρ G = (evE T cf a ρ G).bind fun x G => (evE T cf b ρ G).bind fun y G => .ok [x, y] G := by
      simp only [evL]
      cases evE T cf a ρ G with
      | ok x G1 => dsimp only [Out.bind]; cases evE T cf b ρ G1 <;> rfl
      | exc _ _ _ => rfl
      | stuck => rfl
    rw [e1]
    have e2 : ∀ (k : List U → Gp → OS), liftO ((evE T cf a ρ G).bind fun x G => (evE T cf b ρ G).bind fun y G => .ok [x, y] G) ρ k = liftO (evE T cf a ρ G) ρ fun x G => liftO (evE T cf b ρ G) ρ fun y G => k [x, y] G := fun k => by
      cases evE T cf a ρ G with
      | ok x G1 => dsimp only [Out.bind, liftO]; cases evE T cf b ρ G1 <;> rfl
      | exc _ _ _ => rfl
      | stuck => rfl
    rw [e2]
    refine AgS.liftP (vP CF JF mode i a f1) f1 fun s u O' c' M' G' nx f' p => ?_
    refine AgS.liftP (vP CF JF mode j b f') f' fun s2 u2 O2 c2 M2 G2 nx2 f2 p2 => ?_
    have p' := nx2.pend p
    dsimp only
    split
    · rename_i hij
      refine AgS.nx (FrS.put (f2.put f1.gl p') f'.gl ?_) Mv.refl
      cases s2 with
      | v d => exact p2
      | own d =>
        obtain ⟨n, rfl, q1, q2, q3, q4, q5, q6⟩ := p2
        refine ⟨n, rfl, q1, q2, q3, q4, q5, fun k d' h1 h2 => ?_⟩
        by_cases z : i = k
        · subst z
          rw [List.getElem?_set] at h1 h2
          simp only [if_true] at h1 h2
          split at h1
          · split at h2
            · cases h1
              have h2 : U.ref n = u := by cases h2; rfl
              obtain ⟨n', z1, z2, z3, z4, z5, z6, z7⟩ := p
              rw [z1] at h2
              cases h2
              obtain ⟨o, g⟩ := z4.at_ (seq_obj z5)
              have := ltG g
              omega
            · cases h2
          · cases h1
        · rw [List.getElem?_set_ne z] at h1 h2
          exact q6 k d' h1 h2
    · trivial
  | .par3 i j l a b d, O, c, M, G, ρv, ρ, f => by
    simp only [evVS, evS]
    refine AgS.frz (v := fun ρv => liftV (evLV T cv jv false [a, b, d] ρv M) ρv fun us M => match us with
      | [x, y, z] => .ok (.nx (((ρv.set i (some (.v x))).set j (some (.v y))).set l (some (.v z)))) M
      | _ => .stuck) f fun O1 f1 => ?_
    refine AgS.lift (vL (T := T) CF JF [a, b, d] false O1 c M G _ ρ f1.st f1.sl) f1 fun ds us c' M' G' u1 f2 r => ?_
    have r : Rps ⟨O1, c', M'.length⟩ G' ds us := Rps.iff.mpr (Paired.mapP r fun _ _ h => h)
    split
    · obtain ⟨x', us, rfl, r1, r⟩ := (by simpa only [Rps] using r)
      obtain ⟨y', us, rfl, r2, r⟩ := r
      obtain ⟨z', us, rfl, r3, rfl⟩ := r
      exact AgS.nx (((f2.set r1).set r2).set r3) Mv.refl
    · trivial
  | .seta o fl e, O, c, M, G, ρv, ρ, f => by
    simp only [evVS, evS]
    refine AgS.frz (is := escE true e) (v := fun ρv => liftV (evV T cv jv false e ρv M) ρv fun v M => match o with
      | .loc i => match (ρv[i]? : Option (Option Sl)) with
        | some (some (.own (.ins C fs))) => if fs.length < 1000 ∧ T.fld C fl = true then .ok (.nx (ρv.set i (some (.own (.ins C (putV fl v fs)))))) M else .stuck
        | some (some (.v (.mut j))) => match M[j]? with
          | some (.ins C fs) => if fs.length < 1000 ∧ T.fld C fl = true then .ok (.nx ρv) (M.set j (.ins C (putV fl v fs))) else .stuck
          | _ => .stuck
        | _ => .stuck
      | _ => .stuck) f fun O1 f1 => ?_
    generalize frz (escE true e) ρv = ρ1 at f1 ⊢
    refine AgS.lift (vE (T := T) CF JF e false O1 c M G _ ρ f1.st f1.sl) f1 fun x u c' M' G' u1 f2 r => ?_
    have r := rB_false r
    split
    · rename_i i
      split
      · rename_i C fs e1
        split
        · rename_i hh
          obtain ⟨n, h1, h2, h3, h4, h5⟩ := f2.sl.own i _ e1
          simp only [Rc] at h4
          obtain ⟨n', ws, z, g, q⟩ := h4
          cases z
          obtain ⟨f3, mv3, u3⟩ := f2.write (d' := .ins C (putV fl x fs)) (o := .ins C (putU fl u ws)) (m := .ins C (putV fl x fs)) e1 h1 rfl (fun _ _ _ => ⟨_, _, rfl⟩) ⟨rfl, q.put fl r⟩
          rw [q.len] at hh
          simp only [evE, h1, liftO, g]
          rw [if_pos hh]
          exact AgS.pre u3 mv3 (AgS.nx f3 Mv.refl)
        · trivial
      · rename_i j e1
        obtain ⟨u2, h1, h2⟩ := f2.sl.v i _ e1
        simp only [Rp] at h2
        obtain ⟨hj, rfl⟩ := h2
        have hM : j < M'.length := hj
        split
        · rename_i C fs e2
          obtain ⟨ws, g, q⟩ := f2.st.ob j _ e2
          split
          · rename_i hh
            rw [q.len] at hh
            simp only [evE, h1, liftO]
            rw [show G'[c' j]? = _ from g]
            dsimp only
            rw [if_pos hh]
            have up := up_set (c := c') (G := G') (o := .ins C (putU fl u ws)) (m := .ins C (putV fl x fs)) hM
            have S2 := f2.st.put hM (o := .ins C (putU fl u ws)) (m := .ins C (putV fl x fs)) ⟨rfl, q.put fl r⟩
            have f3 : FrS O0 g0 O1 c' (M'.set j (.ins C (putV fl x fs))) (G'.set (c' j) (.ins C (putU fl u ws))) ρ1 ρ := f2.up up S2
            exact AgS.pre up.x up.mv (AgS.nx f3 Mv.refl)
          · trivial
        · trivial
      · trivial
    · trivial
  | .star i j e, O, c, M, G, ρv, ρ, f => by
    simp only [evVS, evS]
    refine AgS.frz (is := escE true e) (v := fun ρv => liftV (evV T cv jv false e ρv M) ρv fun x M => match x with
      | .tup (u :: us) => if us.length < 16384 then .ok (.nx ((ρv.set i (some (.v u))).set j (some (.v (.lst us))))) M else .stuck
      | _ => .stuck) f fun O1 f1 => ?_
    refine AgS.lift (vE (T := T) CF JF e false O1 c M G _ ρ f1.st f1.sl) f1 fun x u c' M' G' u1 f2 r => ?_
    replace r := rB_false r
    split
    · rename_i d ds
      simp only [Rp] at r
      obtain ⟨us, rfl, r⟩ := r
      simp only [Rps] at r
      obtain ⟨w, ws, rfl, r1, r2⟩ := r
      rw [r2.len]
      split
      · rename_i hh
        dsimp only
        rw [if_pos hh]
        have up : Up c' M'.length G' c' M'.length (G' ++ [.lst ws]) := up_push
        have f3 : FrS O0 g0 O1 c' M' (G' ++ [.lst ws]) _ ρ := f2.up up f2.st.push
        have m := Made.fr (g := 0) f2.st (Made.new (d := .lst ds) (o := .lst ws) rfl r2) (Nat.zero_le _) false (fun h => by cases h)
        exact AgS.pre up.x up.mv (AgS.nx ((f3.set (r1.mv up.mv)).set m.2.2.1) Mv.refl)
      · trivial
    · trivial
  | .aug i op e, O, c, M, G, ρv, ρ, f => by
    simp only [evVS, evS]
    refine AgS.frz (is := escE true e) (v := fun ρv => match (ρv[i]? : Option (Option Sl)) with
      | some (some (.v u)) => liftV (evV T cv jv false e ρv M) ρv fun y M => match op, u, y with
        | .Add, .int a, .int b => .ok (.nx (ρv.set i (some (.v (.int (a + b)))))) M
        | .Sub, .int a, .int b => .ok (.nx (ρv.set i (some (.v (.int (a - b)))))) M
        | _, _, _ => .stuck
      | _ => .stuck) f fun O1 f1 => ?_
    generalize frz (escE true e) ρv = ρ1 at f1 ⊢
    split
    · rename_i d e1
      obtain ⟨u, h1, h2⟩ := f1.sl.v i _ e1
      rw [h1]
      dsimp only
      refine AgS.lift (vE (T := T) CF JF e false O1 c M G _ ρ f1.st f1.sl) f1 fun x w c' M' G' u1 f2 r => ?_
      have r := rB_false r
      split
      · simp only [Rp] at r h2; subst r; subst h2; exact AgS.nx (f2.set .int) Mv.refl
      · simp only [Rp] at r h2; subst r; subst h2; exact AgS.nx (f2.set .int) Mv.refl
      · trivial
    · trivial
  | .expr e, O, c, M, G, ρv, ρ, f => by
    simp only [evVS, evS]
    split
    · rename_i m j es h
      obtain ⟨rfl, h1, h2⟩ := bmOwn_eq h
      exact ag_own CF JF f h1 h2 fun r u O' c' M' G' f' r' => AgS.nx f' Mv.refl
    · refine AgS.frz (v := fun ρv => liftV (evV T cv jv false e ρv M) ρv fun _ M => .ok (.nx ρv) M) f fun O1 f1 => ?_
      exact AgS.lift (vE (T := T) CF JF e false O1 c M G _ ρ f1.st f1.sl) f1 fun x u c' M' G' u1 f2 r => AgS.nx f2 Mv.refl
  | .ret e, O, c, M, G, ρv, ρ, f => by
    simp only [evVS, evS]
    exact ag_ret CF JF e f
  | .retN, O, c, M, G, ρv, ρ, f => by
    simp only [evVS, evS]
    exact ⟨_, G, c, rfl, UpG.refl, f.st.shrink f.sub, .non, fun h => by cases h⟩
  | .pass, O, c, M, G, ρv, ρ, f => by simp only [evVS, evS]; exact AgS.nx f Mv.refl
  | .brk, O, c, M, G, ρv, ρ, f => by simp only [evVS, evS]; exact ⟨_, G, c, rfl, UpG.refl, O, f, Mv.refl⟩
  | .cnt, O, c, M, G, ρv, ρ, f => by simp only [evVS, evS]; exact ⟨_, G, c, rfl, UpG.refl, O, f, Mv.refl⟩
  | .iff t a b, O, c, M, G, ρv, ρ, f => by
    simp only [evVS, evS]
    refine AgS.frz (is := escT t) (v := fun ρv => liftV (evTV T cv jv t ρv M) ρv fun r M => if r = true then evVSs T cv jv mode a ρv M else evVSs T cv jv mode b ρv M) f fun O1 f1 => ?_
    refine AgS.lift (vT (T := T) CF JF t O1 c M G _ ρ f1.st f1.sl) f1 fun k k' c' M' G' u f2 r => ?_
    cases r
    cases k with
    | true => exact vSs CF JF a O1 c' M' G' _ ρ f2
    | false => exact vSs CF JF b O1 c' M' G' _ ρ f2
  | .whl t b, O, c, M, G, ρv, ρ, f => by
    simp only [evVS, evS]
    exact whl_v (fun O c M G ρv ρ S R => vT (T := T) CF JF t O c M G ρv ρ S R) (fun O c M G ρv ρ f => vSs CF JF b O c M G ρv ρ f) FU O c M G ρv ρ f
  | .for_ tg it kind b, O, c, M, G, ρv, ρ, f => by
    simp only [evVS, evS]
    refine AgS.frz (is := escL true it) (v := fun ρv => liftV (evLV T cv jv false it ρv M) ρv fun vs M => liftV (ofV (iterV kind vs) M) ρv fun J M => if J.length ≤ sizeLine then forV tg (evVSs T cv jv mode b) J ρv M else .stuck) f fun O1 f1 => ?_
    generalize frz (escL true it) ρv = ρ1 at f1 ⊢
    unfold evI
    have A := vL (T := T) CF JF it false O1 c M G ρ1 ρ f1.st f1.sl
    cases hv : evLV T cv jv false it ρ1 M with
    | stuck => trivial
    | exc q fs M' =>
      rw [hv] at A
      obtain ⟨ws, G', c', e, u, s, r⟩ := A
      rw [e]
      exact ⟨ws, ρ, G', c', O1, rfl, u.x, f1.up u s, u.mv, r⟩
    | ok ds M' =>
      rw [hv] at A
      obtain ⟨us, G', c', e, u, s, r⟩ := A
      rw [e]
      have f2 := f1.up u s
      have r : Paired (Rp ⟨O1, c', M'.length⟩ G') ds us := Paired.mapP r fun _ _ h => h
      refine AgS.pre u.x u.mv ?_
      dsimp only [liftV, Out.bind]
      cases hj : iterV kind ds with
      | none => trivial
      | some J =>
        obtain ⟨itv, e1, hI⟩ := iter_v (fun _ _ h => h.rb) hj r
        rw [e1]
        dsimp only [ofV, ofO, liftO]
        split
        · rename_i hs
          exact for_v hI (fun O c M G ρv ρ f => vSs CF JF b O c M G ρv ρ f) J 0 FU O1 c' M' G' ρ1 ρ rfl (by have : FU = 100000000 := rfl; have : sizeLine = 16777216 := sizeLine_eq; omega) f2 Mv.refl
        · trivial
  | .never, O, c, M, G, ρv, ρ, f => by simp only [evVS]; trivial
  | .rse n es, O, c, M, G, ρv, ρ, f => by
    simp only [evVS, evS]
    cases hx : T.exn n with
    | none => trivial
    | some tf =>
      obtain ⟨tag, flds⟩ := tf
      refine AgS.frz (is := escL true es) (v := fun ρv => liftV (evLV T cv jv false es ρv M) ρv fun us M => if us.length = flds.length ∧ us.all prD = true then OSV.exc n (flds.zip us ++ [((("tag" : Str), D.str tag) : Str × D)]) ρv M else .stuck) f fun O1 f1 => ?_
      refine AgS.lift (vL (T := T) CF JF es false O1 c M G _ ρ f1.st f1.sl) f1 fun ds us c' M' G' u1 f2 r => ?_
      have r : Paired (Rp ⟨O1, c', M'.length⟩ G') ds us := Paired.mapP r fun _ _ h => h
      by_cases h : ds.length = flds.length ∧ ds.all prD = true
      · have h2 : us.length = flds.length ∧ us.all (prU G') = true := ⟨(Paired.length r).symm.trans h.1, prD_U r h.2⟩
        rw [if_pos h, if_pos h2]
        exact ⟨_, ρ, G', c', O1, rfl, UpG.refl, f2, Mv.refl, zip_RF r⟩
      · rw [if_neg h]
        trivial
theorem vSs {T : Pg} {cv : CfV} {jv : IfV} {cf : Cf} {O0 : Nat → Prop} {g0 : Nat} {mode : Nat → Nat} (CF : CfOk cv cf) (JF : JfOk jv cf) : ∀ (s : List Sx) (O : Nat → Prop) (c : Nat → Nat) (M : Mem) (G : Gp) (ρv : Rv) (ρ : Rho), FrS O0 g0 O c M G ρv ρ → AgS O0 g0 O c M G (evVSs T cv jv mode s ρv M) (evSs T cf s ρ G)
  | [], O, c, M, G, ρv, ρ, f => by simp only [evVSs, evSs]; exact AgS.nx f Mv.refl
  | s :: r, O, c, M, G, ρv, ρ, f => by
    simp only [evVSs, evSs]
    exact (vS CF JF s O c M G ρv ρ f).seq fun O' c' M' G' ρv' ρ' f' m => vSs CF JF r O' c' M' G' ρv' ρ' f'
end
end Z
namespace Z
open PySem PySem.Spec PyProof.Rows L2
theorem startV_get {N : List Str} {ds : List D} {i : Nat} {s : Sl} (h : (startV N ds)[i]? = some (some s)) : ∃ d, ds[i]? = some d ∧ s = .v d := by
  unfold startV at h
  by_cases hi : i < ds.length
  · rw [List.getElem?_append_left (by simpa using hi), List.getElem?_map] at h
    cases e : ds[i]? with
    | none => rw [e] at h; cases h
    | some d => rw [e] at h; cases h; exact ⟨d, rfl, rfl⟩
  · rw [List.getElem?_append_right (by simpa using hi), List.getElem?_replicate] at h
    split at h <;> cases h
theorem startU_get {N : List Str} {us : List U} {i : Nat} {u : U} (h : us[i]? = some u) : (startU N us)[i]? = some (some u) := by
  unfold startU
  have hi := (List.getElem?_eq_some_iff.mp h).1
  rw [List.getElem?_append_left (by simpa using hi), List.getElem?_map, h]; rfl
theorem start_sl {F : Fb} {G : Gp} {N : List Str} {ds : List D} {us : List U} (r : Rps F G ds us) : RSl F G (startV N ds) (startU N us) where
  len := by unfold startV startU; simp [r.len]
  v := fun i d h => by
    obtain ⟨d', h1, h2⟩ := startV_get h
    cases h2
    obtain ⟨u, q1, q2⟩ := r.get h1
    exact ⟨u, startU_get q1, q2⟩
  own := fun i d h => by obtain ⟨d', h1, h2⟩ := startV_get h; cases h2
theorem start_fr {O : Nat → Prop} {c : Nat → Nat} {M : Mem} {G : Gp} {N : List Str} {ds : List D} {us : List U} (S : StO ⟨O, c, M.length⟩ M G) (r : Rps ⟨O, c, M.length⟩ G ds us) : FrS O G.length O c M G (startV N ds) (startU N us) where
  st := S
  sl := start_sl r
  sub := fun _ h => h
  ge := fun i d n h _ => by obtain ⟨d', h1, h2⟩ := startV_get h; cases h2
  inj := fun i j d d' n h _ _ _ => by obtain ⟨d', h1, h2⟩ := startV_get h; cases h2
  lt0 := S.lt
  gl := Nat.le_refl _
  slf := fun i C fs n h _ => by obtain ⟨d', h1, h2⟩ := startV_get h; cases h2
theorem calls_v (T : Pg) (md : Str → Nat → Nat) (fns : Str → Option Fn) : ∀ k, CfOk (cfV T md fns k) (callN T fns k) ∧ JfOk (jfV T md fns k) (callN T fns k)
  | 0 => ⟨fun O c M G q ds us S r => by simp only [cfV]; trivial, fun O c M G q ds us S r => by simp only [jfV]; trivial⟩
  | k + 1 => by
    obtain ⟨CF, JF⟩ := calls_v T md fns k
    refine ⟨fun O c M G q ds us S r => ?_, fun O c M G C ds us S r => ?_⟩
    · simp only [cfV, callN]
      cases hf : fns q with
      | none => trivial
      | some F =>
        dsimp only
        rw [r.len]
        by_cases hl : us.length = F.ps.length
        · rw [if_pos hl, if_pos hl]
          have A := vSs (T := T) (mode := md q) CF JF F.body O c M G _ _ (start_fr (N := F.N) S r)
          cases hv : evVSs T (cfV T md fns k) (jfV T md fns k) (md q) F.body (startV F.N ds) M with
          | stuck => trivial
          | exc n fs ρ M' =>
            rw [hv] at A
            obtain ⟨ws, ρ', G', c', O', e, u, f, mv, q⟩ := A
            rw [e]
            exact ⟨ws, G', c', rfl, u.up fun n h => h, f.st.shrink f.sub, q.mv (mv_shrink f.sub)⟩
          | ok fl M' =>
            rw [hv] at A
            obtain ⟨fl', G', c', e, u, q⟩ := A
            rw [e]
            cases fl <;> cases fl' <;> simp only [RFl] at q
            · obtain ⟨O', f, mv⟩ := q
              exact ⟨_, G', c', rfl, u.up fun n h => h, f.st.shrink f.sub, .non, fun h => by cases h⟩
            · exact ⟨_, G', c', rfl, u.up fun n h => h, q.1, q.2⟩
            · trivial
            · trivial
        · rw [if_neg hl]; trivial
    · simp only [jfV]
      unfold makeH
      simp only [callN]
      have hq : (C ++ ".__init__" : Str) = initN C := rfl
      rw [hq]
      cases hf : fns (initN C) with
      | none => trivial
      | some F =>
        dsimp only
        rw [r.len]
        by_cases hl : us.length + 1 = F.ps.length
        · rw [if_pos hl, if_pos (show (U.ref G.length :: us).length = F.ps.length from hl)]
          have f : FrS O G.length (fun n => O n ∨ n = G.length) c M (G ++ [.ins C []]) ((startV F.N (.non :: ds)).set 0 (some (.own (.ins C [])))) (startU F.N (.ref G.length :: us)) := by
            have S1 : StO ⟨fun n => O n ∨ n = G.length, c, M.length⟩ M (G ++ [.ins C []]) := S.add
            have mv : Mv ⟨O, c, M.length⟩ G ⟨fun n => O n ∨ n = G.length, c, M.length⟩ (G ++ [.ins C []]) := mv_add (F := ⟨O, c, M.length⟩)
            have h0 : (startU F.N (.ref G.length :: us))[0]? = some (some (.ref G.length)) := startU_get rfl
            have own0 : ∀ {i : Nat} {d : D}, ((startV F.N (.non :: ds)).set 0 (some (.own (.ins C []))))[i]? = some (some (Sl.own d)) → i = 0 ∧ d = .ins C [] := fun {i d} h => by
              by_cases z : 0 = i
              · subst z
                rw [List.getElem?_set_self (by unfold startV; simp)] at h
                cases h
                exact ⟨rfl, rfl⟩
              · rw [List.getElem?_set_ne z] at h
                obtain ⟨d', h1, h2⟩ := startV_get h
                cases h2
            refine ⟨S1, ⟨by unfold startV startU; simp [r.len], fun i d h => ?_, fun i d h => ?_⟩, fun n h => .inl h, fun i d n h h2 => ?_, fun i j d d' n h1 h2 _ _ => ?_, S.lt, by simp, fun i C' fs n h1 h2 => ?_⟩
            · by_cases z : 0 = i
              · subst z
                rw [List.getElem?_set_self (by unfold startV; simp)] at h
                cases h
              · rw [List.getElem?_set_ne z] at h
                obtain ⟨d', h1, h2⟩ := startV_get h
                cases h2
                cases i with
                | zero => exact (z rfl).elim
                | succ i =>
                  have h1 : ds[i]? = some d := by simpa using h1
                  obtain ⟨u, q1, q2⟩ := r.get h1
                  exact ⟨u, startU_get (by simpa using q1), q2.mv mv⟩
            · obtain ⟨rfl, rfl⟩ := own0 h
              refine ⟨_, h0, .inr rfl, nst_new S, ?_, rfl⟩
              simp only [Rc]
              exact ⟨_, [], rfl, get_end, by simp [RpF]⟩
            · obtain ⟨rfl, rfl⟩ := own0 h
              rw [h0] at h2; cases h2; exact Nat.le_refl _
            · rw [(own0 h1).1, (own0 h2).1]
            · obtain ⟨rfl, _⟩ := own0 h1
              rw [h0] at h2; cases h2; rfl
          have A := vSs (T := T) (mode := md (initN C)) CF JF F.body _ c M _ _ _ f
          have up0 : ∀ {c' : Nat → Nat} {M' : Mem} {G' : Gp}, UpG G.length c M.length (G ++ [.ins C []]) c' M'.length G' → Up c M.length G c' M'.length G' := fun {c' M' G'} u => ((up_push (o := .ins C [])).x.trans u).up fun n h => h
          cases hv : evVSs T (cfV T md fns k) (jfV T md fns k) (md (initN C)) F.body ((startV F.N (.non :: ds)).set 0 (some (.own (.ins C [])))) M with
          | stuck => trivial
          | exc n fs ρ M' =>
            rw [hv] at A
            obtain ⟨ws, ρ', G', c', O', e, u, f', mv, q⟩ := A
            rw [e]
            exact ⟨ws, G', c', rfl, up0 u, f'.st.shrink f'.sub, q.mv (mv_shrink f'.sub)⟩
          | ok fl M' =>
            rw [hv] at A
            obtain ⟨fl', G', c', e, u, q⟩ := A
            rw [e]
            cases fl <;> cases fl' <;> simp only [RFl] at q <;> try trivial
            obtain ⟨O', f', mv⟩ := q
            rename_i ρv' ρ'
            dsimp only
            cases h0 : ρv'[0]? with
            | none => trivial
            | some o =>
              cases o with
              | none => trivial
              | some s =>
                cases s with
                | v d => trivial
                | own d =>
                  cases d <;> try trivial
                  rename_i C' fs
                  obtain ⟨n, h1, h2, h3, h4, h5⟩ := f'.sl.own 0 _ h0
                  have hn := f'.slf 0 C' fs n h0 h1
                  subst hn
                  have sh : ∀ k, (O k ∨ k = G.length) → O' k := fun k h => h.elim (f'.sub k) fun h => h ▸ h2
                  refine ⟨_, G', c', rfl, up0 u, f'.st.shrink f'.sub, ?_, fun _ _ => ⟨G.length, rfl, Nat.le_refl _, StO.shrink sh f'.st, Rc.mv (mv_shrink sh) (fun _ h => h) h5 h4⟩⟩
                  exact Rc.rp (Rc.mv (mv_shrink f'.sub) (fun _ h => h) h5 h4) rfl (fun z => by have := S.lt _ z; omega) h3
        · rw [if_neg hl]; trivial
end Z
namespace Z
open PySem PySem.Spec PyProof.Rows L2
/-! ## a law by its values -/
theorem sto0 {O : Nat → Prop} {G : Gp} (hO : ∀ n, ¬ O n) : StO ⟨O, fun _ => 0, ([] : Mem).length⟩ [] G :=
  ⟨rfl, fun n h => absurd h (hO n), fun i j h => absurd h (by simp), fun i h => absurd h (by simp), fun i o h => by simp at h⟩
theorem ints_Rps {F : Fb} {G : Gp} : ∀ ns : List Int, Rps F G (ns.map D.int) (ns.map U.int)
  | [] => by simp [Rps]
  | n :: ns => by
    simp only [List.map_cons, Rps]
    exact ⟨_, _, rfl, by simp only [Rp], ints_Rps ns⟩
/-- the plain law over values answers for both forms of the script -/
theorem law_of_v {T : Pg} {md : Str → Nat → Nat} {fns : Str → Option Fn} {k : Nat} {ns : List Int}
    (h1 : ∃ b M, cfV T md fns k "law" [.fro (ns.map D.int)] [] = .ok (.bl true, b) M) (h2 : ∃ b M, cfV T md fns k "law" [.lst (ns.map D.int)] [] = .ok (.bl true, b) M) :
    (∃ G, callN T fns k "law" [.fro (ns.map U.int)] [] = .ok (.bl true) G) ∧ ∃ G, callN T fns k "law" [.ref 0] [.lst (ns.map U.int)] = .ok (.bl true) G := by
  obtain ⟨CF, _⟩ := calls_v T md fns k
  constructor
  · obtain ⟨b, M, e⟩ := h1
    have a := CF (fun _ => False) (fun _ => 0) [] [] "law" [.fro (ns.map D.int)] [.fro (ns.map U.int)] (sto0 fun _ h => h) (by
      simp only [Rps]
      exact ⟨_, _, rfl, by simp only [Rp]; exact ⟨_, rfl, ints_Rps ns⟩, rfl⟩)
    rw [e] at a
    obtain ⟨u, G', c', e', _, _, r⟩ := a
    have r1 : Rp _ _ (.bl true) u := r.1
    simp only [Rp] at r1
    rw [r1] at e'
    exact ⟨G', e'⟩
  · obtain ⟨b, M, e⟩ := h2
    have a := CF (fun _ => False) (fun _ => 0) [] [.lst (ns.map U.int)] "law" [.lst (ns.map D.int)] [.ref 0] (sto0 fun _ h => h) (by
      simp only [Rps]
      refine ⟨_, _, rfl, ?_, rfl⟩
      simp only [Rp]
      exact ⟨0, _, rfl, fun h => h, fun i hi => absurd hi (by simp), rfl, ints_Rps ns⟩)
    rw [e] at a
    obtain ⟨u, G', c', e', _, _, r⟩ := a
    have r1 : Rp _ _ (.bl true) u := r.1
    simp only [Rp] at r1
    rw [r1] at e'
    exact ⟨G', e'⟩
end Z
namespace Z
open PySem PySem.Spec PyProof.Rows L2
/-! # the laws' prelude -/
def Pre.bag : Fn := ⟨["_law_script"], ["_law_script"], [(.ret (.lst [(.bf .blist [(.sl (.loc 0) none (some (.int 63)))]), (.int 0), (.int 0), (.int 5607), (.int 0)]))]⟩
def Pre.pull : Fn := ⟨["_law_bag_here", "_law_many"], ["_law_bag_here", "_law_many", "_law_now", "_law_cell", "_law_drawn"], [(.iff (.bop .And [(.val (.cmp .Eq (.ix (.loc 0) (.int 2)) (.int 0))), (.val (.cmp .Lt (.ix (.loc 0) (.int 1)) (.bf .blen [(.ix (.loc 0) (.int 0))])))]) [(.set 3 (.ix (.ix (.loc 0) (.int 0)) (.ix (.loc 0) (.int 1)))), (.asg (.sub (.loc 0) (.int 1)) (.bin .Add (.ix (.loc 0) (.int 1)) (.int 1))), (.iff (.val (.cmp .GtE (.loc 3) (.bin .Pow (.int 10) (.int 18)))) [(.asg (.sub (.loc 0) (.int 2)) (.loc 3))] [(.asg (.sub (.loc 0) (.int 3)) (.bin .Mod (.bf .bint [(.bin .Add (.bin .Add (.bin .Mult (.ix (.loc 0) (.int 3)) (.int 48761)) (.bin .Mult (.bin .Mod (.bf .bint [(.loc 3)]) (.int 2147483549)) (.int 62971))) (.int 29))]) (.int 2147483629)))])] []), (.iff (.val (.cmp .Gt (.ix (.loc 0) (.int 2)) (.int 0))) [(.set 4 (.bin .Mod (.bf .bint [(.ix (.loc 0) (.int 2))]) (.loc 1))), (.asg (.sub (.loc 0) (.int 2)) (.bin .FloorDiv (.ix (.loc 0) (.int 2)) (.loc 1))), (.ret (.loc 4))] []), (.asg (.sub (.loc 0) (.int 4)) (.bin .Add (.ix (.loc 0) (.int 4)) (.int 1))), (.set 2 (.ix (.loc 0) (.int 3))), (.asg (.sub (.loc 0) (.int 3)) (.bin .Mod (.bf .bint [(.bin .Add (.bin .Add (.bin .Add (.bin .Mult (.loc 2) (.loc 2)) (.bin .Mult (.loc 2) (.int 30011))) (.bin .Mult (.ix (.loc 0) (.int 4)) (.int 1300021))) (.int 77777))]) (.int 2147483629))), (.ret (.bin .Mod (.bf .bint [(.bin .Add (.bin .FloorDiv (.ix (.loc 0) (.int 3)) (.int 79)) (.bin .Mult (.bin .Mod (.bf .bint [(.ix (.loc 0) (.int 3))]) (.int 8087)) (.int 53)))]) (.loc 1)))]⟩
def Pre.of : Fn := ⟨["_law_bag_here", "_law_things"], ["_law_bag_here", "_law_things"], [(.ret (.ix (.loc 1) (.call "_law_pull" [(.loc 0), (.bf .blen [(.loc 1)])])))]⟩
def Pre.same : Fn := ⟨["_law_found", "_law_due"], ["_law_found", "_law_due", "_law_a", "_law_b"], [(.iff (.val (.isi (.loc 1) [.tlist, .ttup] false)) [(.iff (.val (.cmp .NotEq (.isi (.loc 0) [.tlist] true) (.isi (.loc 1) [.tlist] true))) [(.ret (.bl false))] []), (.iff (.bop .Or [(.val (.cmp .NotEq (.isi (.loc 0) [.ttup] true) (.isi (.loc 1) [.ttup] true))), (.val (.cmp .NotEq (.bf .blen [(.loc 0)]) (.bf .blen [(.loc 1)])))]) [(.ret (.bl false))] []), (.ret (.bf .ball [(.lc (.call "_law_same" [(.loc 2), (.loc 3)]) (.tp [2, 3]) [(.loc 0), (.loc 1)] 4 none [2, 3])]))] []), (.iff (.bop .Or [(.val (.cmp .Is (.loc 1) .non)), (.val (.cmp .Is (.loc 0) .non))]) [(.ret (.bop .And [(.cmp .Is (.loc 1) .non), (.cmp .Is (.loc 0) .non)]))] []), (.iff (.bop .Or [(.val (.cmp .NotEq (.isi (.loc 0) [.tbool] true) (.isi (.loc 1) [.tbool] true))), (.val (.cmp .NotEq (.isi (.loc 0) [.tint] true) (.isi (.loc 1) [.tint] true)))]) [(.ret (.bl false))] []), (.ret (.bop .And [(.cmp .Eq (.isi (.loc 0) [.tstr] true) (.isi (.loc 1) [.tstr] true)), (.cmp .Eq (.loc 0) (.loc 1))]))]⟩
end Z
namespace Z
open PySem PySem.Spec PyProof.Rows L2
/-! ## evaluation by rewriting -/
section
variable {α β : Type} {a : α} {M : Mem} {k : α → Mem → OV β} {ρ : Rv}
theorem v_bind : (OV.ok a M).bind k = k a M := rfl
theorem v_bindE {c : Str} {fs : List (Str × D)} : (OV.exc c fs M : OV α).bind k = .exc c fs M := rfl
theorem v_lift {k : α → Mem → OSV} : liftV (.ok a M) ρ k = k a M := rfl
theorem v_liftE {k : α → Mem → OSV} {c : Str} {fs : List (Str × D)} : liftV (.exc c fs M) ρ k = .exc c fs ρ M := rfl
theorem v_of : ofV (some a) M = .ok a M := rfl
theorem v_seq {k : Rv → Mem → OSV} : (OSV.ok (.nx ρ) M).seq k = k ρ M := rfl
theorem v_seqR {k : Rv → Mem → OSV} {d : D} {b : Bool} : (OSV.ok (.rt d b) M).seq k = .ok (.rt d b) M := rfl
theorem v_seqE {k : Rv → Mem → OSV} {c : Str} {fs : List (Str × D)} : (OSV.exc c fs ρ M).seq k = .exc c fs ρ M := rfl
theorem v_turn {k : Rv → Mem → OSV} : (OSV.ok (.nx ρ) M).turn k = k ρ M := rfl
theorem v_turnR {k : Rv → Mem → OSV} {d : D} {b : Bool} : (OSV.ok (.rt d b) M).turn k = .ok (.rt d b) M := rfl
theorem v_turnE {k : Rv → Mem → OSV} {c : Str} {fs : List (Str × D)} : (OSV.exc c fs ρ M).turn k = .exc c fs ρ M := rfl
theorem v_nox : noxV (.ok a M) = .ok a M := rfl
end
section
variable {α β : Type} {M : Mem} {ρ : Rv}
theorem bind_c {o o' : OV α} {k : α → Mem → OV β} (h : o = o') : o.bind k = o'.bind k := by rw [h]
theorem lift_c {o o' : OV α} {k : α → Mem → OSV} (h : o = o') : liftV o ρ k = liftV o' ρ k := by rw [h]
theorem seq_c {o o' : OSV} {k : Rv → Mem → OSV} (h : o = o') : o.seq k = o'.seq k := by rw [h]
theorem turn_c {o o' : OSV} {k : Rv → Mem → OSV} (h : o = o') : o.turn k = o'.turn k := by rw [h]
theorem lcV_c {tg : Tg} {own : List Nat} {ρ' : Rv} {t : Rv → Mem → OV Bool} {e : Rv → Mem → OV D} {J J' : List D} (h1 : ρ = ρ') (h2 : J = J') : lcV tg own ρ t e J M = lcV tg own ρ' t e J' M := by rw [h1, h2]
theorem forV_c {tg : Tg} {ρ' : Rv} {b : Rv → Mem → OSV} {J J' : List D} (h1 : ρ = ρ') (h2 : J = J') : forV tg b J ρ M = forV tg b J' ρ' M := by rw [h1, h2]
theorem whlV_c {ρ' : Rv} {t : Rv → Mem → OV Bool} {b : Rv → Mem → OSV} {fz : Rv → Rv} {n : Nat} (h1 : ρ = ρ') : whlV t b fz n ρ M = whlV t b fz n ρ' M := by rw [h1]
theorem ite_c {γ : Type} {c c' : Prop} [Decidable c] [Decidable c'] {a b : γ} (h : c = c') : (if c then a else b) = (if c' then a else b) := by subst h; congr
end
theorem eqV_int (a b : Int) : eqV (.int a) (.int b) = some (a == b) := by
  unfold eqV
  simp only [toDV, Option.bind_some]
  rw [if_pos ⟨rfl, rfl⟩]
  rfl
theorem eqV_bl (a b : Bool) : eqV (.bl a) (.bl b) = some (a == b) := by cases a <;> cases b <;> rfl
section
variable {T : Pg} {cf : CfV} {M : Mem} {x y : D} {i : Nat} {xs : List D} {op : CmpOp} {kd : Str → Option (List (Str × U))}
theorem res_mutL (h : M[i]? = some (.lst xs)) : res M (.mut i) = .lst xs := by simp only [res, h]
theorem res_int {n : Int} : res M (.int n) = .int n := rfl
theorem res_bl {b : Bool} : res M (.bl b) = .bl b := rfl
theorem res_str {z : Str} : res M (.str z) = .str z := rfl
theorem res_non : res M .non = .non := rfl
theorem res_lst : res M (.lst xs) = .lst xs := rfl
theorem res_fro : res M (.fro xs) = .fro xs := rfl
theorem res_tup : res M (.tup xs) = .tup xs := rfl
theorem res_ins {C : Str} {fs : List (Str × D)} : res M (.ins C fs) = .ins C fs := rfl
theorem cls_mutL (h : M[i]? = some (.lst xs)) : clsV M (.mut i) = none := by simp only [clsV, h]
theorem cls_int {n : Int} : clsV M (.int n) = none := rfl
theorem cls_bl {b : Bool} : clsV M (.bl b) = none := rfl
theorem cls_str {z : Str} : clsV M (.str z) = none := rfl
theorem cls_non : clsV M .non = none := rfl
theorem cls_lst : clsV M (.lst xs) = none := rfl
theorem cls_fro : clsV M (.fro xs) = none := rfl
theorem cls_tup : clsV M (.tup xs) = none := rfl
theorem cls_ins {C : Str} {fs : List (Str × D)} : clsV M (.ins C fs) = some (C, fs) := rfl
theorem cmp_no (h : clsV M x = none) : cmpKV T cf op x y M = ofV (cmpopV T.kd op (res M x) (res M y)) M := by
  unfold cmpKV ownEqV
  rw [h]
  simp
theorem cmp_ord (h1 : op ≠ .Eq) (h2 : op ≠ .NotEq) : cmpKV T cf op x y M = ofV (cmpopV T.kd op (res M x) (res M y)) M := by
  unfold cmpKV ownEqV
  rw [if_neg (by simp [h1, h2])]
theorem cmp_int {n : Int} : cmpKV T cf op (.int n) y M = ofV (cmpopV T.kd op (.int n) (res M y)) M := cmp_no rfl
theorem cmp_bl {n : Bool} : cmpKV T cf op (.bl n) y M = ofV (cmpopV T.kd op (.bl n) (res M y)) M := cmp_no rfl
theorem cmp_str {n : Str} : cmpKV T cf op (.str n) y M = ofV (cmpopV T.kd op (.str n) (res M y)) M := cmp_no rfl
theorem cmp_nonK : cmpKV T cf op .non y M = ofV (cmpopV T.kd op .non (res M y)) M := cmp_no rfl
theorem cmp_lst : cmpKV T cf op (.lst xs) y M = ofV (cmpopV T.kd op (.lst xs) (res M y)) M := cmp_no rfl
theorem cmp_fro : cmpKV T cf op (.fro xs) y M = ofV (cmpopV T.kd op (.fro xs) (res M y)) M := cmp_no rfl
theorem cmp_tup : cmpKV T cf op (.tup xs) y M = ofV (cmpopV T.kd op (.tup xs) (res M y)) M := cmp_no rfl
theorem c_lt {a b : Int} : cmpopV kd .Lt (.int a) (.int b) = some (decide (a < b)) := rfl
theorem c_le {a b : Int} : cmpopV kd .LtE (.int a) (.int b) = some (decide (a ≤ b)) := rfl
theorem c_gt {a b : Int} : cmpopV kd .Gt (.int a) (.int b) = some (decide (b < a)) := rfl
theorem c_ge {a b : Int} : cmpopV kd .GtE (.int a) (.int b) = some (decide (b ≤ a)) := rfl
theorem c_eq {x y : D} : cmpopV kd .Eq x y = eqV x y := rfl
theorem c_ne {x y : D} : cmpopV kd .NotEq x y = (eqV x y).map (!·) := rfl
theorem c_is {x : D} : cmpopV kd .Is x .non = isNonV x := rfl
theorem c_isnot {x : D} : cmpopV kd .IsNot x .non = (isNonV x).map (!·) := rfl
theorem xi_lst {n : Int} : ixopV kd (.lst xs) (.int n) = atI xs n := rfl
theorem xi_fro {n : Int} : ixopV kd (.fro xs) (.int n) = atI xs n := rfl
theorem xi_tup {n : Int} : ixopV kd (.tup xs) (.int n) = atI xs n := rfl
theorem tr_bl {b : Bool} : truthyV (.bl b) = some b := rfl
theorem tr_int {n : Int} : truthyV (.int n) = some (n != 0) := rfl
theorem tr_lst : truthyV (.lst xs) = some (!xs.isEmpty) := rfl
theorem bf_len (h1 : clsV M x = none) (h2 : res M x = .lst xs) : bfKV T cf .blen [x] M = .ok (.int xs.length) M := by
  have : ownLenV T M .blen [x] = none := by simp only [ownLenV, h1, Option.bind_none]
  unfold bfKV
  rw [this]
  simp only [List.map_cons, List.map_nil, h2]
  rfl
theorem bf_lenL : bfKV T cf .blen [.lst xs] M = .ok (.int xs.length) M := bf_len rfl rfl
theorem bf_lenF : bfKV T cf .blen [.fro xs] M = .ok (.int xs.length) M := rfl
theorem bf_lenT : bfKV T cf .blen [.tup xs] M = .ok (.int xs.length) M := rfl
theorem bf_int {n : Int} : bfKV T cf .bint [.int n] M = .ok (.int n) M := rfl
theorem at5_0 {a b c d e : D} : atI [a, b, c, d, e] 0 = some a := rfl
theorem at5_1 {a b c d e : D} : atI [a, b, c, d, e] 1 = some b := rfl
theorem at5_2 {a b c d e : D} : atI [a, b, c, d, e] 2 = some c := rfl
theorem at5_3 {a b c d e : D} : atI [a, b, c, d, e] 3 = some d := rfl
theorem at5_4 {a b c d e : D} : atI [a, b, c, d, e] 4 = some e := rfl
theorem ix5 : ixN 5 1 = some 1 ∧ ixN 5 2 = some 2 ∧ ixN 5 3 = some 3 ∧ ixN 5 4 = some 4 := ⟨rfl, rfl, rfl, rfl⟩
theorem b_add {a b : Int} : binopV .Add (.int a) (.int b) = some (.int (a + b)) := rfl
theorem b_sub {a b : Int} : binopV .Sub (.int a) (.int b) = some (.int (a - b)) := rfl
theorem b_mul {a b : Int} (h : a.natAbs.log2 + b.natAbs.log2 < 1000000) : binopV .Mult (.int a) (.int b) = some (.int (a * b)) := by simp only [binopV, h, if_true]
theorem b_mod {a b : Int} (h : 0 < b) : binopV .Mod (.int a) (.int b) = some (.int (a % b)) := by simp only [binopV, h, if_true]
theorem b_div {a b : Int} (h : 0 < b) (h2 : b.natAbs.log2 < 9000) : binopV .FloorDiv (.int a) (.int b) = some (.int (a / b)) := by simp only [binopV, h, h2, and_self, if_true]
end

/-! ## the bag of drawn numbers -/
structure BagOk (B : List D) (t : Nat) : Prop where
  ex : ∃ (cs : List Int) (at_ cell small n : Int), B = [.lst (cs.map D.int), .int at_, .int cell, .int small, .int n] ∧ 0 ≤ at_ ∧ at_ ≤ cs.length ∧ 0 ≤ cell ∧ 0 ≤ small ∧ small < 2147483629 ∧ 0 ≤ n ∧ n ≤ t
section
variable {T : Pg} {md : Str → Nat → Nat} {fns : Str → Option Fn} {k : Nat} {M : Mem} {i t : Nat}
theorem log_lt {a : Nat} {k : Nat} (h : a < 2 ^ (k + 1)) : a.log2 ≤ k := by
  by_cases z : a = 0
  · subst z; simp
  · have := (Nat.log2_lt z).mpr h
    omega
theorem log_int {a : Int} {k : Nat} (h1 : -(2 : Int) ^ (k + 1) < a) (h2 : a < (2 : Int) ^ (k + 1)) : a.natAbs.log2 ≤ k := by
  apply log_lt
  have : ((2 : Int) ^ (k + 1)) = (((2 ^ (k + 1)) : Nat) : Int) := by simp
  rw [this] at h1 h2
  omega
theorem pull_tail {cs : List Int} {at_ cell small n : Int} (hmd : ∀ j, md "_law_pull" j = 0) {x3 : Option Sl} (hM : M[i]? = some (.lst [.lst (cs.map D.int), .int at_, .int cell, .int small, .int n])) (h1 : 0 ≤ at_) (h2 : at_ ≤ cs.length) (h3 : 0 ≤ cell) (h4 : 0 ≤ small) (h5 : small < 2147483629) (h6 : 0 ≤ n) (h7 : n ≤ t) (ht : t < 1000000) {m : Int} (hm : 0 < m) (hl : m.natAbs.log2 < 9000) :
    ∃ r b B', evVSs T (cfV T md fns k) (jfV T md fns k) (md "_law_pull") (Pre.pull.body.drop 1) [some (.v (.mut i)), some (.v (.int m)), none, x3, none] M = .ok (.rt (.int r) b) (M.set i (.lst B')) ∧ 0 ≤ r ∧ r < m ∧ BagOk B' (t + 1) := by
  unfold Pre.pull
  simp only [List.drop]
  have hi : i < M.length := (List.getElem?_eq_some_iff.mp hM).1
  have hs : ∀ x, (M.set i x)[i]? = some x := fun x => List.getElem?_set_self hi
  by_cases hc : 0 < cell
  · simp only [evVSs.eq_1, evVSs.eq_2, evVS.eq_1, evVS.eq_2, evVS.eq_3, evVS.eq_4, evVS.eq_5, evVS.eq_6, evVS.eq_7, evVS.eq_8, evVS.eq_9, evVS.eq_10, evVS.eq_11, evVS.eq_12, evVS.eq_13, evVS.eq_14, evVS.eq_15, evVS.eq_16, evVS.eq_17, evVS.eq_18, evV.eq_1, evV.eq_2, evV.eq_3, evV.eq_4, evV.eq_5, evV.eq_6, evV.eq_7, evV.eq_8, evV.eq_9, evV.eq_10, evV.eq_11, evV.eq_12, evV.eq_13, evV.eq_14, evV.eq_15, evV.eq_16, evV.eq_17, evV.eq_18, evV.eq_19, evV.eq_20, evV.eq_21, evV.eq_22, evV.eq_23, evV.eq_24, evV.eq_25, evV.eq_26, evV.eq_27, evV.eq_28, evV.eq_29, evV.eq_30, evV.eq_31, evV.eq_32, evV.eq_33, evLV.eq_1, evLV.eq_2, evTV.eq_1, evTV.eq_2, evTV.eq_3, evTBV.eq_1, evTBV.eq_2, evTBV.eq_3, evBV.eq_1, evBV.eq_2, evBV.eq_3, evToV.eq_1, evToV.eq_2, evOV.eq_1, evOV.eq_2, evFV.eq_1, evFV.eq_2, evPV, prepM, reduceCtorEq, false_implies, false_imp_iff, implies_true, frz, escE, escT, escTL, escTo, escL, escO, bmOwn, frE, locV, retM, v_bind, v_bindE, v_lift, v_liftE, v_of, v_seq, v_seqR, v_seqE, v_turn, v_turnR, v_turnE, v_nox,
  res_int, res_bl, res_str, res_non, res_lst, res_fro, res_tup, res_ins, cls_int, cls_bl, cls_str, cls_non, cls_lst, cls_fro, cls_tup, cls_ins, cmp_int, cmp_bl, cmp_str, cmp_nonK, cmp_lst, cmp_fro, cmp_tup, c_lt, c_le, c_gt, c_ge, c_eq, c_ne, c_is, c_isnot, xi_lst, xi_fro, xi_tup, tr_bl, tr_int, tr_lst, bf_lenL, bf_lenF, bf_lenT, bf_int, b_add, b_sub,
  List.append_nil, List.nil_append, List.cons_append, List.getElem?_cons_zero, List.getElem?_cons_succ, List.set_cons_zero, List.set_cons_succ, List.length_cons, List.length_nil, if_true, if_false, reduceIte, Bool.false_eq_true, ite_true, ite_false, Bool.true_eq_false, eqV_int, eqV_bl, Option.map_some, hmd, res_mutL hM, cls_mutL hM, at5_0, at5_1, at5_2, at5_3, at5_4, decide_eq_true_eq, hc, b_mod hm, b_div hm hl, asgV, subOk, setSub, hM, Option.bind_some, setMem, setV, ix5.1, ix5.2.1, ix5.2.2.1, ix5.2.2.2, Option.map_some, moOf, hs]
    exact ⟨_, _, _, rfl, Int.emod_nonneg _ (by omega), Int.emod_lt_of_pos _ hm, ⟨cs, at_, cell / m, small, n, rfl, h1, h2, Int.ediv_nonneg h3 (by omega), h4, h5, h6, by omega⟩⟩
  · have e1 : small.natAbs.log2 ≤ 30 := log_int (by omega) (by omega)
    have e2 : (n + 1).natAbs.log2 ≤ 30 := log_int (by omega) (by omega)
    have l1 : (30011 : Int).natAbs.log2 = 14 := by decide +kernel
    have l2 : (1300021 : Int).natAbs.log2 = 20 := by decide +kernel
    have m1 : binopV .Mult (.int small) (.int small) = some (.int (small * small)) := b_mul (by omega)
    have m2 : binopV .Mult (.int small) (.int 30011) = some (.int (small * 30011)) := b_mul (by omega)
    have m3 : binopV .Mult (.int (n + 1)) (.int 1300021) = some (.int ((n + 1) * 1300021)) := b_mul (by omega)
    generalize hv : (small * small + small * 30011 + (n + 1) * 1300021 + 77777) % 2147483629 = v
    have v1 : 0 ≤ v := by rw [← hv]; exact Int.emod_nonneg _ (by decide)
    have v2 : v < 2147483629 := by rw [← hv]; exact Int.emod_lt_of_pos _ (by decide)
    have d1 : ∀ x : Int, binopV .Mod (.int x) (.int 2147483629) = some (.int (x % 2147483629)) := fun x => b_mod (by decide)
    have d2 : ∀ x : Int, binopV .Mod (.int x) (.int 8087) = some (.int (x % 8087)) := fun x => b_mod (by decide)
    have d3 : ∀ x : Int, binopV .FloorDiv (.int x) (.int 79) = some (.int (x / 79)) := fun x => b_div (by decide) (by decide +kernel)
    have m4 : binopV .Mult (.int (v % 8087)) (.int 53) = some (.int (v % 8087 * 53)) := b_mul (by
      have z : (v % 8087).natAbs.log2 ≤ 30 := log_int (by have := Int.emod_nonneg v (show (8087 : Int) ≠ 0 by decide); omega) (by have := Int.emod_lt_of_pos v (show (0 : Int) < 8087 by decide); omega)
      have : (53 : Int).natAbs.log2 = 5 := by decide +kernel
      omega)
    simp only [evVSs.eq_1, evVSs.eq_2, evVS.eq_1, evVS.eq_2, evVS.eq_3, evVS.eq_4, evVS.eq_5, evVS.eq_6, evVS.eq_7, evVS.eq_8, evVS.eq_9, evVS.eq_10, evVS.eq_11, evVS.eq_12, evVS.eq_13, evVS.eq_14, evVS.eq_15, evVS.eq_16, evVS.eq_17, evVS.eq_18, evV.eq_1, evV.eq_2, evV.eq_3, evV.eq_4, evV.eq_5, evV.eq_6, evV.eq_7, evV.eq_8, evV.eq_9, evV.eq_10, evV.eq_11, evV.eq_12, evV.eq_13, evV.eq_14, evV.eq_15, evV.eq_16, evV.eq_17, evV.eq_18, evV.eq_19, evV.eq_20, evV.eq_21, evV.eq_22, evV.eq_23, evV.eq_24, evV.eq_25, evV.eq_26, evV.eq_27, evV.eq_28, evV.eq_29, evV.eq_30, evV.eq_31, evV.eq_32, evV.eq_33, evLV.eq_1, evLV.eq_2, evTV.eq_1, evTV.eq_2, evTV.eq_3, evTBV.eq_1, evTBV.eq_2, evTBV.eq_3, evBV.eq_1, evBV.eq_2, evBV.eq_3, evToV.eq_1, evToV.eq_2, evOV.eq_1, evOV.eq_2, evFV.eq_1, evFV.eq_2, evPV, prepM, reduceCtorEq, false_implies, false_imp_iff, implies_true, frz, escE, escT, escTL, escTo, escL, escO, bmOwn, frE, locV, retM, v_bind, v_bindE, v_lift, v_liftE, v_of, v_seq, v_seqR, v_seqE, v_turn, v_turnR, v_turnE, v_nox,
  res_int, res_bl, res_str, res_non, res_lst, res_fro, res_tup, res_ins, cls_int, cls_bl, cls_str, cls_non, cls_lst, cls_fro, cls_tup, cls_ins, cmp_int, cmp_bl, cmp_str, cmp_nonK, cmp_lst, cmp_fro, cmp_tup, c_lt, c_le, c_gt, c_ge, c_eq, c_ne, c_is, c_isnot, xi_lst, xi_fro, xi_tup, tr_bl, tr_int, tr_lst, bf_lenL, bf_lenF, bf_lenT, bf_int, b_add, b_sub,
  List.append_nil, List.nil_append, List.cons_append, List.getElem?_cons_zero, List.getElem?_cons_succ, List.set_cons_zero, List.set_cons_succ, List.length_cons, List.length_nil, if_true, if_false, reduceIte, Bool.false_eq_true, ite_true, ite_false, Bool.true_eq_false, eqV_int, eqV_bl, Option.map_some, hmd, res_mutL hM, cls_mutL hM, at5_0, at5_1, at5_2, at5_3, at5_4, decide_eq_true_eq, hc, b_mod hm, asgV, subOk, setSub, hM, Option.bind_some, setMem, setV, ix5.1, ix5.2.1, ix5.2.2.1, ix5.2.2.2, Option.map_some, moOf, hs, res_mutL (hs _), cls_mutL (hs _), m1, m2, m3, d1, hv, d2, d3, m4, List.set_set]
    exact ⟨_, _, _, rfl, Int.emod_nonneg _ (by omega), Int.emod_lt_of_pos _ hm, ⟨cs, at_, cell, v, n + 1, rfl, h1, h2, h3, v1, v2, by omega, by omega⟩⟩
theorem atI_ints {cs : List Int} {n : Int} (h1 : 0 ≤ n) (h2 : n < cs.length) : ∃ c : Int, c ∈ cs ∧ atI (cs.map D.int) n = some (.int c) := by
  have hn : n.toNat < cs.length := by omega
  refine ⟨cs[n.toNat], List.getElem_mem hn, ?_⟩
  unfold atI ixN
  rw [if_pos h1, if_pos (by simpa using h2)]
  simp [hn]
/-- _law_pull(bag, m): from 0 to m - 1 -/
theorem pull_ok (hf : fns "_law_pull" = some Pre.pull) (hmd : ∀ j, md "_law_pull" j = 0) {B : List D} (hM : M[i]? = some (.lst B)) (hB : BagOk B t) (ht : t < 1000000) {m : Int} (hm : 0 < m) (hl : m.natAbs.log2 < 9000) :
    ∃ r b B', cfV T md fns (k + 1) "_law_pull" [.mut i, .int m] M = .ok (.int r, b) (M.set i (.lst B')) ∧ 0 ≤ r ∧ r < m ∧ BagOk B' (t + 1) := by
  obtain ⟨cs, at_, cell, small, n, rfl, h1, h2, h3, h4, h5, h6, h7⟩ := hB.ex
  have hi : i < M.length := (List.getElem?_eq_some_iff.mp hM).1
  have hs : ∀ x, (M.set i x)[i]? = some x := fun x => List.getElem?_set_self hi
  have key : ∀ (x3 : Option Sl) (M1 : Mem) (at1 cell1 small1 : Int), M1[i]? = some (.lst [.lst (cs.map D.int), .int at1, .int cell1, .int small1, .int n]) → (∀ x, M1.set i x = M.set i x) → 0 ≤ at1 → at1 ≤ cs.length → 0 ≤ cell1 → 0 ≤ small1 → small1 < 2147483629 →
      evVS T (cfV T md fns k) (jfV T md fns k) (md "_law_pull") (Pre.pull.body.headD .pass) [some (.v (.mut i)), some (.v (.int m)), none, none, none] M = .ok (.nx [some (.v (.mut i)), some (.v (.int m)), none, x3, none]) M1 →
      ∃ r b B', cfV T md fns (k + 1) "_law_pull" [.mut i, .int m] M = .ok (.int r, b) (M.set i (.lst B')) ∧ 0 ≤ r ∧ r < m ∧ BagOk B' (t + 1) := by
    intro x3 M1 at1 cell1 small1 g1 g2 g3 g4 g5 g6 g7 e
    obtain ⟨r, b, B', q1, q2, q3, q4⟩ := pull_tail (T := T) (md := md) (fns := fns) (k := k) (t := t) hmd (x3 := x3) g1 g3 g4 g5 g6 g7 h6 h7 ht hm hl
    refine ⟨r, b, B', ?_, q2, q3, q4⟩
    have hb : Pre.pull.body = Pre.pull.body.headD .pass :: Pre.pull.body.drop 1 := rfl
    have hst : startV Pre.pull.N [D.mut i, .int m] = [some (.v (.mut i)), some (.v (.int m)), none, none, none] := rfl
    have hps : ([D.mut i, .int m] : List D).length = Pre.pull.ps.length := rfl
    simp only [cfV, hf]
    rw [if_pos hps, hst, hb]
    simp only [evVSs, e, v_seq, q1, g2]
  by_cases c1 : cell = 0 ∧ at_ < cs.length
  · obtain ⟨rfl, c2⟩ := c1
    obtain ⟨c, hc, ha⟩ := atI_ints h1 c2
    have hlen : at_ < ((cs.map D.int).length : Int) := by simpa using c2
    have hp : binopV .Pow (.int 10) (.int 18) = some (.int 1000000000000000000) := rfl
    by_cases c3 : (1000000000000000000 : Int) ≤ c
    · refine key (some (.v (.int c))) (M.set i (.lst [.lst (cs.map D.int), .int (at_ + 1), .int c, .int small, .int n])) (at_ + 1) c small (hs _) (fun x => List.set_set ..) (by omega) (by omega) (by omega) h4 h5 ?_
      unfold Pre.pull
      simp only [List.headD_cons]
      simp only [evVSs.eq_1, evVSs.eq_2, evVS.eq_1, evVS.eq_2, evVS.eq_3, evVS.eq_4, evVS.eq_5, evVS.eq_6, evVS.eq_7, evVS.eq_8, evVS.eq_9, evVS.eq_10, evVS.eq_11, evVS.eq_12, evVS.eq_13, evVS.eq_14, evVS.eq_15, evVS.eq_16, evVS.eq_17, evVS.eq_18, evV.eq_1, evV.eq_2, evV.eq_3, evV.eq_4, evV.eq_5, evV.eq_6, evV.eq_7, evV.eq_8, evV.eq_9, evV.eq_10, evV.eq_11, evV.eq_12, evV.eq_13, evV.eq_14, evV.eq_15, evV.eq_16, evV.eq_17, evV.eq_18, evV.eq_19, evV.eq_20, evV.eq_21, evV.eq_22, evV.eq_23, evV.eq_24, evV.eq_25, evV.eq_26, evV.eq_27, evV.eq_28, evV.eq_29, evV.eq_30, evV.eq_31, evV.eq_32, evV.eq_33, evLV.eq_1, evLV.eq_2, evTV.eq_1, evTV.eq_2, evTV.eq_3, evTBV.eq_1, evTBV.eq_2, evTBV.eq_3, evBV.eq_1, evBV.eq_2, evBV.eq_3, evToV.eq_1, evToV.eq_2, evOV.eq_1, evOV.eq_2, evFV.eq_1, evFV.eq_2, evPV, prepM, reduceCtorEq, false_implies, false_imp_iff, implies_true, frz, escE, escT, escTL, escTo, escL, escO, bmOwn, frE, locV, retM, v_bind, v_bindE, v_lift, v_liftE, v_of, v_seq, v_seqR, v_seqE, v_turn, v_turnR, v_turnE, v_nox,
  res_int, res_bl, res_str, res_non, res_lst, res_fro, res_tup, res_ins, cls_int, cls_bl, cls_str, cls_non, cls_lst, cls_fro, cls_tup, cls_ins, cmp_int, cmp_bl, cmp_str, cmp_nonK, cmp_lst, cmp_fro, cmp_tup, c_lt, c_le, c_gt, c_ge, c_eq, c_ne, c_is, c_isnot, xi_lst, xi_fro, xi_tup, tr_bl, tr_int, tr_lst, bf_lenL, bf_lenF, bf_lenT, bf_int, b_add, b_sub,
  List.append_nil, List.nil_append, List.cons_append, List.getElem?_cons_zero, List.getElem?_cons_succ, List.set_cons_zero, List.set_cons_succ, List.length_cons, List.length_nil, if_true, if_false, reduceIte, Bool.false_eq_true, ite_true, ite_false, Bool.true_eq_false, eqV_int, eqV_bl, Option.map_some, hmd, res_mutL hM, cls_mutL hM, at5_0, at5_1, at5_2, at5_3, at5_4, decide_eq_true_eq, asgV, subOk, setSub, hM, Option.bind_some, setMem, setV, ix5.1, ix5.2.1, ix5.2.2.1, ix5.2.2.2, Option.map_some, moOf, hs, res_mutL (hs _), cls_mutL (hs _), List.set_set, beq_self_eq_true, hlen, ha, hp, c3, decide_true]
    · generalize hv : (small * 48761 + c % 2147483549 * 62971 + 29) % 2147483629 = v
      have v1 : 0 ≤ v := by rw [← hv]; exact Int.emod_nonneg _ (by decide)
      have v2 : v < 2147483629 := by rw [← hv]; exact Int.emod_lt_of_pos _ (by decide)
      have e1 : small.natAbs.log2 ≤ 30 := log_int (by omega) (by omega)
      have e2 : (c % 2147483549).natAbs.log2 ≤ 30 := log_int (by have := Int.emod_nonneg c (show (2147483549 : Int) ≠ 0 by decide); omega) (by have := Int.emod_lt_of_pos c (show (0 : Int) < 2147483549 by decide); omega)
      have l1 : (48761 : Int).natAbs.log2 = 15 := by decide +kernel
      have l2 : (62971 : Int).natAbs.log2 = 15 := by decide +kernel
      have m1 : binopV .Mult (.int small) (.int 48761) = some (.int (small * 48761)) := b_mul (by omega)
      have m2 : binopV .Mult (.int (c % 2147483549)) (.int 62971) = some (.int (c % 2147483549 * 62971)) := b_mul (by omega)
      have d1 : ∀ x : Int, binopV .Mod (.int x) (.int 2147483629) = some (.int (x % 2147483629)) := fun x => b_mod (by decide)
      have d2 : ∀ x : Int, binopV .Mod (.int x) (.int 2147483549) = some (.int (x % 2147483549)) := fun x => b_mod (by decide)
      refine key (some (.v (.int c))) (M.set i (.lst [.lst (cs.map D.int), .int (at_ + 1), .int 0, .int v, .int n])) (at_ + 1) 0 v (hs _) (fun x => List.set_set ..) (by omega) (by omega) (by omega) v1 v2 ?_
      unfold Pre.pull
      simp only [List.headD_cons]
      simp only [evVSs.eq_1, evVSs.eq_2, evVS.eq_1, evVS.eq_2, evVS.eq_3, evVS.eq_4, evVS.eq_5, evVS.eq_6, evVS.eq_7, evVS.eq_8, evVS.eq_9, evVS.eq_10, evVS.eq_11, evVS.eq_12, evVS.eq_13, evVS.eq_14, evVS.eq_15, evVS.eq_16, evVS.eq_17, evVS.eq_18, evV.eq_1, evV.eq_2, evV.eq_3, evV.eq_4, evV.eq_5, evV.eq_6, evV.eq_7, evV.eq_8, evV.eq_9, evV.eq_10, evV.eq_11, evV.eq_12, evV.eq_13, evV.eq_14, evV.eq_15, evV.eq_16, evV.eq_17, evV.eq_18, evV.eq_19, evV.eq_20, evV.eq_21, evV.eq_22, evV.eq_23, evV.eq_24, evV.eq_25, evV.eq_26, evV.eq_27, evV.eq_28, evV.eq_29, evV.eq_30, evV.eq_31, evV.eq_32, evV.eq_33, evLV.eq_1, evLV.eq_2, evTV.eq_1, evTV.eq_2, evTV.eq_3, evTBV.eq_1, evTBV.eq_2, evTBV.eq_3, evBV.eq_1, evBV.eq_2, evBV.eq_3, evToV.eq_1, evToV.eq_2, evOV.eq_1, evOV.eq_2, evFV.eq_1, evFV.eq_2, evPV, prepM, reduceCtorEq, false_implies, false_imp_iff, implies_true, frz, escE, escT, escTL, escTo, escL, escO, bmOwn, frE, locV, retM, v_bind, v_bindE, v_lift, v_liftE, v_of, v_seq, v_seqR, v_seqE, v_turn, v_turnR, v_turnE, v_nox,
  res_int, res_bl, res_str, res_non, res_lst, res_fro, res_tup, res_ins, cls_int, cls_bl, cls_str, cls_non, cls_lst, cls_fro, cls_tup, cls_ins, cmp_int, cmp_bl, cmp_str, cmp_nonK, cmp_lst, cmp_fro, cmp_tup, c_lt, c_le, c_gt, c_ge, c_eq, c_ne, c_is, c_isnot, xi_lst, xi_fro, xi_tup, tr_bl, tr_int, tr_lst, bf_lenL, bf_lenF, bf_lenT, bf_int, b_add, b_sub,
  List.append_nil, List.nil_append, List.cons_append, List.getElem?_cons_zero, List.getElem?_cons_succ, List.set_cons_zero, List.set_cons_succ, List.length_cons, List.length_nil, if_true, if_false, reduceIte, Bool.false_eq_true, ite_true, ite_false, Bool.true_eq_false, eqV_int, eqV_bl, Option.map_some, hmd, res_mutL hM, cls_mutL hM, at5_0, at5_1, at5_2, at5_3, at5_4, decide_eq_true_eq, asgV, subOk, setSub, hM, Option.bind_some, setMem, setV, ix5.1, ix5.2.1, ix5.2.2.1, ix5.2.2.2, Option.map_some, moOf, hs, res_mutL (hs _), cls_mutL (hs _), List.set_set, beq_self_eq_true, hlen, ha, hp, c3, decide_true, decide_false, d1, d2, m1, m2, hv]
  · refine key none M at_ cell small hM (fun x => rfl) h1 h2 h3 h4 h5 ?_
    have hlen : ((cs.map D.int).length : Int) = cs.length := by simp
    unfold Pre.pull
    simp only [List.headD_cons]
    by_cases c2 : cell = 0
    · subst c2
      have c3 : ¬ at_ < (cs.length : Int) := fun z => c1 ⟨rfl, z⟩
      simp only [evVSs.eq_1, evVSs.eq_2, evVS.eq_1, evVS.eq_2, evVS.eq_3, evVS.eq_4, evVS.eq_5, evVS.eq_6, evVS.eq_7, evVS.eq_8, evVS.eq_9, evVS.eq_10, evVS.eq_11, evVS.eq_12, evVS.eq_13, evVS.eq_14, evVS.eq_15, evVS.eq_16, evVS.eq_17, evVS.eq_18, evV.eq_1, evV.eq_2, evV.eq_3, evV.eq_4, evV.eq_5, evV.eq_6, evV.eq_7, evV.eq_8, evV.eq_9, evV.eq_10, evV.eq_11, evV.eq_12, evV.eq_13, evV.eq_14, evV.eq_15, evV.eq_16, evV.eq_17, evV.eq_18, evV.eq_19, evV.eq_20, evV.eq_21, evV.eq_22, evV.eq_23, evV.eq_24, evV.eq_25, evV.eq_26, evV.eq_27, evV.eq_28, evV.eq_29, evV.eq_30, evV.eq_31, evV.eq_32, evV.eq_33, evLV.eq_1, evLV.eq_2, evTV.eq_1, evTV.eq_2, evTV.eq_3, evTBV.eq_1, evTBV.eq_2, evTBV.eq_3, evBV.eq_1, evBV.eq_2, evBV.eq_3, evToV.eq_1, evToV.eq_2, evOV.eq_1, evOV.eq_2, evFV.eq_1, evFV.eq_2, evPV, prepM, reduceCtorEq, false_implies, false_imp_iff, implies_true, frz, escE, escT, escTL, escTo, escL, escO, bmOwn, frE, locV, retM, v_bind, v_bindE, v_lift, v_liftE, v_of, v_seq, v_seqR, v_seqE, v_turn, v_turnR, v_turnE, v_nox,
  res_int, res_bl, res_str, res_non, res_lst, res_fro, res_tup, res_ins, cls_int, cls_bl, cls_str, cls_non, cls_lst, cls_fro, cls_tup, cls_ins, cmp_int, cmp_bl, cmp_str, cmp_nonK, cmp_lst, cmp_fro, cmp_tup, c_lt, c_le, c_gt, c_ge, c_eq, c_ne, c_is, c_isnot, xi_lst, xi_fro, xi_tup, tr_bl, tr_int, tr_lst, bf_lenL, bf_lenF, bf_lenT, bf_int, b_add, b_sub,
  List.append_nil, List.nil_append, List.cons_append, List.getElem?_cons_zero, List.getElem?_cons_succ, List.set_cons_zero, List.set_cons_succ, List.length_cons, List.length_nil, if_true, if_false, reduceIte, Bool.false_eq_true, ite_true, ite_false, Bool.true_eq_false, eqV_int, eqV_bl, Option.map_some, hmd, res_mutL hM, cls_mutL hM, at5_0, at5_1, at5_2, at5_3, at5_4, decide_eq_true_eq, beq_self_eq_true, hlen, c3, decide_false]
    · have c4 : (cell == 0) = false := by simpa using c2
      simp only [evVSs.eq_1, evVSs.eq_2, evVS.eq_1, evVS.eq_2, evVS.eq_3, evVS.eq_4, evVS.eq_5, evVS.eq_6, evVS.eq_7, evVS.eq_8, evVS.eq_9, evVS.eq_10, evVS.eq_11, evVS.eq_12, evVS.eq_13, evVS.eq_14, evVS.eq_15, evVS.eq_16, evVS.eq_17, evVS.eq_18, evV.eq_1, evV.eq_2, evV.eq_3, evV.eq_4, evV.eq_5, evV.eq_6, evV.eq_7, evV.eq_8, evV.eq_9, evV.eq_10, evV.eq_11, evV.eq_12, evV.eq_13, evV.eq_14, evV.eq_15, evV.eq_16, evV.eq_17, evV.eq_18, evV.eq_19, evV.eq_20, evV.eq_21, evV.eq_22, evV.eq_23, evV.eq_24, evV.eq_25, evV.eq_26, evV.eq_27, evV.eq_28, evV.eq_29, evV.eq_30, evV.eq_31, evV.eq_32, evV.eq_33, evLV.eq_1, evLV.eq_2, evTV.eq_1, evTV.eq_2, evTV.eq_3, evTBV.eq_1, evTBV.eq_2, evTBV.eq_3, evBV.eq_1, evBV.eq_2, evBV.eq_3, evToV.eq_1, evToV.eq_2, evOV.eq_1, evOV.eq_2, evFV.eq_1, evFV.eq_2, evPV, prepM, reduceCtorEq, false_implies, false_imp_iff, implies_true, frz, escE, escT, escTL, escTo, escL, escO, bmOwn, frE, locV, retM, v_bind, v_bindE, v_lift, v_liftE, v_of, v_seq, v_seqR, v_seqE, v_turn, v_turnR, v_turnE, v_nox,
  res_int, res_bl, res_str, res_non, res_lst, res_fro, res_tup, res_ins, cls_int, cls_bl, cls_str, cls_non, cls_lst, cls_fro, cls_tup, cls_ins, cmp_int, cmp_bl, cmp_str, cmp_nonK, cmp_lst, cmp_fro, cmp_tup, c_lt, c_le, c_gt, c_ge, c_eq, c_ne, c_is, c_isnot, xi_lst, xi_fro, xi_tup, tr_bl, tr_int, tr_lst, bf_lenL, bf_lenF, bf_lenT, bf_int, b_add, b_sub,
  List.append_nil, List.nil_append, List.cons_append, List.getElem?_cons_zero, List.getElem?_cons_succ, List.set_cons_zero, List.set_cons_succ, List.length_cons, List.length_nil, if_true, if_false, reduceIte, Bool.false_eq_true, ite_true, ite_false, Bool.true_eq_false, eqV_int, eqV_bl, Option.map_some, hmd, res_mutL hM, cls_mutL hM, at5_0, at5_1, at5_2, at5_3, at5_4, decide_eq_true_eq, c4]
end
end Z
namespace Z
open PySem PySem.Spec PyProof.Rows L2
/-! ## the prelude of the laws -/
def btys : List Ty := [.tnone, .tint, .tbool, .tstr, .tlist, .ttup]
structure PreOk (T : Pg) (md : Str → Nat → Nat) (fns : Str → Option Fn) : Prop where
  bag : fns "_law_bag" = some Pre.bag
  pull : fns "_law_pull" = some Pre.pull
  gpull : T.gf "_law_pull" = true
  mpull : ∀ j, md "_law_pull" j = 0
  mof : ∀ j, md "_law_of" j = 0
  mbag : ∀ j, md "_law_bag" j = 0
  msame : ∀ j, md "_law_same" j = 0
  of : fns "_law_of" = some Pre.of
  same : fns "_law_same" = some Pre.same
  gsame : T.gf "_law_same" = true
  isa : ∀ t ∈ btys, ∀ c ∈ [Ty.tint, .tbool, .tstr, .tlist, .ttup], T.isa t c = some (decide (t = c) || (decide (t = .tbool) && decide (c = .tint)))
section
variable {T : Pg} {md : Str → Nat → Nat} {fns : Str → Option Fn} {k : Nat} {M : Mem} {i t : Nat}
theorem of_ok (P : PreOk T md fns) {B : List D} (hM : M[i]? = some (.lst B)) (hB : BagOk B t) (ht : t < 1000000) {xs : List D} (h1 : xs ≠ []) (h2 : xs.length < 1000000) :
    ∃ x b B', cfV T md fns (k + 2) "_law_of" [.mut i, .lst xs] M = .ok (x, b) (M.set i (.lst B')) ∧ x ∈ xs ∧ BagOk B' (t + 1) := by
  have hl : (0 : Int) < xs.length := by
    cases xs with
    | nil => exact (h1 rfl).elim
    | cons a r => simp only [List.length_cons]; omega
  obtain ⟨r, b, B', q1, q2, q3, q4⟩ := pull_ok (T := T) (fns := fns) (md := md) (k := k) P.pull P.mpull hM hB ht (m := xs.length) hl (by
    have := log_int (a := (xs.length : Int)) (k := 30) (by omega) (by omega)
    omega)
  have hr : r.toNat < xs.length := by omega
  have ha : atI xs r = some xs[r.toNat] := by
    unfold atI ixN
    rw [if_pos q2, if_pos q3]
    simp [hr]
  refine ⟨xs[r.toNat], false, B', ?_, List.getElem_mem hr, q4⟩
  have hst : startV Pre.of.N [D.mut i, .lst xs] = [some (.v (.mut i)), some (.v (.lst xs))] := rfl
  have hps : ([D.mut i, .lst xs] : List D).length = Pre.of.ps.length := rfl
  rw [cfV]
  simp only [P.of]
  rw [if_pos hps, hst]
  unfold Pre.of
  simp only [evVSs.eq_1, evVSs.eq_2, evVS.eq_1, evVS.eq_2, evVS.eq_3, evVS.eq_4, evVS.eq_5, evVS.eq_6, evVS.eq_7, evVS.eq_8, evVS.eq_9, evVS.eq_10, evVS.eq_11, evVS.eq_12, evVS.eq_13, evVS.eq_14, evVS.eq_15, evVS.eq_16, evVS.eq_17, evVS.eq_18, evV.eq_1, evV.eq_2, evV.eq_3, evV.eq_4, evV.eq_5, evV.eq_6, evV.eq_7, evV.eq_8, evV.eq_9, evV.eq_10, evV.eq_11, evV.eq_12, evV.eq_13, evV.eq_14, evV.eq_15, evV.eq_16, evV.eq_17, evV.eq_18, evV.eq_19, evV.eq_20, evV.eq_21, evV.eq_22, evV.eq_23, evV.eq_24, evV.eq_25, evV.eq_26, evV.eq_27, evV.eq_28, evV.eq_29, evV.eq_30, evV.eq_31, evV.eq_32, evV.eq_33, evLV.eq_1, evLV.eq_2, evTV.eq_1, evTV.eq_2, evTV.eq_3, evTBV.eq_1, evTBV.eq_2, evTBV.eq_3, evBV.eq_1, evBV.eq_2, evBV.eq_3, evToV.eq_1, evToV.eq_2, evOV.eq_1, evOV.eq_2, evFV.eq_1, evFV.eq_2, evPV, prepM, reduceCtorEq, false_implies, false_imp_iff, implies_true, frz, escE, escT, escTL, escTo, escL, escO, bmOwn, frE, locV, retM, v_bind, v_bindE, v_lift, v_liftE, v_of, v_seq, v_seqR, v_seqE, v_turn, v_turnR, v_turnE, v_nox,
  res_int, res_bl, res_str, res_non, res_lst, res_fro, res_tup, res_ins, cls_int, cls_bl, cls_str, cls_non, cls_lst, cls_fro, cls_tup, cls_ins, cmp_int, cmp_bl, cmp_str, cmp_nonK, cmp_lst, cmp_fro, cmp_tup, c_lt, c_le, c_gt, c_ge, c_eq, c_ne, c_is, c_isnot, xi_lst, xi_fro, xi_tup, tr_bl, tr_int, tr_lst, bf_lenL, bf_lenF, bf_lenT, bf_int, b_add, b_sub,
  List.append_nil, List.nil_append, List.cons_append, List.getElem?_cons_zero, List.getElem?_cons_succ, List.set_cons_zero, List.set_cons_succ, List.length_cons, List.length_nil, if_true, if_false, reduceIte, Bool.false_eq_true, ite_true, ite_false, Bool.true_eq_false, eqV_int, eqV_bl, Option.map_some, P.mof, P.gpull, q1, ha]
theorem bag_ok (P : PreOk T md fns) {ns : List Int} {s : D} (hs : s = .fro (ns.map D.int) ∨ s = .lst (ns.map D.int)) :
    ∃ B b, cfV T md fns (k + 1) "_law_bag" [s] M = .ok (.lst B, b) M ∧ b = true ∧ BagOk B 0 := by
  have hcut : ∃ cs : List Int, cutU (ns.map D.int) none (some 63) = cs.map D.int := by
    unfold cutU
    exact ⟨(ns.drop _).take _, by rw [List.map_take, List.map_drop]⟩
  obtain ⟨cs, hc⟩ := hcut
  have hsl : slopV s none (some 63) = some (.lst (cs.map D.int)) := by
    rcases hs with rfl | rfl <;> (simp only [slopV]; rw [hc])
  have hres : res M s = s := by rcases hs with rfl | rfl <;> rfl
  have hbl : bfKV T (cfV T md fns k) .blist [.lst (cs.map D.int)] M = .ok (.lst (cs.map D.int)) M := rfl
  have hz : (5 : Nat) ≤ sizeLine := by rw [sizeLine_eq]; decide
  refine ⟨[.lst (cs.map D.int), .int 0, .int 0, .int 5607, .int 0], true, ?_, rfl, ⟨cs, 0, 0, 5607, 0, rfl, by omega, by omega, by omega, by omega, by omega, by omega, by omega⟩⟩
  have hst : startV Pre.bag.N [s] = [some (.v s)] := rfl
  have hps : ([s] : List D).length = Pre.bag.ps.length := rfl
  rw [cfV]
  simp only [P.bag]
  rw [if_pos hps, hst]
  unfold Pre.bag
  simp only [evVSs.eq_1, evVSs.eq_2, evVS.eq_1, evVS.eq_2, evVS.eq_3, evVS.eq_4, evVS.eq_5, evVS.eq_6, evVS.eq_7, evVS.eq_8, evVS.eq_9, evVS.eq_10, evVS.eq_11, evVS.eq_12, evVS.eq_13, evVS.eq_14, evVS.eq_15, evVS.eq_16, evVS.eq_17, evVS.eq_18, evV.eq_1, evV.eq_2, evV.eq_3, evV.eq_4, evV.eq_5, evV.eq_6, evV.eq_7, evV.eq_8, evV.eq_9, evV.eq_10, evV.eq_11, evV.eq_12, evV.eq_13, evV.eq_14, evV.eq_15, evV.eq_16, evV.eq_17, evV.eq_18, evV.eq_19, evV.eq_20, evV.eq_21, evV.eq_22, evV.eq_23, evV.eq_24, evV.eq_25, evV.eq_26, evV.eq_27, evV.eq_28, evV.eq_29, evV.eq_30, evV.eq_31, evV.eq_32, evV.eq_33, evLV.eq_1, evLV.eq_2, evTV.eq_1, evTV.eq_2, evTV.eq_3, evTBV.eq_1, evTBV.eq_2, evTBV.eq_3, evBV.eq_1, evBV.eq_2, evBV.eq_3, evToV.eq_1, evToV.eq_2, evOV.eq_1, evOV.eq_2, evFV.eq_1, evFV.eq_2, evPV, prepM, reduceCtorEq, false_implies, false_imp_iff, implies_true, frz, escE, escT, escTL, escTo, escL, escO, bmOwn, frE, locV, retM, v_bind, v_bindE, v_lift, v_liftE, v_of, v_seq, v_seqR, v_seqE, v_turn, v_turnR, v_turnE, v_nox,
  res_int, res_bl, res_str, res_non, res_lst, res_fro, res_tup, res_ins, cls_int, cls_bl, cls_str, cls_non, cls_lst, cls_fro, cls_tup, cls_ins, cmp_int, cmp_bl, cmp_str, cmp_nonK, cmp_lst, cmp_fro, cmp_tup, c_lt, c_le, c_gt, c_ge, c_eq, c_ne, c_is, c_isnot, xi_lst, xi_fro, xi_tup, tr_bl, tr_int, tr_lst, bf_lenL, bf_lenF, bf_lenT, bf_int, b_add, b_sub,
  List.append_nil, List.nil_append, List.cons_append, List.getElem?_cons_zero, List.getElem?_cons_succ, List.set_cons_zero, List.set_cons_succ, List.length_cons, List.length_nil, if_true, if_false, reduceIte, Bool.false_eq_true, ite_true, ite_false, Bool.true_eq_false, eqV_int, eqV_bl, Option.map_some, P.mbag, hres, hsl, hbl, Nat.reduceAdd, hz]
/-! ### _law_same -/
/-- no list, no tuple -/
def Atom (x : D) : Prop := x = .non ∨ (∃ b, x = .bl b) ∨ (∃ a, x = .int a) ∨ ∃ a, x = .str a ∧ PyData.strOk a = true
/-- equal and of the same kinds, n deep at the most -/
def Sm : Nat → D → D → Prop
  | 0, x, y => Atom x ∧ y = x
  | n + 1, x, y => (Atom x ∧ y = x) ∨ (∃ xs ys, x = .tup xs ∧ y = .tup ys ∧ Paired (Sm n) xs ys ∧ xs.length ≤ 1000000) ∨ ∃ xs ys, x = .lst xs ∧ y = .lst ys ∧ Paired (Sm n) xs ys ∧ xs.length ≤ 1000000
theorem eqV_str {a : Str} (h : PyData.strOk a = true) : eqV (.str a) (.str a) = some true := by
  unfold eqV
  simp only [toDV, Option.bind_some]
  have z : SeqAt.shaped (.str a) = true := by simp [SeqAt.shaped, PyData.canLay0, PyData.depth, h]
  rw [if_pos ⟨z, z⟩]
  simp [PyData.eqv]
theorem zip_lc {test : Rv → Mem → OV Bool} {elt : Rv → Mem → OV D} {R : D → D → Prop} {a0 a1 a2 a3 : Option Sl} (ht : ∀ ρ, test ρ M = .ok true M) (he : ∀ x y, R x y → elt [a0, a1, some (.v x), some (.v y)] M = .ok (.bl true) M) : ∀ {xs ys : List D}, Paired R xs ys →
    lcV (.tp [2, 3]) [2, 3] [a0, a1, a2, a3] test elt (zipF xs ys) M = .ok (List.replicate xs.length (.bl true)) M
  | [], [], _ => rfl
  | x :: xs, y :: ys, .cons h t => by
    have e2 := zip_lc (a2 := a2) (a3 := a3) ht he t
    have z : assignV (.tp [2, 3]) (.tup [x, y]) (wipeV [a0, a1, a2, a3] [2, 3]) = some [a0, a1, some (.v x), some (.v y)] := rfl
    simp only [zipF, lcV, z, ht, he x y h, v_nox, v_bind, if_true, e2]
    rfl
theorem bls_all : ∀ n : Nat, asBlsV (List.replicate n (.bl true)) = some (List.replicate n true)
  | 0 => rfl
  | n + 1 => by simp only [List.replicate_succ, asBlsV, bls_all n]; rfl
theorem ball_rep {cf : CfV} (n : Nat) : bfKV T cf .ball [.lst (List.replicate n (.bl true))] M = .ok (.bl true) M := by
  have : bfKV T cf .ball [.lst (List.replicate n (.bl true))] M = ofV (bfopV .ball [.lst (List.replicate n (.bl true))]) M := rfl
  rw [this]
  simp only [bfopV, lstBlsV, bls_all]
  simp [ofV]
theorem zipF_len : ∀ {xs ys : List D} {R : D → D → Prop}, Paired R xs ys → (zipF xs ys).length = xs.length
  | [], [], _, _ => rfl
  | x :: xs, y :: ys, R, .cons _ t => by simp only [zipF, List.length_cons, zipF_len t]
theorem same_atom (P : PreOk T md fns) {x : D} (h : Atom x) (k : Nat) (M : Mem) : ∃ b, cfV T md fns (k + 1) "_law_same" [x, x] M = .ok (.bl true, b) M := by
  have hst : ∀ x y : D, startV Pre.same.N [x, y] = [some (.v x), some (.v y), none, none] := fun _ _ => rfl
  have hps : ∀ x y : D, ([x, y] : List D).length = Pre.same.ps.length := fun _ _ => rfl
  have isa := P.isa
  simp only [btys, List.mem_cons, List.not_mem_nil, or_false, forall_eq_or_imp, forall_eq, reduceCtorEq, decide_false, decide_true, Bool.or_false, Bool.or_true, Bool.false_or, Bool.true_and, Bool.and_true, Bool.false_and, Bool.and_false] at isa
  refine ⟨false, ?_⟩
  rw [cfV]
  simp only [P.same]
  rw [if_pos (hps _ _), hst]
  unfold Pre.same
  rcases h with rfl | ⟨b, rfl⟩ | ⟨a, rfl⟩ | ⟨a, rfl, ha⟩
  · simp only [evVSs.eq_1, evVSs.eq_2, evVS.eq_1, evVS.eq_2, evVS.eq_3, evVS.eq_4, evVS.eq_5, evVS.eq_6, evVS.eq_7, evVS.eq_8, evVS.eq_9, evVS.eq_10, evVS.eq_11, evVS.eq_12, evVS.eq_13, evVS.eq_14, evVS.eq_15, evVS.eq_16, evVS.eq_17, evVS.eq_18, evV.eq_1, evV.eq_2, evV.eq_3, evV.eq_4, evV.eq_5, evV.eq_6, evV.eq_7, evV.eq_8, evV.eq_9, evV.eq_10, evV.eq_11, evV.eq_12, evV.eq_13, evV.eq_14, evV.eq_15, evV.eq_16, evV.eq_17, evV.eq_18, evV.eq_19, evV.eq_20, evV.eq_21, evV.eq_22, evV.eq_23, evV.eq_24, evV.eq_25, evV.eq_26, evV.eq_27, evV.eq_28, evV.eq_29, evV.eq_30, evV.eq_31, evV.eq_32, evV.eq_33, evLV.eq_1, evLV.eq_2, evTV.eq_1, evTV.eq_2, evTV.eq_3, evTBV.eq_1, evTBV.eq_2, evTBV.eq_3, evBV.eq_1, evBV.eq_2, evBV.eq_3, evToV.eq_1, evToV.eq_2, evOV.eq_1, evOV.eq_2, evFV.eq_1, evFV.eq_2, evPV, prepM, reduceCtorEq, false_implies, false_imp_iff, implies_true, frz, escE, escT, escTL, escTo, escL, escO, bmOwn, frE, locV, retM, v_bind, v_bindE, v_lift, v_liftE, v_of, v_seq, v_seqR, v_seqE, v_turn, v_turnR, v_turnE, v_nox,
  res_int, res_bl, res_str, res_non, res_lst, res_fro, res_tup, res_ins, cls_int, cls_bl, cls_str, cls_non, cls_lst, cls_fro, cls_tup, cls_ins, cmp_int, cmp_bl, cmp_str, cmp_nonK, cmp_lst, cmp_fro, cmp_tup, c_lt, c_le, c_gt, c_ge, c_eq, c_ne, c_is, c_isnot, xi_lst, xi_fro, xi_tup, tr_bl, tr_int, tr_lst, bf_lenL, bf_lenF, bf_lenT, bf_int, b_add, b_sub,
  List.append_nil, List.nil_append, List.cons_append, List.getElem?_cons_zero, List.getElem?_cons_succ, List.set_cons_zero, List.set_cons_succ, List.length_cons, List.length_nil, if_true, if_false, reduceIte, Bool.false_eq_true, ite_true, ite_false, Bool.true_eq_false, eqV_int, eqV_bl, Option.map_some, P.msame, tyM, tyV, isaAny, isa, Option.bind_some, List.all_cons, List.all_nil, clsOk, Bool.or_self, Bool.or_false, Bool.and_self, isNonV, bne_self_eq_false, beq_self_eq_true]
  · simp only [evVSs.eq_1, evVSs.eq_2, evVS.eq_1, evVS.eq_2, evVS.eq_3, evVS.eq_4, evVS.eq_5, evVS.eq_6, evVS.eq_7, evVS.eq_8, evVS.eq_9, evVS.eq_10, evVS.eq_11, evVS.eq_12, evVS.eq_13, evVS.eq_14, evVS.eq_15, evVS.eq_16, evVS.eq_17, evVS.eq_18, evV.eq_1, evV.eq_2, evV.eq_3, evV.eq_4, evV.eq_5, evV.eq_6, evV.eq_7, evV.eq_8, evV.eq_9, evV.eq_10, evV.eq_11, evV.eq_12, evV.eq_13, evV.eq_14, evV.eq_15, evV.eq_16, evV.eq_17, evV.eq_18, evV.eq_19, evV.eq_20, evV.eq_21, evV.eq_22, evV.eq_23, evV.eq_24, evV.eq_25, evV.eq_26, evV.eq_27, evV.eq_28, evV.eq_29, evV.eq_30, evV.eq_31, evV.eq_32, evV.eq_33, evLV.eq_1, evLV.eq_2, evTV.eq_1, evTV.eq_2, evTV.eq_3, evTBV.eq_1, evTBV.eq_2, evTBV.eq_3, evBV.eq_1, evBV.eq_2, evBV.eq_3, evToV.eq_1, evToV.eq_2, evOV.eq_1, evOV.eq_2, evFV.eq_1, evFV.eq_2, evPV, prepM, reduceCtorEq, false_implies, false_imp_iff, implies_true, frz, escE, escT, escTL, escTo, escL, escO, bmOwn, frE, locV, retM, v_bind, v_bindE, v_lift, v_liftE, v_of, v_seq, v_seqR, v_seqE, v_turn, v_turnR, v_turnE, v_nox,
  res_int, res_bl, res_str, res_non, res_lst, res_fro, res_tup, res_ins, cls_int, cls_bl, cls_str, cls_non, cls_lst, cls_fro, cls_tup, cls_ins, cmp_int, cmp_bl, cmp_str, cmp_nonK, cmp_lst, cmp_fro, cmp_tup, c_lt, c_le, c_gt, c_ge, c_eq, c_ne, c_is, c_isnot, xi_lst, xi_fro, xi_tup, tr_bl, tr_int, tr_lst, bf_lenL, bf_lenF, bf_lenT, bf_int, b_add, b_sub,
  List.append_nil, List.nil_append, List.cons_append, List.getElem?_cons_zero, List.getElem?_cons_succ, List.set_cons_zero, List.set_cons_succ, List.length_cons, List.length_nil, if_true, if_false, reduceIte, Bool.false_eq_true, ite_true, ite_false, Bool.true_eq_false, eqV_int, eqV_bl, Option.map_some, P.msame, tyM, tyV, isaAny, isa, Option.bind_some, List.all_cons, List.all_nil, clsOk, Bool.or_self, Bool.or_false, Bool.and_self, isNonV, bne_self_eq_false, beq_self_eq_true, Bool.not_true, Bool.not_false]
  · simp only [evVSs.eq_1, evVSs.eq_2, evVS.eq_1, evVS.eq_2, evVS.eq_3, evVS.eq_4, evVS.eq_5, evVS.eq_6, evVS.eq_7, evVS.eq_8, evVS.eq_9, evVS.eq_10, evVS.eq_11, evVS.eq_12, evVS.eq_13, evVS.eq_14, evVS.eq_15, evVS.eq_16, evVS.eq_17, evVS.eq_18, evV.eq_1, evV.eq_2, evV.eq_3, evV.eq_4, evV.eq_5, evV.eq_6, evV.eq_7, evV.eq_8, evV.eq_9, evV.eq_10, evV.eq_11, evV.eq_12, evV.eq_13, evV.eq_14, evV.eq_15, evV.eq_16, evV.eq_17, evV.eq_18, evV.eq_19, evV.eq_20, evV.eq_21, evV.eq_22, evV.eq_23, evV.eq_24, evV.eq_25, evV.eq_26, evV.eq_27, evV.eq_28, evV.eq_29, evV.eq_30, evV.eq_31, evV.eq_32, evV.eq_33, evLV.eq_1, evLV.eq_2, evTV.eq_1, evTV.eq_2, evTV.eq_3, evTBV.eq_1, evTBV.eq_2, evTBV.eq_3, evBV.eq_1, evBV.eq_2, evBV.eq_3, evToV.eq_1, evToV.eq_2, evOV.eq_1, evOV.eq_2, evFV.eq_1, evFV.eq_2, evPV, prepM, reduceCtorEq, false_implies, false_imp_iff, implies_true, frz, escE, escT, escTL, escTo, escL, escO, bmOwn, frE, locV, retM, v_bind, v_bindE, v_lift, v_liftE, v_of, v_seq, v_seqR, v_seqE, v_turn, v_turnR, v_turnE, v_nox,
  res_int, res_bl, res_str, res_non, res_lst, res_fro, res_tup, res_ins, cls_int, cls_bl, cls_str, cls_non, cls_lst, cls_fro, cls_tup, cls_ins, cmp_int, cmp_bl, cmp_str, cmp_nonK, cmp_lst, cmp_fro, cmp_tup, c_lt, c_le, c_gt, c_ge, c_eq, c_ne, c_is, c_isnot, xi_lst, xi_fro, xi_tup, tr_bl, tr_int, tr_lst, bf_lenL, bf_lenF, bf_lenT, bf_int, b_add, b_sub,
  List.append_nil, List.nil_append, List.cons_append, List.getElem?_cons_zero, List.getElem?_cons_succ, List.set_cons_zero, List.set_cons_succ, List.length_cons, List.length_nil, if_true, if_false, reduceIte, Bool.false_eq_true, ite_true, ite_false, Bool.true_eq_false, eqV_int, eqV_bl, Option.map_some, P.msame, tyM, tyV, isaAny, isa, Option.bind_some, List.all_cons, List.all_nil, clsOk, Bool.or_self, Bool.or_false, Bool.and_self, isNonV, bne_self_eq_false, beq_self_eq_true, Bool.not_true, Bool.not_false]
  · simp only [evVSs.eq_1, evVSs.eq_2, evVS.eq_1, evVS.eq_2, evVS.eq_3, evVS.eq_4, evVS.eq_5, evVS.eq_6, evVS.eq_7, evVS.eq_8, evVS.eq_9, evVS.eq_10, evVS.eq_11, evVS.eq_12, evVS.eq_13, evVS.eq_14, evVS.eq_15, evVS.eq_16, evVS.eq_17, evVS.eq_18, evV.eq_1, evV.eq_2, evV.eq_3, evV.eq_4, evV.eq_5, evV.eq_6, evV.eq_7, evV.eq_8, evV.eq_9, evV.eq_10, evV.eq_11, evV.eq_12, evV.eq_13, evV.eq_14, evV.eq_15, evV.eq_16, evV.eq_17, evV.eq_18, evV.eq_19, evV.eq_20, evV.eq_21, evV.eq_22, evV.eq_23, evV.eq_24, evV.eq_25, evV.eq_26, evV.eq_27, evV.eq_28, evV.eq_29, evV.eq_30, evV.eq_31, evV.eq_32, evV.eq_33, evLV.eq_1, evLV.eq_2, evTV.eq_1, evTV.eq_2, evTV.eq_3, evTBV.eq_1, evTBV.eq_2, evTBV.eq_3, evBV.eq_1, evBV.eq_2, evBV.eq_3, evToV.eq_1, evToV.eq_2, evOV.eq_1, evOV.eq_2, evFV.eq_1, evFV.eq_2, evPV, prepM, reduceCtorEq, false_implies, false_imp_iff, implies_true, frz, escE, escT, escTL, escTo, escL, escO, bmOwn, frE, locV, retM, v_bind, v_bindE, v_lift, v_liftE, v_of, v_seq, v_seqR, v_seqE, v_turn, v_turnR, v_turnE, v_nox,
  res_int, res_bl, res_str, res_non, res_lst, res_fro, res_tup, res_ins, cls_int, cls_bl, cls_str, cls_non, cls_lst, cls_fro, cls_tup, cls_ins, cmp_int, cmp_bl, cmp_str, cmp_nonK, cmp_lst, cmp_fro, cmp_tup, c_lt, c_le, c_gt, c_ge, c_eq, c_ne, c_is, c_isnot, xi_lst, xi_fro, xi_tup, tr_bl, tr_int, tr_lst, bf_lenL, bf_lenF, bf_lenT, bf_int, b_add, b_sub,
  List.append_nil, List.nil_append, List.cons_append, List.getElem?_cons_zero, List.getElem?_cons_succ, List.set_cons_zero, List.set_cons_succ, List.length_cons, List.length_nil, if_true, if_false, reduceIte, Bool.false_eq_true, ite_true, ite_false, Bool.true_eq_false, eqV_int, eqV_bl, Option.map_some, P.msame, tyM, tyV, isaAny, isa, Option.bind_some, List.all_cons, List.all_nil, clsOk, Bool.or_self, Bool.or_false, Bool.and_self, isNonV, bne_self_eq_false, beq_self_eq_true, Bool.not_true, Bool.not_false, eqV_str ha]
theorem same_ok (P : PreOk T md fns) : ∀ {n : Nat} {x y : D}, Sm n x y → ∀ (k : Nat) (M : Mem), ∃ b, cfV T md fns (k + n + 1) "_law_same" [x, y] M = .ok (.bl true, b) M
  | 0, x, y, h, k, M => by
    obtain ⟨h, rfl⟩ := h
    exact same_atom P h k M
  | n + 1, x, y, h, k, M => by
    rcases h with ⟨h, rfl⟩ | ⟨xs, ys, rfl, rfl, hp, hl⟩ | ⟨xs, ys, rfl, rfl, hp, hl⟩
    · exact same_atom P h (k + (n + 1)) M
    all_goals
      have hst : ∀ x y : D, startV Pre.same.N [x, y] = [some (.v x), some (.v y), none, none] := fun _ _ => rfl
      have hps : ∀ x y : D, ([x, y] : List D).length = Pre.same.ps.length := fun _ _ => rfl
      have isa := P.isa
      simp only [btys, List.mem_cons, List.not_mem_nil, or_false, forall_eq_or_imp, forall_eq, reduceCtorEq, decide_false, decide_true, Bool.or_false, Bool.or_true, Bool.false_or, Bool.true_and, Bool.and_true, Bool.false_and, Bool.and_false] at isa
      have ih := fun x y h => same_ok P (n := n) (x := x) (y := y) h k M
      have len : ys.length = xs.length := (Paired.length hp).symm
      have hz : (zipF xs ys).length ≤ sizeLine := by rw [zipF_len hp, sizeLine_eq]; omega
      have he : ∀ a0 a1 x y, Sm n x y → (evV T (cfV T md fns (k + n + 1)) (jfV T md fns (k + n + 1)) false (.call "_law_same" [.loc 2, .loc 3])) [a0, a1, some (.v x), some (.v y)] M = .ok (.bl true) M := fun a0 a1 x y h => by
        obtain ⟨b, hb⟩ := ih x y h
        simp only [evVSs.eq_1, evVSs.eq_2, evVS.eq_1, evVS.eq_2, evVS.eq_3, evVS.eq_4, evVS.eq_5, evVS.eq_6, evVS.eq_7, evVS.eq_8, evVS.eq_9, evVS.eq_10, evVS.eq_11, evVS.eq_12, evVS.eq_13, evVS.eq_14, evVS.eq_15, evVS.eq_16, evVS.eq_17, evVS.eq_18, evV.eq_1, evV.eq_2, evV.eq_3, evV.eq_4, evV.eq_5, evV.eq_6, evV.eq_7, evV.eq_8, evV.eq_9, evV.eq_10, evV.eq_11, evV.eq_12, evV.eq_13, evV.eq_14, evV.eq_15, evV.eq_16, evV.eq_17, evV.eq_18, evV.eq_19, evV.eq_20, evV.eq_21, evV.eq_22, evV.eq_23, evV.eq_24, evV.eq_25, evV.eq_26, evV.eq_27, evV.eq_28, evV.eq_29, evV.eq_30, evV.eq_31, evV.eq_32, evV.eq_33, evLV.eq_1, evLV.eq_2, evTV.eq_1, evTV.eq_2, evTV.eq_3, evTBV.eq_1, evTBV.eq_2, evTBV.eq_3, evBV.eq_1, evBV.eq_2, evBV.eq_3, evToV.eq_1, evToV.eq_2, evOV.eq_1, evOV.eq_2, evFV.eq_1, evFV.eq_2, evPV, prepM, reduceCtorEq, false_implies, false_imp_iff, implies_true, frz, escE, escT, escTL, escTo, escL, escO, bmOwn, frE, locV, retM, v_bind, v_bindE, v_lift, v_liftE, v_of, v_seq, v_seqR, v_seqE, v_turn, v_turnR, v_turnE, v_nox,
  res_int, res_bl, res_str, res_non, res_lst, res_fro, res_tup, res_ins, cls_int, cls_bl, cls_str, cls_non, cls_lst, cls_fro, cls_tup, cls_ins, cmp_int, cmp_bl, cmp_str, cmp_nonK, cmp_lst, cmp_fro, cmp_tup, c_lt, c_le, c_gt, c_ge, c_eq, c_ne, c_is, c_isnot, xi_lst, xi_fro, xi_tup, tr_bl, tr_int, tr_lst, bf_lenL, bf_lenF, bf_lenT, bf_int, b_add, b_sub,
  List.append_nil, List.nil_append, List.cons_append, List.getElem?_cons_zero, List.getElem?_cons_succ, List.set_cons_zero, List.set_cons_succ, List.length_cons, List.length_nil, if_true, if_false, reduceIte, Bool.false_eq_true, ite_true, ite_false, Bool.true_eq_false, eqV_int, eqV_bl, Option.map_some, P.gsame, hb]
      have zl : ∀ a0 a1, lcV (.tp [2, 3]) [2, 3] [a0, a1, none, none] (evToV T (cfV T md fns (k + n + 1)) (jfV T md fns (k + n + 1)) none) (evV T (cfV T md fns (k + n + 1)) (jfV T md fns (k + n + 1)) false (.call "_law_same" [.loc 2, .loc 3])) (zipF xs ys) M = .ok (List.replicate xs.length (.bl true)) M := fun a0 a1 => zip_lc (fun _ => rfl) (fun x y h => he a0 a1 x y h) hp
      refine ⟨false, ?_⟩
      rw [show k + (n + 1) + 1 = (k + n + 1) + 1 by omega, cfV]
      simp only [P.same]
      rw [if_pos (hps _ _), hst]
      unfold Pre.same
      simp only [evVSs.eq_1, evVSs.eq_2, evVS.eq_1, evVS.eq_2, evVS.eq_3, evVS.eq_4, evVS.eq_5, evVS.eq_6, evVS.eq_7, evVS.eq_8, evVS.eq_9, evVS.eq_10, evVS.eq_11, evVS.eq_12, evVS.eq_13, evVS.eq_14, evVS.eq_15, evVS.eq_16, evVS.eq_17, evVS.eq_18, evV.eq_1, evV.eq_2, evV.eq_3, evV.eq_4, evV.eq_5, evV.eq_6, evV.eq_7, evV.eq_8, evV.eq_9, evV.eq_10, evV.eq_11, evV.eq_12, evV.eq_13, evV.eq_14, evV.eq_15, evV.eq_16, evV.eq_17, evV.eq_18, evV.eq_19, evV.eq_20, evV.eq_21, evV.eq_22, evV.eq_23, evV.eq_24, evV.eq_25, evV.eq_26, evV.eq_27, evV.eq_28, evV.eq_29, evV.eq_30, evV.eq_31, evV.eq_32, evV.eq_33, evLV.eq_1, evLV.eq_2, evTV.eq_1, evTV.eq_2, evTV.eq_3, evTBV.eq_1, evTBV.eq_2, evTBV.eq_3, evBV.eq_1, evBV.eq_2, evBV.eq_3, evToV.eq_1, evToV.eq_2, evOV.eq_1, evOV.eq_2, evFV.eq_1, evFV.eq_2, evPV, prepM, reduceCtorEq, false_implies, false_imp_iff, implies_true, frz, escE, escT, escTL, escTo, escL, escO, bmOwn, frE, locV, retM, v_bind, v_bindE, v_lift, v_liftE, v_of, v_seq, v_seqR, v_seqE, v_turn, v_turnR, v_turnE, v_nox,
  res_int, res_bl, res_str, res_non, res_lst, res_fro, res_tup, res_ins, cls_int, cls_bl, cls_str, cls_non, cls_lst, cls_fro, cls_tup, cls_ins, cmp_int, cmp_bl, cmp_str, cmp_nonK, cmp_lst, cmp_fro, cmp_tup, c_lt, c_le, c_gt, c_ge, c_eq, c_ne, c_is, c_isnot, xi_lst, xi_fro, xi_tup, tr_bl, tr_int, tr_lst, bf_lenL, bf_lenF, bf_lenT, bf_int, b_add, b_sub,
  List.append_nil, List.nil_append, List.cons_append, List.getElem?_cons_zero, List.getElem?_cons_succ, List.set_cons_zero, List.set_cons_succ, List.length_cons, List.length_nil, if_true, if_false, reduceIte, Bool.false_eq_true, ite_true, ite_false, Bool.true_eq_false, eqV_int, eqV_bl, Option.map_some, P.msame, tyM, tyV, isaAny, isa, Option.bind_some, List.all_cons, List.all_nil, clsOk, Bool.or_self, Bool.or_false, Bool.and_self, isNonV, bne_self_eq_false, beq_self_eq_true, Bool.not_true, Bool.not_false, Bool.true_or, Bool.or_true, len, iterV, isTupV, itemsV, hz, zl, ball_rep]
end
end Z
namespace K06
open PySem PySem.Spec PyProof.Rows L2 Z
/-! ### the defs -/
def f__wall : Fn := ⟨["k"], ["k"], [(.whl (.val (.bl true)) [(.pass)])]⟩
def f_is_number : Fn := ⟨["value"], ["value"], [(.ret (.bop .And [(.isi (.loc 0) [.tint] true), (.not (.isi (.loc 0) [.tbool] true))]))]⟩
def f_is_within : Fn := ⟨["value", "least", "most"], ["value", "least", "most"], [(.ret (.bop .And [(.call "is_number" [(.loc 0)]), (.chain .LtE .LtE (.loc 1) (.loc 0) (.loc 2))]))]⟩
def f_is_list : Fn := ⟨["value"], ["value"], [(.ret (.isi (.loc 0) [.tlist, .ttup] false))]⟩
def f_are_counts : Fn := ⟨["value", "many"], ["value", "many", "one"], [(.ret (.bop .And [(.call "is_list" [(.loc 0)]), (.cmp .Eq (.bf .blen [(.loc 0)]) (.loc 1)), (.bf .ball [(.lc (.bop .And [(.call "is_number" [(.loc 2)]), (.cmp .GtE (.loc 2) (.int 0))]) (.nm 2) [(.loc 0)] 0 none [2])])]))]⟩
def f_number_in : Fn := ⟨["text"], ["text", "sign"], [(.iff (.bop .Or [(.not (.val (.chain .LtE .LtE (.int 1) (.bf .blen [(.loc 0)]) (.gl "MOST_DIGITS")))), (.not (.val (.bf .ball [(.lc (.cmp .In (.loc 1) (.gl "FIGURES")) (.nm 1) [(.loc 0)] 0 none [1])])))]) [(.ret .non)] []), (.iff (.bop .And [(.val (.cmp .Eq (.ix (.loc 0) (.int 0)) (.str "0"))), (.val (.cmp .Gt (.bf .blen [(.loc 0)]) (.int 1)))]) [(.ret .non)] []), (.ret (.bf .bint [(.loc 0)]))]⟩
def f_numbers_in : Fn := ⟨["text"], ["text", "found", "part"], [(.set 1 (.lc (.call "number_in" [(.loc 2)]) (.nm 2) [(.bm .split (.loc 0) [(.str ",")])] 0 none [2])), (.ret (.ite (.val (.cmp .In .non (.loc 1))) .non (.loc 1)))]⟩
def f_check_table : Fn := ⟨["value"], ["value", "index", "row"], [(.iff (.bop .Or [(.not (.val (.call "is_list" [(.loc 0)]))), (.val (.cmp .Eq (.bf .blen [(.loc 0)]) (.int 0)))]) [(.rse "InvalidTable" [(.int 0)])] []), (.for_ (.tp [1, 2]) [(.loc 0)] 3 [(.iff (.bop .Or [(.val (.cmp .GtE (.loc 1) (.gl "MOST_PLACES"))), (.not (.val (.call "are_counts" [(.loc 2), (.bf .blen [(.loc 0)])])))]) [(.rse "InvalidTable" [(.loc 1)])] [])])]⟩
def f_reached : Fn := ⟨["table", "start"], ["table", "start", "known", "waiting", "here", "row", "place", "many"], [(.set 2 (.lc (.bl false) (.nm 5) [(.loc 0)] 0 none [5])), (.set 3 (.lst [(.loc 1)])), (.whl (.val (.cmp .NotEq (.loc 3) (.lst []))) [(.set 4 (.bm .pop (.loc 3) [])), (.for_ (.tp [6, 7]) [(.ix (.loc 0) (.loc 4))] 3 [(.iff (.bop .And [(.val (.cmp .Gt (.loc 7) (.int 0))), (.not (.val (.ix (.loc 2) (.loc 6))))]) [(.asg (.sub (.loc 2) (.loc 6)) (.bl true)), (.expr (.bm .append (.loc 3) [(.loc 6)]))] [])])]), (.ret (.lc (.loc 6) (.nm 6) [(.bf .blen [(.loc 0)])] 1 (some (.val (.ix (.loc 2) (.loc 6)))) [6]))]⟩
def f_transposed : Fn := ⟨["table"], ["table", "at", "row"], [(.ret (.lc (.lc (.ix (.loc 2) (.loc 1)) (.nm 2) [(.loc 0)] 0 none [2]) (.nm 1) [(.bf .blen [(.loc 0)])] 1 none [1]))]⟩
def f_check_joined : Fn := ⟨["table"], ["table", "place", "ahead", "behind", "row"], [(.par 2 3 (.call "reached" [(.loc 0), (.int 0)]) (.call "reached" [(.call "transposed" [(.loc 0)]), (.int 0)])), (.for_ (.nm 1) [(.bf .blen [(.loc 0)])] 1 [(.iff (.bop .Or [(.val (.cmp .NotIn (.loc 1) (.loc 2))), (.val (.cmp .NotIn (.loc 1) (.loc 3)))]) [(.rse "Unreachable" [(.loc 1)])] [])]), (.iff (.val (.bf .ball [(.lc (.cmp .Eq (.bf .bsum [(.loc 4)]) (.int 1)) (.nm 4) [(.loc 0)] 0 none [4])])) [(.rse "SingleRing" [])] [])]⟩
def f__law_bag : Fn := ⟨["_law_script"], ["_law_script"], [(.ret (.lst [(.bf .blist [(.sl (.loc 0) none (some (.int 63)))]), (.int 0), (.int 0), (.int 5607), (.int 0)]))]⟩
def f__law_pull : Fn := ⟨["_law_bag_here", "_law_many"], ["_law_bag_here", "_law_many", "_law_now", "_law_cell", "_law_drawn"], [(.iff (.bop .And [(.val (.cmp .Eq (.ix (.loc 0) (.int 2)) (.int 0))), (.val (.cmp .Lt (.ix (.loc 0) (.int 1)) (.bf .blen [(.ix (.loc 0) (.int 0))])))]) [(.set 3 (.ix (.ix (.loc 0) (.int 0)) (.ix (.loc 0) (.int 1)))), (.asg (.sub (.loc 0) (.int 1)) (.bin .Add (.ix (.loc 0) (.int 1)) (.int 1))), (.iff (.val (.cmp .GtE (.loc 3) (.bin .Pow (.int 10) (.int 18)))) [(.asg (.sub (.loc 0) (.int 2)) (.loc 3))] [(.asg (.sub (.loc 0) (.int 3)) (.bin .Mod (.bf .bint [(.bin .Add (.bin .Add (.bin .Mult (.ix (.loc 0) (.int 3)) (.int 48761)) (.bin .Mult (.bin .Mod (.bf .bint [(.loc 3)]) (.int 2147483549)) (.int 62971))) (.int 29))]) (.int 2147483629)))])] []), (.iff (.val (.cmp .Gt (.ix (.loc 0) (.int 2)) (.int 0))) [(.set 4 (.bin .Mod (.bf .bint [(.ix (.loc 0) (.int 2))]) (.loc 1))), (.asg (.sub (.loc 0) (.int 2)) (.bin .FloorDiv (.ix (.loc 0) (.int 2)) (.loc 1))), (.ret (.loc 4))] []), (.asg (.sub (.loc 0) (.int 4)) (.bin .Add (.ix (.loc 0) (.int 4)) (.int 1))), (.set 2 (.ix (.loc 0) (.int 3))), (.asg (.sub (.loc 0) (.int 3)) (.bin .Mod (.bf .bint [(.bin .Add (.bin .Add (.bin .Add (.bin .Mult (.loc 2) (.loc 2)) (.bin .Mult (.loc 2) (.int 30011))) (.bin .Mult (.ix (.loc 0) (.int 4)) (.int 1300021))) (.int 77777))]) (.int 2147483629))), (.ret (.bin .Mod (.bf .bint [(.bin .Add (.bin .FloorDiv (.ix (.loc 0) (.int 3)) (.int 79)) (.bin .Mult (.bin .Mod (.bf .bint [(.ix (.loc 0) (.int 3))]) (.int 8087)) (.int 53)))]) (.loc 1)))]⟩
def f__law_of : Fn := ⟨["_law_bag_here", "_law_things"], ["_law_bag_here", "_law_things"], [(.ret (.ix (.loc 1) (.call "_law_pull" [(.loc 0), (.bf .blen [(.loc 1)])])))]⟩
def f__law_same : Fn := ⟨["_law_found", "_law_due"], ["_law_found", "_law_due", "_law_a", "_law_b"], [(.iff (.val (.isi (.loc 1) [.tlist, .ttup] false)) [(.iff (.val (.cmp .NotEq (.isi (.loc 0) [.tlist] true) (.isi (.loc 1) [.tlist] true))) [(.ret (.bl false))] []), (.iff (.bop .Or [(.val (.cmp .NotEq (.isi (.loc 0) [.ttup] true) (.isi (.loc 1) [.ttup] true))), (.val (.cmp .NotEq (.bf .blen [(.loc 0)]) (.bf .blen [(.loc 1)])))]) [(.ret (.bl false))] []), (.ret (.bf .ball [(.lc (.call "_law_same" [(.loc 2), (.loc 3)]) (.tp [2, 3]) [(.loc 0), (.loc 1)] 4 none [2, 3])]))] []), (.iff (.bop .Or [(.val (.cmp .Is (.loc 1) .non)), (.val (.cmp .Is (.loc 0) .non))]) [(.ret (.bop .And [(.cmp .Is (.loc 1) .non), (.cmp .Is (.loc 0) .non)]))] []), (.iff (.bop .Or [(.val (.cmp .NotEq (.isi (.loc 0) [.tbool] true) (.isi (.loc 1) [.tbool] true))), (.val (.cmp .NotEq (.isi (.loc 0) [.tint] true) (.isi (.loc 1) [.tint] true)))]) [(.ret (.bl false))] []), (.ret (.bop .And [(.cmp .Eq (.isi (.loc 0) [.tstr] true) (.isi (.loc 1) [.tstr] true)), (.cmp .Eq (.loc 0) (.loc 1))]))]⟩
def f__law_field : Fn := ⟨["_law_e"], ["_law_e"], [(.iff (.val (.cmp .In (.attr (.loc 0) "tag") (.tup [(.str "InvalidPlace"), (.str "InvalidCount"), (.str "InvalidModulus"), (.str "InvalidName"), (.str "InvalidLimit")]))) [(.ret (.attr (.loc 0) "given"))] []), (.iff (.val (.cmp .In (.attr (.loc 0) "tag") (.tup [(.str "InvalidRoad"), (.str "CannotTurn"), (.str "InvalidLine"), (.str "ParseError")]))) [(.ret (.attr (.loc 0) "index"))] []), (.iff (.val (.cmp .In (.attr (.loc 0) "tag") (.tup [(.str "TooManyPlaces"), (.str "TooLong"), (.str "TooManyLists"), (.str "Heavy")]))) [(.ret (.attr (.loc 0) "most"))] []), (.iff (.val (.cmp .In (.attr (.loc 0) "tag") (.tup [(.str "WrongCount"), (.str "Ring"), (.str "DuplicateName"), (.str "WrongKind"), (.str "UnknownName")]))) [(.ret (.attr (.loc 0) "name"))] []), (.iff (.val (.cmp .In (.attr (.loc 0) "tag") (.tup [(.str "InvalidTable"), (.str "Unreachable")]))) [(.ret (.ite (.val (.cmp .Eq (.attr (.loc 0) "tag") (.str "InvalidTable"))) (.attr (.loc 0) "row") (.attr (.loc 0) "place")))] []), (.iff (.val (.cmp .In (.attr (.loc 0) "tag") (.tup [(.str "CapacityExceeded"), (.str "InUse")]))) [(.ret (.ite (.val (.cmp .Eq (.attr (.loc 0) "tag") (.str "CapacityExceeded"))) (.attr (.loc 0) "limit") (.attr (.loc 0) "user")))] []), (.ret (.ite (.val (.cmp .Eq (.attr (.loc 0) "tag") (.str "InvalidCommand"))) (.attr (.loc 0) "word") .non))]⟩
def f__law_why : Fn := ⟨["_law_ask"], ["_law_ask", "_law_e", "_law_told"], [(.never), (.ret (.tup [(.str ""), (.loc 2)]))]⟩
def f_law : Fn := ⟨["_law_script"], ["_law_script", "_law_bag_here", "_law_turn", "_law_loops_z", "_law_made", "_law_odd"], [(.set 1 (.call "_law_bag" [(.loc 0)])), (.for_ (.nm 2) [(.int 6)] 1 [(.set 3 (.call "_law_of" [(.loc 1), (.lst [(.int 2), (.int 3), (.bin .Add (.int 2) (.call "_law_pull" [(.loc 1), (.int 50)])), (.bin .Add (.int 2) (.call "_law_pull" [(.loc 1), (.bin .Sub (.bin .Pow (.int 10) (.int 60)) (.int 2))]))])])), (.set 4 (.smeth "Map" "bouquet" [(.loc 3)])), (.iff (.bop .Or [(.not (.val (.call "_law_same" [(.lst [(.meth (.loc 4) "table" []), (.prop (.loc 4) "total"), (.prop (.loc 4) "places")]), (.lst [(.lst [(.lst [(.loc 3)])]), (.loc 3), (.int 1)])]))), (.val (.cmp .NotEq (.smetk "Map" "bouquet" "loops" (.loc 3)) (.loc 4)))]) [(.ret (.bl false))] []), (.set 5 (.call "_law_of" [(.loc 1), (.lst [(.int 1), (.int 0), (.neg (.int 2)), .non, (.bl true), (.str "2"), (.lst [(.int 2)]), (.neg (.bin .Pow (.int 10) (.int 30)))])])), (.iff (.not (.val (.call "_law_same" [(.why (.smeth "Map" "bouquet" [(.loc 5)])), (.tup [(.str "InvalidCount"), (.loc 5)])]))) [(.ret (.bl false))] [])]), (.ret (.bl true))]⟩
def f_Map___init__ : Fn := ⟨["self", "table"], ["self", "table", "row"], [(.expr (.call "check_table" [(.loc 1)])), (.expr (.call "check_joined" [(.loc 1)])), (.seta (.loc 0) "rows" (.lc (.bf .blist [(.loc 2)]) (.nm 2) [(.loc 1)] 0 none [2]))]⟩
def f_Map_places : Fn := ⟨["self"], ["self"], [(.ret (.bf .blen [(.attr (.loc 0) "rows")]))]⟩
def f_Map_total : Fn := ⟨["self"], ["self", "row"], [(.ret (.bf .bsum [(.lc (.bf .bsum [(.loc 1)]) (.nm 1) [(.attr (.loc 0) "rows")] 0 none [1])]))]⟩
def f_Map_bouquet : Fn := ⟨["loops"], ["loops"], [(.iff (.bop .Or [(.not (.val (.call "is_number" [(.loc 0)]))), (.val (.cmp .Lt (.loc 0) (.int 2)))]) [(.rse "InvalidCount" [(.loc 0)])] []), (.ret (.make "Map" [(.lst [(.lst [(.loc 0)])])]))]⟩
def f_Map_table : Fn := ⟨["self"], ["self", "row"], [(.ret (.lc (.bf .blist [(.loc 1)]) (.nm 1) [(.attr (.loc 0) "rows")] 0 none [1]))]⟩
def f_Map_need_place : Fn := ⟨["self", "value"], ["self", "value"], [(.expr (.call "_wall" [(.int 0)]))]⟩
def f_Map_roads_between : Fn := ⟨["self", "origin", "goal"], ["self", "origin", "goal"], [(.expr (.call "_wall" [(.int 1)]))]⟩
def f_Map_leaving : Fn := ⟨["self", "place"], ["self", "place"], [(.expr (.call "_wall" [(.int 2)]))]⟩
def f_Map_turned_about : Fn := ⟨["self"], ["self"], [(.expr (.call "_wall" [(.int 3)]))]⟩
def f_Map_reordered : Fn := ⟨["self", "order"], ["self", "order"], [(.expr (.call "_wall" [(.int 4)]))]⟩
def f_Map___contains__ : Fn := ⟨["self", "road"], ["self", "road", "last"], [(.iff (.bop .Or [(.not (.val (.isi (.loc 1) [.ttup] true))), (.val (.cmp .NotEq (.bf .blen [(.loc 1)]) (.int 3)))]) [(.ret (.bl false))] []), (.set 2 (.bin .Sub (.bf .blen [(.attr (.loc 0) "rows")]) (.int 1))), (.iff (.bop .Or [(.not (.val (.call "is_within" [(.ix (.loc 1) (.int 0)), (.int 0), (.loc 2)]))), (.not (.val (.call "is_within" [(.ix (.loc 1) (.int 1)), (.int 0), (.loc 2)])))]) [(.ret (.bl false))] []), (.ret (.call "is_within" [(.ix (.loc 1) (.int 2)), (.int 0), (.bin .Sub (.ix (.ix (.attr (.loc 0) "rows") (.ix (.loc 1) (.int 0))) (.ix (.loc 1) (.int 1))) (.int 1))]))]⟩
def f_Map___eq__ : Fn := ⟨["self", "other"], ["self", "other"], [(.ret (.bop .And [(.isi (.loc 1) [.own "Map"] true), (.cmp .Eq (.attr (.loc 0) "rows") (.attr (.loc 1) "rows"))]))]⟩
def f_Map___len__ : Fn := ⟨["self"], ["self"], [(.ret (.bf .blen [(.attr (.loc 0) "rows")]))]⟩
def f_Map___str__ : Fn := ⟨["self"], ["self", "row", "many"], [(.ret (.bm .join (.str ";") [(.lc (.bm .join (.str ",") [(.lc (.bf .bstr [(.loc 2)]) (.nm 2) [(.loc 1)] 0 none [2])]) (.nm 1) [(.attr (.loc 0) "rows")] 0 none [1])]))]⟩
def f_Map___repr__ : Fn := ⟨["self"], ["self"], [(.never)]⟩
/-! ### the tables -/
def top (i : Nat) : Stmt := PySem.Challenge.pw_coinroads_k06_bouquets.main.body.getD i (.Pass ⟨0, 0, 0, 0⟩)
def cbody (i j : Nat) : Stmt := match top i with
  | .ClassDef _ _ _ b _ _ _ _ _ _ _ => b.getD j (.Pass ⟨0, 0, 0, 0⟩)
  | _ => .Pass ⟨0, 0, 0, 0⟩
def mkDf (z : Str) (F : Fn) (a : At) (st : Stmt) : Df := match st with
  | .FunctionDef n p b _ _ _ s _ _ _ => ⟨z, F, a, n, z, p, b, s⟩
  | _ => ⟨z, F, a, z, z, ⟨[], [], none, [], [], none, []⟩, [], ⟨.function, [], false, false, []⟩⟩
def mkEf (z : Str) (st : Stmt) (sf tag : Str) (fl : List Str) : Ef := match st with
  | .FunctionDef n p b _ _ _ s _ _ _ => ⟨z, n, z ++ ".__init__", p, b, s, sf, tag, fl⟩
  | _ => ⟨z, z, z, ⟨[], [], none, [], [], none, []⟩, [], ⟨.function, [], false, false, []⟩, sf, tag, fl⟩
def dfs0 : List Df := [mkDf "_wall" f__wall (.glo "_wall") (top 0),
  mkDf "is_number" f_is_number (.glo "is_number") (top 14),
  mkDf "is_within" f_is_within (.glo "is_within") (top 15),
  mkDf "is_list" f_is_list (.glo "is_list") (top 16),
  mkDf "are_counts" f_are_counts (.glo "are_counts") (top 17),
  mkDf "number_in" f_number_in (.glo "number_in") (top 18),
  mkDf "numbers_in" f_numbers_in (.glo "numbers_in") (top 19),
  mkDf "check_table" f_check_table (.glo "check_table") (top 22),
  mkDf "reached" f_reached (.glo "reached") (top 23),
  mkDf "transposed" f_transposed (.glo "transposed") (top 24),
  mkDf "check_joined" f_check_joined (.glo "check_joined") (top 25),
  mkDf "_law_bag" f__law_bag (.glo "_law_bag") (top 28),
  mkDf "_law_pull" f__law_pull (.glo "_law_pull") (top 29),
  mkDf "_law_of" f__law_of (.glo "_law_of") (top 30),
  mkDf "_law_same" f__law_same (.glo "_law_same") (top 31),
  mkDf "_law_field" f__law_field (.glo "_law_field") (top 32),
  mkDf "_law_why" f__law_why (.glo "_law_why") (top 33),
  mkDf "law" f_law (.glam "law") (top 34),
  mkDf "Map.__init__" f_Map___init__ (.meth "Map" "__init__") (cbody 26 1),
  mkDf "Map.places" f_Map_places (.gett "Map" "places") (cbody 26 2),
  mkDf "Map.total" f_Map_total (.gett "Map" "total") (cbody 26 3),
  mkDf "Map.bouquet" f_Map_bouquet (.stat "Map" "bouquet") (cbody 26 4),
  mkDf "Map.table" f_Map_table (.meth "Map" "table") (cbody 26 6),
  mkDf "Map.need_place" f_Map_need_place (.meth "Map" "need_place") (cbody 26 7),
  mkDf "Map.roads_between" f_Map_roads_between (.meth "Map" "roads_between") (cbody 26 8),
  mkDf "Map.leaving" f_Map_leaving (.meth "Map" "leaving") (cbody 26 9),
  mkDf "Map.turned_about" f_Map_turned_about (.meth "Map" "turned_about") (cbody 26 10),
  mkDf "Map.reordered" f_Map_reordered (.meth "Map" "reordered") (cbody 26 11),
  mkDf "Map.__contains__" f_Map___contains__ (.meth "Map" "__contains__") (cbody 26 12),
  mkDf "Map.__eq__" f_Map___eq__ (.meth "Map" "__eq__") (cbody 26 13)]
def dfs1 : List Df := [mkDf "Map.__len__" f_Map___len__ (.meth "Map" "__len__") (cbody 26 14),
  mkDf "Map.__str__" f_Map___str__ (.meth "Map" "__str__") (cbody 26 15),
  mkDf "Map.__repr__" f_Map___repr__ (.meth "Map" "__repr__") (cbody 26 16)]
def tb : Tb where
  defs := dfs0 ++ dfs1
  cst := [("FIGURES", .str "0123456789"), ("MOST_DIGITS", .int 60), ("MOST_PLACES", .int 12)]
  dic := []
  cls := ["Map"]
  fld := [("Map", "rows")]
  mth := [("Map", "__init__", "Map.__init__"), ("Map", "table", "Map.table"), ("Map", "need_place", "Map.need_place"), ("Map", "roads_between", "Map.roads_between"), ("Map", "leaving", "Map.leaving"), ("Map", "turned_about", "Map.turned_about"), ("Map", "reordered", "Map.reordered"), ("Map", "__contains__", "Map.__contains__"), ("Map", "__eq__", "Map.__eq__"), ("Map", "__len__", "Map.__len__"), ("Map", "__str__", "Map.__str__"), ("Map", "__repr__", "Map.__repr__")]
  prp := [("Map", "places", "Map.places"), ("Map", "total", "Map.total")]
  con := [("Map", "PLACES", .int 12)]
  isa := [(.tnone, .tbool, false), (.tnone, .tint, false), (.tnone, .tlist, false), (.tnone, .tstr, false), (.tnone, .ttup, false), (.tnone, .own "Map", false), (.tint, .tbool, false), (.tint, .tint, true), (.tint, .tlist, false), (.tint, .tstr, false), (.tint, .ttup, false), (.tint, .own "Map", false), (.tbool, .tbool, true), (.tbool, .tint, true), (.tbool, .tlist, false), (.tbool, .tstr, false), (.tbool, .ttup, false), (.tbool, .own "Map", false), (.tstr, .tbool, false), (.tstr, .tint, false), (.tstr, .tlist, false), (.tstr, .tstr, true), (.tstr, .ttup, false), (.tstr, .own "Map", false), (.tlist, .tbool, false), (.tlist, .tint, false), (.tlist, .tlist, true), (.tlist, .tstr, false), (.tlist, .ttup, false), (.tlist, .own "Map", false), (.ttup, .tbool, false), (.ttup, .tint, false), (.ttup, .tlist, false), (.ttup, .tstr, false), (.ttup, .ttup, true), (.ttup, .own "Map", false), (.tdict, .tbool, false), (.tdict, .tint, false), (.tdict, .tlist, false), (.tdict, .tstr, false), (.tdict, .ttup, false), (.tdict, .own "Map", false), (.own "Map", .tbool, false), (.own "Map", .tint, false), (.own "Map", .tlist, false), (.own "Map", .tstr, false), (.own "Map", .ttup, false), (.own "Map", .own "Map", true)]
  isc := ["Map"]
  clv := ["Map"]
  mak := ["Map"]
  gfs := ["_wall", "is_number", "is_within", "is_list", "are_counts", "number_in", "numbers_in", "check_table", "reached", "transposed", "check_joined", "_law_bag", "_law_pull", "_law_of", "_law_same", "_law_field", "_law_why", "law"]
  eqm := [("Map", "Map.__eq__")]
  lnm := [("Map", "Map.__len__")]
  exn := [mkEf "InvalidTable" (cbody 4 0) "self" "InvalidTable" ["row"], mkEf "Unreachable" (cbody 5 0) "self" "Unreachable" ["place"], mkEf "SingleRing" (cbody 6 0) "self" "SingleRing" [], mkEf "InvalidCount" (cbody 7 0) "self" "InvalidCount" ["given"], mkEf "InvalidText" (cbody 8 0) "self" "InvalidText" []]
  file := PySem.Challenge.pw_coinroads_k06_bouquets.main.file
  smt := [("Map", "bouquet", "Map.bouquet")]
  why := some ([(["InvalidPlace", "InvalidCount", "InvalidModulus", "InvalidName", "InvalidLimit"], .fld "given"), (["InvalidRoad", "CannotTurn", "InvalidLine", "ParseError"], .fld "index"), (["TooManyPlaces", "TooLong", "TooManyLists", "Heavy"], .fld "most"), (["WrongCount", "Ring", "DuplicateName", "WrongKind", "UnknownName"], .fld "name"), (["InvalidTable", "Unreachable"], .ife "InvalidTable" "row" "place"), (["CapacityExceeded", "InUse"], .ife "CapacityExceeded" "limit" "user")], .ifn "InvalidCommand" "word")
def lo0 : List Str := ["_wall", "RoadError", "Missing", "InvalidTable", "Unreachable", "SingleRing", "InvalidCount", "InvalidText", "UnknownName", "NothingLeft", "FIGURES", "MOST_DIGITS", "is_number", "is_within", "is_list", "are_counts", "number_in", "numbers_in", "MOST_PLACES", "check_table", "reached", "transposed", "check_joined", "Map", "_law_bag", "_law_pull", "_law_of", "_law_same", "_law_field", "_law_why"]
def loose : List Str := lo0
theorem tb_st : tb.st = true := by decide +kernel
abbrev R : PySem.W.OpenRow := PySem.W.OpenLaw.row PySem.Challenge.rw_coinroads_k06_bouquets
theorem run (w : World) : HandSHeadRun.RunEq R (PySem.W.view R.prog [34]) (hookZ 5 tb) (obT 5 tb) 20000 loose w :=
  PySem.W.byRow2 "special-get-raises" (P := fun w => HandSHeadRun.RunEq R (PySem.W.view R.prog [34]) (hookZ 5 tb) (obT 5 tb) 20000 loose w) (fun w => by intro os; kernel_rfl) (fun w => by intro os; kernel_rfl) w
end K06
namespace K06
open PySem PySem.Spec PyProof.Rows L2 Z
def md (f : Str) (i : Nat) : Nat := if f = "law" then (if i = 1 then 2 else 0) else if f = "reached" then (if i = 2 then 1 else if i = 3 then 1 else 0) else 0
theorem isaT : ∀ t ∈ btys, ∀ c ∈ [Ty.tint, .tbool, .tstr, .tlist, .ttup], tb.pg.isa t c = some (decide (t = c) || (decide (t = .tbool) && decide (c = .tint))) := by decide +kernel
theorem pre : PreOk tb.pg md tb.fns where
  bag := by kernel_rfl
  pull := by kernel_rfl
  gpull := by kernel_rfl
  mpull := fun _ => rfl
  mof := fun _ => rfl
  mbag := fun _ => rfl
  msame := fun _ => rfl
  of := by kernel_rfl
  same := by kernel_rfl
  gsame := by kernel_rfl
  isa := isaT
theorem gfs : tb.pg.gf "is_number" = true ∧ tb.pg.gf "is_list" = true ∧ tb.pg.gf "are_counts" = true ∧ tb.pg.gf "check_table" = true ∧ tb.pg.gf "check_joined" = true ∧ tb.pg.gf "reached" = true ∧ tb.pg.gf "transposed" = true ∧ tb.pg.gf "_law_bag" = true ∧ tb.pg.gf "_law_of" = true ∧ tb.pg.gf "_law_pull" = true ∧ tb.pg.gf "_law_same" = true := by decide +kernel
section
variable {k : Nat} {M : Mem}
theorem F_num : tb.fns "is_number" = some f_is_number := by kernel_rfl
theorem F_list : tb.fns "is_list" = some f_is_list := by kernel_rfl
theorem F_counts : tb.fns "are_counts" = some f_are_counts := by kernel_rfl
theorem F_ct : tb.fns "check_table" = some f_check_table := by kernel_rfl
theorem F_cj : tb.fns "check_joined" = some f_check_joined := by kernel_rfl
theorem F_re : tb.fns "reached" = some f_reached := by kernel_rfl
theorem F_tr : tb.fns "transposed" = some f_transposed := by kernel_rfl
theorem i_tnone_tint : tb.pg.isa .tnone .tint = some false := by kernel_rfl
theorem i_tnone_tbool : tb.pg.isa .tnone .tbool = some false := by kernel_rfl
theorem i_tnone_tstr : tb.pg.isa .tnone .tstr = some false := by kernel_rfl
theorem i_tnone_tlist : tb.pg.isa .tnone .tlist = some false := by kernel_rfl
theorem i_tnone_ttup : tb.pg.isa .tnone .ttup = some false := by kernel_rfl
theorem i_tint_tint : tb.pg.isa .tint .tint = some true := by kernel_rfl
theorem i_tint_tbool : tb.pg.isa .tint .tbool = some false := by kernel_rfl
theorem i_tint_tstr : tb.pg.isa .tint .tstr = some false := by kernel_rfl
theorem i_tint_tlist : tb.pg.isa .tint .tlist = some false := by kernel_rfl
theorem i_tint_ttup : tb.pg.isa .tint .ttup = some false := by kernel_rfl
theorem i_tbool_tint : tb.pg.isa .tbool .tint = some true := by kernel_rfl
theorem i_tbool_tbool : tb.pg.isa .tbool .tbool = some true := by kernel_rfl
theorem i_tbool_tstr : tb.pg.isa .tbool .tstr = some false := by kernel_rfl
theorem i_tbool_tlist : tb.pg.isa .tbool .tlist = some false := by kernel_rfl
theorem i_tbool_ttup : tb.pg.isa .tbool .ttup = some false := by kernel_rfl
theorem i_tstr_tint : tb.pg.isa .tstr .tint = some false := by kernel_rfl
theorem i_tstr_tbool : tb.pg.isa .tstr .tbool = some false := by kernel_rfl
theorem i_tstr_tstr : tb.pg.isa .tstr .tstr = some true := by kernel_rfl
theorem i_tstr_tlist : tb.pg.isa .tstr .tlist = some false := by kernel_rfl
theorem i_tstr_ttup : tb.pg.isa .tstr .ttup = some false := by kernel_rfl
theorem i_tlist_tint : tb.pg.isa .tlist .tint = some false := by kernel_rfl
theorem i_tlist_tbool : tb.pg.isa .tlist .tbool = some false := by kernel_rfl
theorem i_tlist_tstr : tb.pg.isa .tlist .tstr = some false := by kernel_rfl
theorem i_tlist_tlist : tb.pg.isa .tlist .tlist = some true := by kernel_rfl
theorem i_tlist_ttup : tb.pg.isa .tlist .ttup = some false := by kernel_rfl
theorem i_ttup_tint : tb.pg.isa .ttup .tint = some false := by kernel_rfl
theorem i_ttup_tbool : tb.pg.isa .ttup .tbool = some false := by kernel_rfl
theorem i_ttup_tstr : tb.pg.isa .ttup .tstr = some false := by kernel_rfl
theorem i_ttup_tlist : tb.pg.isa .ttup .tlist = some false := by kernel_rfl
theorem i_ttup_ttup : tb.pg.isa .ttup .ttup = some true := by kernel_rfl
theorem i_map : tb.pg.isa (.own "Map") (.own "Map") = some true := by kernel_rfl
theorem k_map : tb.pg.cls "Map" = true := by kernel_rfl
theorem z1_ : ((1 : Nat) : Int) = 1 := rfl
theorem z2_ : ((0 : Nat) : Int) = 0 := rfl

theorem num_int {n : Int} : (cfV tb.pg md tb.fns (k + 1)) "is_number" [.int n] M = .ok (.bl true, false) M := by
  (rw [cfV]; simp only [F_num]; rw [if_pos (by rfl)]; unfold f_is_number startV; simp only [evVSs.eq_1, evVSs.eq_2, evVS.eq_1, evVS.eq_2, evVS.eq_3, evVS.eq_4, evVS.eq_5, evVS.eq_6, evVS.eq_7, evVS.eq_8, evVS.eq_9, evVS.eq_10, evVS.eq_11, evVS.eq_12, evVS.eq_13, evVS.eq_14, evVS.eq_15, evVS.eq_16, evVS.eq_17, evVS.eq_18, evV.eq_1, evV.eq_2, evV.eq_3, evV.eq_4, evV.eq_5, evV.eq_6, evV.eq_7, evV.eq_8, evV.eq_9, evV.eq_10, evV.eq_11, evV.eq_12, evV.eq_13, evV.eq_14, evV.eq_15, evV.eq_16, evV.eq_17, evV.eq_18, evV.eq_19, evV.eq_20, evV.eq_21, evV.eq_22, evV.eq_23, evV.eq_24, evV.eq_25, evV.eq_26, evV.eq_27, evV.eq_28, evV.eq_29, evV.eq_30, evV.eq_31, evV.eq_32, evV.eq_33, evLV.eq_1, evLV.eq_2, evTV.eq_1, evTV.eq_2, evTV.eq_3, evTBV.eq_1, evTBV.eq_2, evTBV.eq_3, evBV.eq_1, evBV.eq_2, evBV.eq_3, evToV.eq_1, evToV.eq_2, evOV.eq_1, evOV.eq_2, evFV.eq_1, evFV.eq_2, evPV, prepM, reduceCtorEq, false_implies, false_imp_iff, implies_true, frz, escE, escT, escTL, escTo, escL, escO, bmOwn, frE, locV, retM, v_bind, v_bindE, v_lift, v_liftE, v_of, v_seq, v_seqR, v_seqE, v_turn, v_turnR, v_turnE, v_nox,
  res_int, res_bl, res_str, res_non, res_lst, res_fro, res_tup, res_ins, cls_int, cls_bl, cls_str, cls_non, cls_lst, cls_fro, cls_tup, cls_ins, cmp_int, cmp_bl, cmp_str, cmp_nonK, cmp_lst, cmp_fro, cmp_tup, c_lt, c_le, c_gt, c_ge, c_eq, c_ne, c_is, c_isnot, xi_lst, xi_fro, xi_tup, tr_bl, tr_int, tr_lst, bf_lenL, bf_lenF, bf_lenT, bf_int, b_add, b_sub,
  List.append_nil, List.nil_append, List.cons_append, List.getElem?_cons_zero, List.getElem?_cons_succ, List.set_cons_zero, List.set_cons_succ, List.length_cons, List.length_nil, if_true, if_false, reduceIte, Bool.false_eq_true, ite_true, ite_false, Bool.true_eq_false, eqV_int, eqV_bl, Option.map_some, List.map_cons, List.map_nil, List.replicate, tyM, Z.tyV, isaAny, i_tnone_tint, i_tnone_tbool, i_tnone_tstr, i_tnone_tlist, i_tnone_ttup, i_tint_tint, i_tint_tbool, i_tint_tstr, i_tint_tlist, i_tint_ttup, i_tbool_tint, i_tbool_tbool, i_tbool_tstr, i_tbool_tlist, i_tbool_ttup, i_tstr_tint, i_tstr_tbool, i_tstr_tstr, i_tstr_tlist, i_tstr_ttup, i_tlist_tint, i_tlist_tbool, i_tlist_tstr, i_tlist_tlist, i_tlist_ttup, i_ttup_tint, i_ttup_tbool, i_ttup_tstr, i_ttup_tlist, i_ttup_ttup, Option.bind_some, List.all_cons, List.all_nil, clsOk, Bool.or_self, Bool.or_false, Bool.false_or, Bool.true_or, Bool.or_true, Bool.and_self, Bool.and_true, Bool.true_and, Bool.not_true, Bool.not_false, isNonV, z1_, z2_, Int.reduceLE, Int.reduceLT, Int.reduceEq, Int.reduceBEq, Int.reduceBNe, Int.reduceNeg, Nat.reduceLT, Nat.reduceLeDiff, ne_eq, not_false_eq_true, Nat.reduceEqDiff, Nat.succ_ne_self, decide_true, decide_false, bne_self_eq_false, beq_self_eq_true, decide_eq_true_eq, Nat.sub_self, Nat.reduceSub, Nat.reduceAdd, show md "is_number" = fun _ => 0 from rfl])
theorem num_bl {n : Bool} : (cfV tb.pg md tb.fns (k + 1)) "is_number" [.bl n] M = .ok (.bl false, false) M := by
  (rw [cfV]; simp only [F_num]; rw [if_pos (by rfl)]; unfold f_is_number startV; simp only [evVSs.eq_1, evVSs.eq_2, evVS.eq_1, evVS.eq_2, evVS.eq_3, evVS.eq_4, evVS.eq_5, evVS.eq_6, evVS.eq_7, evVS.eq_8, evVS.eq_9, evVS.eq_10, evVS.eq_11, evVS.eq_12, evVS.eq_13, evVS.eq_14, evVS.eq_15, evVS.eq_16, evVS.eq_17, evVS.eq_18, evV.eq_1, evV.eq_2, evV.eq_3, evV.eq_4, evV.eq_5, evV.eq_6, evV.eq_7, evV.eq_8, evV.eq_9, evV.eq_10, evV.eq_11, evV.eq_12, evV.eq_13, evV.eq_14, evV.eq_15, evV.eq_16, evV.eq_17, evV.eq_18, evV.eq_19, evV.eq_20, evV.eq_21, evV.eq_22, evV.eq_23, evV.eq_24, evV.eq_25, evV.eq_26, evV.eq_27, evV.eq_28, evV.eq_29, evV.eq_30, evV.eq_31, evV.eq_32, evV.eq_33, evLV.eq_1, evLV.eq_2, evTV.eq_1, evTV.eq_2, evTV.eq_3, evTBV.eq_1, evTBV.eq_2, evTBV.eq_3, evBV.eq_1, evBV.eq_2, evBV.eq_3, evToV.eq_1, evToV.eq_2, evOV.eq_1, evOV.eq_2, evFV.eq_1, evFV.eq_2, evPV, prepM, reduceCtorEq, false_implies, false_imp_iff, implies_true, frz, escE, escT, escTL, escTo, escL, escO, bmOwn, frE, locV, retM, v_bind, v_bindE, v_lift, v_liftE, v_of, v_seq, v_seqR, v_seqE, v_turn, v_turnR, v_turnE, v_nox,
  res_int, res_bl, res_str, res_non, res_lst, res_fro, res_tup, res_ins, cls_int, cls_bl, cls_str, cls_non, cls_lst, cls_fro, cls_tup, cls_ins, cmp_int, cmp_bl, cmp_str, cmp_nonK, cmp_lst, cmp_fro, cmp_tup, c_lt, c_le, c_gt, c_ge, c_eq, c_ne, c_is, c_isnot, xi_lst, xi_fro, xi_tup, tr_bl, tr_int, tr_lst, bf_lenL, bf_lenF, bf_lenT, bf_int, b_add, b_sub,
  List.append_nil, List.nil_append, List.cons_append, List.getElem?_cons_zero, List.getElem?_cons_succ, List.set_cons_zero, List.set_cons_succ, List.length_cons, List.length_nil, if_true, if_false, reduceIte, Bool.false_eq_true, ite_true, ite_false, Bool.true_eq_false, eqV_int, eqV_bl, Option.map_some, List.map_cons, List.map_nil, List.replicate, tyM, Z.tyV, isaAny, i_tnone_tint, i_tnone_tbool, i_tnone_tstr, i_tnone_tlist, i_tnone_ttup, i_tint_tint, i_tint_tbool, i_tint_tstr, i_tint_tlist, i_tint_ttup, i_tbool_tint, i_tbool_tbool, i_tbool_tstr, i_tbool_tlist, i_tbool_ttup, i_tstr_tint, i_tstr_tbool, i_tstr_tstr, i_tstr_tlist, i_tstr_ttup, i_tlist_tint, i_tlist_tbool, i_tlist_tstr, i_tlist_tlist, i_tlist_ttup, i_ttup_tint, i_ttup_tbool, i_ttup_tstr, i_ttup_tlist, i_ttup_ttup, Option.bind_some, List.all_cons, List.all_nil, clsOk, Bool.or_self, Bool.or_false, Bool.false_or, Bool.true_or, Bool.or_true, Bool.and_self, Bool.and_true, Bool.true_and, Bool.not_true, Bool.not_false, isNonV, z1_, z2_, Int.reduceLE, Int.reduceLT, Int.reduceEq, Int.reduceBEq, Int.reduceBNe, Int.reduceNeg, Nat.reduceLT, Nat.reduceLeDiff, ne_eq, not_false_eq_true, Nat.reduceEqDiff, Nat.succ_ne_self, decide_true, decide_false, bne_self_eq_false, beq_self_eq_true, decide_eq_true_eq, Nat.sub_self, Nat.reduceSub, Nat.reduceAdd])
theorem num_non : (cfV tb.pg md tb.fns (k + 1)) "is_number" [.non] M = .ok (.bl false, false) M := by
  (rw [cfV]; simp only [F_num]; rw [if_pos (by rfl)]; unfold f_is_number startV; simp only [evVSs.eq_1, evVSs.eq_2, evVS.eq_1, evVS.eq_2, evVS.eq_3, evVS.eq_4, evVS.eq_5, evVS.eq_6, evVS.eq_7, evVS.eq_8, evVS.eq_9, evVS.eq_10, evVS.eq_11, evVS.eq_12, evVS.eq_13, evVS.eq_14, evVS.eq_15, evVS.eq_16, evVS.eq_17, evVS.eq_18, evV.eq_1, evV.eq_2, evV.eq_3, evV.eq_4, evV.eq_5, evV.eq_6, evV.eq_7, evV.eq_8, evV.eq_9, evV.eq_10, evV.eq_11, evV.eq_12, evV.eq_13, evV.eq_14, evV.eq_15, evV.eq_16, evV.eq_17, evV.eq_18, evV.eq_19, evV.eq_20, evV.eq_21, evV.eq_22, evV.eq_23, evV.eq_24, evV.eq_25, evV.eq_26, evV.eq_27, evV.eq_28, evV.eq_29, evV.eq_30, evV.eq_31, evV.eq_32, evV.eq_33, evLV.eq_1, evLV.eq_2, evTV.eq_1, evTV.eq_2, evTV.eq_3, evTBV.eq_1, evTBV.eq_2, evTBV.eq_3, evBV.eq_1, evBV.eq_2, evBV.eq_3, evToV.eq_1, evToV.eq_2, evOV.eq_1, evOV.eq_2, evFV.eq_1, evFV.eq_2, evPV, prepM, reduceCtorEq, false_implies, false_imp_iff, implies_true, frz, escE, escT, escTL, escTo, escL, escO, bmOwn, frE, locV, retM, v_bind, v_bindE, v_lift, v_liftE, v_of, v_seq, v_seqR, v_seqE, v_turn, v_turnR, v_turnE, v_nox,
  res_int, res_bl, res_str, res_non, res_lst, res_fro, res_tup, res_ins, cls_int, cls_bl, cls_str, cls_non, cls_lst, cls_fro, cls_tup, cls_ins, cmp_int, cmp_bl, cmp_str, cmp_nonK, cmp_lst, cmp_fro, cmp_tup, c_lt, c_le, c_gt, c_ge, c_eq, c_ne, c_is, c_isnot, xi_lst, xi_fro, xi_tup, tr_bl, tr_int, tr_lst, bf_lenL, bf_lenF, bf_lenT, bf_int, b_add, b_sub,
  List.append_nil, List.nil_append, List.cons_append, List.getElem?_cons_zero, List.getElem?_cons_succ, List.set_cons_zero, List.set_cons_succ, List.length_cons, List.length_nil, if_true, if_false, reduceIte, Bool.false_eq_true, ite_true, ite_false, Bool.true_eq_false, eqV_int, eqV_bl, Option.map_some, List.map_cons, List.map_nil, List.replicate, tyM, Z.tyV, isaAny, i_tnone_tint, i_tnone_tbool, i_tnone_tstr, i_tnone_tlist, i_tnone_ttup, i_tint_tint, i_tint_tbool, i_tint_tstr, i_tint_tlist, i_tint_ttup, i_tbool_tint, i_tbool_tbool, i_tbool_tstr, i_tbool_tlist, i_tbool_ttup, i_tstr_tint, i_tstr_tbool, i_tstr_tstr, i_tstr_tlist, i_tstr_ttup, i_tlist_tint, i_tlist_tbool, i_tlist_tstr, i_tlist_tlist, i_tlist_ttup, i_ttup_tint, i_ttup_tbool, i_ttup_tstr, i_ttup_tlist, i_ttup_ttup, Option.bind_some, List.all_cons, List.all_nil, clsOk, Bool.or_self, Bool.or_false, Bool.false_or, Bool.true_or, Bool.or_true, Bool.and_self, Bool.and_true, Bool.true_and, Bool.not_true, Bool.not_false, isNonV, z1_, z2_, Int.reduceLE, Int.reduceLT, Int.reduceEq, Int.reduceBEq, Int.reduceBNe, Int.reduceNeg, Nat.reduceLT, Nat.reduceLeDiff, ne_eq, not_false_eq_true, Nat.reduceEqDiff, Nat.succ_ne_self, decide_true, decide_false, bne_self_eq_false, beq_self_eq_true, decide_eq_true_eq, Nat.sub_self, Nat.reduceSub, Nat.reduceAdd])
theorem num_str {n : Str} : (cfV tb.pg md tb.fns (k + 1)) "is_number" [.str n] M = .ok (.bl false, false) M := by
  (rw [cfV]; simp only [F_num]; rw [if_pos (by rfl)]; unfold f_is_number startV; simp only [evVSs.eq_1, evVSs.eq_2, evVS.eq_1, evVS.eq_2, evVS.eq_3, evVS.eq_4, evVS.eq_5, evVS.eq_6, evVS.eq_7, evVS.eq_8, evVS.eq_9, evVS.eq_10, evVS.eq_11, evVS.eq_12, evVS.eq_13, evVS.eq_14, evVS.eq_15, evVS.eq_16, evVS.eq_17, evVS.eq_18, evV.eq_1, evV.eq_2, evV.eq_3, evV.eq_4, evV.eq_5, evV.eq_6, evV.eq_7, evV.eq_8, evV.eq_9, evV.eq_10, evV.eq_11, evV.eq_12, evV.eq_13, evV.eq_14, evV.eq_15, evV.eq_16, evV.eq_17, evV.eq_18, evV.eq_19, evV.eq_20, evV.eq_21, evV.eq_22, evV.eq_23, evV.eq_24, evV.eq_25, evV.eq_26, evV.eq_27, evV.eq_28, evV.eq_29, evV.eq_30, evV.eq_31, evV.eq_32, evV.eq_33, evLV.eq_1, evLV.eq_2, evTV.eq_1, evTV.eq_2, evTV.eq_3, evTBV.eq_1, evTBV.eq_2, evTBV.eq_3, evBV.eq_1, evBV.eq_2, evBV.eq_3, evToV.eq_1, evToV.eq_2, evOV.eq_1, evOV.eq_2, evFV.eq_1, evFV.eq_2, evPV, prepM, reduceCtorEq, false_implies, false_imp_iff, implies_true, frz, escE, escT, escTL, escTo, escL, escO, bmOwn, frE, locV, retM, v_bind, v_bindE, v_lift, v_liftE, v_of, v_seq, v_seqR, v_seqE, v_turn, v_turnR, v_turnE, v_nox,
  res_int, res_bl, res_str, res_non, res_lst, res_fro, res_tup, res_ins, cls_int, cls_bl, cls_str, cls_non, cls_lst, cls_fro, cls_tup, cls_ins, cmp_int, cmp_bl, cmp_str, cmp_nonK, cmp_lst, cmp_fro, cmp_tup, c_lt, c_le, c_gt, c_ge, c_eq, c_ne, c_is, c_isnot, xi_lst, xi_fro, xi_tup, tr_bl, tr_int, tr_lst, bf_lenL, bf_lenF, bf_lenT, bf_int, b_add, b_sub,
  List.append_nil, List.nil_append, List.cons_append, List.getElem?_cons_zero, List.getElem?_cons_succ, List.set_cons_zero, List.set_cons_succ, List.length_cons, List.length_nil, if_true, if_false, reduceIte, Bool.false_eq_true, ite_true, ite_false, Bool.true_eq_false, eqV_int, eqV_bl, Option.map_some, List.map_cons, List.map_nil, List.replicate, tyM, Z.tyV, isaAny, i_tnone_tint, i_tnone_tbool, i_tnone_tstr, i_tnone_tlist, i_tnone_ttup, i_tint_tint, i_tint_tbool, i_tint_tstr, i_tint_tlist, i_tint_ttup, i_tbool_tint, i_tbool_tbool, i_tbool_tstr, i_tbool_tlist, i_tbool_ttup, i_tstr_tint, i_tstr_tbool, i_tstr_tstr, i_tstr_tlist, i_tstr_ttup, i_tlist_tint, i_tlist_tbool, i_tlist_tstr, i_tlist_tlist, i_tlist_ttup, i_ttup_tint, i_ttup_tbool, i_ttup_tstr, i_ttup_tlist, i_ttup_ttup, Option.bind_some, List.all_cons, List.all_nil, clsOk, Bool.or_self, Bool.or_false, Bool.false_or, Bool.true_or, Bool.or_true, Bool.and_self, Bool.and_true, Bool.true_and, Bool.not_true, Bool.not_false, isNonV, z1_, z2_, Int.reduceLE, Int.reduceLT, Int.reduceEq, Int.reduceBEq, Int.reduceBNe, Int.reduceNeg, Nat.reduceLT, Nat.reduceLeDiff, ne_eq, not_false_eq_true, Nat.reduceEqDiff, Nat.succ_ne_self, decide_true, decide_false, bne_self_eq_false, beq_self_eq_true, decide_eq_true_eq, Nat.sub_self, Nat.reduceSub, Nat.reduceAdd])
theorem num_lst {n : List D} : (cfV tb.pg md tb.fns (k + 1)) "is_number" [.lst n] M = .ok (.bl false, false) M := by
  (rw [cfV]; simp only [F_num]; rw [if_pos (by rfl)]; unfold f_is_number startV; simp only [evVSs.eq_1, evVSs.eq_2, evVS.eq_1, evVS.eq_2, evVS.eq_3, evVS.eq_4, evVS.eq_5, evVS.eq_6, evVS.eq_7, evVS.eq_8, evVS.eq_9, evVS.eq_10, evVS.eq_11, evVS.eq_12, evVS.eq_13, evVS.eq_14, evVS.eq_15, evVS.eq_16, evVS.eq_17, evVS.eq_18, evV.eq_1, evV.eq_2, evV.eq_3, evV.eq_4, evV.eq_5, evV.eq_6, evV.eq_7, evV.eq_8, evV.eq_9, evV.eq_10, evV.eq_11, evV.eq_12, evV.eq_13, evV.eq_14, evV.eq_15, evV.eq_16, evV.eq_17, evV.eq_18, evV.eq_19, evV.eq_20, evV.eq_21, evV.eq_22, evV.eq_23, evV.eq_24, evV.eq_25, evV.eq_26, evV.eq_27, evV.eq_28, evV.eq_29, evV.eq_30, evV.eq_31, evV.eq_32, evV.eq_33, evLV.eq_1, evLV.eq_2, evTV.eq_1, evTV.eq_2, evTV.eq_3, evTBV.eq_1, evTBV.eq_2, evTBV.eq_3, evBV.eq_1, evBV.eq_2, evBV.eq_3, evToV.eq_1, evToV.eq_2, evOV.eq_1, evOV.eq_2, evFV.eq_1, evFV.eq_2, evPV, prepM, reduceCtorEq, false_implies, false_imp_iff, implies_true, frz, escE, escT, escTL, escTo, escL, escO, bmOwn, frE, locV, retM, v_bind, v_bindE, v_lift, v_liftE, v_of, v_seq, v_seqR, v_seqE, v_turn, v_turnR, v_turnE, v_nox,
  res_int, res_bl, res_str, res_non, res_lst, res_fro, res_tup, res_ins, cls_int, cls_bl, cls_str, cls_non, cls_lst, cls_fro, cls_tup, cls_ins, cmp_int, cmp_bl, cmp_str, cmp_nonK, cmp_lst, cmp_fro, cmp_tup, c_lt, c_le, c_gt, c_ge, c_eq, c_ne, c_is, c_isnot, xi_lst, xi_fro, xi_tup, tr_bl, tr_int, tr_lst, bf_lenL, bf_lenF, bf_lenT, bf_int, b_add, b_sub,
  List.append_nil, List.nil_append, List.cons_append, List.getElem?_cons_zero, List.getElem?_cons_succ, List.set_cons_zero, List.set_cons_succ, List.length_cons, List.length_nil, if_true, if_false, reduceIte, Bool.false_eq_true, ite_true, ite_false, Bool.true_eq_false, eqV_int, eqV_bl, Option.map_some, List.map_cons, List.map_nil, List.replicate, tyM, Z.tyV, isaAny, i_tnone_tint, i_tnone_tbool, i_tnone_tstr, i_tnone_tlist, i_tnone_ttup, i_tint_tint, i_tint_tbool, i_tint_tstr, i_tint_tlist, i_tint_ttup, i_tbool_tint, i_tbool_tbool, i_tbool_tstr, i_tbool_tlist, i_tbool_ttup, i_tstr_tint, i_tstr_tbool, i_tstr_tstr, i_tstr_tlist, i_tstr_ttup, i_tlist_tint, i_tlist_tbool, i_tlist_tstr, i_tlist_tlist, i_tlist_ttup, i_ttup_tint, i_ttup_tbool, i_ttup_tstr, i_ttup_tlist, i_ttup_ttup, Option.bind_some, List.all_cons, List.all_nil, clsOk, Bool.or_self, Bool.or_false, Bool.false_or, Bool.true_or, Bool.or_true, Bool.and_self, Bool.and_true, Bool.true_and, Bool.not_true, Bool.not_false, isNonV, z1_, z2_, Int.reduceLE, Int.reduceLT, Int.reduceEq, Int.reduceBEq, Int.reduceBNe, Int.reduceNeg, Nat.reduceLT, Nat.reduceLeDiff, ne_eq, not_false_eq_true, Nat.reduceEqDiff, Nat.succ_ne_self, decide_true, decide_false, bne_self_eq_false, beq_self_eq_true, decide_eq_true_eq, Nat.sub_self, Nat.reduceSub, Nat.reduceAdd])
theorem list_lst {n : List D} : (cfV tb.pg md tb.fns (k + 1)) "is_list" [.lst n] M = .ok (.bl true, false) M := by
  (rw [cfV]; simp only [F_list]; rw [if_pos (by rfl)]; unfold f_is_list startV; simp only [evVSs.eq_1, evVSs.eq_2, evVS.eq_1, evVS.eq_2, evVS.eq_3, evVS.eq_4, evVS.eq_5, evVS.eq_6, evVS.eq_7, evVS.eq_8, evVS.eq_9, evVS.eq_10, evVS.eq_11, evVS.eq_12, evVS.eq_13, evVS.eq_14, evVS.eq_15, evVS.eq_16, evVS.eq_17, evVS.eq_18, evV.eq_1, evV.eq_2, evV.eq_3, evV.eq_4, evV.eq_5, evV.eq_6, evV.eq_7, evV.eq_8, evV.eq_9, evV.eq_10, evV.eq_11, evV.eq_12, evV.eq_13, evV.eq_14, evV.eq_15, evV.eq_16, evV.eq_17, evV.eq_18, evV.eq_19, evV.eq_20, evV.eq_21, evV.eq_22, evV.eq_23, evV.eq_24, evV.eq_25, evV.eq_26, evV.eq_27, evV.eq_28, evV.eq_29, evV.eq_30, evV.eq_31, evV.eq_32, evV.eq_33, evLV.eq_1, evLV.eq_2, evTV.eq_1, evTV.eq_2, evTV.eq_3, evTBV.eq_1, evTBV.eq_2, evTBV.eq_3, evBV.eq_1, evBV.eq_2, evBV.eq_3, evToV.eq_1, evToV.eq_2, evOV.eq_1, evOV.eq_2, evFV.eq_1, evFV.eq_2, evPV, prepM, reduceCtorEq, false_implies, false_imp_iff, implies_true, frz, escE, escT, escTL, escTo, escL, escO, bmOwn, frE, locV, retM, v_bind, v_bindE, v_lift, v_liftE, v_of, v_seq, v_seqR, v_seqE, v_turn, v_turnR, v_turnE, v_nox,
  res_int, res_bl, res_str, res_non, res_lst, res_fro, res_tup, res_ins, cls_int, cls_bl, cls_str, cls_non, cls_lst, cls_fro, cls_tup, cls_ins, cmp_int, cmp_bl, cmp_str, cmp_nonK, cmp_lst, cmp_fro, cmp_tup, c_lt, c_le, c_gt, c_ge, c_eq, c_ne, c_is, c_isnot, xi_lst, xi_fro, xi_tup, tr_bl, tr_int, tr_lst, bf_lenL, bf_lenF, bf_lenT, bf_int, b_add, b_sub,
  List.append_nil, List.nil_append, List.cons_append, List.getElem?_cons_zero, List.getElem?_cons_succ, List.set_cons_zero, List.set_cons_succ, List.length_cons, List.length_nil, if_true, if_false, reduceIte, Bool.false_eq_true, ite_true, ite_false, Bool.true_eq_false, eqV_int, eqV_bl, Option.map_some, List.map_cons, List.map_nil, List.replicate, tyM, Z.tyV, isaAny, i_tnone_tint, i_tnone_tbool, i_tnone_tstr, i_tnone_tlist, i_tnone_ttup, i_tint_tint, i_tint_tbool, i_tint_tstr, i_tint_tlist, i_tint_ttup, i_tbool_tint, i_tbool_tbool, i_tbool_tstr, i_tbool_tlist, i_tbool_ttup, i_tstr_tint, i_tstr_tbool, i_tstr_tstr, i_tstr_tlist, i_tstr_ttup, i_tlist_tint, i_tlist_tbool, i_tlist_tstr, i_tlist_tlist, i_tlist_ttup, i_ttup_tint, i_ttup_tbool, i_ttup_tstr, i_ttup_tlist, i_ttup_ttup, Option.bind_some, List.all_cons, List.all_nil, clsOk, Bool.or_self, Bool.or_false, Bool.false_or, Bool.true_or, Bool.or_true, Bool.and_self, Bool.and_true, Bool.true_and, Bool.not_true, Bool.not_false, isNonV, z1_, z2_, Int.reduceLE, Int.reduceLT, Int.reduceEq, Int.reduceBEq, Int.reduceBNe, Int.reduceNeg, Nat.reduceLT, Nat.reduceLeDiff, ne_eq, not_false_eq_true, Nat.reduceEqDiff, Nat.succ_ne_self, decide_true, decide_false, bne_self_eq_false, beq_self_eq_true, decide_eq_true_eq, Nat.sub_self, Nat.reduceSub, Nat.reduceAdd])
theorem md0 {q : Str} (h : q ≠ "law") (h2 : q ≠ "reached") : md q = fun _ => 0 := by funext j; unfold md; rw [if_neg h, if_neg h2]
theorem all_one (b : Bool) : bfKV tb.pg (cfV tb.pg md tb.fns (k)) .ball [.lst [.bl b]] M = .ok (.bl (b && true)) M := by cases b <;> rfl
theorem sum_one (n : Int) : bfKV tb.pg (cfV tb.pg md tb.fns (k)) .bsum [.lst [.int n]] M = .ok (.int (n + 0)) M := rfl
theorem list_l (xs : List D) : bfKV tb.pg (cfV tb.pg md tb.fns (k)) .blist [.lst xs] M = .ok (.lst xs) M := rfl
theorem sz1 : (1 : Nat) ≤ sizeLine := by rw [sizeLine_eq]; decide
theorem sz3 : (3 : Nat) ≤ sizeLine := by rw [sizeLine_eq]; decide
theorem counts_one {n : Int} (hn : 0 ≤ n) : (cfV tb.pg md tb.fns (k + 2)) "are_counts" [.lst [.int n], .int 1] M = .ok (.bl true, false) M := by
  (rw [cfV]; simp only [F_counts]; rw [if_pos (by rfl)]; unfold f_are_counts startV; simp only [evVSs.eq_1, evVSs.eq_2, evVS.eq_1, evVS.eq_2, evVS.eq_3, evVS.eq_4, evVS.eq_5, evVS.eq_6, evVS.eq_7, evVS.eq_8, evVS.eq_9, evVS.eq_10, evVS.eq_11, evVS.eq_12, evVS.eq_13, evVS.eq_14, evVS.eq_15, evVS.eq_16, evVS.eq_17, evVS.eq_18, evV.eq_1, evV.eq_2, evV.eq_3, evV.eq_4, evV.eq_5, evV.eq_6, evV.eq_7, evV.eq_8, evV.eq_9, evV.eq_10, evV.eq_11, evV.eq_12, evV.eq_13, evV.eq_14, evV.eq_15, evV.eq_16, evV.eq_17, evV.eq_18, evV.eq_19, evV.eq_20, evV.eq_21, evV.eq_22, evV.eq_23, evV.eq_24, evV.eq_25, evV.eq_26, evV.eq_27, evV.eq_28, evV.eq_29, evV.eq_30, evV.eq_31, evV.eq_32, evV.eq_33, evLV.eq_1, evLV.eq_2, evTV.eq_1, evTV.eq_2, evTV.eq_3, evTBV.eq_1, evTBV.eq_2, evTBV.eq_3, evBV.eq_1, evBV.eq_2, evBV.eq_3, evToV.eq_1, evToV.eq_2, evOV.eq_1, evOV.eq_2, evFV.eq_1, evFV.eq_2, evPV, prepM, reduceCtorEq, false_implies, false_imp_iff, implies_true, frz, escE, escT, escTL, escTo, escL, escO, bmOwn, frE, locV, retM, v_bind, v_bindE, v_lift, v_liftE, v_of, v_seq, v_seqR, v_seqE, v_turn, v_turnR, v_turnE, v_nox,
  res_int, res_bl, res_str, res_non, res_lst, res_fro, res_tup, res_ins, cls_int, cls_bl, cls_str, cls_non, cls_lst, cls_fro, cls_tup, cls_ins, cmp_int, cmp_bl, cmp_str, cmp_nonK, cmp_lst, cmp_fro, cmp_tup, c_lt, c_le, c_gt, c_ge, c_eq, c_ne, c_is, c_isnot, xi_lst, xi_fro, xi_tup, tr_bl, tr_int, tr_lst, bf_lenL, bf_lenF, bf_lenT, bf_int, b_add, b_sub,
  List.append_nil, List.nil_append, List.cons_append, List.getElem?_cons_zero, List.getElem?_cons_succ, List.set_cons_zero, List.set_cons_succ, List.length_cons, List.length_nil, if_true, if_false, reduceIte, Bool.false_eq_true, ite_true, ite_false, Bool.true_eq_false, eqV_int, eqV_bl, Option.map_some, List.map_cons, List.map_nil, List.replicate, tyM, Z.tyV, isaAny, i_tnone_tint, i_tnone_tbool, i_tnone_tstr, i_tnone_tlist, i_tnone_ttup, i_tint_tint, i_tint_tbool, i_tint_tstr, i_tint_tlist, i_tint_ttup, i_tbool_tint, i_tbool_tbool, i_tbool_tstr, i_tbool_tlist, i_tbool_ttup, i_tstr_tint, i_tstr_tbool, i_tstr_tstr, i_tstr_tlist, i_tstr_ttup, i_tlist_tint, i_tlist_tbool, i_tlist_tstr, i_tlist_tlist, i_tlist_ttup, i_ttup_tint, i_ttup_tbool, i_ttup_tstr, i_ttup_tlist, i_ttup_ttup, Option.bind_some, List.all_cons, List.all_nil, clsOk, Bool.or_self, Bool.or_false, Bool.false_or, Bool.true_or, Bool.or_true, Bool.and_self, Bool.and_true, Bool.true_and, Bool.not_true, Bool.not_false, isNonV, z1_, z2_, Int.reduceLE, Int.reduceLT, Int.reduceEq, Int.reduceBEq, Int.reduceBNe, Int.reduceNeg, Nat.reduceLT, Nat.reduceLeDiff, ne_eq, not_false_eq_true, Nat.reduceEqDiff, Nat.succ_ne_self, decide_true, decide_false, bne_self_eq_false, beq_self_eq_true, decide_eq_true_eq, Nat.sub_self, Nat.reduceSub, Nat.reduceAdd, gfs, list_lst, num_int, iterV, itemsV, lcV, assignV, wipeV, sz1, hn, decide_true, all_one])
theorem g_most : tb.pg.gv "MOST_PLACES" = some (.int 12) := by kernel_rfl
theorem ct_one {n : Int} (hn : 0 ≤ n) : (cfV tb.pg md tb.fns (k + 3)) "check_table" [.lst [.lst [.int n]]] M = .ok (.non, false) M := by
  (rw [cfV]; simp only [F_ct]; rw [if_pos (by rfl)]; unfold f_check_table startV; simp only [evVSs.eq_1, evVSs.eq_2, evVS.eq_1, evVS.eq_2, evVS.eq_3, evVS.eq_4, evVS.eq_5, evVS.eq_6, evVS.eq_7, evVS.eq_8, evVS.eq_9, evVS.eq_10, evVS.eq_11, evVS.eq_12, evVS.eq_13, evVS.eq_14, evVS.eq_15, evVS.eq_16, evVS.eq_17, evVS.eq_18, evV.eq_1, evV.eq_2, evV.eq_3, evV.eq_4, evV.eq_5, evV.eq_6, evV.eq_7, evV.eq_8, evV.eq_9, evV.eq_10, evV.eq_11, evV.eq_12, evV.eq_13, evV.eq_14, evV.eq_15, evV.eq_16, evV.eq_17, evV.eq_18, evV.eq_19, evV.eq_20, evV.eq_21, evV.eq_22, evV.eq_23, evV.eq_24, evV.eq_25, evV.eq_26, evV.eq_27, evV.eq_28, evV.eq_29, evV.eq_30, evV.eq_31, evV.eq_32, evV.eq_33, evLV.eq_1, evLV.eq_2, evTV.eq_1, evTV.eq_2, evTV.eq_3, evTBV.eq_1, evTBV.eq_2, evTBV.eq_3, evBV.eq_1, evBV.eq_2, evBV.eq_3, evToV.eq_1, evToV.eq_2, evOV.eq_1, evOV.eq_2, evFV.eq_1, evFV.eq_2, evPV, prepM, reduceCtorEq, false_implies, false_imp_iff, implies_true, frz, escE, escT, escTL, escTo, escL, escO, bmOwn, frE, locV, retM, v_bind, v_bindE, v_lift, v_liftE, v_of, v_seq, v_seqR, v_seqE, v_turn, v_turnR, v_turnE, v_nox,
  res_int, res_bl, res_str, res_non, res_lst, res_fro, res_tup, res_ins, cls_int, cls_bl, cls_str, cls_non, cls_lst, cls_fro, cls_tup, cls_ins, cmp_int, cmp_bl, cmp_str, cmp_nonK, cmp_lst, cmp_fro, cmp_tup, c_lt, c_le, c_gt, c_ge, c_eq, c_ne, c_is, c_isnot, xi_lst, xi_fro, xi_tup, tr_bl, tr_int, tr_lst, bf_lenL, bf_lenF, bf_lenT, bf_int, b_add, b_sub,
  List.append_nil, List.nil_append, List.cons_append, List.getElem?_cons_zero, List.getElem?_cons_succ, List.set_cons_zero, List.set_cons_succ, List.length_cons, List.length_nil, if_true, if_false, reduceIte, Bool.false_eq_true, ite_true, ite_false, Bool.true_eq_false, eqV_int, eqV_bl, Option.map_some, List.map_cons, List.map_nil, List.replicate, tyM, Z.tyV, isaAny, i_tnone_tint, i_tnone_tbool, i_tnone_tstr, i_tnone_tlist, i_tnone_ttup, i_tint_tint, i_tint_tbool, i_tint_tstr, i_tint_tlist, i_tint_ttup, i_tbool_tint, i_tbool_tbool, i_tbool_tstr, i_tbool_tlist, i_tbool_ttup, i_tstr_tint, i_tstr_tbool, i_tstr_tstr, i_tstr_tlist, i_tstr_ttup, i_tlist_tint, i_tlist_tbool, i_tlist_tstr, i_tlist_tlist, i_tlist_ttup, i_ttup_tint, i_ttup_tbool, i_ttup_tstr, i_ttup_tlist, i_ttup_ttup, Option.bind_some, List.all_cons, List.all_nil, clsOk, Bool.or_self, Bool.or_false, Bool.false_or, Bool.true_or, Bool.or_true, Bool.and_self, Bool.and_true, Bool.true_and, Bool.not_true, Bool.not_false, isNonV, z1_, z2_, Int.reduceLE, Int.reduceLT, Int.reduceEq, Int.reduceBEq, Int.reduceBNe, Int.reduceNeg, Nat.reduceLT, Nat.reduceLeDiff, ne_eq, not_false_eq_true, Nat.reduceEqDiff, Nat.succ_ne_self, decide_true, decide_false, bne_self_eq_false, beq_self_eq_true, decide_eq_true_eq, Nat.sub_self, Nat.reduceSub, Nat.reduceAdd, gfs, list_lst, counts_one hn, iterV, isTupV, itemsV, Option.map_some, enumF, sz1, forV, assignV, setAllV, g_most, ofU])
theorem len1 {d : D} : ([d] : List D).length = 1 := rfl
theorem bls1 (b : Bool) : asBlsV [.bl b] = some [b] := rfl
theorem fu3 : ∃ m, FU = m + 3 := ⟨99999997, rfl⟩
theorem eql0 : eqV (.lst []) (.lst []) = some true := by kernel_rfl
theorem eql1 : eqV (.lst [.int 0]) (.lst []) = some false := by kernel_rfl
theorem at1 {a : D} : atI [a] 0 = some a := rfl
theorem ixN1 : ixN 1 0 = some 0 := rfl
theorem it11 : iterV 1 [.int 1] = some [.int 0] := rfl
theorem md_re : md "reached" 0 = 0 ∧ md "reached" 1 = 0 ∧ md "reached" 2 = 1 ∧ md "reached" 3 = 1 ∧ md "reached" 4 = 0 ∧ md "reached" 5 = 0 ∧ md "reached" 6 = 0 := ⟨rfl, rfl, rfl, rfl, rfl, rfl, rfl⟩
theorem it3 {xs : List D} : iterV 3 [.lst xs] = some (enumF 0 xs) := rfl
theorem it0 {xs : List D} : iterV 0 [.lst xs] = some xs := rfl
theorem sz0 : (0 : Nat) ≤ sizeLine := Nat.zero_le _
theorem sz0l : (0 : Nat) < sizeLine := by rw [sizeLine_eq]; decide
theorem reached_one {n : Int} (hn : 0 < n) : (cfV tb.pg md tb.fns (k + 1)) "reached" [.lst [.lst [.int n]], .int 0] M = .ok (.lst [.int 0], true) M := by
  obtain ⟨m, hm⟩ := fu3
  (rw [cfV]; simp only [F_re]; rw [if_pos (by rfl)]; unfold f_reached startV; simp only [evVSs.eq_1, evVSs.eq_2, evVS.eq_1, evVS.eq_2, evVS.eq_3, evVS.eq_4, evVS.eq_5, evVS.eq_6, evVS.eq_7, evVS.eq_8, evVS.eq_9, evVS.eq_10, evVS.eq_11, evVS.eq_12, evVS.eq_13, evVS.eq_14, evVS.eq_15, evVS.eq_16, evVS.eq_17, evVS.eq_18, evV.eq_1, evV.eq_2, evV.eq_3, evV.eq_4, evV.eq_5, evV.eq_6, evV.eq_7, evV.eq_8, evV.eq_9, evV.eq_10, evV.eq_11, evV.eq_12, evV.eq_13, evV.eq_14, evV.eq_15, evV.eq_16, evV.eq_17, evV.eq_18, evV.eq_19, evV.eq_20, evV.eq_21, evV.eq_22, evV.eq_23, evV.eq_24, evV.eq_25, evV.eq_26, evV.eq_27, evV.eq_28, evV.eq_29, evV.eq_30, evV.eq_31, evV.eq_32, evV.eq_33, evLV.eq_1, evLV.eq_2, evTV.eq_1, evTV.eq_2, evTV.eq_3, evTBV.eq_1, evTBV.eq_2, evTBV.eq_3, evBV.eq_1, evBV.eq_2, evBV.eq_3, evToV.eq_1, evToV.eq_2, evOV.eq_1, evOV.eq_2, evFV.eq_1, evFV.eq_2, evPV, prepM, reduceCtorEq, false_implies, false_imp_iff, implies_true, frz, escE, escT, escTL, escTo, escL, escO, bmOwn, frE, locV, retM, v_bind, v_bindE, v_lift, v_liftE, v_of, v_seq, v_seqR, v_seqE, v_turn, v_turnR, v_turnE, v_nox,
  res_int, res_bl, res_str, res_non, res_lst, res_fro, res_tup, res_ins, cls_int, cls_bl, cls_str, cls_non, cls_lst, cls_fro, cls_tup, cls_ins, cmp_int, cmp_bl, cmp_str, cmp_nonK, cmp_lst, cmp_fro, cmp_tup, c_lt, c_le, c_gt, c_ge, c_eq, c_ne, c_is, c_isnot, xi_lst, xi_fro, xi_tup, tr_bl, tr_int, tr_lst, bf_lenL, bf_lenF, bf_lenT, bf_int, b_add, b_sub,
  List.append_nil, List.nil_append, List.cons_append, List.getElem?_cons_zero, List.getElem?_cons_succ, List.set_cons_zero, List.set_cons_succ, List.length_cons, List.length_nil, if_true, if_false, reduceIte, Bool.false_eq_true, ite_true, ite_false, Bool.true_eq_false, eqV_int, eqV_bl, Option.map_some, List.map_cons, List.map_nil, List.replicate, tyM, Z.tyV, isaAny, i_tnone_tint, i_tnone_tbool, i_tnone_tstr, i_tnone_tlist, i_tnone_ttup, i_tint_tint, i_tint_tbool, i_tint_tstr, i_tint_tlist, i_tint_ttup, i_tbool_tint, i_tbool_tbool, i_tbool_tstr, i_tbool_tlist, i_tbool_ttup, i_tstr_tint, i_tstr_tbool, i_tstr_tstr, i_tstr_tlist, i_tstr_ttup, i_tlist_tint, i_tlist_tbool, i_tlist_tstr, i_tlist_tlist, i_tlist_ttup, i_ttup_tint, i_ttup_tbool, i_ttup_tstr, i_ttup_tlist, i_ttup_ttup, Option.bind_some, List.all_cons, List.all_nil, clsOk, Bool.or_self, Bool.or_false, Bool.false_or, Bool.true_or, Bool.or_true, Bool.and_self, Bool.and_true, Bool.true_and, Bool.not_true, Bool.not_false, isNonV, z1_, z2_, Int.reduceLE, Int.reduceLT, Int.reduceEq, Int.reduceBEq, Int.reduceBNe, Int.reduceNeg, Nat.reduceLT, Nat.reduceLeDiff, ne_eq, not_false_eq_true, Nat.reduceEqDiff, Nat.succ_ne_self, decide_true, decide_false, bne_self_eq_false, beq_self_eq_true, decide_eq_true_eq, Nat.sub_self, Nat.reduceSub, Nat.reduceAdd, it3, it0, it11, lcV, assignV, setAllV, wipeV, sz1, md_re, seqV, and_self, hm, whlV, eql0, eql1, at1, ixN1, sbm, isOwn, ownBm, lmeth, resX, forV, enumF, List.dropLast, asgV, subOk, setSub, setV, Option.map_none, List.set, hn, sz0, sz0l])
theorem trans_one {n : Int} : (cfV tb.pg md tb.fns (k + 1)) "transposed" [.lst [.lst [.int n]]] M = .ok (.lst [.lst [.int n]], true) M := by
  (rw [cfV]; simp only [F_tr]; rw [if_pos (by rfl)]; unfold f_transposed startV; simp only [evVSs.eq_1, evVSs.eq_2, evVS.eq_1, evVS.eq_2, evVS.eq_3, evVS.eq_4, evVS.eq_5, evVS.eq_6, evVS.eq_7, evVS.eq_8, evVS.eq_9, evVS.eq_10, evVS.eq_11, evVS.eq_12, evVS.eq_13, evVS.eq_14, evVS.eq_15, evVS.eq_16, evVS.eq_17, evVS.eq_18, evV.eq_1, evV.eq_2, evV.eq_3, evV.eq_4, evV.eq_5, evV.eq_6, evV.eq_7, evV.eq_8, evV.eq_9, evV.eq_10, evV.eq_11, evV.eq_12, evV.eq_13, evV.eq_14, evV.eq_15, evV.eq_16, evV.eq_17, evV.eq_18, evV.eq_19, evV.eq_20, evV.eq_21, evV.eq_22, evV.eq_23, evV.eq_24, evV.eq_25, evV.eq_26, evV.eq_27, evV.eq_28, evV.eq_29, evV.eq_30, evV.eq_31, evV.eq_32, evV.eq_33, evLV.eq_1, evLV.eq_2, evTV.eq_1, evTV.eq_2, evTV.eq_3, evTBV.eq_1, evTBV.eq_2, evTBV.eq_3, evBV.eq_1, evBV.eq_2, evBV.eq_3, evToV.eq_1, evToV.eq_2, evOV.eq_1, evOV.eq_2, evFV.eq_1, evFV.eq_2, evPV, prepM, reduceCtorEq, false_implies, false_imp_iff, implies_true, frz, escE, escT, escTL, escTo, escL, escO, bmOwn, frE, locV, retM, v_bind, v_bindE, v_lift, v_liftE, v_of, v_seq, v_seqR, v_seqE, v_turn, v_turnR, v_turnE, v_nox,
  res_int, res_bl, res_str, res_non, res_lst, res_fro, res_tup, res_ins, cls_int, cls_bl, cls_str, cls_non, cls_lst, cls_fro, cls_tup, cls_ins, cmp_int, cmp_bl, cmp_str, cmp_nonK, cmp_lst, cmp_fro, cmp_tup, c_lt, c_le, c_gt, c_ge, c_eq, c_ne, c_is, c_isnot, xi_lst, xi_fro, xi_tup, tr_bl, tr_int, tr_lst, bf_lenL, bf_lenF, bf_lenT, bf_int, b_add, b_sub,
  List.append_nil, List.nil_append, List.cons_append, List.getElem?_cons_zero, List.getElem?_cons_succ, List.set_cons_zero, List.set_cons_succ, List.length_cons, List.length_nil, if_true, if_false, reduceIte, Bool.false_eq_true, ite_true, ite_false, Bool.true_eq_false, eqV_int, eqV_bl, Option.map_some, List.map_cons, List.map_nil, List.replicate, tyM, Z.tyV, isaAny, i_tnone_tint, i_tnone_tbool, i_tnone_tstr, i_tnone_tlist, i_tnone_ttup, i_tint_tint, i_tint_tbool, i_tint_tstr, i_tint_tlist, i_tint_ttup, i_tbool_tint, i_tbool_tbool, i_tbool_tstr, i_tbool_tlist, i_tbool_ttup, i_tstr_tint, i_tstr_tbool, i_tstr_tstr, i_tstr_tlist, i_tstr_ttup, i_tlist_tint, i_tlist_tbool, i_tlist_tstr, i_tlist_tlist, i_tlist_ttup, i_ttup_tint, i_ttup_tbool, i_ttup_tstr, i_ttup_tlist, i_ttup_ttup, Option.bind_some, List.all_cons, List.all_nil, clsOk, Bool.or_self, Bool.or_false, Bool.false_or, Bool.true_or, Bool.or_true, Bool.and_self, Bool.and_true, Bool.true_and, Bool.not_true, Bool.not_false, isNonV, z1_, z2_, Int.reduceLE, Int.reduceLT, Int.reduceEq, Int.reduceBEq, Int.reduceBNe, Int.reduceNeg, Nat.reduceLT, Nat.reduceLeDiff, ne_eq, not_false_eq_true, Nat.reduceEqDiff, Nat.succ_ne_self, decide_true, decide_false, bne_self_eq_false, beq_self_eq_true, decide_eq_true_eq, Nat.sub_self, Nat.reduceSub, Nat.reduceAdd, it0, it11, lcV, assignV, setAllV, wipeV, sz1, at1])
theorem in_one : inopV tb.pg.kd (.int 0) (.lst [.int 0]) = some true := by kernel_rfl
theorem c_in {kd : Str → Option (List (Str × U))} {x y : D} : cmpopV kd .In x y = inopV kd x y := rfl
theorem c_notin {kd : Str → Option (List (Str × U))} {x y : D} : cmpopV kd .NotIn x y = (inopV kd x y).map (!·) := rfl
theorem cj_one {n : Int} (hn : 2 ≤ n) : (cfV tb.pg md tb.fns (k + 2)) "check_joined" [.lst [.lst [.int n]]] M = .ok (.non, false) M := by
  have h0 : 0 < n := by omega
  have h1 : (n == 1) = false := by
    cases q : n == 1 with
    | false => rfl
    | true => rw [beq_iff_eq] at q; omega
  (rw [cfV]; simp only [F_cj]; rw [if_pos (by rfl)]; unfold f_check_joined startV; simp only [evVSs.eq_1, evVSs.eq_2, evVS.eq_1, evVS.eq_2, evVS.eq_3, evVS.eq_4, evVS.eq_5, evVS.eq_6, evVS.eq_7, evVS.eq_8, evVS.eq_9, evVS.eq_10, evVS.eq_11, evVS.eq_12, evVS.eq_13, evVS.eq_14, evVS.eq_15, evVS.eq_16, evVS.eq_17, evVS.eq_18, evV.eq_1, evV.eq_2, evV.eq_3, evV.eq_4, evV.eq_5, evV.eq_6, evV.eq_7, evV.eq_8, evV.eq_9, evV.eq_10, evV.eq_11, evV.eq_12, evV.eq_13, evV.eq_14, evV.eq_15, evV.eq_16, evV.eq_17, evV.eq_18, evV.eq_19, evV.eq_20, evV.eq_21, evV.eq_22, evV.eq_23, evV.eq_24, evV.eq_25, evV.eq_26, evV.eq_27, evV.eq_28, evV.eq_29, evV.eq_30, evV.eq_31, evV.eq_32, evV.eq_33, evLV.eq_1, evLV.eq_2, evTV.eq_1, evTV.eq_2, evTV.eq_3, evTBV.eq_1, evTBV.eq_2, evTBV.eq_3, evBV.eq_1, evBV.eq_2, evBV.eq_3, evToV.eq_1, evToV.eq_2, evOV.eq_1, evOV.eq_2, evFV.eq_1, evFV.eq_2, evPV, prepM, reduceCtorEq, false_implies, false_imp_iff, implies_true, frz, escE, escT, escTL, escTo, escL, escO, bmOwn, frE, locV, retM, v_bind, v_bindE, v_lift, v_liftE, v_of, v_seq, v_seqR, v_seqE, v_turn, v_turnR, v_turnE, v_nox,
  res_int, res_bl, res_str, res_non, res_lst, res_fro, res_tup, res_ins, cls_int, cls_bl, cls_str, cls_non, cls_lst, cls_fro, cls_tup, cls_ins, cmp_int, cmp_bl, cmp_str, cmp_nonK, cmp_lst, cmp_fro, cmp_tup, c_lt, c_le, c_gt, c_ge, c_eq, c_ne, c_is, c_isnot, xi_lst, xi_fro, xi_tup, tr_bl, tr_int, tr_lst, bf_lenL, bf_lenF, bf_lenT, bf_int, b_add, b_sub,
  List.append_nil, List.nil_append, List.cons_append, List.getElem?_cons_zero, List.getElem?_cons_succ, List.set_cons_zero, List.set_cons_succ, List.length_cons, List.length_nil, if_true, if_false, reduceIte, Bool.false_eq_true, ite_true, ite_false, Bool.true_eq_false, eqV_int, eqV_bl, Option.map_some, List.map_cons, List.map_nil, List.replicate, tyM, Z.tyV, isaAny, i_tnone_tint, i_tnone_tbool, i_tnone_tstr, i_tnone_tlist, i_tnone_ttup, i_tint_tint, i_tint_tbool, i_tint_tstr, i_tint_tlist, i_tint_ttup, i_tbool_tint, i_tbool_tbool, i_tbool_tstr, i_tbool_tlist, i_tbool_ttup, i_tstr_tint, i_tstr_tbool, i_tstr_tstr, i_tstr_tlist, i_tstr_ttup, i_tlist_tint, i_tlist_tbool, i_tlist_tstr, i_tlist_tlist, i_tlist_ttup, i_ttup_tint, i_ttup_tbool, i_ttup_tstr, i_ttup_tlist, i_ttup_ttup, Option.bind_some, List.all_cons, List.all_nil, clsOk, Bool.or_self, Bool.or_false, Bool.false_or, Bool.true_or, Bool.or_true, Bool.and_self, Bool.and_true, Bool.true_and, Bool.not_true, Bool.not_false, isNonV, z1_, z2_, Int.reduceLE, Int.reduceLT, Int.reduceEq, Int.reduceBEq, Int.reduceBNe, Int.reduceNeg, Nat.reduceLT, Nat.reduceLeDiff, ne_eq, not_false_eq_true, Nat.reduceEqDiff, Nat.succ_ne_self, decide_true, decide_false, bne_self_eq_false, beq_self_eq_true, decide_eq_true_eq, Nat.sub_self, Nat.reduceSub, Nat.reduceAdd, gfs, reached_one h0, trans_one, md0 (show ("check_joined" : Str) ≠ "law" by decide) (show ("check_joined" : Str) ≠ "reached" by decide), it0, it11, lcV, assignV, setAllV, wipeV, sz1, at1, forV, c_notin, in_one, sum_one, Int.add_zero, h1, all_one])
theorem F_init : tb.fns (initN "Map") = some f_Map___init__ := by kernel_rfl
theorem fld_rows : tb.pg.fld "Map" "rows" = true := by kernel_rfl
theorem own_map : tb.pg.own "Map" = true := by kernel_rfl
theorem init_one {n : Int} (hn : 2 ≤ n) : (jfV tb.pg md tb.fns (k + 4)) "Map" [.lst [.lst [.int n]]] M = .ok (.ins "Map" [("rows", .lst [.lst [.int n]])]) M := by
  have h0 : 0 ≤ n := by omega
  rw [jfV]
  simp only [F_init]
  rw [if_pos (by rfl)]
  unfold f_Map___init__ startV
  simp only [evVSs.eq_1, evVSs.eq_2, evVS.eq_1, evVS.eq_2, evVS.eq_3, evVS.eq_4, evVS.eq_5, evVS.eq_6, evVS.eq_7, evVS.eq_8, evVS.eq_9, evVS.eq_10, evVS.eq_11, evVS.eq_12, evVS.eq_13, evVS.eq_14, evVS.eq_15, evVS.eq_16, evVS.eq_17, evVS.eq_18, evV.eq_1, evV.eq_2, evV.eq_3, evV.eq_4, evV.eq_5, evV.eq_6, evV.eq_7, evV.eq_8, evV.eq_9, evV.eq_10, evV.eq_11, evV.eq_12, evV.eq_13, evV.eq_14, evV.eq_15, evV.eq_16, evV.eq_17, evV.eq_18, evV.eq_19, evV.eq_20, evV.eq_21, evV.eq_22, evV.eq_23, evV.eq_24, evV.eq_25, evV.eq_26, evV.eq_27, evV.eq_28, evV.eq_29, evV.eq_30, evV.eq_31, evV.eq_32, evV.eq_33, evLV.eq_1, evLV.eq_2, evTV.eq_1, evTV.eq_2, evTV.eq_3, evTBV.eq_1, evTBV.eq_2, evTBV.eq_3, evBV.eq_1, evBV.eq_2, evBV.eq_3, evToV.eq_1, evToV.eq_2, evOV.eq_1, evOV.eq_2, evFV.eq_1, evFV.eq_2, evPV, prepM, reduceCtorEq, false_implies, false_imp_iff, implies_true, frz, escE, escT, escTL, escTo, escL, escO, bmOwn, frE, locV, retM, v_bind, v_bindE, v_lift, v_liftE, v_of, v_seq, v_seqR, v_seqE, v_turn, v_turnR, v_turnE, v_nox,
  res_int, res_bl, res_str, res_non, res_lst, res_fro, res_tup, res_ins, cls_int, cls_bl, cls_str, cls_non, cls_lst, cls_fro, cls_tup, cls_ins, cmp_int, cmp_bl, cmp_str, cmp_nonK, cmp_lst, cmp_fro, cmp_tup, c_lt, c_le, c_gt, c_ge, c_eq, c_ne, c_is, c_isnot, xi_lst, xi_fro, xi_tup, tr_bl, tr_int, tr_lst, bf_lenL, bf_lenF, bf_lenT, bf_int, b_add, b_sub,
  List.append_nil, List.nil_append, List.cons_append, List.getElem?_cons_zero, List.getElem?_cons_succ, List.set_cons_zero, List.set_cons_succ, List.length_cons, List.length_nil, if_true, if_false, reduceIte, Bool.false_eq_true, ite_true, ite_false, Bool.true_eq_false, eqV_int, eqV_bl, Option.map_some, List.map_cons, List.map_nil, List.replicate, Nat.sub_self, Nat.reduceSub, Nat.reduceAdd, gfs, ct_one h0, cj_one hn, it0, lcV, assignV, wipeV, sz1, list_l, fld_rows, putV, Nat.reduceLT, and_self]
theorem E_count : tb.pg.exn "InvalidCount" = some (("InvalidCount" : Str), [("given" : Str)]) := by kernel_rfl
theorem F_bou : tb.fns "Map.bouquet" = some f_Map_bouquet := by kernel_rfl
theorem bou_ok {n : Int} (hn : 2 ≤ n) : (cfV tb.pg md tb.fns (k + 5)) "Map.bouquet" [.int n] M = .ok (.ins "Map" [("rows", .lst [.lst [.int n]])], false) M := by
  have h0 : ¬ n < 2 := by omega
  (rw [cfV]; simp only [F_bou]; rw [if_pos (by rfl)]; unfold f_Map_bouquet startV; simp only [evVSs.eq_1, evVSs.eq_2, evVS.eq_1, evVS.eq_2, evVS.eq_3, evVS.eq_4, evVS.eq_5, evVS.eq_6, evVS.eq_7, evVS.eq_8, evVS.eq_9, evVS.eq_10, evVS.eq_11, evVS.eq_12, evVS.eq_13, evVS.eq_14, evVS.eq_15, evVS.eq_16, evVS.eq_17, evVS.eq_18, evV.eq_1, evV.eq_2, evV.eq_3, evV.eq_4, evV.eq_5, evV.eq_6, evV.eq_7, evV.eq_8, evV.eq_9, evV.eq_10, evV.eq_11, evV.eq_12, evV.eq_13, evV.eq_14, evV.eq_15, evV.eq_16, evV.eq_17, evV.eq_18, evV.eq_19, evV.eq_20, evV.eq_21, evV.eq_22, evV.eq_23, evV.eq_24, evV.eq_25, evV.eq_26, evV.eq_27, evV.eq_28, evV.eq_29, evV.eq_30, evV.eq_31, evV.eq_32, evV.eq_33, evLV.eq_1, evLV.eq_2, evTV.eq_1, evTV.eq_2, evTV.eq_3, evTBV.eq_1, evTBV.eq_2, evTBV.eq_3, evBV.eq_1, evBV.eq_2, evBV.eq_3, evToV.eq_1, evToV.eq_2, evOV.eq_1, evOV.eq_2, evFV.eq_1, evFV.eq_2, evPV, prepM, reduceCtorEq, false_implies, false_imp_iff, implies_true, frz, escE, escT, escTL, escTo, escL, escO, bmOwn, frE, locV, retM, v_bind, v_bindE, v_lift, v_liftE, v_of, v_seq, v_seqR, v_seqE, v_turn, v_turnR, v_turnE, v_nox,
  res_int, res_bl, res_str, res_non, res_lst, res_fro, res_tup, res_ins, cls_int, cls_bl, cls_str, cls_non, cls_lst, cls_fro, cls_tup, cls_ins, cmp_int, cmp_bl, cmp_str, cmp_nonK, cmp_lst, cmp_fro, cmp_tup, c_lt, c_le, c_gt, c_ge, c_eq, c_ne, c_is, c_isnot, xi_lst, xi_fro, xi_tup, tr_bl, tr_int, tr_lst, bf_lenL, bf_lenF, bf_lenT, bf_int, b_add, b_sub,
  List.append_nil, List.nil_append, List.cons_append, List.getElem?_cons_zero, List.getElem?_cons_succ, List.set_cons_zero, List.set_cons_succ, List.length_cons, List.length_nil, if_true, if_false, reduceIte, Bool.false_eq_true, ite_true, ite_false, Bool.true_eq_false, eqV_int, eqV_bl, Option.map_some, List.map_cons, List.map_nil, List.replicate, tyM, Z.tyV, isaAny, i_tnone_tint, i_tnone_tbool, i_tnone_tstr, i_tnone_tlist, i_tnone_ttup, i_tint_tint, i_tint_tbool, i_tint_tstr, i_tint_tlist, i_tint_ttup, i_tbool_tint, i_tbool_tbool, i_tbool_tstr, i_tbool_tlist, i_tbool_ttup, i_tstr_tint, i_tstr_tbool, i_tstr_tstr, i_tstr_tlist, i_tstr_ttup, i_tlist_tint, i_tlist_tbool, i_tlist_tstr, i_tlist_tlist, i_tlist_ttup, i_ttup_tint, i_ttup_tbool, i_ttup_tstr, i_ttup_tlist, i_ttup_ttup, Option.bind_some, List.all_cons, List.all_nil, clsOk, Bool.or_self, Bool.or_false, Bool.false_or, Bool.true_or, Bool.or_true, Bool.and_self, Bool.and_true, Bool.true_and, Bool.not_true, Bool.not_false, isNonV, z1_, z2_, Int.reduceLE, Int.reduceLT, Int.reduceEq, Int.reduceBEq, Int.reduceBNe, Int.reduceNeg, Nat.reduceLT, Nat.reduceLeDiff, ne_eq, not_false_eq_true, Nat.reduceEqDiff, Nat.succ_ne_self, decide_true, decide_false, bne_self_eq_false, beq_self_eq_true, decide_eq_true_eq, Nat.sub_self, Nat.reduceSub, Nat.reduceAdd, gfs, num_int, h0, own_map, init_one hn, sz1])
/-- no number of loops -/
def Odd (d : D) : Prop := d = .non ∨ (∃ b, d = .bl b) ∨ (∃ s : Str, d = .str s ∧ s.length ≤ 1000000) ∨ (∃ i : Int, d = .int i ∧ i < 2 ∧ i.natAbs.log2 < 1920) ∨ ∃ i : Int, d = .lst [.int i] ∧ i.natAbs.log2 < 1920
theorem bou_exc {d : D} (h : Odd d) : (cfV tb.pg md tb.fns (k + 5)) "Map.bouquet" [d] M = .exc "InvalidCount" [("given", d), ("tag", .str "InvalidCount")] M := by
  rcases h with rfl | ⟨b, rfl⟩ | ⟨s, rfl, hs⟩ | ⟨i, rfl, hi, hl⟩ | ⟨i, rfl, hl⟩
  · (rw [cfV]; simp only [F_bou]; rw [if_pos (by rfl)]; unfold f_Map_bouquet startV; simp only [evVSs.eq_1, evVSs.eq_2, evVS.eq_1, evVS.eq_2, evVS.eq_3, evVS.eq_4, evVS.eq_5, evVS.eq_6, evVS.eq_7, evVS.eq_8, evVS.eq_9, evVS.eq_10, evVS.eq_11, evVS.eq_12, evVS.eq_13, evVS.eq_14, evVS.eq_15, evVS.eq_16, evVS.eq_17, evVS.eq_18, evV.eq_1, evV.eq_2, evV.eq_3, evV.eq_4, evV.eq_5, evV.eq_6, evV.eq_7, evV.eq_8, evV.eq_9, evV.eq_10, evV.eq_11, evV.eq_12, evV.eq_13, evV.eq_14, evV.eq_15, evV.eq_16, evV.eq_17, evV.eq_18, evV.eq_19, evV.eq_20, evV.eq_21, evV.eq_22, evV.eq_23, evV.eq_24, evV.eq_25, evV.eq_26, evV.eq_27, evV.eq_28, evV.eq_29, evV.eq_30, evV.eq_31, evV.eq_32, evV.eq_33, evLV.eq_1, evLV.eq_2, evTV.eq_1, evTV.eq_2, evTV.eq_3, evTBV.eq_1, evTBV.eq_2, evTBV.eq_3, evBV.eq_1, evBV.eq_2, evBV.eq_3, evToV.eq_1, evToV.eq_2, evOV.eq_1, evOV.eq_2, evFV.eq_1, evFV.eq_2, evPV, prepM, reduceCtorEq, false_implies, false_imp_iff, implies_true, frz, escE, escT, escTL, escTo, escL, escO, bmOwn, frE, locV, retM, v_bind, v_bindE, v_lift, v_liftE, v_of, v_seq, v_seqR, v_seqE, v_turn, v_turnR, v_turnE, v_nox,
  res_int, res_bl, res_str, res_non, res_lst, res_fro, res_tup, res_ins, cls_int, cls_bl, cls_str, cls_non, cls_lst, cls_fro, cls_tup, cls_ins, cmp_int, cmp_bl, cmp_str, cmp_nonK, cmp_lst, cmp_fro, cmp_tup, c_lt, c_le, c_gt, c_ge, c_eq, c_ne, c_is, c_isnot, xi_lst, xi_fro, xi_tup, tr_bl, tr_int, tr_lst, bf_lenL, bf_lenF, bf_lenT, bf_int, b_add, b_sub,
  List.append_nil, List.nil_append, List.cons_append, List.getElem?_cons_zero, List.getElem?_cons_succ, List.set_cons_zero, List.set_cons_succ, List.length_cons, List.length_nil, if_true, if_false, reduceIte, Bool.false_eq_true, ite_true, ite_false, Bool.true_eq_false, eqV_int, eqV_bl, Option.map_some, List.map_cons, List.map_nil, List.replicate, tyM, Z.tyV, isaAny, i_tnone_tint, i_tnone_tbool, i_tnone_tstr, i_tnone_tlist, i_tnone_ttup, i_tint_tint, i_tint_tbool, i_tint_tstr, i_tint_tlist, i_tint_ttup, i_tbool_tint, i_tbool_tbool, i_tbool_tstr, i_tbool_tlist, i_tbool_ttup, i_tstr_tint, i_tstr_tbool, i_tstr_tstr, i_tstr_tlist, i_tstr_ttup, i_tlist_tint, i_tlist_tbool, i_tlist_tstr, i_tlist_tlist, i_tlist_ttup, i_ttup_tint, i_ttup_tbool, i_ttup_tstr, i_ttup_tlist, i_ttup_ttup, Option.bind_some, List.all_cons, List.all_nil, clsOk, Bool.or_self, Bool.or_false, Bool.false_or, Bool.true_or, Bool.or_true, Bool.and_self, Bool.and_true, Bool.true_and, Bool.not_true, Bool.not_false, isNonV, z1_, z2_, Int.reduceLE, Int.reduceLT, Int.reduceEq, Int.reduceBEq, Int.reduceBNe, Int.reduceNeg, Nat.reduceLT, Nat.reduceLeDiff, ne_eq, not_false_eq_true, Nat.reduceEqDiff, Nat.succ_ne_self, decide_true, decide_false, bne_self_eq_false, beq_self_eq_true, decide_eq_true_eq, Nat.sub_self, Nat.reduceSub, Nat.reduceAdd, gfs, num_non, E_count, prD, List.zip_cons_cons, List.zip_nil_right, and_self])
  · (rw [cfV]; simp only [F_bou]; rw [if_pos (by rfl)]; unfold f_Map_bouquet startV; simp only [evVSs.eq_1, evVSs.eq_2, evVS.eq_1, evVS.eq_2, evVS.eq_3, evVS.eq_4, evVS.eq_5, evVS.eq_6, evVS.eq_7, evVS.eq_8, evVS.eq_9, evVS.eq_10, evVS.eq_11, evVS.eq_12, evVS.eq_13, evVS.eq_14, evVS.eq_15, evVS.eq_16, evVS.eq_17, evVS.eq_18, evV.eq_1, evV.eq_2, evV.eq_3, evV.eq_4, evV.eq_5, evV.eq_6, evV.eq_7, evV.eq_8, evV.eq_9, evV.eq_10, evV.eq_11, evV.eq_12, evV.eq_13, evV.eq_14, evV.eq_15, evV.eq_16, evV.eq_17, evV.eq_18, evV.eq_19, evV.eq_20, evV.eq_21, evV.eq_22, evV.eq_23, evV.eq_24, evV.eq_25, evV.eq_26, evV.eq_27, evV.eq_28, evV.eq_29, evV.eq_30, evV.eq_31, evV.eq_32, evV.eq_33, evLV.eq_1, evLV.eq_2, evTV.eq_1, evTV.eq_2, evTV.eq_3, evTBV.eq_1, evTBV.eq_2, evTBV.eq_3, evBV.eq_1, evBV.eq_2, evBV.eq_3, evToV.eq_1, evToV.eq_2, evOV.eq_1, evOV.eq_2, evFV.eq_1, evFV.eq_2, evPV, prepM, reduceCtorEq, false_implies, false_imp_iff, implies_true, frz, escE, escT, escTL, escTo, escL, escO, bmOwn, frE, locV, retM, v_bind, v_bindE, v_lift, v_liftE, v_of, v_seq, v_seqR, v_seqE, v_turn, v_turnR, v_turnE, v_nox,
  res_int, res_bl, res_str, res_non, res_lst, res_fro, res_tup, res_ins, cls_int, cls_bl, cls_str, cls_non, cls_lst, cls_fro, cls_tup, cls_ins, cmp_int, cmp_bl, cmp_str, cmp_nonK, cmp_lst, cmp_fro, cmp_tup, c_lt, c_le, c_gt, c_ge, c_eq, c_ne, c_is, c_isnot, xi_lst, xi_fro, xi_tup, tr_bl, tr_int, tr_lst, bf_lenL, bf_lenF, bf_lenT, bf_int, b_add, b_sub,
  List.append_nil, List.nil_append, List.cons_append, List.getElem?_cons_zero, List.getElem?_cons_succ, List.set_cons_zero, List.set_cons_succ, List.length_cons, List.length_nil, if_true, if_false, reduceIte, Bool.false_eq_true, ite_true, ite_false, Bool.true_eq_false, eqV_int, eqV_bl, Option.map_some, List.map_cons, List.map_nil, List.replicate, tyM, Z.tyV, isaAny, i_tnone_tint, i_tnone_tbool, i_tnone_tstr, i_tnone_tlist, i_tnone_ttup, i_tint_tint, i_tint_tbool, i_tint_tstr, i_tint_tlist, i_tint_ttup, i_tbool_tint, i_tbool_tbool, i_tbool_tstr, i_tbool_tlist, i_tbool_ttup, i_tstr_tint, i_tstr_tbool, i_tstr_tstr, i_tstr_tlist, i_tstr_ttup, i_tlist_tint, i_tlist_tbool, i_tlist_tstr, i_tlist_tlist, i_tlist_ttup, i_ttup_tint, i_ttup_tbool, i_ttup_tstr, i_ttup_tlist, i_ttup_ttup, Option.bind_some, List.all_cons, List.all_nil, clsOk, Bool.or_self, Bool.or_false, Bool.false_or, Bool.true_or, Bool.or_true, Bool.and_self, Bool.and_true, Bool.true_and, Bool.not_true, Bool.not_false, isNonV, z1_, z2_, Int.reduceLE, Int.reduceLT, Int.reduceEq, Int.reduceBEq, Int.reduceBNe, Int.reduceNeg, Nat.reduceLT, Nat.reduceLeDiff, ne_eq, not_false_eq_true, Nat.reduceEqDiff, Nat.succ_ne_self, decide_true, decide_false, bne_self_eq_false, beq_self_eq_true, decide_eq_true_eq, Nat.sub_self, Nat.reduceSub, Nat.reduceAdd, gfs, num_bl, E_count, prD, List.zip_cons_cons, List.zip_nil_right, and_self])
  · (rw [cfV]; simp only [F_bou]; rw [if_pos (by rfl)]; unfold f_Map_bouquet startV; simp only [evVSs.eq_1, evVSs.eq_2, evVS.eq_1, evVS.eq_2, evVS.eq_3, evVS.eq_4, evVS.eq_5, evVS.eq_6, evVS.eq_7, evVS.eq_8, evVS.eq_9, evVS.eq_10, evVS.eq_11, evVS.eq_12, evVS.eq_13, evVS.eq_14, evVS.eq_15, evVS.eq_16, evVS.eq_17, evVS.eq_18, evV.eq_1, evV.eq_2, evV.eq_3, evV.eq_4, evV.eq_5, evV.eq_6, evV.eq_7, evV.eq_8, evV.eq_9, evV.eq_10, evV.eq_11, evV.eq_12, evV.eq_13, evV.eq_14, evV.eq_15, evV.eq_16, evV.eq_17, evV.eq_18, evV.eq_19, evV.eq_20, evV.eq_21, evV.eq_22, evV.eq_23, evV.eq_24, evV.eq_25, evV.eq_26, evV.eq_27, evV.eq_28, evV.eq_29, evV.eq_30, evV.eq_31, evV.eq_32, evV.eq_33, evLV.eq_1, evLV.eq_2, evTV.eq_1, evTV.eq_2, evTV.eq_3, evTBV.eq_1, evTBV.eq_2, evTBV.eq_3, evBV.eq_1, evBV.eq_2, evBV.eq_3, evToV.eq_1, evToV.eq_2, evOV.eq_1, evOV.eq_2, evFV.eq_1, evFV.eq_2, evPV, prepM, reduceCtorEq, false_implies, false_imp_iff, implies_true, frz, escE, escT, escTL, escTo, escL, escO, bmOwn, frE, locV, retM, v_bind, v_bindE, v_lift, v_liftE, v_of, v_seq, v_seqR, v_seqE, v_turn, v_turnR, v_turnE, v_nox,
  res_int, res_bl, res_str, res_non, res_lst, res_fro, res_tup, res_ins, cls_int, cls_bl, cls_str, cls_non, cls_lst, cls_fro, cls_tup, cls_ins, cmp_int, cmp_bl, cmp_str, cmp_nonK, cmp_lst, cmp_fro, cmp_tup, c_lt, c_le, c_gt, c_ge, c_eq, c_ne, c_is, c_isnot, xi_lst, xi_fro, xi_tup, tr_bl, tr_int, tr_lst, bf_lenL, bf_lenF, bf_lenT, bf_int, b_add, b_sub,
  List.append_nil, List.nil_append, List.cons_append, List.getElem?_cons_zero, List.getElem?_cons_succ, List.set_cons_zero, List.set_cons_succ, List.length_cons, List.length_nil, if_true, if_false, reduceIte, Bool.false_eq_true, ite_true, ite_false, Bool.true_eq_false, eqV_int, eqV_bl, Option.map_some, List.map_cons, List.map_nil, List.replicate, tyM, Z.tyV, isaAny, i_tnone_tint, i_tnone_tbool, i_tnone_tstr, i_tnone_tlist, i_tnone_ttup, i_tint_tint, i_tint_tbool, i_tint_tstr, i_tint_tlist, i_tint_ttup, i_tbool_tint, i_tbool_tbool, i_tbool_tstr, i_tbool_tlist, i_tbool_ttup, i_tstr_tint, i_tstr_tbool, i_tstr_tstr, i_tstr_tlist, i_tstr_ttup, i_tlist_tint, i_tlist_tbool, i_tlist_tstr, i_tlist_tlist, i_tlist_ttup, i_ttup_tint, i_ttup_tbool, i_ttup_tstr, i_ttup_tlist, i_ttup_ttup, Option.bind_some, List.all_cons, List.all_nil, clsOk, Bool.or_self, Bool.or_false, Bool.false_or, Bool.true_or, Bool.or_true, Bool.and_self, Bool.and_true, Bool.true_and, Bool.not_true, Bool.not_false, isNonV, z1_, z2_, Int.reduceLE, Int.reduceLT, Int.reduceEq, Int.reduceBEq, Int.reduceBNe, Int.reduceNeg, Nat.reduceLT, Nat.reduceLeDiff, ne_eq, not_false_eq_true, Nat.reduceEqDiff, Nat.succ_ne_self, decide_true, decide_false, bne_self_eq_false, beq_self_eq_true, decide_eq_true_eq, Nat.sub_self, Nat.reduceSub, Nat.reduceAdd, gfs, num_str, E_count, prD, List.zip_cons_cons, List.zip_nil_right, and_self, hs])
  · (rw [cfV]; simp only [F_bou]; rw [if_pos (by rfl)]; unfold f_Map_bouquet startV; simp only [evVSs.eq_1, evVSs.eq_2, evVS.eq_1, evVS.eq_2, evVS.eq_3, evVS.eq_4, evVS.eq_5, evVS.eq_6, evVS.eq_7, evVS.eq_8, evVS.eq_9, evVS.eq_10, evVS.eq_11, evVS.eq_12, evVS.eq_13, evVS.eq_14, evVS.eq_15, evVS.eq_16, evVS.eq_17, evVS.eq_18, evV.eq_1, evV.eq_2, evV.eq_3, evV.eq_4, evV.eq_5, evV.eq_6, evV.eq_7, evV.eq_8, evV.eq_9, evV.eq_10, evV.eq_11, evV.eq_12, evV.eq_13, evV.eq_14, evV.eq_15, evV.eq_16, evV.eq_17, evV.eq_18, evV.eq_19, evV.eq_20, evV.eq_21, evV.eq_22, evV.eq_23, evV.eq_24, evV.eq_25, evV.eq_26, evV.eq_27, evV.eq_28, evV.eq_29, evV.eq_30, evV.eq_31, evV.eq_32, evV.eq_33, evLV.eq_1, evLV.eq_2, evTV.eq_1, evTV.eq_2, evTV.eq_3, evTBV.eq_1, evTBV.eq_2, evTBV.eq_3, evBV.eq_1, evBV.eq_2, evBV.eq_3, evToV.eq_1, evToV.eq_2, evOV.eq_1, evOV.eq_2, evFV.eq_1, evFV.eq_2, evPV, prepM, reduceCtorEq, false_implies, false_imp_iff, implies_true, frz, escE, escT, escTL, escTo, escL, escO, bmOwn, frE, locV, retM, v_bind, v_bindE, v_lift, v_liftE, v_of, v_seq, v_seqR, v_seqE, v_turn, v_turnR, v_turnE, v_nox,
  res_int, res_bl, res_str, res_non, res_lst, res_fro, res_tup, res_ins, cls_int, cls_bl, cls_str, cls_non, cls_lst, cls_fro, cls_tup, cls_ins, cmp_int, cmp_bl, cmp_str, cmp_nonK, cmp_lst, cmp_fro, cmp_tup, c_lt, c_le, c_gt, c_ge, c_eq, c_ne, c_is, c_isnot, xi_lst, xi_fro, xi_tup, tr_bl, tr_int, tr_lst, bf_lenL, bf_lenF, bf_lenT, bf_int, b_add, b_sub,
  List.append_nil, List.nil_append, List.cons_append, List.getElem?_cons_zero, List.getElem?_cons_succ, List.set_cons_zero, List.set_cons_succ, List.length_cons, List.length_nil, if_true, if_false, reduceIte, Bool.false_eq_true, ite_true, ite_false, Bool.true_eq_false, eqV_int, eqV_bl, Option.map_some, List.map_cons, List.map_nil, List.replicate, tyM, Z.tyV, isaAny, i_tnone_tint, i_tnone_tbool, i_tnone_tstr, i_tnone_tlist, i_tnone_ttup, i_tint_tint, i_tint_tbool, i_tint_tstr, i_tint_tlist, i_tint_ttup, i_tbool_tint, i_tbool_tbool, i_tbool_tstr, i_tbool_tlist, i_tbool_ttup, i_tstr_tint, i_tstr_tbool, i_tstr_tstr, i_tstr_tlist, i_tstr_ttup, i_tlist_tint, i_tlist_tbool, i_tlist_tstr, i_tlist_tlist, i_tlist_ttup, i_ttup_tint, i_ttup_tbool, i_ttup_tstr, i_ttup_tlist, i_ttup_ttup, Option.bind_some, List.all_cons, List.all_nil, clsOk, Bool.or_self, Bool.or_false, Bool.false_or, Bool.true_or, Bool.or_true, Bool.and_self, Bool.and_true, Bool.true_and, Bool.not_true, Bool.not_false, isNonV, z1_, z2_, Int.reduceLE, Int.reduceLT, Int.reduceEq, Int.reduceBEq, Int.reduceBNe, Int.reduceNeg, Nat.reduceLT, Nat.reduceLeDiff, ne_eq, not_false_eq_true, Nat.reduceEqDiff, Nat.succ_ne_self, decide_true, decide_false, bne_self_eq_false, beq_self_eq_true, decide_eq_true_eq, Nat.sub_self, Nat.reduceSub, Nat.reduceAdd, gfs, num_int, E_count, prD, List.zip_cons_cons, List.zip_nil_right, and_self, hi, hl])
  · (rw [cfV]; simp only [F_bou]; rw [if_pos (by rfl)]; unfold f_Map_bouquet startV; simp only [evVSs.eq_1, evVSs.eq_2, evVS.eq_1, evVS.eq_2, evVS.eq_3, evVS.eq_4, evVS.eq_5, evVS.eq_6, evVS.eq_7, evVS.eq_8, evVS.eq_9, evVS.eq_10, evVS.eq_11, evVS.eq_12, evVS.eq_13, evVS.eq_14, evVS.eq_15, evVS.eq_16, evVS.eq_17, evVS.eq_18, evV.eq_1, evV.eq_2, evV.eq_3, evV.eq_4, evV.eq_5, evV.eq_6, evV.eq_7, evV.eq_8, evV.eq_9, evV.eq_10, evV.eq_11, evV.eq_12, evV.eq_13, evV.eq_14, evV.eq_15, evV.eq_16, evV.eq_17, evV.eq_18, evV.eq_19, evV.eq_20, evV.eq_21, evV.eq_22, evV.eq_23, evV.eq_24, evV.eq_25, evV.eq_26, evV.eq_27, evV.eq_28, evV.eq_29, evV.eq_30, evV.eq_31, evV.eq_32, evV.eq_33, evLV.eq_1, evLV.eq_2, evTV.eq_1, evTV.eq_2, evTV.eq_3, evTBV.eq_1, evTBV.eq_2, evTBV.eq_3, evBV.eq_1, evBV.eq_2, evBV.eq_3, evToV.eq_1, evToV.eq_2, evOV.eq_1, evOV.eq_2, evFV.eq_1, evFV.eq_2, evPV, prepM, reduceCtorEq, false_implies, false_imp_iff, implies_true, frz, escE, escT, escTL, escTo, escL, escO, bmOwn, frE, locV, retM, v_bind, v_bindE, v_lift, v_liftE, v_of, v_seq, v_seqR, v_seqE, v_turn, v_turnR, v_turnE, v_nox,
  res_int, res_bl, res_str, res_non, res_lst, res_fro, res_tup, res_ins, cls_int, cls_bl, cls_str, cls_non, cls_lst, cls_fro, cls_tup, cls_ins, cmp_int, cmp_bl, cmp_str, cmp_nonK, cmp_lst, cmp_fro, cmp_tup, c_lt, c_le, c_gt, c_ge, c_eq, c_ne, c_is, c_isnot, xi_lst, xi_fro, xi_tup, tr_bl, tr_int, tr_lst, bf_lenL, bf_lenF, bf_lenT, bf_int, b_add, b_sub,
  List.append_nil, List.nil_append, List.cons_append, List.getElem?_cons_zero, List.getElem?_cons_succ, List.set_cons_zero, List.set_cons_succ, List.length_cons, List.length_nil, if_true, if_false, reduceIte, Bool.false_eq_true, ite_true, ite_false, Bool.true_eq_false, eqV_int, eqV_bl, Option.map_some, List.map_cons, List.map_nil, List.replicate, tyM, Z.tyV, isaAny, i_tnone_tint, i_tnone_tbool, i_tnone_tstr, i_tnone_tlist, i_tnone_ttup, i_tint_tint, i_tint_tbool, i_tint_tstr, i_tint_tlist, i_tint_ttup, i_tbool_tint, i_tbool_tbool, i_tbool_tstr, i_tbool_tlist, i_tbool_ttup, i_tstr_tint, i_tstr_tbool, i_tstr_tstr, i_tstr_tlist, i_tstr_ttup, i_tlist_tint, i_tlist_tbool, i_tlist_tstr, i_tlist_tlist, i_tlist_ttup, i_ttup_tint, i_ttup_tbool, i_ttup_tstr, i_ttup_tlist, i_ttup_ttup, Option.bind_some, List.all_cons, List.all_nil, clsOk, Bool.or_self, Bool.or_false, Bool.false_or, Bool.true_or, Bool.or_true, Bool.and_self, Bool.and_true, Bool.true_and, Bool.not_true, Bool.not_false, isNonV, z1_, z2_, Int.reduceLE, Int.reduceLT, Int.reduceEq, Int.reduceBEq, Int.reduceBNe, Int.reduceNeg, Nat.reduceLT, Nat.reduceLeDiff, ne_eq, not_false_eq_true, Nat.reduceEqDiff, Nat.succ_ne_self, decide_true, decide_false, bne_self_eq_false, beq_self_eq_true, decide_eq_true_eq, Nat.sub_self, Nat.reduceSub, Nat.reduceAdd, gfs, num_lst, E_count, prD, prID, List.zip_cons_cons, List.zip_nil_right, and_self, hl])
theorem F_tab : tb.fns "Map.table" = some f_Map_table := by kernel_rfl
theorem F_tot : tb.fns "Map.total" = some f_Map_total := by kernel_rfl
theorem F_pla : tb.fns "Map.places" = some f_Map_places := by kernel_rfl
theorem F_eq : tb.fns "Map.__eq__" = some f_Map___eq__ := by kernel_rfl
theorem lk_rows {d : D} : List.lookup ("rows" : Str) [(("rows" : Str), d)] = some d := rfl
theorem tab_one {n : Int} : (cfV tb.pg md tb.fns (k + 1)) "Map.table" [.ins "Map" [("rows", .lst [.lst [.int n]])]] M = .ok (.lst [.lst [.int n]], true) M := by
  (rw [cfV]; simp only [F_tab]; rw [if_pos (by rfl)]; unfold f_Map_table startV; simp only [evVSs.eq_1, evVSs.eq_2, evVS.eq_1, evVS.eq_2, evVS.eq_3, evVS.eq_4, evVS.eq_5, evVS.eq_6, evVS.eq_7, evVS.eq_8, evVS.eq_9, evVS.eq_10, evVS.eq_11, evVS.eq_12, evVS.eq_13, evVS.eq_14, evVS.eq_15, evVS.eq_16, evVS.eq_17, evVS.eq_18, evV.eq_1, evV.eq_2, evV.eq_3, evV.eq_4, evV.eq_5, evV.eq_6, evV.eq_7, evV.eq_8, evV.eq_9, evV.eq_10, evV.eq_11, evV.eq_12, evV.eq_13, evV.eq_14, evV.eq_15, evV.eq_16, evV.eq_17, evV.eq_18, evV.eq_19, evV.eq_20, evV.eq_21, evV.eq_22, evV.eq_23, evV.eq_24, evV.eq_25, evV.eq_26, evV.eq_27, evV.eq_28, evV.eq_29, evV.eq_30, evV.eq_31, evV.eq_32, evV.eq_33, evLV.eq_1, evLV.eq_2, evTV.eq_1, evTV.eq_2, evTV.eq_3, evTBV.eq_1, evTBV.eq_2, evTBV.eq_3, evBV.eq_1, evBV.eq_2, evBV.eq_3, evToV.eq_1, evToV.eq_2, evOV.eq_1, evOV.eq_2, evFV.eq_1, evFV.eq_2, evPV, prepM, reduceCtorEq, false_implies, false_imp_iff, implies_true, frz, escE, escT, escTL, escTo, escL, escO, bmOwn, frE, locV, retM, v_bind, v_bindE, v_lift, v_liftE, v_of, v_seq, v_seqR, v_seqE, v_turn, v_turnR, v_turnE, v_nox,
  res_int, res_bl, res_str, res_non, res_lst, res_fro, res_tup, res_ins, cls_int, cls_bl, cls_str, cls_non, cls_lst, cls_fro, cls_tup, cls_ins, cmp_int, cmp_bl, cmp_str, cmp_nonK, cmp_lst, cmp_fro, cmp_tup, c_lt, c_le, c_gt, c_ge, c_eq, c_ne, c_is, c_isnot, xi_lst, xi_fro, xi_tup, tr_bl, tr_int, tr_lst, bf_lenL, bf_lenF, bf_lenT, bf_int, b_add, b_sub,
  List.append_nil, List.nil_append, List.cons_append, List.getElem?_cons_zero, List.getElem?_cons_succ, List.set_cons_zero, List.set_cons_succ, List.length_cons, List.length_nil, if_true, if_false, reduceIte, Bool.false_eq_true, ite_true, ite_false, Bool.true_eq_false, eqV_int, eqV_bl, Option.map_some, List.map_cons, List.map_nil, List.replicate, tyM, Z.tyV, isaAny, i_tnone_tint, i_tnone_tbool, i_tnone_tstr, i_tnone_tlist, i_tnone_ttup, i_tint_tint, i_tint_tbool, i_tint_tstr, i_tint_tlist, i_tint_ttup, i_tbool_tint, i_tbool_tbool, i_tbool_tstr, i_tbool_tlist, i_tbool_ttup, i_tstr_tint, i_tstr_tbool, i_tstr_tstr, i_tstr_tlist, i_tstr_ttup, i_tlist_tint, i_tlist_tbool, i_tlist_tstr, i_tlist_tlist, i_tlist_ttup, i_ttup_tint, i_ttup_tbool, i_ttup_tstr, i_ttup_tlist, i_ttup_ttup, Option.bind_some, List.all_cons, List.all_nil, clsOk, Bool.or_self, Bool.or_false, Bool.false_or, Bool.true_or, Bool.or_true, Bool.and_self, Bool.and_true, Bool.true_and, Bool.not_true, Bool.not_false, isNonV, z1_, z2_, Int.reduceLE, Int.reduceLT, Int.reduceEq, Int.reduceBEq, Int.reduceBNe, Int.reduceNeg, Nat.reduceLT, Nat.reduceLeDiff, ne_eq, not_false_eq_true, Nat.reduceEqDiff, Nat.succ_ne_self, decide_true, decide_false, bne_self_eq_false, beq_self_eq_true, decide_eq_true_eq, Nat.sub_self, Nat.reduceSub, Nat.reduceAdd, attrV, lk_rows, fld_rows, it0, lcV, assignV, wipeV, sz1, list_l])
theorem tot_one {n : Int} : (cfV tb.pg md tb.fns (k + 1)) "Map.total" [.ins "Map" [("rows", .lst [.lst [.int n]])]] M = .ok (.int n, false) M := by
  (rw [cfV]; simp only [F_tot]; rw [if_pos (by rfl)]; unfold f_Map_total startV; simp only [evVSs.eq_1, evVSs.eq_2, evVS.eq_1, evVS.eq_2, evVS.eq_3, evVS.eq_4, evVS.eq_5, evVS.eq_6, evVS.eq_7, evVS.eq_8, evVS.eq_9, evVS.eq_10, evVS.eq_11, evVS.eq_12, evVS.eq_13, evVS.eq_14, evVS.eq_15, evVS.eq_16, evVS.eq_17, evVS.eq_18, evV.eq_1, evV.eq_2, evV.eq_3, evV.eq_4, evV.eq_5, evV.eq_6, evV.eq_7, evV.eq_8, evV.eq_9, evV.eq_10, evV.eq_11, evV.eq_12, evV.eq_13, evV.eq_14, evV.eq_15, evV.eq_16, evV.eq_17, evV.eq_18, evV.eq_19, evV.eq_20, evV.eq_21, evV.eq_22, evV.eq_23, evV.eq_24, evV.eq_25, evV.eq_26, evV.eq_27, evV.eq_28, evV.eq_29, evV.eq_30, evV.eq_31, evV.eq_32, evV.eq_33, evLV.eq_1, evLV.eq_2, evTV.eq_1, evTV.eq_2, evTV.eq_3, evTBV.eq_1, evTBV.eq_2, evTBV.eq_3, evBV.eq_1, evBV.eq_2, evBV.eq_3, evToV.eq_1, evToV.eq_2, evOV.eq_1, evOV.eq_2, evFV.eq_1, evFV.eq_2, evPV, prepM, reduceCtorEq, false_implies, false_imp_iff, implies_true, frz, escE, escT, escTL, escTo, escL, escO, bmOwn, frE, locV, retM, v_bind, v_bindE, v_lift, v_liftE, v_of, v_seq, v_seqR, v_seqE, v_turn, v_turnR, v_turnE, v_nox,
  res_int, res_bl, res_str, res_non, res_lst, res_fro, res_tup, res_ins, cls_int, cls_bl, cls_str, cls_non, cls_lst, cls_fro, cls_tup, cls_ins, cmp_int, cmp_bl, cmp_str, cmp_nonK, cmp_lst, cmp_fro, cmp_tup, c_lt, c_le, c_gt, c_ge, c_eq, c_ne, c_is, c_isnot, xi_lst, xi_fro, xi_tup, tr_bl, tr_int, tr_lst, bf_lenL, bf_lenF, bf_lenT, bf_int, b_add, b_sub,
  List.append_nil, List.nil_append, List.cons_append, List.getElem?_cons_zero, List.getElem?_cons_succ, List.set_cons_zero, List.set_cons_succ, List.length_cons, List.length_nil, if_true, if_false, reduceIte, Bool.false_eq_true, ite_true, ite_false, Bool.true_eq_false, eqV_int, eqV_bl, Option.map_some, List.map_cons, List.map_nil, List.replicate, tyM, Z.tyV, isaAny, i_tnone_tint, i_tnone_tbool, i_tnone_tstr, i_tnone_tlist, i_tnone_ttup, i_tint_tint, i_tint_tbool, i_tint_tstr, i_tint_tlist, i_tint_ttup, i_tbool_tint, i_tbool_tbool, i_tbool_tstr, i_tbool_tlist, i_tbool_ttup, i_tstr_tint, i_tstr_tbool, i_tstr_tstr, i_tstr_tlist, i_tstr_ttup, i_tlist_tint, i_tlist_tbool, i_tlist_tstr, i_tlist_tlist, i_tlist_ttup, i_ttup_tint, i_ttup_tbool, i_ttup_tstr, i_ttup_tlist, i_ttup_ttup, Option.bind_some, List.all_cons, List.all_nil, clsOk, Bool.or_self, Bool.or_false, Bool.false_or, Bool.true_or, Bool.or_true, Bool.and_self, Bool.and_true, Bool.true_and, Bool.not_true, Bool.not_false, isNonV, z1_, z2_, Int.reduceLE, Int.reduceLT, Int.reduceEq, Int.reduceBEq, Int.reduceBNe, Int.reduceNeg, Nat.reduceLT, Nat.reduceLeDiff, ne_eq, not_false_eq_true, Nat.reduceEqDiff, Nat.succ_ne_self, decide_true, decide_false, bne_self_eq_false, beq_self_eq_true, decide_eq_true_eq, Nat.sub_self, Nat.reduceSub, Nat.reduceAdd, attrV, lk_rows, fld_rows, it0, lcV, assignV, wipeV, sz1, sum_one, Int.add_zero])
theorem pla_one {n : Int} : (cfV tb.pg md tb.fns (k + 1)) "Map.places" [.ins "Map" [("rows", .lst [.lst [.int n]])]] M = .ok (.int 1, false) M := by
  (rw [cfV]; simp only [F_pla]; rw [if_pos (by rfl)]; unfold f_Map_places startV; simp only [evVSs.eq_1, evVSs.eq_2, evVS.eq_1, evVS.eq_2, evVS.eq_3, evVS.eq_4, evVS.eq_5, evVS.eq_6, evVS.eq_7, evVS.eq_8, evVS.eq_9, evVS.eq_10, evVS.eq_11, evVS.eq_12, evVS.eq_13, evVS.eq_14, evVS.eq_15, evVS.eq_16, evVS.eq_17, evVS.eq_18, evV.eq_1, evV.eq_2, evV.eq_3, evV.eq_4, evV.eq_5, evV.eq_6, evV.eq_7, evV.eq_8, evV.eq_9, evV.eq_10, evV.eq_11, evV.eq_12, evV.eq_13, evV.eq_14, evV.eq_15, evV.eq_16, evV.eq_17, evV.eq_18, evV.eq_19, evV.eq_20, evV.eq_21, evV.eq_22, evV.eq_23, evV.eq_24, evV.eq_25, evV.eq_26, evV.eq_27, evV.eq_28, evV.eq_29, evV.eq_30, evV.eq_31, evV.eq_32, evV.eq_33, evLV.eq_1, evLV.eq_2, evTV.eq_1, evTV.eq_2, evTV.eq_3, evTBV.eq_1, evTBV.eq_2, evTBV.eq_3, evBV.eq_1, evBV.eq_2, evBV.eq_3, evToV.eq_1, evToV.eq_2, evOV.eq_1, evOV.eq_2, evFV.eq_1, evFV.eq_2, evPV, prepM, reduceCtorEq, false_implies, false_imp_iff, implies_true, frz, escE, escT, escTL, escTo, escL, escO, bmOwn, frE, locV, retM, v_bind, v_bindE, v_lift, v_liftE, v_of, v_seq, v_seqR, v_seqE, v_turn, v_turnR, v_turnE, v_nox,
  res_int, res_bl, res_str, res_non, res_lst, res_fro, res_tup, res_ins, cls_int, cls_bl, cls_str, cls_non, cls_lst, cls_fro, cls_tup, cls_ins, cmp_int, cmp_bl, cmp_str, cmp_nonK, cmp_lst, cmp_fro, cmp_tup, c_lt, c_le, c_gt, c_ge, c_eq, c_ne, c_is, c_isnot, xi_lst, xi_fro, xi_tup, tr_bl, tr_int, tr_lst, bf_lenL, bf_lenF, bf_lenT, bf_int, b_add, b_sub,
  List.append_nil, List.nil_append, List.cons_append, List.getElem?_cons_zero, List.getElem?_cons_succ, List.set_cons_zero, List.set_cons_succ, List.length_cons, List.length_nil, if_true, if_false, reduceIte, Bool.false_eq_true, ite_true, ite_false, Bool.true_eq_false, eqV_int, eqV_bl, Option.map_some, List.map_cons, List.map_nil, List.replicate, tyM, Z.tyV, isaAny, i_tnone_tint, i_tnone_tbool, i_tnone_tstr, i_tnone_tlist, i_tnone_ttup, i_tint_tint, i_tint_tbool, i_tint_tstr, i_tint_tlist, i_tint_ttup, i_tbool_tint, i_tbool_tbool, i_tbool_tstr, i_tbool_tlist, i_tbool_ttup, i_tstr_tint, i_tstr_tbool, i_tstr_tstr, i_tstr_tlist, i_tstr_ttup, i_tlist_tint, i_tlist_tbool, i_tlist_tstr, i_tlist_tlist, i_tlist_ttup, i_ttup_tint, i_ttup_tbool, i_ttup_tstr, i_ttup_tlist, i_ttup_ttup, Option.bind_some, List.all_cons, List.all_nil, clsOk, Bool.or_self, Bool.or_false, Bool.false_or, Bool.true_or, Bool.or_true, Bool.and_self, Bool.and_true, Bool.true_and, Bool.not_true, Bool.not_false, isNonV, z1_, z2_, Int.reduceLE, Int.reduceLT, Int.reduceEq, Int.reduceBEq, Int.reduceBNe, Int.reduceNeg, Nat.reduceLT, Nat.reduceLeDiff, ne_eq, not_false_eq_true, Nat.reduceEqDiff, Nat.succ_ne_self, decide_true, decide_false, bne_self_eq_false, beq_self_eq_true, decide_eq_true_eq, Nat.sub_self, Nat.reduceSub, Nat.reduceAdd, attrV, lk_rows, fld_rows])
theorem eq11 {n : Int} : eqV (.lst [.lst [.int n]]) (.lst [.lst [.int n]]) = some true := by
  unfold Z.eqV
  have : toDV 70 (.lst [.lst [.int n]]) = some (.list [.list [.int n]]) := rfl
  rw [this]
  simp only [Option.bind_some]
  rw [if_pos ⟨rfl, rfl⟩]
  simp [PyData.eqv, PyData.eqvAll]
theorem eq_one {n : Int} : (cfV tb.pg md tb.fns (k + 1)) "Map.__eq__" [.ins "Map" [("rows", .lst [.lst [.int n]])], .ins "Map" [("rows", .lst [.lst [.int n]])]] M = .ok (.bl true, false) M := by
  (rw [cfV]; simp only [F_eq]; rw [if_pos (by rfl)]; unfold f_Map___eq__ startV; simp only [evVSs.eq_1, evVSs.eq_2, evVS.eq_1, evVS.eq_2, evVS.eq_3, evVS.eq_4, evVS.eq_5, evVS.eq_6, evVS.eq_7, evVS.eq_8, evVS.eq_9, evVS.eq_10, evVS.eq_11, evVS.eq_12, evVS.eq_13, evVS.eq_14, evVS.eq_15, evVS.eq_16, evVS.eq_17, evVS.eq_18, evV.eq_1, evV.eq_2, evV.eq_3, evV.eq_4, evV.eq_5, evV.eq_6, evV.eq_7, evV.eq_8, evV.eq_9, evV.eq_10, evV.eq_11, evV.eq_12, evV.eq_13, evV.eq_14, evV.eq_15, evV.eq_16, evV.eq_17, evV.eq_18, evV.eq_19, evV.eq_20, evV.eq_21, evV.eq_22, evV.eq_23, evV.eq_24, evV.eq_25, evV.eq_26, evV.eq_27, evV.eq_28, evV.eq_29, evV.eq_30, evV.eq_31, evV.eq_32, evV.eq_33, evLV.eq_1, evLV.eq_2, evTV.eq_1, evTV.eq_2, evTV.eq_3, evTBV.eq_1, evTBV.eq_2, evTBV.eq_3, evBV.eq_1, evBV.eq_2, evBV.eq_3, evToV.eq_1, evToV.eq_2, evOV.eq_1, evOV.eq_2, evFV.eq_1, evFV.eq_2, evPV, prepM, reduceCtorEq, false_implies, false_imp_iff, implies_true, frz, escE, escT, escTL, escTo, escL, escO, bmOwn, frE, locV, retM, v_bind, v_bindE, v_lift, v_liftE, v_of, v_seq, v_seqR, v_seqE, v_turn, v_turnR, v_turnE, v_nox,
  res_int, res_bl, res_str, res_non, res_lst, res_fro, res_tup, res_ins, cls_int, cls_bl, cls_str, cls_non, cls_lst, cls_fro, cls_tup, cls_ins, cmp_int, cmp_bl, cmp_str, cmp_nonK, cmp_lst, cmp_fro, cmp_tup, c_lt, c_le, c_gt, c_ge, c_eq, c_ne, c_is, c_isnot, xi_lst, xi_fro, xi_tup, tr_bl, tr_int, tr_lst, bf_lenL, bf_lenF, bf_lenT, bf_int, b_add, b_sub,
  List.append_nil, List.nil_append, List.cons_append, List.getElem?_cons_zero, List.getElem?_cons_succ, List.set_cons_zero, List.set_cons_succ, List.length_cons, List.length_nil, if_true, if_false, reduceIte, Bool.false_eq_true, ite_true, ite_false, Bool.true_eq_false, eqV_int, eqV_bl, Option.map_some, List.map_cons, List.map_nil, List.replicate, tyM, Z.tyV, isaAny, i_tnone_tint, i_tnone_tbool, i_tnone_tstr, i_tnone_tlist, i_tnone_ttup, i_tint_tint, i_tint_tbool, i_tint_tstr, i_tint_tlist, i_tint_ttup, i_tbool_tint, i_tbool_tbool, i_tbool_tstr, i_tbool_tlist, i_tbool_ttup, i_tstr_tint, i_tstr_tbool, i_tstr_tstr, i_tstr_tlist, i_tstr_ttup, i_tlist_tint, i_tlist_tbool, i_tlist_tstr, i_tlist_tlist, i_tlist_ttup, i_ttup_tint, i_ttup_tbool, i_ttup_tstr, i_ttup_tlist, i_ttup_ttup, Option.bind_some, List.all_cons, List.all_nil, clsOk, Bool.or_self, Bool.or_false, Bool.false_or, Bool.true_or, Bool.or_true, Bool.and_self, Bool.and_true, Bool.true_and, Bool.not_true, Bool.not_false, isNonV, z1_, z2_, Int.reduceLE, Int.reduceLT, Int.reduceEq, Int.reduceBEq, Int.reduceBNe, Int.reduceNeg, Nat.reduceLT, Nat.reduceLeDiff, ne_eq, not_false_eq_true, Nat.reduceEqDiff, Nat.succ_ne_self, decide_true, decide_false, bne_self_eq_false, beq_self_eq_true, decide_eq_true_eq, Nat.sub_self, Nat.reduceSub, Nat.reduceAdd, attrV, lk_rows, fld_rows, k_map, i_map, eq11])
theorem tbls : tb.pg.meth "Map" "table" = some ("Map.table" : Str) ∧ tb.pg.prop "Map" "total" = some ("Map.total" : Str) ∧ tb.pg.prop "Map" "places" = some ("Map.places" : Str) ∧ tb.pg.eqm "Map" = some ("Map.__eq__" : Str) ∧ tb.pg.smet "Map" "bouquet" = some ("Map.bouquet" : Str) ∧ tb.pg.smek "Map" "bouquet" = some (("Map.bouquet" : Str), ("loops" : Str)) := ⟨by kernel_rfl, by kernel_rfl, by kernel_rfl, by kernel_rfl, by kernel_rfl, by kernel_rfl⟩
theorem md_law : md "law" 0 = 0 ∧ md "law" 1 = 2 ∧ md "law" 2 = 0 ∧ md "law" 3 = 0 ∧ md "law" 4 = 0 ∧ md "law" 5 = 0 := ⟨rfl, rfl, rfl, rfl, rfl, rfl⟩
theorem why_t : ∃ w, tb.pg.why = some w := by
  cases h : tb.pg.why with
  | some w => exact ⟨w, rfl⟩
  | none =>
    have : tb.pg.why.isSome = true := by kernel_rfl
    rw [h] at this; cases this
theorem why_count {d : D} : whyXV tb.pg "InvalidCount" [("given", d), ("tag", .str "InvalidCount")] M = .ok (.tup [.str "InvalidCount", d]) M := by kernel_rfl
theorem p60 : binopV .Pow (.int 10) (.int 60) = some (.int (10 ^ 60)) := by kernel_rfl
theorem p30 : binopV .Pow (.int 10) (.int 30) = some (.int (10 ^ 30)) := by kernel_rfl
theorem ne_ins {T : Pg} {cf : CfV} {C q : Str} {fs gs : List (Str × D)} (h : T.eqm C = some q) : cmpKV T cf .NotEq (.ins C fs) (.ins C gs) M = (cf q [.ins C fs, .ins C gs] M).bind (eqBackV true) := by
  unfold cmpKV ownEqV
  simp [clsV, h]
theorem lk_tab {d : D} : List.lookup ("table" : Str) [(("rows" : Str), d)] = none := rfl
/-- one turn -/
theorem turn_ok {B : List D} {t : Nat} (hB : BagOk B t) (ht : t < 1000) {s : D} {x2 : D} {a3 a4 a5 : Option Sl} (b : List Sx) (hb : ∃ tg it kd, f_law.body[1]? = some (.for_ tg it kd b)) :
    ∃ B' x3 x4 x5, evVSs tb.pg (cfV tb.pg md tb.fns (39)) (jfV tb.pg md tb.fns (39)) (md "law") b [some (.v s), some (.v (.mut 0)), some (.v x2), a3, a4, a5] [.lst B] = .ok (.nx [some (.v s), some (.v (.mut 0)), some (.v x2), x3, x4, x5]) [.lst B'] ∧ BagOk B' (t + 4) := by
  obtain ⟨tg, it, kd, hb⟩ := hb
  unfold f_law at hb
  simp only [List.getElem?_cons_succ, List.getElem?_cons_zero, Option.some.injEq, Sx.for_.injEq] at hb
  obtain ⟨_, _, _, rfl⟩ := hb
  have l50 : (50 : Int).natAbs.log2 < 9000 := by decide +kernel
  have l60 : (10 ^ 60 - 2 : Int).natAbs.log2 < 9000 := by decide +kernel
  obtain ⟨r1, b1, B1, q1, q2, q3, h1⟩ := pull_ok (T := tb.pg) (k := 38) (M := [.lst B]) (i := 0) pre.pull pre.mpull rfl hB (by omega) (m := 50) (by decide) l50
  obtain ⟨r2, b2, B2, p1, p2, p3, h2⟩ := pull_ok (T := tb.pg) (k := 38) (M := [.lst B1]) (i := 0) pre.pull pre.mpull rfl h1 (by omega) (m := 10 ^ 60 - 2) (by decide) l60
  obtain ⟨x, b3, B3, u1, u2, h3⟩ := of_ok (k := 37) (M := [.lst B2]) (i := 0) pre rfl h2 (by omega) (xs := [.int 2, .int 3, .int (2 + r1), .int (2 + r2)]) (by simp) (by simp)
  have hx : ∃ n : Int, x = .int n ∧ 2 ≤ n := by
    simp only [List.mem_cons, List.not_mem_nil, or_false] at u2
    rcases u2 with rfl | rfl | rfl | rfl
    · exact ⟨2, rfl, by decide⟩
    · exact ⟨3, rfl, by decide⟩
    · exact ⟨_, rfl, by omega⟩
    · exact ⟨_, rfl, by omega⟩
  obtain ⟨n, rfl, hn⟩ := hx
  obtain ⟨o, b4, B4, v1, v2, h4⟩ := of_ok (k := 37) (M := [.lst B3]) (i := 0) pre rfl h3 (by omega) (xs := [.int 1, .int 0, .int (-2), .non, .bl true, .str "2", .lst [.int 2], .int (-10 ^ 30)]) (by simp) (by simp)
  have ho : Odd o ∧ Sm 1 o o := by
    have ll : (2 : Int).natAbs.log2 < 1920 := by decide +kernel
    simp only [List.mem_cons, List.not_mem_nil, or_false] at v2
    rcases v2 with rfl | rfl | rfl | rfl | rfl | rfl | rfl | rfl
    · exact ⟨.inr (.inr (.inr (.inl ⟨1, rfl, by decide, by decide +kernel⟩))), .inl ⟨.inr (.inr (.inl ⟨_, rfl⟩)), rfl⟩⟩
    · exact ⟨.inr (.inr (.inr (.inl ⟨0, rfl, by decide, by decide +kernel⟩))), .inl ⟨.inr (.inr (.inl ⟨_, rfl⟩)), rfl⟩⟩
    · exact ⟨.inr (.inr (.inr (.inl ⟨-2, rfl, by decide, by decide +kernel⟩))), .inl ⟨.inr (.inr (.inl ⟨_, rfl⟩)), rfl⟩⟩
    · exact ⟨.inl rfl, .inl ⟨.inl rfl, rfl⟩⟩
    · exact ⟨.inr (.inl ⟨true, rfl⟩), .inl ⟨.inr (.inl ⟨_, rfl⟩), rfl⟩⟩
    · exact ⟨.inr (.inr (.inl ⟨_, rfl, by decide +kernel⟩)), .inl ⟨.inr (.inr (.inr ⟨_, rfl, by decide +kernel⟩)), rfl⟩⟩
    · exact ⟨.inr (.inr (.inr (.inr ⟨2, rfl, ll⟩))), .inr (.inr ⟨_, _, rfl, rfl, .cons ⟨.inr (.inr (.inl ⟨_, rfl⟩)), rfl⟩ .nil, by simp⟩)⟩
    · exact ⟨.inr (.inr (.inr (.inl ⟨-10 ^ 30, rfl, by decide, by decide +kernel⟩))), .inl ⟨.inr (.inr (.inl ⟨_, rfl⟩)), rfl⟩⟩
  obtain ⟨hodd, hsm⟩ := ho
  have at0 : ∀ (n : Nat) (a : Int), Sm n (.int a) (.int a) := fun n a => by
    cases n with
    | zero => exact ⟨.inr (.inr (.inl ⟨_, rfl⟩)), rfl⟩
    | succ n => exact .inl ⟨.inr (.inr (.inl ⟨_, rfl⟩)), rfl⟩
  have sm1 : Sm 3 (.lst [.lst [.lst [.int n]], .int n, .int 1]) (.lst [.lst [.lst [.int n]], .int n, .int 1]) :=
    .inr (.inr ⟨_, _, rfl, rfl, .cons (.inr (.inr ⟨_, _, rfl, rfl, .cons (.inr (.inr ⟨_, _, rfl, rfl, .cons (at0 0 n) .nil, by simp⟩)) .nil, by simp⟩)) (.cons (at0 2 n) (.cons (at0 2 1) .nil)), by simp⟩)
  have sm2 : Sm 2 (.tup [.str "InvalidCount", o]) (.tup [.str "InvalidCount", o]) :=
    .inr (.inl ⟨_, _, rfl, rfl, .cons (.inl ⟨.inr (.inr (.inr ⟨_, rfl, by decide +kernel⟩)), rfl⟩) (.cons hsm .nil), by simp⟩)
  obtain ⟨c1, s1⟩ := same_ok pre sm1 35 [.lst B3]
  obtain ⟨c2, s2⟩ := same_ok pre sm2 36 [.lst B4]
  have sz4 : (4 : Nat) ≤ sizeLine := by rw [sizeLine_eq]; decide
  have sz8 : (8 : Nat) ≤ sizeLine := by rw [sizeLine_eq]; decide
  have sz2 : (2 : Nat) ≤ sizeLine := by rw [sizeLine_eq]; decide
  simp only [List.set_cons_zero, Nat.reduceAdd] at q1 p1 u1 v1 s1 s2
  have y1 := fun M => bou_ok (k := 34) (M := M) hn
  have y2 := fun M => bou_exc (k := 34) (M := M) hodd
  have y3 := fun M => tab_one (k := 38) (M := M) (n := n)
  have y4 := fun M => tot_one (k := 38) (M := M) (n := n)
  have y5 := fun M => pla_one (k := 38) (M := M) (n := n)
  have y6 := fun M => eq_one (k := 38) (M := M) (n := n)
  simp only [Nat.reduceAdd] at y1 y2 y3 y4 y5 y6
  refine ⟨B4, some (.v (.int n)), some (.v (.ins "Map" [("rows", .lst [.lst [.int n]])])), some (.v o), ?_, h4⟩
  simp only [evVSs.eq_1, evVSs.eq_2, evVS.eq_1, evVS.eq_2, evVS.eq_3, evVS.eq_4, evVS.eq_5, evVS.eq_6, evVS.eq_7, evVS.eq_8, evVS.eq_9, evVS.eq_10, evVS.eq_11, evVS.eq_12, evVS.eq_13, evVS.eq_14, evVS.eq_15, evVS.eq_16, evVS.eq_17, evVS.eq_18, evV.eq_1, evV.eq_2, evV.eq_3, evV.eq_4, evV.eq_5, evV.eq_6, evV.eq_7, evV.eq_8, evV.eq_9, evV.eq_10, evV.eq_11, evV.eq_12, evV.eq_13, evV.eq_14, evV.eq_15, evV.eq_16, evV.eq_17, evV.eq_18, evV.eq_19, evV.eq_20, evV.eq_21, evV.eq_22, evV.eq_23, evV.eq_24, evV.eq_25, evV.eq_26, evV.eq_27, evV.eq_28, evV.eq_29, evV.eq_30, evV.eq_31, evV.eq_32, evV.eq_33, evLV.eq_1, evLV.eq_2, evTV.eq_1, evTV.eq_2, evTV.eq_3, evTBV.eq_1, evTBV.eq_2, evTBV.eq_3, evBV.eq_1, evBV.eq_2, evBV.eq_3, evToV.eq_1, evToV.eq_2, evOV.eq_1, evOV.eq_2, evFV.eq_1, evFV.eq_2, evPV, prepM, reduceCtorEq, false_implies, false_imp_iff, implies_true, frz, escE, escT, escTL, escTo, escL, escO, bmOwn, frE, locV, retM, v_bind, v_bindE, v_lift, v_liftE, v_of, v_seq, v_seqR, v_seqE, v_turn, v_turnR, v_turnE, v_nox,
  res_int, res_bl, res_str, res_non, res_lst, res_fro, res_tup, res_ins, cls_int, cls_bl, cls_str, cls_non, cls_lst, cls_fro, cls_tup, cls_ins, cmp_int, cmp_bl, cmp_str, cmp_nonK, cmp_lst, cmp_fro, cmp_tup, c_lt, c_le, c_gt, c_ge, c_eq, c_ne, c_is, c_isnot, xi_lst, xi_fro, xi_tup, tr_bl, tr_int, tr_lst, bf_lenL, bf_lenF, bf_lenT, bf_int, b_add, b_sub,
  List.append_nil, List.nil_append, List.cons_append, List.getElem?_cons_zero, List.getElem?_cons_succ, List.set_cons_zero, List.set_cons_succ, List.length_cons, List.length_nil, if_true, if_false, reduceIte, Bool.false_eq_true, ite_true, ite_false, Bool.true_eq_false, eqV_int, eqV_bl, Option.map_some, gfs, q1, p1, u1, v1, s1, s2, p60, p30, sz1, sz2, sz3, sz4, sz8, Nat.reduceAdd, md_law, y1, y2, tbls, y3, y4, y5, y6, whyKV, why_count, lk_tab, ne_ins tbls.2.2.2.1, eqBackV, Bool.not_true, Bool.not_false]
def lbody : List Sx := match (f_law.body[1]? : Option Sx) with
  | some (Sx.for_ _ _ _ b) => b
  | _ => []
theorem loop_ok {s : D} : ∀ (J : List D) (B : List D) (t : Nat) (a2 a3 a4 a5 : Option Sl), BagOk B t → t + 4 * J.length ≤ 1000 → ∃ B' x2 x3 x4 x5, forV (.nm 2) (evVSs tb.pg (cfV tb.pg md tb.fns (39)) (jfV tb.pg md tb.fns (39)) (md "law") lbody) J [some (.v s), some (.v (.mut 0)), a2, a3, a4, a5] [.lst B] = .ok (.nx [some (.v s), some (.v (.mut 0)), x2, x3, x4, x5]) [.lst B']
  | [], B, t, a2, a3, a4, a5, hB, ht => ⟨B, a2, a3, a4, a5, rfl⟩
  | x :: J, B, t, a2, a3, a4, a5, hB, ht => by
    simp only [List.length_cons] at ht
    obtain ⟨B1, x3, x4, x5, e, h1⟩ := turn_ok hB (by omega) (s := s) (x2 := x) (a3 := a3) (a4 := a4) (a5 := a5) lbody ⟨_, _, _, rfl⟩
    obtain ⟨B', y2, y3, y4, y5, e2⟩ := loop_ok J B1 (t + 4) (some (.v x)) x3 x4 x5 h1 (by omega)
    refine ⟨B', y2, y3, y4, y5, ?_⟩
    have ha : assignV (.nm 2) x [some (.v s), some (.v (.mut 0)), a2, a3, a4, a5] = some [some (.v s), some (.v (.mut 0)), some (.v x), a3, a4, a5] := rfl
    rw [forV, ha]
    dsimp only
    rw [e, v_turn, e2]
theorem F_law : tb.fns "law" = some f_law := by kernel_rfl
theorem it6 : iterV 1 [.int 6] = some [.int 0, .int 1, .int 2, .int 3, .int 4, .int 5] := by kernel_rfl
theorem law_ok {ns : List Int} {s : D} (hs : s = .fro (ns.map D.int) ∨ s = .lst (ns.map D.int)) : ∃ b M, (cfV tb.pg md tb.fns (40)) "law" [s] [] = .ok (.bl true, b) M := by
  obtain ⟨B, b, e, rfl, hB⟩ := bag_ok (k := 38) (M := []) pre hs
  obtain ⟨B', x2, x3, x4, x5, e2⟩ := loop_ok (s := s) [.int 0, .int 1, .int 2, .int 3, .int 4, .int 5] B 0 none none none none hB (by decide)
  have hb : f_law.body = [.set 1 (.call "_law_bag" [.loc 0]), .for_ (.nm 2) [.int 6] 1 lbody, .ret (.bl true)] := rfl
  have hst : startV f_law.N [s] = [some (.v s), none, none, none, none, none] := rfl
  have hps : ([s] : List D).length = f_law.ps.length := rfl
  have sz6 : (6 : Nat) ≤ sizeLine := by rw [sizeLine_eq]; decide
  refine ⟨false, [.lst B'], ?_⟩
  rw [show (40 : Nat) = 39 + 1 from rfl, cfV]
  simp only [F_law]
  rw [if_pos hps, hst, hb]
  simp only [Nat.reduceAdd] at e
  simp only [evVSs.eq_1, evVSs.eq_2, evVS.eq_1, evVS.eq_2, evVS.eq_3, evVS.eq_4, evVS.eq_5, evVS.eq_6, evVS.eq_7, evVS.eq_8, evVS.eq_9, evVS.eq_10, evVS.eq_11, evVS.eq_12, evVS.eq_13, evVS.eq_14, evVS.eq_15, evVS.eq_16, evVS.eq_17, evVS.eq_18, evV.eq_1, evV.eq_2, evV.eq_3, evV.eq_4, evV.eq_5, evV.eq_6, evV.eq_7, evV.eq_8, evV.eq_9, evV.eq_10, evV.eq_11, evV.eq_12, evV.eq_13, evV.eq_14, evV.eq_15, evV.eq_16, evV.eq_17, evV.eq_18, evV.eq_19, evV.eq_20, evV.eq_21, evV.eq_22, evV.eq_23, evV.eq_24, evV.eq_25, evV.eq_26, evV.eq_27, evV.eq_28, evV.eq_29, evV.eq_30, evV.eq_31, evV.eq_32, evV.eq_33, evLV.eq_1, evLV.eq_2, evTV.eq_1, evTV.eq_2, evTV.eq_3, evTBV.eq_1, evTBV.eq_2, evTBV.eq_3, evBV.eq_1, evBV.eq_2, evBV.eq_3, evToV.eq_1, evToV.eq_2, evOV.eq_1, evOV.eq_2, evFV.eq_1, evFV.eq_2, evPV, prepM, reduceCtorEq, false_implies, false_imp_iff, implies_true, frz, escE, escT, escTL, escTo, escL, escO, bmOwn, frE, locV, retM, v_bind, v_bindE, v_lift, v_liftE, v_of, v_seq, v_seqR, v_seqE, v_turn, v_turnR, v_turnE, v_nox,
  res_int, res_bl, res_str, res_non, res_lst, res_fro, res_tup, res_ins, cls_int, cls_bl, cls_str, cls_non, cls_lst, cls_fro, cls_tup, cls_ins, cmp_int, cmp_bl, cmp_str, cmp_nonK, cmp_lst, cmp_fro, cmp_tup, c_lt, c_le, c_gt, c_ge, c_eq, c_ne, c_is, c_isnot, xi_lst, xi_fro, xi_tup, tr_bl, tr_int, tr_lst, bf_lenL, bf_lenF, bf_lenT, bf_int, b_add, b_sub,
  List.append_nil, List.nil_append, List.cons_append, List.getElem?_cons_zero, List.getElem?_cons_succ, List.set_cons_zero, List.set_cons_succ, List.length_cons, List.length_nil, if_true, if_false, reduceIte, Bool.false_eq_true, ite_true, ite_false, Bool.true_eq_false, eqV_int, eqV_bl, Option.map_some, gfs, e, md_law, moOf, it6, Nat.reduceAdd, sz6, e2]
theorem plain (ns : List Int) (h1 : ns.length ≤ 63) (h2 : ∀ z ∈ ns, Builtin.Int.intBits z ≤ 1048576) : (∃ G, callN tb.pg tb.fns 40 "law" [.fro (ns.map U.int)] [] = .ok (.bl true) G) ∧ ∃ G, callN tb.pg tb.fns 40 "law" [.ref 0] [.lst (ns.map U.int)] = .ok (.bl true) G :=
  law_of_v (law_ok (.inl rfl)) (law_ok (.inr rfl))
end
end K06
open PySem PySem.W PySem.Calls PyProof.Rows
theorem PySem.Challenge.cw_coinroads_k06_bouquets_holds : PySem.Challenge.rw_coinroads_k06_bouquets.Holds := by
  w_on; o_law
  refine HandSHeadRun.head_any (r := OpenLaw.row PySem.Challenge.rw_coinroads_k06_bouquets) (q := view (OpenLaw.row PySem.Challenge.rw_coinroads_k06_bouquets).prog [34]) (H := Z.hookZ 5 K06.tb) (ob := Z.obT 5 K06.tb) (M := 20000) (loose := K06.loose) (d := HandSHeadRun.topDef (OpenLaw.row PySem.Challenge.rw_coinroads_k06_bouquets).prog 34) (kwd := []) Z.obT_eq
    (by kernel_rfl) (fun s => by kernel_rfl) K06.run (by kernel_rfl) (by kernel_rfl) (by kernel_rfl) (by rfl) (by first | assumption | decide +kernel) (by decide +kernel) ⟨rfl, rfl, rfl, rfl, rfl, by decide +kernel⟩ ?hw ?hc
  case hw => w_witness2
  case hc =>
    exact Z.law_walk (k := 39) (D := K06.mkDf "law" K06.f_law (.glam "law") (K06.top 34)) (x := "_law_script") rfl (by kernel_rfl) ⟨rfl, by decide, by decide⟩ (by kernel_rfl) K06.tb_st (.inr ⟨by kernel_rfl, by kernel_rfl⟩) (by kernel_rfl) (by decide +kernel) (by kernel_rfl) K06.plain
