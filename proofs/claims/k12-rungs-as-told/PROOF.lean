import PyProof.Rows.All
import Wide.All
import OpenK.AllK
import Wide.FinOn
import HandS.ForMost
import HandS.ForExc
import HandS.ExcInit
import HandS.CallSlots
import HandS.WordsExc
import HandS.Wide
import HandS.IsInst
import HandS.Defaults
import HandS.More
import HandS.ClsMeth
import HandS.MakeKwOnly
import PyProof.LongRange
import HandS.Style
import HandS.SortInts
import HandS.TupAny
import HandS.TryOnly
import PyProof.ReprRoads
import HandS.RaiseMore
import HandS.Words
import HandS.OwnEq
import HandS.Rev
import HandS.FStr
import HandS.SetFor
import HandS.RevTup
import HandS.Flow
import PySem.Challenge.RW_aheadpays_k12_rungs_as_told
set_option Elab.async false
set_option linter.all false
set_option maxRecDepth 100000
set_option maxHeartbeats 4000000
namespace Zk
open PySem L2

/-! ### what stands for what -/
structure Pr where
  p : Hp → V → Prop
  mono : ∀ {S S' : Hp} {v : V}, Same S S' → p S v → p S' v
/-- a thing of the def's own, at the addresses F, that may still change: S what is stable, H the heap -/
structure PrO where
  p : Hp → Hp → V → (Addr → Prop) → Prop
  mono : ∀ {S S' H H' : Hp} {v : V} {F : Addr → Prop}, Same S S' → (∀ a o, F a → H a = some o → H' a = some o) → p S H v F → p S' H' v F
structure Rel (α : Type) where
  is : α → Hp → V → Prop
  mono : ∀ {x : α} {S S' : Hp} {v : V}, Same S S' → is x S v → is x S' v
abbrev Rel.pr {α : Type} (R : Rel α) (x : α) : Pr := ⟨R.is x, R.mono⟩
def All2 {α β : Type} (r : α → β → Prop) : List α → List β → Prop
  | [], [] => True
  | x :: xs, y :: ys => r x y ∧ All2 r xs ys
  | _, _ => False
section
variable {α β : Type} {r q : α → β → Prop}
theorem All2.imp (h : ∀ x y, r x y → q x y) : ∀ {xs : List α} {ys : List β}, All2 r xs ys → All2 q xs ys
  | [], [], _ => trivial
  | _ :: _, _ :: _, ⟨a, b⟩ => ⟨h _ _ a, All2.imp h b⟩
  | [], _ :: _, h => h.elim
  | _ :: _, [], h => h.elim
theorem All2.length : ∀ {xs : List α} {ys : List β}, All2 r xs ys → xs.length = ys.length
  | [], [], _ => rfl
  | _ :: _, _ :: _, ⟨_, b⟩ => by simp [All2.length b]
  | [], _ :: _, h => h.elim
  | _ :: _, [], h => h.elim
theorem All2.append : ∀ {xs : List α} {ys : List β} {xs' : List α} {ys' : List β}, All2 r xs ys → All2 r xs' ys' → All2 r (xs ++ xs') (ys ++ ys')
  | [], [], _, _, _, h => h
  | _ :: _, _ :: _, _, _, ⟨a, b⟩, h => ⟨a, All2.append b h⟩
  | [], _ :: _, _, _, h, _ => h.elim
  | _ :: _, [], _, _, h, _ => h.elim
theorem All2.get : ∀ {xs : List α} {ys : List β} {i : Nat} {x : α}, All2 r xs ys → xs[i]? = some x → ∃ y, ys[i]? = some y ∧ r x y
  | [], [], _, _, _, h => by simp at h
  | _ :: _, _ :: _, 0, _, ⟨a, _⟩, h => by simp at h; subst h; exact ⟨_, rfl, a⟩
  | _ :: _, _ :: _, i + 1, _, ⟨_, b⟩, h => by
    obtain ⟨y, h1, h2⟩ := All2.get (i := i) b (by simpa using h)
    exact ⟨y, by simpa using h1, h2⟩
  | [], _ :: _, _, _, h, _ => h.elim
  | _ :: _, [], _, _, h, _ => h.elim
theorem All2.get' : ∀ {xs : List α} {ys : List β} {i : Nat} {y : β}, All2 r xs ys → ys[i]? = some y → ∃ x, xs[i]? = some x ∧ r x y
  | [], [], _, _, _, h => by simp at h
  | _ :: _, _ :: _, 0, _, ⟨a, _⟩, h => by simp at h; subst h; exact ⟨_, rfl, a⟩
  | _ :: _, _ :: _, i + 1, _, ⟨_, b⟩, h => by
    obtain ⟨y, h1, h2⟩ := All2.get' (i := i) b (by simpa using h)
    exact ⟨y, by simpa using h1, h2⟩
  | [], _ :: _, _, _, h, _ => h.elim
  | _ :: _, [], _, _, h, _ => h.elim
theorem All2.take : ∀ {xs : List α} {ys : List β} (n : Nat), All2 r xs ys → All2 r (xs.take n) (ys.take n)
  | _, _, 0, _ => by simp [All2]
  | [], [], n + 1, _ => by simp [All2]
  | _ :: _, _ :: _, n + 1, ⟨a, b⟩ => ⟨a, All2.take n b⟩
  | [], _ :: _, _, h => h.elim
  | _ :: _, [], _, h => h.elim
theorem All2.drop : ∀ {xs : List α} {ys : List β} (n : Nat), All2 r xs ys → All2 r (xs.drop n) (ys.drop n)
  | _, _, 0, h => h
  | [], [], n + 1, _ => by simp [All2]
  | _ :: _, _ :: _, n + 1, ⟨_, b⟩ => All2.drop n b
  | [], _ :: _, _, h => h.elim
  | _ :: _, [], _, h => h.elim
theorem All2.reverse : ∀ {xs : List α} {ys : List β}, All2 r xs ys → All2 r xs.reverse ys.reverse
  | [], [], _ => by simp [All2]
  | _ :: _, _ :: _, ⟨a, b⟩ => by
    rw [List.reverse_cons, List.reverse_cons]
    exact All2.append (All2.reverse b) ⟨a, trivial⟩
  | [], _ :: _, h => h.elim
  | _ :: _, [], h => h.elim
theorem All2.set {x : α} {y : β} (h : r x y) : ∀ {xs : List α} {ys : List β} (i : Nat), All2 r xs ys → All2 r (xs.set i x) (ys.set i y)
  | [], [], _, _ => by simp [All2]
  | _ :: _, _ :: _, 0, ⟨_, b⟩ => ⟨h, b⟩
  | _ :: _, _ :: _, i + 1, ⟨a, b⟩ => ⟨a, All2.set h i b⟩
  | [], _ :: _, _, h => h.elim
  | _ :: _, [], _, h => h.elim
theorem All2.rep : ∀ (k : Nat) {xs : List α} {ys : List β}, All2 r xs ys → All2 r (List.replicate k xs).flatten (List.replicate k ys).flatten
  | 0, _, _, _ => by simp [All2]
  | k + 1, _, _, h => by
    rw [List.replicate_succ, List.replicate_succ, List.flatten_cons, List.flatten_cons]
    exact All2.append h (All2.rep k h)
theorem All2.map {γ : Type} {f : γ → β} {g : γ → α} : ∀ (l : List γ), (∀ z ∈ l, r (g z) (f z)) → All2 r (l.map g) (l.map f)
  | [], _ => trivial
  | _ :: l, h => ⟨h _ (by simp), All2.map l fun z hz => h z (by simp [hz])⟩
end
theorem All2.ints : ∀ {xs : List Int} {vs : List V}, All2 (fun n v => v = V.int n) xs vs → vs = xs.map V.int
  | [], [], _ => rfl
  | _ :: _, _ :: _, ⟨a, b⟩ => by rw [a, All2.ints b]; rfl
  | [], _ :: _, h => h.elim
  | _ :: _, [], h => h.elim
theorem All2.of_ints : ∀ (xs : List Int), All2 (fun n v => v = V.int n) xs (xs.map V.int)
  | [] => trivial
  | _ :: xs => ⟨rfl, All2.of_ints xs⟩
theorem All2.bls : ∀ {xs : List Bool} {vs : List V}, All2 (fun n v => v = V.bl n) xs vs → vs = xs.map V.bl
  | [], [], _ => rfl
  | _ :: _, _ :: _, ⟨a, b⟩ => by rw [a, All2.bls b]; rfl
  | [], _ :: _, h => h.elim
  | _ :: _, [], h => h.elim
theorem All2.strs : ∀ {xs : List Str} {vs : List V}, All2 (fun n v => v = V.str n) xs vs → vs = xs.map V.str
  | [], [], _ => rfl
  | _ :: _, _ :: _, ⟨a, b⟩ => by rw [a, All2.strs b]; rfl
  | [], _ :: _, h => h.elim
  | _ :: _, [], h => h.elim
theorem All2.of_strs : ∀ (xs : List Str), All2 (fun n v => v = V.str n) xs (xs.map V.str)
  | [] => trivial
  | _ :: xs => ⟨rfl, All2.of_strs xs⟩

/-! ### the kinds -/
def rInt : Rel Int := ⟨fun x _ v => v = .int x, fun _ h => h⟩
def rBl : Rel Bool := ⟨fun x _ v => v = .bl x, fun _ h => h⟩
def rStr : Rel Str := ⟨fun x _ v => v = .str x, fun _ h => h⟩
def rNon : Rel Unit := ⟨fun _ _ v => v = .non, fun _ h => h⟩
def rRef (a : Addr) : Rel Unit := ⟨fun _ _ v => v = .ref a, fun _ h => h⟩
def rLst {α : Type} (R : Rel α) : Rel (List α) :=
  ⟨fun xs S v => ∃ a vs, v = .ref a ∧ S a = some (.lst vs) ∧ All2 (fun x v => R.is x S v) xs vs,
   fun s ⟨a, vs, e, h, q⟩ => ⟨a, vs, e, s _ _ h, q.imp fun _ _ h => R.mono s h⟩⟩
/-- a list that is only read: the script -/
def rSc {α : Type} (K : PySem.W.Frag) (R : Rel α) : Rel (List α) :=
  ⟨fun xs S v => ∃ a vs, v = .ref a ∧ SqL K S a vs ∧ All2 (fun x v => R.is x S v) xs vs,
   fun s ⟨a, vs, e, h, q⟩ => ⟨a, vs, e, h.elim (fun h => .inl (h.elim (fun h => .inl (s _ _ h)) fun ⟨o, h⟩ => .inr ⟨o, s _ _ h⟩)) .inr, q.imp fun _ _ h => R.mono s h⟩⟩
def rVT {α : Type} (R : Rel α) : Rel (List α) :=
  ⟨fun xs S v => ∃ a vs, v = .ref a ∧ S a = some (.tup vs) ∧ All2 (fun x v => R.is x S v) xs vs,
   fun s ⟨a, vs, e, h, q⟩ => ⟨a, vs, e, s _ _ h, q.imp fun _ _ h => R.mono s h⟩⟩
def rT2 {α β : Type} (R : Rel α) (R2 : Rel β) : Rel (α × β) :=
  ⟨fun x S v => ∃ a u w, v = .ref a ∧ S a = some (.tup [u, w]) ∧ R.is x.1 S u ∧ R2.is x.2 S w,
   fun s ⟨a, u, w, e, h, q, q2⟩ => ⟨a, u, w, e, s _ _ h, R.mono s q, R2.mono s q2⟩⟩
def rT3 {α β γ : Type} (R : Rel α) (R2 : Rel β) (R3 : Rel γ) : Rel (α × β × γ) :=
  ⟨fun x S v => ∃ a u w z, v = .ref a ∧ S a = some (.tup [u, w, z]) ∧ R.is x.1 S u ∧ R2.is x.2.1 S w ∧ R3.is x.2.2 S z,
   fun s ⟨a, u, w, z, e, h, q, q2, q3⟩ => ⟨a, u, w, z, e, s _ _ h, R.mono s q, R2.mono s q2, R3.mono s q3⟩⟩
def rT4 {α β γ δ : Type} (R : Rel α) (R2 : Rel β) (R3 : Rel γ) (R4 : Rel δ) : Rel (α × β × γ × δ) :=
  ⟨fun x S v => ∃ a u w z y, v = .ref a ∧ S a = some (.tup [u, w, z, y]) ∧ R.is x.1 S u ∧ R2.is x.2.1 S w ∧ R3.is x.2.2.1 S z ∧ R4.is x.2.2.2 S y,
   fun s ⟨a, u, w, z, y, e, h, q, q2, q3, q4⟩ => ⟨a, u, w, z, y, e, s _ _ h, R.mono s q, R2.mono s q2, R3.mono s q3, R4.mono s q4⟩⟩
def rOpt {α : Type} (R : Rel α) : Rel (Option α) :=
  ⟨fun x S v => match x with | none => v = .non | some y => R.is y S v, fun {x _ _ _} s h => by cases x with | none => exact h | some y => exact R.mono s h⟩

/-! ### the mirror's monad -/
structure Exc where
  cls : Str
  fs : List (Str × V)
inductive Out (τ α : Type) where
  | ok (a : α) (s : τ) | exc (e : Exc) (s : τ) | stuck
def M (τ α : Type) : Type := τ → Out τ α
section
variable {τ α β : Type}
def ret (a : α) : M τ α := fun s => .ok a s
def bnd (m : M τ α) (f : α → M τ β) : M τ β := fun s => match m s with | .ok a s' => f a s' | .exc e s' => .exc e s' | .stuck => .stuck
def stk : M τ α := fun _ => .stuck
def rse (e : Exc) : M τ α := fun s => .exc e s
def lft (m : M Unit α) : M τ α := fun s => match m () with | .ok a _ => .ok a s | .exc e _ => .exc e s | .stuck => .stuck
instance : Monad (M τ) where
  pure := ret
  bind := bnd
/-- only where c -/
def chk (c : Prop) [Decidable c] (m : M τ α) : M τ α := if c then m else stk
end

/-! ### the world, a def's names, slots -/
structure Gx where
  P : Program
  w : World
  K : PySem.W.Frag
  mg : Str → Option Value
  base : Heap
structure Sc where
  N : List Str
  sc : Scope
  k : Nat
  fn : Bool
  fx : Str → Bool
  gd : Bool
structure CtxOk (G : Gx) (c : Sc) (W : WX) (X : Cx) : Prop where
  prog : X.prog = G.P
  w : X.w = G.w
  K : X.K = G.K
  mg : X.mg = G.mg
  base : X.base = G.base
  N : X.N = c.N
  nd : c.N.Nodup
  sc : X.env.scope = c.sc
  calm : X.calm = true
  room : Room c.k X.A
  gds : c.gd = true → X.A.guards = some []
  takes : Takes X W
  owns : PassesOwn (model X.prog X.w) X.A X.env X.xe
  fx : X.fn = c.fx
  isfn : c.fn = true → X.stack = X.env :: X.outer ∧ X.env.frame = some X.env.locals
inductive Sl where
  | no | st (p : Pr) | ow (p : PrO)
abbrev Env := List Sl
structure Eff (τ : Type) where
  own : Addr → Prop
  is : τ → Hp → Hp → Prop
  mono : ∀ {β : τ} {S H S' H' : Hp}, Same S S' → (∀ a, own a → S a = none → S' a = none) → (∀ a o, own a → H a = some o → H' a = some o) → is β S H → is β S' H'
  th : ∀ {β : τ} {S H : Hp} {a : Addr}, is β S H → own a → S a = none ∧ ∃ o, H a = some o
structure Bs where
  S : Hp
  H : Hp
structure Keep (own : Addr → Prop) (B : Bs) (S H : Hp) : Prop where
  same : Same S H
  up : Same B.S S
  kp : ∀ a o, B.S a = none → B.H a = some o → ¬ own a → S a = none ∧ H a = some o
def slOk (S H : Hp) (v : Option V) (F : Addr → Prop) : Sl → Prop
  | .no => True
  | .st p => ∃ x, v = some x ∧ p.p S x
  | .ow p => ∃ x, v = some x ∧ p.p S H x F
structure Feet {τ : Type} (E : Eff τ) (B : Bs) (S H : Hp) (Fs : Nat → Addr → Prop) : Prop where
  at_ : ∀ i a, Fs i a → S a = none ∧ B.H a = none ∧ ¬ E.own a ∧ ∃ o, H a = some o
  ds : ∀ i j a, Fs i a → Fs j a → i = j
structure Hold {τ : Type} (E : Eff τ) (B : Bs) (Γ : Env) (β : τ) (σ : St) (S H : Hp) : Prop where
  kp : Keep E.own B S H
  ef : E.is β S H
  sl : ∃ Fs, Feet E B S H Fs ∧ ∀ (i : Nat) s, Γ[i]? = some s → slOk S H (σ[i]?.join) (Fs i) s
def XAt (G : Gx) (x : Exc) (H : Hp) (c : Value) (d : Option Addr) : Prop :=
  ∃ C, G.mg x.cls = some (.ref C) ∧ c = .ref C ∧ ((x.fs = [] ∧ d = none) ∨ ∃ dd, d = some dd ∧ H dd = some (.xd x.fs))

section
variable {τ α β κ ρ : Type}
def aft (G : Gx) (E : Eff τ) (W : WX) (B : Bs) (Γ : Env) (σ : St) (S : Hp) (R : Rel α) (Q : VK) : Out τ α → Prop
  | .ok a b' => ∀ v S' H', Same S S' → Hold E B Γ b' σ S' H' → R.is a S' v → Q v H'
  | .exc x b' => ∀ c d S' H', Same S S' → Hold E B Γ b' σ S' H' → XAt G x H' c d → W c d σ H'
  | .stuck => False
def aftT (G : Gx) (E : Eff τ) (W : WX) (B : Bs) (Γ : Env) (σ : St) (S : Hp) (Q : Bool → Hp → Prop) : Out τ Bool → Prop
  | .ok a b' => ∀ S' H', Same S S' → Hold E B Γ b' σ S' H' → Q a H'
  | .exc x b' => ∀ c d S' H', Same S S' → Hold E B Γ b' σ S' H' → XAt G x H' c d → W c d σ H'
  | .stuck => False
def aftA (G : Gx) (E : Eff τ) (W : WX) (B : Bs) (Γ : Env) (σ : St) (S : Hp) (A : α → List Pr) (Q : List V → Hp → Prop) : Out τ α → Prop
  | .ok a b' => ∀ vs S' H', Same S S' → Hold E B Γ b' σ S' H' → All2 (fun (p : Pr) v => p.p S' v) (A a) vs → Q vs H'
  | .exc x b' => ∀ c d S' H', Same S S' → Hold E B Γ b' σ S' H' → XAt G x H' c d → W c d σ H'
  | .stuck => False
def tzE (G : Gx) (E : Eff τ) (W : WX) (Γ : Env) (m : M τ α) (R : Rel α) : TE := fun σ H Q => ∃ B S b, Hold E B Γ b σ S H ∧ aft G E W B Γ σ S R Q (m b)
def tzT (G : Gx) (E : Eff τ) (W : WX) (Γ : Env) (m : M τ Bool) : TT := fun σ H Q => ∃ B S b, Hold E B Γ b σ S H ∧ aftT G E W B Γ σ S Q (m b)
def tzA (G : Gx) (E : Eff τ) (W : WX) (Γ : Env) (m : M τ α) (A : α → List Pr) : TA := fun σ H Q => ∃ B S b, Hold E B Γ b σ S H ∧ aftA G E W B Γ σ S A Q (m b)
inductive Fl (α κ ρ : Type) where
  | nx (a : α) | rt (r : ρ) | bk (k : κ) | ct (k : κ)
/-- what is wanted behind statements but the next one: of break and continue, of an exception, of what is handed back -/
structure Ls (κ ρ : Type) where
  k : κ → Env
  x : Env
  R : Rel ρ
def aftS (G : Gx) (E : Eff τ) (W : WX) (L : Ls κ ρ) (B : Bs) (S : Hp) (Γn : α → Env) (D : Ends) : Out τ (Fl α κ ρ) → Prop
  | .ok (.nx a) b' => ∀ σ' S' H', Same S S' → Hold E B (Γn a) b' σ' S' H' → D.nx σ' H'
  | .ok (.rt r) b' => ∀ v σ' S' H', Hold E B [] b' σ' S' H' → L.R.is r S' v → D.rt v H'
  | .ok (.bk a) b' => ∀ σ' S' H', Same S S' → Hold E B (L.k a) b' σ' S' H' → D.bk σ' H'
  | .ok (.ct a) b' => ∀ σ' S' H', Same S S' → Hold E B (L.k a) b' σ' S' H' → D.ct σ' H'
  | .exc x b' => ∀ c d σ' S' H', Hold E B L.x b' σ' S' H' → XAt G x H' c d → W c d σ' H'
  | .stuck => False
def tzS (G : Gx) (E : Eff τ) (W : WX) (L : Ls κ ρ) (Γ : Env) (m : M τ (Fl α κ ρ)) (Γn : α → Env) : TS := fun D σ H => ∃ B S b, Hold E B Γ b σ S H ∧ aftS G E W L B S Γn D (m b)
def ZE (G : Gx) (c : Sc) (E : Eff τ) (W : WX) (Γ : Env) (e : Expr) (m : M τ α) (R : Rel α) : Prop := ∀ X, CtxOk G c W X → PE X e (tzE G E W Γ m R)
def ZT (G : Gx) (c : Sc) (E : Eff τ) (W : WX) (Γ : Env) (e : Expr) (m : M τ Bool) : Prop := ∀ X, CtxOk G c W X → PT X e (tzT G E W Γ m)
def ZA (G : Gx) (c : Sc) (E : Eff τ) (W : WX) (Γ : Env) (es : List Expr) (m : M τ α) (A : α → List Pr) : Prop := ∀ X, CtxOk G c W X → PA X es (tzA G E W Γ m A)
def ZS (G : Gx) (c : Sc) (E : Eff τ) (W : WX) (L : Ls κ ρ) (Γ : Env) (st : Stmt) (m : M τ (Fl α κ ρ)) (Γn : α → Env) : Prop := ∀ X, CtxOk G c W X → PS X st (tzS G E W L Γ m Γn)
def ZB (G : Gx) (c : Sc) (E : Eff τ) (W : WX) (L : Ls κ ρ) (Γ : Env) (st : List Stmt) (m : M τ (Fl α κ ρ)) (Γn : α → Env) : Prop := ∀ X, CtxOk G c W X → PSs X st (tzS G E W L Γ m Γn)
end

/-! ### readings weakened -/
section
variable {X : Cx} {e : Expr} {st : Stmt} {sts : List Stmt}
theorem pe_wk {t t' : TE} (h : PE X e t) (w : ∀ σ H Q, σ.length = X.N.length → t' σ H Q → t σ H Q) : PE X e t' := ⟨fun pins s σ H Q I q => h.run pins s σ H Q I (w σ H Q I.len q)⟩
theorem pt_wk {t t' : TT} (h : PT X e t) (w : ∀ σ H Q, σ.length = X.N.length → t' σ H Q → t σ H Q) : PT X e t' := ⟨fun pins s σ H Q I q => h.run pins s σ H Q I (w σ H Q I.len q)⟩
theorem pa_wk {es : List Expr} {t t' : TA} (h : PA X es t) (w : ∀ σ H Q, σ.length = X.N.length → t' σ H Q → t σ H Q) : PA X es t' := ⟨fun pos pins s σ H Q I q => h.run pos pins s σ H Q I (w σ H Q I.len q)⟩
theorem ps_wk {t t' : TS} (h : PS X st t) (w : ∀ D σ H, σ.length = X.N.length → t' D σ H → t D σ H) : PS X st t' := ⟨fun pins s σ H D I q => h.run pins s σ H D I (w D σ H I.len q)⟩
theorem pss_wk {t t' : TS} (h : PSs X sts t) (w : ∀ D σ H, σ.length = X.N.length → t' D σ H → t D σ H) : PSs X sts t' := ⟨fun pins s σ H D I q => h.run pins s σ H D I (w D σ H I.len q)⟩
theorem pss_ex {ι : Type} {t : ι → TS} (h : ∀ i, PSs X sts (t i)) : PSs X sts (fun D σ H => ∃ i, t i D σ H) := ⟨fun pins s σ H D I ⟨i, q⟩ => (h i).run pins s σ H D I q⟩
theorem pe_ex {ι : Type} {t : ι → TE} (h : ∀ i, PE X e (t i)) : PE X e (fun σ H Q => ∃ i, t i σ H Q) := ⟨fun pins s σ H Q I ⟨i, q⟩ => (h i).run pins s σ H Q I q⟩
theorem pt_ex {ι : Type} {t : ι → TT} (h : ∀ i, PT X e (t i)) : PT X e (fun σ H Q => ∃ i, t i σ H Q) := ⟨fun pins s σ H Q I ⟨i, q⟩ => (h i).run pins s σ H Q I q⟩
theorem pa_ex {ι : Type} {es : List Expr} {t : ι → TA} (h : ∀ i, PA X es (t i)) : PA X es (fun σ H Q => ∃ i, t i σ H Q) := ⟨fun pos pins s σ H Q I ⟨i, q⟩ => (h i).run pos pins s σ H Q I q⟩
end

/-! ### the state goes on -/
section
variable {τ α β : Type} {E : Eff τ} {B : Bs} {Γ Γ' : Env} {b : τ} {σ : St} {S S' H H' : Hp}
theorem Hold.same (h : Hold E B Γ b σ S H) : Same S H := h.kp.same
theorem same_new {S : Hp} {p : Addr} {o : HO} (h : S p = none) : Same S (upd S p o) := fun a u e => by rw [upd_ne (ne_of_none e h)]; exact e
theorem same_upd2 {S H : Hp} {p : Addr} {o : HO} (h : Same S H) : Same (upd S p o) (upd H p o) := fun a u e => by
  unfold upd at *
  split
  · next q => rw [if_pos q] at e; exact e
  · next q => rw [if_neg q] at e; exact h _ _ e
/-- more is stable, nothing else has changed -/
theorem Hold.grow (h : Hold E B Γ b σ S H) (s1 : Same S S') (s2 : Same S' H') (k : ∀ a o, S a = none → H a = some o → S' a = none ∧ H' a = some o) (f : ∀ a, E.own a → S a = none → S' a = none) : Hold E B Γ b σ S' H' := by
  have kk : ∀ a o, H a = some o → H' a = some o := fun a o e => by
    cases q : S a with
    | none => exact (k a o q e).2
    | some u =>
      have := h.same _ _ q
      rw [e] at this; cases this
      exact s2 _ _ (s1 _ _ q)
  obtain ⟨Fs, hF, hs⟩ := h.sl
  refine ⟨⟨s2, h.kp.up.trans s1, fun a o h1 h2 h3 => ?_⟩, E.mono s1 f (fun a o _ e => kk a o e) h.ef, Fs, ⟨fun i a e => ?_, hF.ds⟩, fun i s e => ?_⟩
  · obtain ⟨q1, q2⟩ := h.kp.kp a o h1 h2 h3
    exact k a o q1 q2
  · obtain ⟨q1, q2, q3, o, q4⟩ := hF.at_ i a e
    exact ⟨(k a o q1 q4).1, q2, q3, o, (k a o q1 q4).2⟩
  · have q := hs i s e
    cases s with
    | no => trivial
    | st p => obtain ⟨x, e1, e2⟩ := q; exact ⟨x, e1, p.mono s1 e2⟩
    | ow p => obtain ⟨x, e1, e2⟩ := q; exact ⟨x, e1, p.mono s1 (fun a o _ e => kk a o e) e2⟩
/-- a new stable object -/
theorem Hold.fr {p : Addr} (h : Hold E B Γ b σ S H) (hp : H p = none) : ¬ E.own p := fun z => by
  obtain ⟨_, o, e⟩ := E.th h.ef z
  rw [hp] at e; cases e
theorem Hold.new {p : Addr} {o : HO} (h : Hold E B Γ b σ S H) (hp : H p = none) : Hold E B Γ b σ (upd S p o) (upd H p o) := by
  have hf := h.fr hp
  have hs : S p = none := h.same.free hp
  refine h.grow (same_new hs) (same_upd2 h.same) (fun a u e1 e2 => ?_) fun a ha e => ?_
  · have n : a ≠ p := ne_of_none e2 hp
    rw [upd_ne n, upd_ne n]; exact ⟨e1, e2⟩
  · have n : a ≠ p := fun z => hf (z ▸ ha)
    rw [upd_ne n]; exact e
/-- fewer slots are known -/
theorem Hold.wk (h : Hold E B Γ b σ S H) (w : ∀ (i : Nat) s, Γ'[i]? = some s → s = .no ∨ Γ[i]? = some s) : Hold E B Γ' b σ S H := by
  obtain ⟨Fs, hF, hs⟩ := h.sl
  refine ⟨h.kp, h.ef, Fs, hF, fun i s e => ?_⟩
  rcases w i s e with r | r
  · subst r; trivial
  · exact hs i s r
theorem set_get {α : Type} {l : List α} {i j : Nat} {x y : α} (h : (l.set i x)[j]? = some y) : (j = i ∧ y = x) ∨ (j ≠ i ∧ l[j]? = some y) := by
  by_cases hj : i = j
  · subst hj
    rw [List.getElem?_set] at h
    simp only [if_true] at h
    split at h
    · cases h; exact .inl ⟨rfl, rfl⟩
    · cases h
  · rw [List.getElem?_set_ne hj] at h
    exact .inr ⟨Ne.symm hj, h⟩
/-- a slot is stored -/
theorem Hold.set {i : Nat} {v : V} {p : Pr} (h : Hold E B Γ b σ S H) (hi : i < σ.length) (hp : p.p S v) : Hold E B (Γ.set i (.st p)) b (σ.set i (some v)) S H := by
  obtain ⟨Fs, hF, hs⟩ := h.sl
  refine ⟨h.kp, h.ef, Fs, hF, fun j s e => ?_⟩
  rcases set_get e with ⟨rfl, rfl⟩ | ⟨n, e⟩
  · rw [List.getElem?_set_self hi]; exact ⟨v, rfl, hp⟩
  · rw [List.getElem?_set_ne (Ne.symm n)]; exact hs j s e
/-- a slot is wiped -/
theorem Hold.unset {i : Nat} {v : Option V} (h : Hold E B Γ b σ S H) : Hold E B (Γ.set i .no) b (σ.set i v) S H := by
  obtain ⟨Fs, hF, hs⟩ := h.sl
  refine ⟨h.kp, h.ef, Fs, hF, fun j s e => ?_⟩
  rcases set_get e with ⟨rfl, rfl⟩ | ⟨n, e⟩
  · trivial
  · rw [List.getElem?_set_ne (Ne.symm n)]; exact hs j s e
/-- what the slot i owns has changed (or is new), nothing else -/
theorem Hold.mut {i : Nat} {v : V} {p : PrO} {F' : Addr → Prop} (h : Hold E B Γ b σ S H) (hi : i < σ.length) (kc : ∀ a, ¬ F' a → H' a = H a)
    (hF' : ∀ a, F' a → (∃ o, H' a = some o) ∧ (H a = none ∧ ¬ E.own a ∨ ∀ Fs : Nat → Addr → Prop, Feet E B S H Fs → (∀ (j : Nat) s, Γ[j]? = some s → slOk S H (σ[j]?.join) (Fs j) s) → Fs i a)) (hp : p.p S H' v F') : Hold E B (Γ.set i (.ow p)) b (σ.set i (some v)) S H' := by
  obtain ⟨Fs, hF, hs⟩ := h.sl
  have nS : ∀ a, F' a → S a = none := fun a ha => by
    rcases (hF' a ha).2 with ⟨q, _⟩ | q
    · exact h.same.free q
    · exact (hF.at_ i a (q Fs hF hs)).1
  have nE : ∀ a, F' a → ¬ E.own a := fun a ha => by
    rcases (hF' a ha).2 with ⟨_, q⟩ | q
    · exact q
    · exact (hF.at_ i a (q Fs hF hs)).2.2.1
  have nB : ∀ a o, B.S a = none → B.H a = some o → ¬ E.own a → ¬ F' a := fun a o h1 h2 h3 ha => by
    rcases (hF' a ha).2 with ⟨q, _⟩ | q
    · have := (h.kp.kp a o h1 h2 h3).2
      rw [q] at this; cases this
    · have := (hF.at_ i a (q Fs hF hs)).2.1
      rw [h2] at this; cases this
  have ap : ∀ j a, j ≠ i → Fs j a → ¬ F' a := fun j a hj e ha => by
    rcases (hF' a ha).2 with ⟨q, _⟩ | q
    · obtain ⟨_, _, _, o, e4⟩ := hF.at_ j a e
      rw [q] at e4; cases e4
    · exact hj (hF.ds _ _ a e (q Fs hF hs))
  refine ⟨⟨fun a o e => ?_, h.kp.up, fun a o h1 h2 h3 => ?_⟩, E.mono (Same.refl _) (fun _ _ z => z) (fun a o ha e => ?_) h.ef, fun j a => if j = i then F' a else Fs j a, ⟨fun j a e => ?_, fun j k a e1 e2 => ?_⟩, fun j s e => ?_⟩
  · rw [kc a fun z => by rw [nS a z] at e; cases e]; exact h.same _ _ e
  · rw [kc a (nB a o h1 h2 h3)]; exact h.kp.kp a o h1 h2 h3
  · rw [kc a fun z => nE a z ha]; exact e
  · by_cases hj : j = i
    · simp only [if_pos hj] at e
      refine ⟨nS a e, ?_, nE a e, (hF' a e).1⟩
      rcases (hF' a e).2 with ⟨q, q2⟩ | q
      · cases z : B.H a with
        | none => rfl
        | some o =>
          cases y : B.S a with
          | none => have := (h.kp.kp a o y z q2).2; rw [q] at this; cases this
          | some u => have := h.same _ _ (h.kp.up _ _ y); rw [q] at this; cases this
      · exact (hF.at_ i a (q Fs hF hs)).2.1
    · simp only [if_neg hj] at e
      obtain ⟨e1, e2, e3, o, e4⟩ := hF.at_ j a e
      exact ⟨e1, e2, e3, o, by rw [kc a (ap j a hj e)]; exact e4⟩
  · by_cases hj : j = i
    · by_cases hk : k = i
      · rw [hj, hk]
      · simp only [if_pos hj] at e1; simp only [if_neg hk] at e2
        exact absurd e1 (ap k a hk e2)
    · by_cases hk : k = i
      · simp only [if_neg hj] at e1; simp only [if_pos hk] at e2
        exact absurd e2 (ap j a hj e1)
      · simp only [if_neg hj] at e1; simp only [if_neg hk] at e2
        exact hF.ds _ _ a e1 e2
  · rcases set_get e with ⟨rfl, rfl⟩ | ⟨n, e⟩
    · rw [List.getElem?_set_self hi]
      simp only [if_true]
      exact ⟨v, rfl, hp⟩
    · rw [List.getElem?_set_ne (Ne.symm n)]
      simp only [if_neg n]
      have q := hs j s e
      cases s with
      | no => trivial
      | st p => exact q
      | ow p => obtain ⟨x, e1, e2⟩ := q; exact ⟨x, e1, p.mono (Same.refl _) (fun a o ha e => by rw [kc a (ap j a n ha)]; exact e) e2⟩
theorem Hold.nil (h : Hold E B Γ b σ S H) : Hold E B [] b σ S H := h.wk fun i s e => by simp at e
end
end Zk

namespace Zk
open PySem L2

section
variable {τ α β γ δ : Type} {G : Gx} {c : Sc} {E : Eff τ} {W : WX} {Γ : Env} {B : Bs} {σ : St} {S S1 H : Hp} {b : τ}
theorem aft.same {R : Rel α} {Q : VK} (s : Same S S1) : ∀ {o : Out τ α}, aft G E W B Γ σ S R Q o → aft G E W B Γ σ S1 R Q o
  | .ok _ _, h => fun v S' H' s2 => h v S' H' (s.trans s2)
  | .exc _ _, h => fun c d S' H' s2 => h c d S' H' (s.trans s2)
  | .stuck, h => h
theorem aftT.same {Q : Bool → Hp → Prop} (s : Same S S1) : ∀ {o : Out τ Bool}, aftT G E W B Γ σ S Q o → aftT G E W B Γ σ S1 Q o
  | .ok _ _, h => fun S' H' s2 => h S' H' (s.trans s2)
  | .exc _ _, h => fun c d S' H' s2 => h c d S' H' (s.trans s2)
  | .stuck, h => h
theorem aftA.same {A : α → List Pr} {Q : List V → Hp → Prop} (s : Same S S1) : ∀ {o : Out τ α}, aftA G E W B Γ σ S A Q o → aftA G E W B Γ σ S1 A Q o
  | .ok _ _, h => fun v S' H' s2 => h v S' H' (s.trans s2)
  | .exc _ _, h => fun c d S' H' s2 => h c d S' H' (s.trans s2)
  | .stuck, h => h
/-- a part is reckoned, then what follows -/
theorem tz_bnd {m : M τ α} {f : α → M τ β} {R : Rel α} {Q : VK} {Q' : VK} {R' : Rel β} (hh : Hold E B Γ b σ S H) (h : aft G E W B Γ σ S R' Q (bnd m f b))
    (k : ∀ x b1 v S1 H1, Same S S1 → Hold E B Γ b1 σ S1 H1 → R.is x S1 v → aft G E W B Γ σ S1 R' Q (f x b1) → Q' v H1) : tzE G E W Γ m R σ H Q' := by
  refine ⟨B, S, b, hh, ?_⟩
  unfold bnd at h
  cases e : m b with
  | ok a b1 => rw [e] at h; exact fun v S1 H1 s h1 r => k a b1 v S1 H1 s h1 r (h.same s)
  | exc x b1 => rw [e] at h; exact h
  | stuck => rw [e] at h; exact h.elim
theorem tz_bndT {m : M τ α} {f : α → M τ Bool} {R : Rel α} {Q : Bool → Hp → Prop} {Q' : VK} (hh : Hold E B Γ b σ S H) (h : aftT G E W B Γ σ S Q (bnd m f b))
    (k : ∀ x b1 v S1 H1, Same S S1 → Hold E B Γ b1 σ S1 H1 → R.is x S1 v → aftT G E W B Γ σ S1 Q (f x b1) → Q' v H1) : tzE G E W Γ m R σ H Q' := by
  refine ⟨B, S, b, hh, ?_⟩
  unfold bnd at h
  cases e : m b with
  | ok a b1 => rw [e] at h; exact fun v S1 H1 s h1 r => k a b1 v S1 H1 s h1 r (h.same s)
  | exc x b1 => rw [e] at h; exact h
  | stuck => rw [e] at h; exact h.elim
theorem tz_bndA {m : M τ α} {f : α → M τ β} {R : Rel α} {A : β → List Pr} {Q : List V → Hp → Prop} {Q' : VK} (hh : Hold E B Γ b σ S H) (h : aftA G E W B Γ σ S A Q (bnd m f b))
    (k : ∀ x b1 v S1 H1, Same S S1 → Hold E B Γ b1 σ S1 H1 → R.is x S1 v → aftA G E W B Γ σ S1 A Q (f x b1) → Q' v H1) : tzE G E W Γ m R σ H Q' := by
  refine ⟨B, S, b, hh, ?_⟩
  unfold bnd at h
  cases e : m b with
  | ok a b1 => rw [e] at h; exact fun v S1 H1 s h1 r => k a b1 v S1 H1 s h1 r (h.same s)
  | exc x b1 => rw [e] at h; exact h
  | stuck => rw [e] at h; exact h.elim
theorem tz_Tbnd {m : M τ Bool} {f : Bool → M τ β} {R' : Rel β} {Q : VK} {Q' : Bool → Hp → Prop} (hh : Hold E B Γ b σ S H) (h : aft G E W B Γ σ S R' Q (bnd m f b))
    (k : ∀ x b1 S1 H1, Same S S1 → Hold E B Γ b1 σ S1 H1 → aft G E W B Γ σ S1 R' Q (f x b1) → Q' x H1) : tzT G E W Γ m σ H Q' := by
  refine ⟨B, S, b, hh, ?_⟩
  unfold bnd at h
  cases e : m b with
  | ok a b1 => rw [e] at h; exact fun S1 H1 s h1 => k a b1 S1 H1 s h1 (h.same s)
  | exc x b1 => rw [e] at h; exact h
  | stuck => rw [e] at h; exact h.elim
theorem tz_TbndT {m : M τ Bool} {f : Bool → M τ Bool} {Q : Bool → Hp → Prop} {Q' : Bool → Hp → Prop} (hh : Hold E B Γ b σ S H) (h : aftT G E W B Γ σ S Q (bnd m f b))
    (k : ∀ x b1 S1 H1, Same S S1 → Hold E B Γ b1 σ S1 H1 → aftT G E W B Γ σ S1 Q (f x b1) → Q' x H1) : tzT G E W Γ m σ H Q' := by
  refine ⟨B, S, b, hh, ?_⟩
  unfold bnd at h
  cases e : m b with
  | ok a b1 => rw [e] at h; exact fun S1 H1 s h1 => k a b1 S1 H1 s h1 (h.same s)
  | exc x b1 => rw [e] at h; exact h
  | stuck => rw [e] at h; exact h.elim
theorem tz_Abnd {m : M τ α} {f : α → M τ β} {A : α → List Pr} {R' : Rel β} {Q : VK} {Q' : List V → Hp → Prop} (hh : Hold E B Γ b σ S H) (h : aft G E W B Γ σ S R' Q (bnd m f b))
    (k : ∀ x b1 vs S1 H1, Same S S1 → Hold E B Γ b1 σ S1 H1 → All2 (fun (p : Pr) v => p.p S1 v) (A x) vs → aft G E W B Γ σ S1 R' Q (f x b1) → Q' vs H1) : tzA G E W Γ m A σ H Q' := by
  refine ⟨B, S, b, hh, ?_⟩
  unfold bnd at h
  cases e : m b with
  | ok a b1 => rw [e] at h; exact fun v S1 H1 s h1 r => k a b1 v S1 H1 s h1 r (h.same s)
  | exc x b1 => rw [e] at h; exact h
  | stuck => rw [e] at h; exact h.elim

/-! ### names and constants -/
structure Nm (c : Sc) (i : Nat) (x : Str) : Prop where
  n : c.N[i]? = some x
  v : Vis c.sc x
  d : (x == ("__debug__" : Str)) = false
  cd : (x == ("__classdict__" : Str)) = false
theorem z_var {i : Nat} {x : Str} {pos : Pos} {R : Rel α} {a : α} (n : Nm c i x) (h : Γ[i]? = some (.st (R.pr a)) := by rfl) : ZE G c E W Γ (.Name x pos) (ret a) R := fun X C =>
  pe_wk (pe_var (by rw [C.N]; exact n.n) (by rw [C.sc]; exact n.v) n.d n.cd) fun σ H Q _ ⟨B, S, b, hh, q⟩ => by
    obtain ⟨Fs, hF, hs⟩ := hh.sl
    obtain ⟨v, e1, e2⟩ := hs i _ h
    have e : σ[i]? = some (some v) := by
      cases z : σ[i]? with
      | none => rw [z] at e1; cases e1
      | some o => rw [z] at e1; cases o with
        | none => cases e1
        | some u => cases e1; rfl
    exact ⟨v, e, q v S H (Same.refl _) hh e2⟩
theorem z_int {i : Int} {j : Nat} {pos : Pos} : ZE G c E W Γ (.Constant (.int i) j pos) (ret i) rInt := fun X C => pe_wk pe_int fun σ H Q _ ⟨B, S, b, hh, q⟩ => q _ S H (Same.refl _) hh rfl
theorem z_bl {i : Bool} {j : Nat} {pos : Pos} : ZE G c E W Γ (.Constant (.bool i) j pos) (ret i) rBl := fun X C => pe_wk pe_bl fun σ H Q _ ⟨B, S, b, hh, q⟩ => q _ S H (Same.refl _) hh rfl
theorem z_str {i : Str} {j : Nat} {pos : Pos} : ZE G c E W Γ (.Constant (.str i) j pos) (ret i) rStr := fun X C => pe_wk pe_str fun σ H Q _ ⟨B, S, b, hh, q⟩ => q _ S H (Same.refl _) hh rfl
theorem z_non {j : Nat} {pos : Pos} : ZE G c E W Γ (.Constant .none j pos) (ret ()) rNon := fun X C => pe_wk pe_non fun σ H Q _ ⟨B, S, b, hh, q⟩ => q _ S H (Same.refl _) hh rfl
/-- a global constant -/
def Gb (c : Sc) (x : Str) : Prop := c.sc.names.lookup x = some .globalImplicit
theorem CtxOk.gl {X : Cx} {x : Str} (C : CtxOk G c W X) (h : Gb c x) : Gl X x := by
  show X.env.scope.names.lookup x = some .globalImplicit
  rw [C.sc]; exact h
theorem z_gint {x : Str} {i : Int} {pos : Pos} {u : Value} (g : Gb c x) (h : G.mg x = some u) (r : RelV (.int i) u) (hd : (x == ("__debug__" : Str)) = false := by decide) : ZE G c E W Γ (.Name x pos) (ret i) rInt := fun X C =>
  pe_wk (pe_glob (C.gl g) (by rw [C.mg]; exact h) r hd) fun σ H Q _ ⟨B, S, b, hh, q⟩ => q _ S H (Same.refl _) hh rfl
theorem z_gstr {x : Str} {i : Str} {pos : Pos} {u : Value} (g : Gb c x) (h : G.mg x = some u) (r : RelV (.str i) u) (hd : (x == ("__debug__" : Str)) = false := by decide) : ZE G c E W Γ (.Name x pos) (ret i) rStr := fun X C =>
  pe_wk (pe_glob (C.gl g) (by rw [C.mg]; exact h) r hd) fun σ H Q _ ⟨B, S, b, hh, q⟩ => q _ S H (Same.refl _) hh rfl

/-! ### what is done with values -/
def zop1 (f : α → M τ β) (m : M τ α) : M τ β := bnd m f
def zop2 (f : α → β → M τ γ) (m : M τ α) (n : M τ β) : M τ γ := bnd m fun x => bnd n fun y => f x y
def zop3 (f : α → β → γ → M τ δ) (m : M τ α) (n : M τ β) (o : M τ γ) : M τ δ := bnd m fun x => bnd n fun y => bnd o fun z => f x y z
/-- r, asked of what stands for x (x, y), answers as f does -/
def Op1 (G : Gx) (E : Eff τ) (W : WX) (Γ : Env) (r : V → Hp → VK → Prop) (Ra : Rel α) (f : α → M τ γ) (R : Rel γ) : Prop :=
  ∀ B σ S H b x v Q, Hold E B Γ b σ S H → Ra.is x S v → aft G E W B Γ σ S R Q (f x b) → r v H Q
def Op2 (G : Gx) (E : Eff τ) (W : WX) (Γ : Env) (r : R2) (Ra : Rel α) (Rb : Rel β) (f : α → β → M τ γ) (R : Rel γ) : Prop :=
  ∀ B σ S H b x y v w Q, Hold E B Γ b σ S H → Ra.is x S v → Rb.is y S w → aft G E W B Γ σ S R Q (f x y b) → r v w H Q
def OpA (G : Gx) (E : Eff τ) (W : WX) (Γ : Env) (r : List V → Hp → VK → Prop) (A : α → List Pr) (f : α → M τ γ) (R : Rel γ) : Prop :=
  ∀ B σ S H b x vs Q, Hold E B Γ b σ S H → All2 (fun (p : Pr) v => p.p S v) (A x) vs → aft G E W B Γ σ S R Q (f x b) → r vs H Q
theorem tz_op1 {e : TE → TE} {t : TE} {r : V → Hp → VK → Prop} {Ra : Rel α} {f : α → M τ γ} {R : Rel γ} {ma : M τ α} (h : Op1 G E W Γ r Ra f R) {σ : St} {H : Hp} {Q : VK} (q : tzE G E W Γ (zop1 f ma) R σ H Q) : tzE G E W Γ ma Ra σ H fun v H1 => r v H1 Q := by
  obtain ⟨B, S, b, hh, q⟩ := q
  exact tz_bnd hh q fun x b1 v S1 H1 s1 h1 r1 q1 => h B σ S1 H1 b1 x v Q h1 r1 q1
theorem tz_op2 {r : R2} {Ra : Rel α} {Rb : Rel β} {f : α → β → M τ γ} {R : Rel γ} {ma : M τ α} {mb : M τ β} (h : Op2 G E W Γ r Ra Rb f R) {σ : St} {H : Hp} {Q : VK} (q : tzE G E W Γ (zop2 f ma mb) R σ H Q) :
    tzE G E W Γ ma Ra σ H fun v H1 => tzE G E W Γ mb Rb σ H1 fun w H2 => r v w H2 Q := by
  obtain ⟨B, S, b, hh, q⟩ := q
  refine tz_bnd hh q fun x b1 v S1 H1 s1 h1 r1 q1 => ?_
  exact tz_bnd h1 q1 fun y b2 w S2 H2 s2 h2 r2 q2 => h B σ S2 H2 b2 x y v w Q h2 (Ra.mono s2 r1) r2 q2
theorem z_bin {op : Operator} {r : R2} {Ra : Rel α} {Rb : Rel β} {f : α → β → M τ γ} {R : Rel γ} {ma : M τ α} {mb : M τ β} {ea eb : Expr} {pos : Pos} (ho : ∀ X, CtxOk G c W X → OpR X (binaryOp op) r) (h : Op2 G E W Γ r Ra Rb f R)
    (ha : ZE G c E W Γ ea ma Ra) (hb : ZE G c E W Γ eb mb Rb) : ZE G c E W Γ (.BinOp ea op eb pos) (zop2 f ma mb) R := fun X C => pe_wk (pe_op (ho X C) (ha X C) (hb X C)) fun _ _ _ _ q => tz_op2 h q
theorem z_una {op : UnaryOp} {r : V → Hp → VK → Prop} {Ra : Rel α} {f : α → M τ γ} {R : Rel γ} {ma : M τ α} {ea : Expr} {pos : Pos} (ho : ∀ X, CtxOk G c W X → UnR X (unaryOp op) r) (h : Op1 G E W Γ r Ra f R)
    (ha : ZE G c E W Γ ea ma Ra) : ZE G c E W Γ (.UnaryOp op ea pos) (zop1 f ma) R := fun X C => pe_wk (pe_un (ho X C) (ha X C)) fun _ _ _ _ q => tz_op1 (e := id) (t := fun _ _ _ => True) h q
theorem z_cmp {op : CmpOp} {r : R2} {Ra : Rel α} {Rb : Rel β} {f : α → β → M τ Bool} {ma : M τ α} {mb : M τ β} {ea eb : Expr} {pos : Pos} (ho : ∀ X, CtxOk G c W X → OpR X (compareOp op) r) (h : Op2 G E W Γ r Ra Rb f rBl)
    (ha : ZE G c E W Γ ea ma Ra) (hb : ZE G c E W Γ eb mb Rb) (hm : behindInMarks op eb = false) : ZE G c E W Γ (.Compare ea [op] [eb] pos) (zop2 f ma mb) rBl := fun X C => pe_wk (pe_cmpR (ho X C) (ha X C) (hb X C) hm) fun _ _ _ _ q => tz_op2 h q
/-- a value's test: from what is wanted of a Bool to what is wanted of a value -/
theorem aft_T {B : Bs} {σ : St} {S : Hp} {Q : Bool → Hp → Prop} : ∀ {o : Out τ Bool}, aftT G E W B Γ σ S Q o → aft G E W B Γ σ S rBl (fun v H => ∃ k, v = .bl k ∧ Q k H) o
  | .ok a _, h => fun v S' H' s hh r => ⟨a, r, h S' H' s hh⟩
  | .exc _ _, h => h
  | .stuck, h => h
theorem zt_cmp {op : CmpOp} {r : R2} {Ra : Rel α} {Rb : Rel β} {f : α → β → M τ Bool} {ma : M τ α} {mb : M τ β} {ea eb : Expr} {pos : Pos} (ho : ∀ X, CtxOk G c W X → OpR X (compareOp op) r) (h : Op2 G E W Γ r Ra Rb f rBl)
    (ha : ZE G c E W Γ ea ma Ra) (hb : ZE G c E W Γ eb mb Rb) (hm : behindInMarks op eb = false) : ZT G c E W Γ (.Compare ea [op] [eb] pos) (zop2 f ma mb) := fun X C =>
  pt_wk (pt_cmpR (ho X C) (ha X C) (hb X C) hm) fun _ _ _ _ ⟨B, S, b, hh, q⟩ => tz_op2 h ⟨B, S, b, hh, aft_T q⟩
/-- an expression that gives a truth, as a test -/
theorem zt_val {e : Expr} {m : M τ Bool} (h : ZE G c E W Γ e m rBl) (he : ∀ (env : PySem.Env) whole, isTrue e env whole = (do let v ← whole; standAt e.pos; holding [v] (truthy v)) := by intro _ _; rfl) : ZT G c E W Γ e m := fun X C =>
  pt_wk (pt_val (h X C) (he X.env)) fun _ _ _ _ ⟨B, S, b, hh, q⟩ => ⟨B, S, b, hh, aft_T q⟩
def znot (m : M τ Bool) : M τ Bool := bnd m fun x => ret (!x)
def zand (m n : M τ Bool) : M τ Bool := bnd m fun x => if x = true then n else ret false
def zor (m n : M τ Bool) : M τ Bool := bnd m fun x => if x = true then ret true else n
theorem zt_not {e : Expr} {m : M τ Bool} {pos : Pos} (h : ZT G c E W Γ e m) : ZT G c E W Γ (.UnaryOp .Not e pos) (znot m) := fun X C => pt_wk (pt_not (h X C)) fun _ _ _ _ ⟨B, S, b, hh, q⟩ => by
  refine tz_TbndT hh q fun x b1 S1 H1 s1 h1 q1 => ?_
  exact q1 S1 H1 (Same.refl _) h1
theorem z_not {e : Expr} {m : M τ Bool} {pos : Pos} (h : ZE G c E W Γ e m rBl) : ZE G c E W Γ (.UnaryOp .Not e pos) (znot m) rBl := fun X C => pe_wk (pe_not (h X C)) fun _ _ _ _ ⟨B, S, b, hh, q⟩ => by
  refine tz_bnd hh q fun x b1 v S1 H1 s1 h1 r1 q1 => ?_
  exact ⟨x, r1, q1 _ S1 H1 (Same.refl _) h1 rfl⟩
/-- a test whatever its 'whole' is -/
def ZW (G : Gx) (c : Sc) (E : Eff τ) (W : WX) (Γ : Env) (e : Expr) (m : M τ Bool) : Prop := ∀ X, CtxOk G c W X → PW X e (tzT G E W Γ m)
theorem pw_wk {X : Cx} {e : Expr} {t t' : TT} (h : PW X e t) (w : ∀ σ H Q, t' σ H Q → t σ H Q) : PW X e t' := ⟨fun wh pins s σ H Q I q => h.run wh pins s σ H Q I (w σ H Q q)⟩
theorem zw_t {e : Expr} {m : M τ Bool} (h : ZW G c E W Γ e m) : ZT G c E W Γ e m := fun X C => (h X C).pt
theorem zw_and1 {e : Expr} {m : M τ Bool} {pos : Pos} (h : ZT G c E W Γ e m) : ZW G c E W Γ (.BoolOp .And [e] pos) m := fun X C => pw_and1 (h X C)
theorem zw_or1 {e : Expr} {m : M τ Bool} {pos : Pos} (h : ZT G c E W Γ e m) : ZW G c E W Γ (.BoolOp .Or [e] pos) m := fun X C => pw_or1 (h X C)
theorem zw_and {a d : Expr} {rest : List Expr} {m n : M τ Bool} {pos : Pos} (h : ZT G c E W Γ a m) (h2 : ZW G c E W Γ (.BoolOp .And (d :: rest) pos) n) : ZW G c E W Γ (.BoolOp .And (a :: d :: rest) pos) (zand m n) := fun X C =>
  pw_wk (pw_and (h X C) (h2 X C)) fun _ _ _ ⟨B, S, b, hh, q⟩ => by
    refine tz_TbndT hh q fun x b1 S1 H1 s1 h1 q1 => ?_
    cases x with
    | true => exact ⟨B, S1, b1, h1, q1⟩
    | false => exact q1 S1 H1 (Same.refl _) h1
theorem zw_or {a d : Expr} {rest : List Expr} {m n : M τ Bool} {pos : Pos} (h : ZT G c E W Γ a m) (h2 : ZW G c E W Γ (.BoolOp .Or (d :: rest) pos) n) : ZW G c E W Γ (.BoolOp .Or (a :: d :: rest) pos) (zor m n) := fun X C =>
  pw_wk (pw_or (h X C) (h2 X C)) fun _ _ _ ⟨B, S, b, hh, q⟩ => by
    refine tz_TbndT hh q fun x b1 S1 H1 s1 h1 q1 => ?_
    cases x with
    | true => exact q1 S1 H1 (Same.refl _) h1
    | false => exact ⟨B, S1, b1, h1, q1⟩
theorem z_one {op : BoolOp} {e : Expr} {m : M τ Bool} {pos : Pos} (h : ZE G c E W Γ e m rBl) : ZE G c E W Γ (.BoolOp op [e] pos) m rBl := fun X C => pe_one (h X C)
theorem z_and {a d : Expr} {rest : List Expr} {m n : M τ Bool} {pos : Pos} (h : ZE G c E W Γ a m rBl) (h2 : ZE G c E W Γ (.BoolOp .And (d :: rest) pos) n rBl) : ZE G c E W Γ (.BoolOp .And (a :: d :: rest) pos) (zand m n) rBl := fun X C =>
  pe_wk (pe_and (h X C) (h2 X C)) fun _ _ _ _ ⟨B, S, b, hh, q⟩ => by
    refine tz_bnd hh q fun x b1 v S1 H1 s1 h1 r1 q1 => ⟨x, r1, ?_⟩
    cases x with
    | true => exact ⟨B, S1, b1, h1, q1⟩
    | false => exact q1 _ S1 H1 (Same.refl _) h1 rfl
theorem z_or {a d : Expr} {rest : List Expr} {m n : M τ Bool} {pos : Pos} (h : ZE G c E W Γ a m rBl) (h2 : ZE G c E W Γ (.BoolOp .Or (d :: rest) pos) n rBl) : ZE G c E W Γ (.BoolOp .Or (a :: d :: rest) pos) (zor m n) rBl := fun X C =>
  pe_wk (pe_or (h X C) (h2 X C)) fun _ _ _ _ ⟨B, S, b, hh, q⟩ => by
    refine tz_bnd hh q fun x b1 v S1 H1 s1 h1 r1 q1 => ⟨x, r1, ?_⟩
    cases x with
    | true => exact q1 _ S1 H1 (Same.refl _) h1 rfl
    | false => exact ⟨B, S1, b1, h1, q1⟩
def zif (m : M τ Bool) (n o : M τ α) : M τ α := bnd m fun x => if x = true then n else o
theorem z_if {t a d : Expr} {m : M τ Bool} {n o : M τ α} {R : Rel α} {pos : Pos} (ht : ZT G c E W Γ t m) (ha : ZE G c E W Γ a n R) (hd : ZE G c E W Γ d o R) : ZE G c E W Γ (.IfExp t a d pos) (zif m n o) R := fun X C =>
  pe_wk (pe_ifExp (ht X C) (ha X C) (hd X C)) fun _ _ _ _ ⟨B, S, b, hh, q⟩ => by
    refine tz_Tbnd hh q fun x b1 S1 H1 s1 h1 q1 => ?_
    cases x with
    | true => exact ⟨B, S1, b1, h1, q1⟩
    | false => exact ⟨B, S1, b1, h1, q1⟩

/-! ### the operators on whole numbers -/
def iadd (x y : Int) : M τ Int := ret (x + y)
def isub (x y : Int) : M τ Int := ret (x - y)
def mulOk (x y : Int) : Prop := CMulW x y ∨ CMul x y
noncomputable instance {x y : Int} : Decidable (mulOk x y) := Classical.propDecidable _
noncomputable def imul (x y : Int) : M τ Int := chk (mulOk x y) (ret (x * y))
def divOk (x y : Int) : Prop := CDivW x y
noncomputable instance {x y : Int} : Decidable (divOk x y) := Classical.propDecidable _
noncomputable def idiv (x y : Int) : M τ Int := chk (divOk x y) (ret (x / y))
def imod (x y : Int) : M τ Int := chk (0 < y) (ret (x % y))
def powOk (x y : Int) : Prop := CPow x y
noncomputable instance {x y : Int} : Decidable (powOk x y) := Classical.propDecidable _
noncomputable def ipow (x y : Int) : M τ Int := chk (powOk x y) (ret (x ^ y.toNat))
def ineg (x : Int) : M τ Int := ret (-x)
def ilt (x y : Int) : M τ Bool := ret (decide (x < y))
def ile (x y : Int) : M τ Bool := ret (decide (x ≤ y))
def igt (x y : Int) : M τ Bool := ret (decide (y < x))
def ige (x y : Int) : M τ Bool := ret (decide (y ≤ x))
def feq [DecidableEq α] (x y : α) : M τ Bool := ret (decide (x = y))
def fne [DecidableEq α] (x y : α) : M τ Bool := ret (!decide (x = y))
theorem aft_ret {R : Rel α} {Q : VK} {a : α} (hh : Hold E B Γ b σ S H) (h : aft G E W B Γ σ S R Q (ret a b)) {v : V} (r : R.is a S v) : Q v H := h v S H (Same.refl _) hh r
theorem aft_chk {R : Rel α} {Q : VK} {p : Prop} [Decidable p] {m : M τ α} (h : aft G E W B Γ σ S R Q (chk p m b)) : p ∧ aft G E W B Γ σ S R Q (m b) := by
  unfold chk at h
  by_cases hp : p
  · rw [if_pos hp] at h; exact ⟨hp, h⟩
  · rw [if_neg hp] at h; exact h.elim
theorem opI2 {g : Int → Int → Int} : Op2 G E W Γ (rI0 fun i j => .int (g i j)) rInt rInt (fun x y => ret (g x y)) rInt := fun B σ S H b x y v w Q hh hx hy q => ⟨x, y, hx, hy, aft_ret hh q rfl⟩
theorem opB2 {g : Int → Int → Bool} : Op2 G E W Γ (rI0 fun i j => .bl (g i j)) rInt rInt (fun x y => ret (g x y)) rBl := fun B σ S H b x y v w Q hh hx hy q => ⟨x, y, hx, hy, aft_ret hh q rfl⟩
theorem opC2 {P : Int → Int → Prop} [∀ x y, Decidable (P x y)] {g : Int → Int → Int} : Op2 G E W Γ (rI P fun i j => .int (g i j)) rInt rInt (fun x y => chk (P x y) (ret (g x y))) rInt := fun B σ S H b x y v w Q hh hx hy q =>
  let ⟨p, q⟩ := aft_chk q
  ⟨x, y, hx, hy, p, aft_ret hh q rfl⟩
theorem op_mulA {X : Cx} : OpR X (binaryOp .Mult) (rI mulOk fun i j => .int (i * j)) := fun pins s σ H x y v u Q I rx ry ⟨i, j, e1, e2, hc, q⟩ => by
  rcases hc with hc | hc
  · exact op_mulW pins s σ H x y v u Q I rx ry ⟨i, j, e1, e2, hc, q⟩
  · exact op_mul pins s σ H x y v u Q I rx ry ⟨i, j, e1, e2, hc, q⟩
section
variable {ea eb : Expr} {pos : Pos} {ma mb : M τ Int}
theorem z_add (ha : ZE G c E W Γ ea ma rInt) (hb : ZE G c E W Γ eb mb rInt) : ZE G c E W Γ (.BinOp ea .Add eb pos) (zop2 iadd ma mb) rInt := z_bin (fun _ _ => op_add) opI2 ha hb
theorem z_sub (ha : ZE G c E W Γ ea ma rInt) (hb : ZE G c E W Γ eb mb rInt) : ZE G c E W Γ (.BinOp ea .Sub eb pos) (zop2 isub ma mb) rInt := z_bin (fun _ _ => op_sub) opI2 ha hb
theorem z_mul (ha : ZE G c E W Γ ea ma rInt) (hb : ZE G c E W Γ eb mb rInt) : ZE G c E W Γ (.BinOp ea .Mult eb pos) (zop2 imul ma mb) rInt := z_bin (fun _ _ => op_mulA) opC2 ha hb
theorem z_div (ha : ZE G c E W Γ ea ma rInt) (hb : ZE G c E W Γ eb mb rInt) : ZE G c E W Γ (.BinOp ea .FloorDiv eb pos) (zop2 idiv ma mb) rInt := z_bin (r := rI divOk fun i j => .int (i / j)) (fun _ _ => op_fdivW) opC2 ha hb
theorem z_mod (ha : ZE G c E W Γ ea ma rInt) (hb : ZE G c E W Γ eb mb rInt) : ZE G c E W Γ (.BinOp ea .Mod eb pos) (zop2 imod ma mb) rInt := z_bin (fun _ _ => op_mod) opC2 ha hb
theorem z_pow (ha : ZE G c E W Γ ea ma rInt) (hb : ZE G c E W Γ eb mb rInt) : ZE G c E W Γ (.BinOp ea .Pow eb pos) (zop2 ipow ma mb) rInt := z_bin (r := rI powOk fun i j => .int (i ^ j.toNat)) (fun _ _ => op_pow) opC2 ha hb
theorem z_neg (ha : ZE G c E W Γ ea ma rInt) : ZE G c E W Γ (.UnaryOp .USub ea pos) (zop1 ineg ma) rInt := z_una (fun _ _ => un_neg) (fun B σ S H b x v Q hh hx q => ⟨x, hx, aft_ret hh q rfl⟩) ha
theorem z_lt (ha : ZE G c E W Γ ea ma rInt) (hb : ZE G c E W Γ eb mb rInt) : ZE G c E W Γ (.Compare ea [.Lt] [eb] pos) (zop2 ilt ma mb) rBl := z_cmp (fun _ _ => op_lt) opB2 ha hb (nomark _)
theorem z_le (ha : ZE G c E W Γ ea ma rInt) (hb : ZE G c E W Γ eb mb rInt) : ZE G c E W Γ (.Compare ea [.LtE] [eb] pos) (zop2 ile ma mb) rBl := z_cmp (fun _ _ => op_le) opB2 ha hb (nomark _)
theorem z_gt (ha : ZE G c E W Γ ea ma rInt) (hb : ZE G c E W Γ eb mb rInt) : ZE G c E W Γ (.Compare ea [.Gt] [eb] pos) (zop2 igt ma mb) rBl := z_cmp (fun _ _ => op_gt) opB2 ha hb (nomark _)
theorem z_ge (ha : ZE G c E W Γ ea ma rInt) (hb : ZE G c E W Γ eb mb rInt) : ZE G c E W Γ (.Compare ea [.GtE] [eb] pos) (zop2 ige ma mb) rBl := z_cmp (fun _ _ => op_ge) opB2 ha hb (nomark _)
theorem zt_lt (ha : ZE G c E W Γ ea ma rInt) (hb : ZE G c E W Γ eb mb rInt) : ZT G c E W Γ (.Compare ea [.Lt] [eb] pos) (zop2 ilt ma mb) := zt_cmp (fun _ _ => op_lt) opB2 ha hb (nomark _)
theorem zt_le (ha : ZE G c E W Γ ea ma rInt) (hb : ZE G c E W Γ eb mb rInt) : ZT G c E W Γ (.Compare ea [.LtE] [eb] pos) (zop2 ile ma mb) := zt_cmp (fun _ _ => op_le) opB2 ha hb (nomark _)
theorem zt_gt (ha : ZE G c E W Γ ea ma rInt) (hb : ZE G c E W Γ eb mb rInt) : ZT G c E W Γ (.Compare ea [.Gt] [eb] pos) (zop2 igt ma mb) := zt_cmp (fun _ _ => op_gt) opB2 ha hb (nomark _)
theorem zt_ge (ha : ZE G c E W Γ ea ma rInt) (hb : ZE G c E W Γ eb mb rInt) : ZT G c E W Γ (.Compare ea [.GtE] [eb] pos) (zop2 ige ma mb) := zt_cmp (fun _ _ => op_ge) opB2 ha hb (nomark _)
end
/-- a < b < c and its like -/
def zchain (f : α → β → M τ Bool) (g : β → γ → M τ Bool) (ma : M τ α) (mb : M τ β) (mc : M τ γ) : M τ Bool := bnd ma fun x => bnd mb fun y => bnd (f x y) fun k => if k = true then bnd mc fun z => g y z else ret false
theorem tz_chain {Ra : Rel α} {Rb : Rel β} {Rc : Rel γ} {f : α → β → M τ Bool} {g : β → γ → M τ Bool} {r r' : R2} {ma : M τ α} {mb : M τ β} {mc : M τ γ} (h : Op2 G E W Γ r Ra Rb f rBl) (h' : Op2 G E W Γ r' Rb Rc g rBl)
    {σ : St} {H : Hp} {Q : VK} (q : tzE G E W Γ (zchain f g ma mb mc) rBl σ H Q) : tChain r r' (tzE G E W Γ ma Ra) (tzE G E W Γ mb Rb) (tzE G E W Γ mc Rc) σ H Q := by
  obtain ⟨B, S, b, hh, q⟩ := q
  refine tz_bnd hh q fun x b1 v S1 H1 s1 h1 r1 q1 => ?_
  refine tz_bnd h1 q1 fun y b2 w S2 H2 s2 h2 r2 q2 => ?_
  refine h B σ S2 H2 b2 x y v w _ h2 (Ra.mono s2 r1) r2 ?_
  unfold bnd at q2
  cases e : f x y b2 with
  | stuck => rw [e] at q2; exact q2.elim
  | exc x b3 => rw [e] at q2; exact q2
  | ok k b3 =>
    rw [e] at q2
    intro v3 S3 H3 s3 h3 r3
    refine ⟨k, r3, ?_⟩
    cases k with
    | false => exact q2 _ S3 H3 s3 h3 rfl
    | true =>
      have q3 : aft G E W B Γ σ S2 rBl Q (bnd mc (fun z => g y z) b3) := q2
      exact tz_bnd h3 (q3.same s3) fun z b4 u S4 H4 s4 h4 r4 q4 => h' B σ S4 H4 b4 y z w u Q h4 (Rb.mono s4 (Rb.mono s3 r2)) r4 q4
theorem z_chain {op op' : CmpOp} {Ra : Rel α} {Rb : Rel β} {Rc : Rel γ} {f : α → β → M τ Bool} {g : β → γ → M τ Bool} {r r' : R2} {ma : M τ α} {mb : M τ β} {mc : M τ γ} {ea eb ec : Expr} {pos : Pos} (ho : ∀ X, CtxOk G c W X → OpR X (compareOp op) r) (ho' : ∀ X, CtxOk G c W X → OpR X (compareOp op') r')
    (h : Op2 G E W Γ r Ra Rb f rBl) (h' : Op2 G E W Γ r' Rb Rc g rBl) (ha : ZE G c E W Γ ea ma Ra) (hb : ZE G c E W Γ eb mb Rb) (hc : ZE G c E W Γ ec mc Rc) (hm : lastMarks [op, op'] [eb, ec] = false) :
    ZE G c E W Γ (.Compare ea [op, op'] [eb, ec] pos) (zchain f g ma mb mc) rBl := fun X C => pe_wk (pe_chain (ho X C) (ho' X C) (ha X C) (hb X C) (hc X C) hm) fun _ _ _ _ q => tz_chain h h' q
theorem zt_chain {op op' : CmpOp} {Ra : Rel α} {Rb : Rel β} {Rc : Rel γ} {f : α → β → M τ Bool} {g : β → γ → M τ Bool} {r r' : R2} {ma : M τ α} {mb : M τ β} {mc : M τ γ} {ea eb ec : Expr} {pos : Pos} (ho : ∀ X, CtxOk G c W X → OpR X (compareOp op) r) (ho' : ∀ X, CtxOk G c W X → OpR X (compareOp op') r')
    (h : Op2 G E W Γ r Ra Rb f rBl) (h' : Op2 G E W Γ r' Rb Rc g rBl) (ha : ZE G c E W Γ ea ma Ra) (hb : ZE G c E W Γ eb mb Rb) (hc : ZE G c E W Γ ec mc Rc) (hm : lastMarks [op, op'] [eb, ec] = false) :
    ZT G c E W Γ (.Compare ea [op, op'] [eb, ec] pos) (zchain f g ma mb mc) := fun X C => pt_wk (pt_chain (ho X C) (ho' X C) (ha X C) (hb X C) (hc X C) hm) fun _ _ _ _ ⟨B, S, b, hh, q⟩ => tz_chain h h' ⟨B, S, b, hh, aft_T q⟩
/-- the order of two whole numbers, for chains -/
structure CmpI (G : Gx) (E : Eff τ) (W : WX) (Γ : Env) (op : CmpOp) (f : Int → Int → M τ Bool) (r : R2) : Prop where
  o : ∀ X, OpR X (compareOp op) r
  h : Op2 G E W Γ r rInt rInt f rBl
theorem ci_lt : CmpI G E W Γ .Lt ilt (rI0 fun i j => .bl (decide (i < j))) := ⟨fun _ => op_lt, opB2⟩
theorem ci_le : CmpI G E W Γ .LtE ile (rI0 fun i j => .bl (decide (i ≤ j))) := ⟨fun _ => op_le, opB2⟩
theorem z_chI {op op' : CmpOp} {f g : Int → Int → M τ Bool} {r r' : R2} {ma mb mc : M τ Int} {ea eb ec : Expr} {pos : Pos} (h : CmpI G E W Γ op f r) (h' : CmpI G E W Γ op' g r') (ha : ZE G c E W Γ ea ma rInt) (hb : ZE G c E W Γ eb mb rInt) (hc : ZE G c E W Γ ec mc rInt) (hm : lastMarks [op, op'] [eb, ec] = false := by with_unfolding_all rfl) :
    ZE G c E W Γ (.Compare ea [op, op'] [eb, ec] pos) (zchain f g ma mb mc) rBl := z_chain (fun X _ => h.o X) (fun X _ => h'.o X) h.h h'.h ha hb hc hm
theorem zt_chI {op op' : CmpOp} {f g : Int → Int → M τ Bool} {r r' : R2} {ma mb mc : M τ Int} {ea eb ec : Expr} {pos : Pos} (h : CmpI G E W Γ op f r) (h' : CmpI G E W Γ op' g r') (ha : ZE G c E W Γ ea ma rInt) (hb : ZE G c E W Γ eb mb rInt) (hc : ZE G c E W Γ ec mc rInt) (hm : lastMarks [op, op'] [eb, ec] = false := by with_unfolding_all rfl) :
    ZT G c E W Γ (.Compare ea [op, op'] [eb, ec] pos) (zchain f g ma mb mc) := zt_chain (fun X _ => h.o X) (fun X _ => h'.o X) h.h h'.h ha hb hc hm

/-! ### argument lists, displays -/
def zpair (m : M τ α) (n : M τ β) : M τ (α × β) := bnd m fun x => bnd n fun y => ret (x, y)
abbrev Star (e : Expr) (es : List Expr) : Prop := ∀ env : PySem.Env, starEach (e :: es) env = (false, eval e env) :: starEach es env
theorem za_nil : ZA G c E W Γ [] (ret ()) (fun _ => []) := fun X C => pa_wk pa_nil fun _ H _ _ ⟨B, S, b, hh, q⟩ => q [] S H (Same.refl _) hh trivial
theorem za_one {e : Expr} {m : M τ α} {R : Rel α} (h : ZE G c E W Γ e m R) (hs : Star e [] := by intro _; rfl) : ZA G c E W Γ [e] m (fun x => [R.pr x]) := fun X C =>
  pa_wk (pa_cons (h X C) pa_nil (hs X.env)) fun σ H Q _ ⟨B, S, b, hh, q⟩ => by
    refine ⟨B, S, b, hh, ?_⟩
    cases e : m b with
    | ok a b1 => rw [e] at q; exact fun v S1 H1 s h1 r => q [v] S1 H1 s h1 ⟨r, trivial⟩
    | exc x b1 => rw [e] at q; exact q
    | stuck => rw [e] at q; exact q.elim
theorem za_cons {e : Expr} {es : List Expr} {m : M τ α} {n : M τ β} {R : Rel α} {A : β → List Pr} (h : ZE G c E W Γ e m R) (h2 : ZA G c E W Γ es n A) (hs : Star e es := by intro _; rfl) : ZA G c E W Γ (e :: es) (zpair m n) (fun x => R.pr x.1 :: A x.2) := fun X C =>
  pa_wk (pa_cons (h X C) (h2 X C) (hs X.env)) fun σ H Q _ ⟨B, S, b, hh, q⟩ => by
    refine tz_bndA hh q fun x b1 v S1 H1 s1 h1 r1 q1 => ?_
    refine ⟨B, S1, b1, h1, ?_⟩
    unfold bnd at q1
    cases e : n b1 with
    | ok a b2 => rw [e] at q1; exact fun vs S2 H2 s h2 r => q1 (v :: vs) S2 H2 s h2 ⟨R.mono s r1, r⟩
    | exc x b1 => rw [e] at q1; exact q1
    | stuck => rw [e] at q1; exact q1.elim
/-- a list of things of one kind, one by one -/
def zcons (m : M τ α) (n : M τ (List α)) : M τ (List α) := bnd m fun x => bnd n fun y => ret (x :: y)
abbrev Rel.all (R : Rel α) (xs : List α) : List Pr := xs.map fun x => R.pr x
theorem zl_nil {R : Rel α} : ZA G c E W Γ [] (ret []) R.all := fun X C => pa_wk pa_nil fun _ H _ _ ⟨B, S, b, hh, q⟩ => q [] S H (Same.refl _) hh trivial
theorem zl_cons {e : Expr} {es : List Expr} {m : M τ α} {n : M τ (List α)} {R : Rel α} (h : ZE G c E W Γ e m R) (h2 : ZA G c E W Γ es n R.all) (hs : Star e es := by intro _; rfl) : ZA G c E W Γ (e :: es) (zcons m n) R.all := fun X C =>
  pa_wk (pa_cons (h X C) (h2 X C) (hs X.env)) fun σ H Q _ ⟨B, S, b, hh, q⟩ => by
    refine tz_bndA hh q fun x b1 v S1 H1 s1 h1 r1 q1 => ?_
    refine ⟨B, S1, b1, h1, ?_⟩
    unfold bnd at q1
    cases e : n b1 with
    | ok a b2 => rw [e] at q1; exact fun vs S2 H2 s h2 r => q1 (v :: vs) S2 H2 s h2 ⟨R.mono s r1, r⟩
    | exc x b1 => rw [e] at q1; exact q1
    | stuck => rw [e] at q1; exact q1.elim
theorem all_of {R : Rel α} {S : Hp} : ∀ {xs : List α} {vs : List V}, All2 (fun (p : Pr) v => p.p S v) (R.all xs) vs → All2 (fun x v => R.is x S v) xs vs
  | [], [], _ => trivial
  | _ :: _, _ :: _, ⟨a, b⟩ => ⟨a, all_of b⟩
  | [], _ :: _, h => h.elim
  | _ :: _, [], h => h.elim
/-- what a new stable object is -/
theorem aft_new {R : Rel α} {Q : VK} {a : α} {p : Addr} {o : HO} (hh : Hold E B Γ b σ S H) (h : aft G E W B Γ σ S R Q (ret a b)) (hp : H p = none) (r : R.is a (upd S p o) (.ref p)) : Q (.ref p) (upd H p o) :=
  h _ (upd S p o) _ (same_new (hh.same.free hp)) (hh.new hp) r
def zlist (m : M τ (List α)) : M τ (List α) := bnd m fun xs => chk (xs.length ≤ sizeLine) (ret xs)
theorem All2.rel {R : Rel α} {S S' : Hp} (s : Same S S') {xs : List α} {vs : List V} (h : All2 (fun x v => R.is x S v) xs vs) : All2 (fun x v => R.is x S' v) xs vs := h.imp fun _ _ h => R.mono s h
theorem rLst_new {R : Rel α} {p : Addr} {xs : List α} {vs : List V} (s : S p = none) (h : All2 (fun x v => R.is x S v) xs vs) : (rLst R).is xs (upd S p (.lst vs)) (.ref p) := ⟨p, vs, rfl, upd_same, All2.rel (same_new s) h⟩
theorem rVT_new {R : Rel α} {p : Addr} {xs : List α} {vs : List V} (s : S p = none) (h : All2 (fun x v => R.is x S v) xs vs) : (rVT R).is xs (upd S p (.tup vs)) (.ref p) := ⟨p, vs, rfl, upd_same, All2.rel (same_new s) h⟩
theorem z_list {es : List Expr} {m : M τ (List α)} {R : Rel α} {pos : Pos} (h : ZA G c E W Γ es m R.all) : ZE G c E W Γ (.List es pos) (zlist m) (rLst R) := fun X C => pe_wk (pe_lst (h X C)) fun σ H Q _ ⟨B, S, b, hh, q⟩ => by
  refine tz_Abnd hh q fun x b1 vs S1 H1 s1 h1 r1 q1 => ?_
  obtain ⟨hl, q2⟩ := aft_chk q1
  have r2 := all_of r1
  exact ⟨by rw [← r2.length]; exact hl, fun p hp => aft_new h1 q2 hp (rLst_new (h1.same.free hp) r2)⟩
theorem z_vtup {es : List Expr} {m : M τ (List α)} {R : Rel α} {k} {pos : Pos} (h : ZA G c E W Γ es m R.all) : ZE G c E W Γ (.Tuple es k pos) (zlist m) (rVT R) := fun X C => pe_wk (pe_tup (h X C)) fun σ H Q _ ⟨B, S, b, hh, q⟩ => by
  refine tz_Abnd hh q fun x b1 vs S1 H1 s1 h1 r1 q1 => ?_
  obtain ⟨hl, q2⟩ := aft_chk q1
  have r2 := all_of r1
  exact ⟨by rw [← r2.length]; exact hl, fun p hp => aft_new h1 q2 hp (rVT_new (h1.same.free hp) r2)⟩
theorem line4 {n : Nat} (h : n ≤ 4) : n ≤ sizeLine := Nat.le_trans h (by decide)
theorem z_tup2 {es : List Expr} {m : M τ (α × β)} {R : Rel α} {R2 : Rel β} {k} {pos : Pos} (h : ZA G c E W Γ es m (fun x => [R.pr x.1, R2.pr x.2])) : ZE G c E W Γ (.Tuple es k pos) m (rT2 R R2) := fun X C => pe_wk (pe_tup (h X C)) fun σ H Q _ ⟨B, S, b, hh, q⟩ => by
  refine ⟨B, S, b, hh, ?_⟩
  cases e : m b with
  | exc x b1 => rw [e] at q; exact q
  | stuck => rw [e] at q; exact q.elim
  | ok a b1 =>
    rw [e] at q
    intro vs S1 H1 s1 h1 r1
    match vs, r1 with
    | [u, w], ⟨r1, r2, _⟩ =>
      refine ⟨line4 (by simp), fun p hp => ?_⟩
      have s2 := same_new (o := HO.tup [u, w]) (h1.same.free hp)
      exact q _ (upd S1 p (.tup [u, w])) _ (s1.trans s2) (h1.new hp) ⟨p, u, w, rfl, upd_same, R.mono s2 r1, R2.mono s2 r2⟩
theorem z_tup3 {es : List Expr} {m : M τ (α × β × γ)} {R : Rel α} {R2 : Rel β} {R3 : Rel γ} {k} {pos : Pos} (h : ZA G c E W Γ es m (fun x => [R.pr x.1, R2.pr x.2.1, R3.pr x.2.2])) : ZE G c E W Γ (.Tuple es k pos) m (rT3 R R2 R3) := fun X C => pe_wk (pe_tup (h X C)) fun σ H Q _ ⟨B, S, b, hh, q⟩ => by
  refine ⟨B, S, b, hh, ?_⟩
  cases e : m b with
  | exc x b1 => rw [e] at q; exact q
  | stuck => rw [e] at q; exact q.elim
  | ok a b1 =>
    rw [e] at q
    intro vs S1 H1 s1 h1 r1
    match vs, r1 with
    | [u, w, z], ⟨r1, r2, r3, _⟩ =>
      refine ⟨line4 (by simp), fun p hp => ?_⟩
      have s2 := same_new (o := HO.tup [u, w, z]) (h1.same.free hp)
      exact q _ (upd S1 p (.tup [u, w, z])) _ (s1.trans s2) (h1.new hp) ⟨p, u, w, z, rfl, upd_same, R.mono s2 r1, R2.mono s2 r2, R3.mono s2 r3⟩
theorem z_tup4 {es : List Expr} {m : M τ (α × β × γ × δ)} {R : Rel α} {R2 : Rel β} {R3 : Rel γ} {R4 : Rel δ} {k} {pos : Pos} (h : ZA G c E W Γ es m (fun x => [R.pr x.1, R2.pr x.2.1, R3.pr x.2.2.1, R4.pr x.2.2.2])) : ZE G c E W Γ (.Tuple es k pos) m (rT4 R R2 R3 R4) := fun X C => pe_wk (pe_tup (h X C)) fun σ H Q _ ⟨B, S, b, hh, q⟩ => by
  refine ⟨B, S, b, hh, ?_⟩
  cases e : m b with
  | exc x b1 => rw [e] at q; exact q
  | stuck => rw [e] at q; exact q.elim
  | ok a b1 =>
    rw [e] at q
    intro vs S1 H1 s1 h1 r1
    match vs, r1 with
    | [u, w, z, y], ⟨r1, r2, r3, r4, _⟩ =>
      refine ⟨line4 (by simp), fun p hp => ?_⟩
      have s2 := same_new (o := HO.tup [u, w, z, y]) (h1.same.free hp)
      exact q _ (upd S1 p (.tup [u, w, z, y])) _ (s1.trans s2) (h1.new hp) ⟨p, u, w, z, y, rfl, upd_same, R.mono s2 r1, R2.mono s2 r2, R3.mono s2 r3, R4.mono s2 r4⟩

/-! ### calls of what is built in -/
def zapp (f : α → M τ γ) (m : M τ α) : M τ γ := bnd m f
structure Blt (G : Gx) (c : Sc) (x : Str) (u : Value) : Prop where
  g : Gb c x
  m : G.mg x = none
  v : bootBuiltins x = some u
  n : x ≠ "__name__"
  d : (x == ("__debug__" : Str)) = false
theorem z_callB {x : Str} {id : String} {e : Expr} {es : List Expr} {r : List V → Hp → VK → Prop} {A : α → List Pr} {f : α → M τ γ} {R : Rel γ} {m : M τ α} {p pos : Pos} (bl : Blt G c x (.builtin id)) (hc : ∀ X, CtxOk G c W X → CallR X (.builtin id) r) (h : OpA G E W Γ r A f R)
    (ha : ZA G c E W Γ (e :: es) m A) (he : Star e es := by intro _; rfl) (hpl : ∀ env : PySem.Env, (backTo pos (starEach es env)).any (·.1) = false := by intro _; rfl) : ZE G c E W Γ (.Call (.Name x p) (e :: es) [] pos) (zapp f m) R := fun X C =>
  pe_wk (pe_callB (hc X C) (C.gl bl.g) (by rw [C.mg]; exact bl.m) bl.v (ha X C) bl.n bl.d (he X.env) (hpl X.env)) fun σ H Q _ ⟨B, S, b, hh, q⟩ =>
    tz_Abnd hh q fun x b1 vs S1 H1 s1 h1 r1 q1 => h B σ S1 H1 b1 x vs Q h1 r1 q1
theorem z_callTy {x : Str} {T : String} {e : Expr} {es : List Expr} {r : List V → Hp → VK → Prop} {A : α → List Pr} {f : α → M τ γ} {R : Rel γ} {m : M τ α} {p pos : Pos} (bl : Blt G c x (.type T)) (hc : ∀ X, CtxOk G c W X → CallR X (.type T) r) (h : OpA G E W Γ r A f R)
    (ha : ZA G c E W Γ (e :: es) m A) (he : Star e es := by intro _; rfl) (hpl : ∀ env : PySem.Env, (backTo pos (starEach es env)).any (·.1) = false := by intro _; rfl) : ZE G c E W Γ (.Call (.Name x p) (e :: es) [] pos) (zapp f m) R := fun X C =>
  pe_wk (pe_callTy (hc X C) (C.gl bl.g) (by rw [C.mg]; exact bl.m) bl.v (ha X C) bl.n bl.d (he X.env) (hpl X.env)) fun σ H Q _ ⟨B, S, b, hh, q⟩ =>
    tz_Abnd hh q fun x b1 vs S1 H1 s1 h1 r1 q1 => h B σ S1 H1 b1 x vs Q h1 r1 q1
end
end Zk

namespace Zk
open PySem L2

section
variable {τ α β γ δ : Type} {G : Gx} {c : Sc} {E : Eff τ} {W : WX} {Γ : Env} {B : Bs} {σ : St} {S S1 H : Hp} {b : τ}
/-! ### data at any depth -/
structure DatR (R : Rel α) where
  d : α → PyData
  n : Nat
  dep : ∀ x, (d x).depth ≤ n
  dp : ∀ {K : PySem.W.Frag} {x : α} {S H : Hp} {v : V}, Same S H → R.is x S v → Dp K H v (d x)
  eq : ∀ x y, PyData.eqv (d x) (d y) = true ↔ x = y
def datI : DatR rInt := ⟨.int, 0, fun _ => by simp [PyData.depth], fun _ h => by cases h; exact .int _, fun x y => by simp [PyData.eqv]⟩
def datB : DatR rBl := ⟨.bool, 0, fun _ => by simp [PyData.depth], fun _ h => by cases h; exact .bl _, fun x y => by simp [PyData.eqv]⟩
def datS : DatR rStr := ⟨.str, 0, fun _ => by simp [PyData.depth], fun _ h => by cases h; exact .str _, fun x y => by simp [PyData.eqv]⟩
theorem dpAll {R : Rel α} (D : DatR R) {K : PySem.W.Frag} {S H : Hp} (s : Same S H) : ∀ {xs : List α} {vs : List V}, All2 (fun x v => R.is x S v) xs vs → DpAll K H vs (xs.map D.d)
  | [], [], _ => .nil
  | _ :: _, _ :: _, ⟨a, b⟩ => .cons (D.dp s a) (dpAll D s b)
  | [], _ :: _, h => h.elim
  | _ :: _, [], h => h.elim
theorem depAll {R : Rel α} (D : DatR R) : ∀ xs : List α, PyData.depthAll (xs.map D.d) ≤ D.n
  | [] => by simp [PyData.depthAll]
  | x :: xs => by
    have := depAll D xs
    have := D.dep x
    simp only [List.map_cons, PyData.depthAll]; omega
theorem eqAll {R : Rel α} (D : DatR R) : ∀ xs ys : List α, PyData.eqvAll (xs.map D.d) (ys.map D.d) = true ↔ xs = ys
  | [], [] => by simp [PyData.eqvAll]
  | [], _ :: _ => by simp [PyData.eqvAll]
  | _ :: _, [] => by simp [PyData.eqvAll]
  | x :: xs, y :: ys => by simp [PyData.eqvAll, D.eq, eqAll D xs ys]
def datL {R : Rel α} (D : DatR R) : DatR (rLst R) := ⟨fun xs => .list (xs.map D.d), D.n + 1, fun xs => by have := depAll D xs; simp only [PyData.depth]; omega, fun s ⟨a, vs, e, h, q⟩ => by cases e; exact .lst (.of (s _ _ h)) (dpAll D s q), fun x y => by simp [PyData.eqv, eqAll D]⟩
def datV {R : Rel α} (D : DatR R) : DatR (rVT R) := ⟨fun xs => .tuple (xs.map D.d), D.n + 1, fun xs => by have := depAll D xs; simp only [PyData.depth]; omega, fun s ⟨a, vs, e, h, q⟩ => by cases e; exact .tup (.of (s _ _ h)) (dpAll D s q), fun x y => by simp [PyData.eqv, eqAll D]⟩
def dat2 {R : Rel α} {R2 : Rel β} (D : DatR R) (D2 : DatR R2) : DatR (rT2 R R2) := ⟨fun x => .tuple [D.d x.1, D2.d x.2], max D.n D2.n + 1, fun x => by have := D.dep x.1; have := D2.dep x.2; simp only [PyData.depth, PyData.depthAll]; omega,
  fun s ⟨a, u, w, e, h, q, q2⟩ => by cases e; exact .tup (.of (s _ _ h)) (.cons (D.dp s q) (.cons (D2.dp s q2) .nil)), fun x y => by simp [PyData.eqv, PyData.eqvAll, D.eq, D2.eq, Prod.ext_iff]⟩
def dat3 {R : Rel α} {R2 : Rel β} {R3 : Rel γ} (D : DatR R) (D2 : DatR R2) (D3 : DatR R3) : DatR (rT3 R R2 R3) := ⟨fun x => .tuple [D.d x.1, D2.d x.2.1, D3.d x.2.2], max D.n (max D2.n D3.n) + 1, fun x => by have := D.dep x.1; have := D2.dep x.2.1; have := D3.dep x.2.2; simp only [PyData.depth, PyData.depthAll]; omega,
  fun s ⟨a, u, w, z, e, h, q, q2, q3⟩ => by cases e; exact .tup (.of (s _ _ h)) (.cons (D.dp s q) (.cons (D2.dp s q2) (.cons (D3.dp s q3) .nil))), fun x y => by simp [PyData.eqv, PyData.eqvAll, D.eq, D2.eq, D3.eq, Prod.ext_iff]⟩
def deqOk {R : Rel α} (D : DatR R) (x y : α) : Prop := (D.d x).canLay0 = true ∧ (D.d y).canLay0 = true ∧ D.n ≤ 64
instance {R : Rel α} {D : DatR R} {x y : α} : Decidable (deqOk D x y) := inferInstanceAs (Decidable (_ ∧ _ ∧ _))
def deq {R : Rel α} (D : DatR R) [DecidableEq α] (x y : α) : M τ Bool := chk (deqOk D x y) (ret (decide (x = y)))
def dne {R : Rel α} (D : DatR R) [DecidableEq α] (x y : α) : M τ Bool := chk (deqOk D x y) (ret (!decide (x = y)))
theorem deq_sh {R : Rel α} {D : DatR R} {x : α} (h : (D.d x).canLay0 = true) (n : D.n ≤ 64) : SeqAt.shaped (D.d x) = true := by
  unfold SeqAt.shaped
  have := D.dep x
  simp only [h, Bool.true_and, decide_eq_true_eq]; omega
theorem deq_ev {R : Rel α} {D : DatR R} [DecidableEq α] (x y : α) : PyData.eqv (D.d x) (D.d y) = decide (x = y) := by
  by_cases e : x = y
  · rw [decide_eq_true e]; exact (D.eq x y).mpr e
  · rw [decide_eq_false e]
    cases q : PyData.eqv (D.d x) (D.d y) with
    | false => rfl
    | true => exact absurd ((D.eq x y).mp q) e
theorem op_deq {R : Rel α} {D : DatR R} [DecidableEq α] : Op2 G E W Γ (rEqD G.K) R R (deq D) rBl := fun B σ S H b x y v w Q hh hx hy q => by
  obtain ⟨⟨h1, h2, h3⟩, q⟩ := aft_chk q
  exact ⟨_, _, D.dp hh.same hx, D.dp hh.same hy, deq_sh h1 h3, deq_sh h2 h3, by rw [deq_ev]; exact aft_ret hh q rfl⟩
theorem op_dne {R : Rel α} {D : DatR R} [DecidableEq α] : Op2 G E W Γ (rNeD G.K) R R (dne D) rBl := fun B σ S H b x y v w Q hh hx hy q => by
  obtain ⟨⟨h1, h2, h3⟩, q⟩ := aft_chk q
  exact ⟨_, _, D.dp hh.same hx, D.dp hh.same hy, deq_sh h1 h3, deq_sh h2 h3, by rw [deq_ev]; exact aft_ret hh q rfl⟩
section
variable {ea eb : Expr} {pos : Pos}
theorem z_deq {R : Rel α} (D : DatR R) [DecidableEq α] {ma mb : M τ α} (ha : ZE G c E W Γ ea ma R) (hb : ZE G c E W Γ eb mb R) : ZE G c E W Γ (.Compare ea [.Eq] [eb] pos) (zop2 (deq D) ma mb) rBl := z_cmp (fun X C => by rw [← C.K]; exact op_eqD C.room.units) op_deq ha hb (nomark _)
theorem z_dne {R : Rel α} (D : DatR R) [DecidableEq α] {ma mb : M τ α} (ha : ZE G c E W Γ ea ma R) (hb : ZE G c E W Γ eb mb R) : ZE G c E W Γ (.Compare ea [.NotEq] [eb] pos) (zop2 (dne D) ma mb) rBl := z_cmp (fun X C => by rw [← C.K]; exact op_neD C.room.units) op_dne ha hb (nomark _)
theorem zt_deq {R : Rel α} (D : DatR R) [DecidableEq α] {ma mb : M τ α} (ha : ZE G c E W Γ ea ma R) (hb : ZE G c E W Γ eb mb R) : ZT G c E W Γ (.Compare ea [.Eq] [eb] pos) (zop2 (deq D) ma mb) := zt_cmp (fun X C => by rw [← C.K]; exact op_eqD C.room.units) op_deq ha hb (nomark _)
theorem zt_dne {R : Rel α} (D : DatR R) [DecidableEq α] {ma mb : M τ α} (ha : ZE G c E W Γ ea ma R) (hb : ZE G c E W Γ eb mb R) : ZT G c E W Γ (.Compare ea [.NotEq] [eb] pos) (zop2 (dne D) ma mb) := zt_cmp (fun X C => by rw [← C.K]; exact op_neD C.room.units) op_dne ha hb (nomark _)
/-! scalars: no condition -/
structure ScalR (R : Rel α) (f : α → V) : Prop where
  is : ∀ {x : α} {S : Hp} {v : V}, R.is x S v → v = f x
  sc : ∀ x y, scal (f x) (f y) = true
  inj : ∀ x y, f x = f y ↔ x = y
theorem scI : ScalR rInt V.int := ⟨fun h => h, fun _ _ => rfl, fun x y => by simp⟩
theorem scB : ScalR rBl V.bl := ⟨fun h => h, fun _ _ => rfl, fun x y => by simp⟩
theorem scS : ScalR rStr V.str := ⟨fun h => h, fun _ _ => rfl, fun x y => by simp⟩
theorem op_seq {R : Rel α} {f : α → V} (D : ScalR R f) [DecidableEq α] : Op2 G E W Γ rEq R R feq rBl := fun B σ S H b x y v w Q hh hx hy q => by
  refine ⟨by rw [D.is hx, D.is hy]; exact D.sc x y, ?_⟩
  have e : decide (v = w) = decide (x = y) := by rw [D.is hx, D.is hy]; exact decide_eq_decide.mpr (D.inj x y)
  rw [e]; exact aft_ret hh q rfl
theorem op_sne {R : Rel α} {f : α → V} (D : ScalR R f) [DecidableEq α] : Op2 G E W Γ rNe R R fne rBl := fun B σ S H b x y v w Q hh hx hy q => by
  refine ⟨by rw [D.is hx, D.is hy]; exact D.sc x y, ?_⟩
  have e : decide (v = w) = decide (x = y) := by rw [D.is hx, D.is hy]; exact decide_eq_decide.mpr (D.inj x y)
  rw [e]; exact aft_ret hh q rfl
theorem z_eq {R : Rel α} {f : α → V} (D : ScalR R f) [DecidableEq α] {ma mb : M τ α} (ha : ZE G c E W Γ ea ma R) (hb : ZE G c E W Γ eb mb R) : ZE G c E W Γ (.Compare ea [.Eq] [eb] pos) (zop2 feq ma mb) rBl := z_cmp (fun X C => op_eq) (op_seq D) ha hb (nomark _)
theorem z_ne {R : Rel α} {f : α → V} (D : ScalR R f) [DecidableEq α] {ma mb : M τ α} (ha : ZE G c E W Γ ea ma R) (hb : ZE G c E W Γ eb mb R) : ZE G c E W Γ (.Compare ea [.NotEq] [eb] pos) (zop2 fne ma mb) rBl := z_cmp (fun X C => op_ne) (op_sne D) ha hb (nomark _)
theorem zt_eq {R : Rel α} {f : α → V} (D : ScalR R f) [DecidableEq α] {ma mb : M τ α} (ha : ZE G c E W Γ ea ma R) (hb : ZE G c E W Γ eb mb R) : ZT G c E W Γ (.Compare ea [.Eq] [eb] pos) (zop2 feq ma mb) := zt_cmp (fun X C => op_eq) (op_seq D) ha hb (nomark _)
theorem zt_ne {R : Rel α} {f : α → V} (D : ScalR R f) [DecidableEq α] {ma mb : M τ α} (ha : ZE G c E W Γ ea ma R) (hb : ZE G c E W Γ eb mb R) : ZT G c E W Γ (.Compare ea [.NotEq] [eb] pos) (zop2 fne ma mb) := zt_cmp (fun X C => op_ne) (op_sne D) ha hb (nomark _)
end

/-! ### items -/
def ixat (xs : List α) (i : Int) : M τ α := match atI xs i with | some v => ret v | none => stk
theorem All2.atI {r : α → V → Prop} {xs : List α} {vs : List V} {i : Int} {x : α} (h : All2 r xs vs) (e : L2.atI xs i = some x) : ∃ v, L2.atI vs i = some v ∧ r x v := by
  unfold L2.atI at e ⊢
  rw [← h.length]
  cases q : ixN xs.length i with
  | none => rw [q] at e; cases e
  | some j => rw [q] at e; exact h.get e
theorem op_ixL {R : Rel α} : Op2 G E W Γ (rIxL G.K) (rLst R) rInt ixat R := fun B σ S H b xs i v w Q hh ⟨a, vs, e1, e2, e3⟩ e4 q => by
  unfold ixat at q
  cases z : atI xs i with
  | none => rw [z] at q; exact q.elim
  | some x =>
    rw [z] at q
    obtain ⟨u, h1, h2⟩ := e3.atI z
    exact ⟨a, vs, i, u, e1, e4, .of (hh.same _ _ e2), h1, aft_ret hh q h2⟩
theorem op_ixV {R : Rel α} : Op2 G E W Γ (rIxT G.K) (rVT R) rInt ixat R := fun B σ S H b xs i v w Q hh ⟨a, vs, e1, e2, e3⟩ e4 q => by
  unfold ixat at q
  cases z : atI xs i with
  | none => rw [z] at q; exact q.elim
  | some x =>
    rw [z] at q
    obtain ⟨u, h1, h2⟩ := e3.atI z
    exact ⟨a, vs, i, u, e1, e4, .of (hh.same _ _ e2), h1, aft_ret hh q h2⟩
abbrev PIx (e : Expr) : Prop := ∀ o i, subscripted e false o i = operate [o, i] (getItem o i)
theorem z_ixL {ea eb : Expr} {pos : Pos} {R : Rel α} {ma : M τ (List α)} {mb : M τ Int} (ha : ZE G c E W Γ ea ma (rLst R)) (hb : ZE G c E W Γ eb mb rInt) (hs : PIx eb := by intro _ _; rfl) : ZE G c E W Γ (.Subscript ea eb pos) (zop2 ixat ma mb) R := fun X C =>
  pe_wk (pe_ix ix_list (ha X C) (hb X C) hs) fun _ _ _ _ q => by rw [C.K]; exact tz_op2 op_ixL q
theorem z_ixV {ea eb : Expr} {pos : Pos} {R : Rel α} {ma : M τ (List α)} {mb : M τ Int} (ha : ZE G c E W Γ ea ma (rVT R)) (hb : ZE G c E W Γ eb mb rInt) (hs : PIx eb := by intro _ _; rfl) : ZE G c E W Γ (.Subscript ea eb pos) (zop2 ixat ma mb) R := fun X C =>
  pe_wk (pe_ix ix_tup (ha X C) (hb X C) hs) fun _ _ _ _ q => by rw [C.K]; exact tz_op2 op_ixV q
/-- a written place of a tuple of things of several kinds -/
structure TupAt (R : Rel α) (k : Int) (f : α → β) (R2 : Rel β) : Prop where
  h : ∀ {x : α} {S : Hp} {v : V}, R.is x S v → ∃ a vs u, v = .ref a ∧ S a = some (.tup vs) ∧ atI vs k = some u ∧ R2.is (f x) S u
theorem t2_0 {R : Rel α} {R2 : Rel β} : TupAt (rT2 R R2) 0 Prod.fst R := ⟨fun ⟨a, u, w, e, h, q, q2⟩ => ⟨a, _, u, e, h, rfl, q⟩⟩
theorem t2_1 {R : Rel α} {R2 : Rel β} : TupAt (rT2 R R2) 1 Prod.snd R2 := ⟨fun ⟨a, u, w, e, h, q, q2⟩ => ⟨a, _, w, e, h, rfl, q2⟩⟩
theorem t3_0 {R : Rel α} {R2 : Rel β} {R3 : Rel γ} : TupAt (rT3 R R2 R3) 0 Prod.fst R := ⟨fun ⟨a, u, w, z, e, h, q, q2, q3⟩ => ⟨a, _, u, e, h, rfl, q⟩⟩
theorem t3_1 {R : Rel α} {R2 : Rel β} {R3 : Rel γ} : TupAt (rT3 R R2 R3) 1 (fun x => x.2.1) R2 := ⟨fun ⟨a, u, w, z, e, h, q, q2, q3⟩ => ⟨a, _, w, e, h, rfl, q2⟩⟩
theorem t3_2 {R : Rel α} {R2 : Rel β} {R3 : Rel γ} : TupAt (rT3 R R2 R3) 2 (fun x => x.2.2) R3 := ⟨fun ⟨a, u, w, z, e, h, q, q2, q3⟩ => ⟨a, _, z, e, h, rfl, q3⟩⟩
theorem t4_0 {R : Rel α} {R2 : Rel β} {R3 : Rel γ} {R4 : Rel δ} : TupAt (rT4 R R2 R3 R4) 0 Prod.fst R := ⟨fun ⟨a, u, w, z, y, e, h, q, q2, q3, q4⟩ => ⟨a, _, u, e, h, rfl, q⟩⟩
theorem t4_1 {R : Rel α} {R2 : Rel β} {R3 : Rel γ} {R4 : Rel δ} : TupAt (rT4 R R2 R3 R4) 1 (fun x => x.2.1) R2 := ⟨fun ⟨a, u, w, z, y, e, h, q, q2, q3, q4⟩ => ⟨a, _, w, e, h, rfl, q2⟩⟩
theorem t4_2 {R : Rel α} {R2 : Rel β} {R3 : Rel γ} {R4 : Rel δ} : TupAt (rT4 R R2 R3 R4) 2 (fun x => x.2.2.1) R3 := ⟨fun ⟨a, u, w, z, y, e, h, q, q2, q3, q4⟩ => ⟨a, _, z, e, h, rfl, q3⟩⟩
theorem t4_3 {R : Rel α} {R2 : Rel β} {R3 : Rel γ} {R4 : Rel δ} : TupAt (rT4 R R2 R3 R4) 3 (fun x => x.2.2.2) R4 := ⟨fun ⟨a, u, w, z, y, e, h, q, q2, q3, q4⟩ => ⟨a, _, y, e, h, rfl, q4⟩⟩
def zget (f : α → β) (m : M τ α) : M τ β := bnd m fun x => ret (f x)
theorem z_at {ea : Expr} {j : Nat} {pos p2 : Pos} {R : Rel α} {R2 : Rel β} {k : Int} {f : α → β} {ma : M τ α} (t : TupAt R k f R2) (ha : ZE G c E W Γ ea ma R) (hs : PIx (.Constant (.int k) j p2) := by intro _ _; rfl) : ZE G c E W Γ (.Subscript ea (.Constant (.int k) j p2) pos) (zget f ma) R2 := fun X C =>
  pe_wk (pe_ix ix_tup (ha X C) pe_int hs) fun σ H Q _ ⟨B, S, b, hh, q⟩ => by
    refine tz_bnd hh q fun x b1 v S1 H1 s1 h1 r1 q1 => ?_
    obtain ⟨a, vs, u, e1, e2, e3, e4⟩ := t.h r1
    exact ⟨a, vs, k, u, e1, rfl, .of (h1.same _ _ e2), e3, aft_ret h1 q1 e4⟩

/-! ### built-in functions -/
theorem opA1 {r : List V → Hp → VK → Prop} {R : Rel α} {f : α → M τ γ} {R' : Rel γ} (h : Op1 G E W Γ (fun v H Q => r [v] H Q) R f R') : OpA G E W Γ r (fun x => [R.pr x]) f R' := fun B σ S H b x vs Q hh hv q => by
  match vs, hv with
  | [v], ⟨h1, _⟩ => exact h B σ S H b x v Q hh h1 q
theorem opA2 {r : List V → Hp → VK → Prop} {R : Rel α} {R2 : Rel β} {f : α → β → M τ γ} {R' : Rel γ} (h : Op2 G E W Γ (fun v w H Q => r [v, w] H Q) R R2 f R') : OpA G E W Γ r (fun x : α × β => [R.pr x.1, R2.pr x.2]) (fun x => f x.1 x.2) R' := fun B σ S H b x vs Q hh hv q => by
  match vs, hv with
  | [v, w], ⟨h1, h2, _⟩ => exact h B σ S H b x.1 x.2 v w Q hh h1 h2 q
section
variable {e e2 : Expr} {p pos : Pos} {x : Str}
abbrev Plain1 (es : List Expr) : Prop := ∀ (pos : Pos) (env : PySem.Env), (backTo pos (starEach es env)).any (·.1) = false
theorem z_b1 {id : String} {r : List V → Hp → VK → Prop} {R : Rel α} {f : α → M τ γ} {R' : Rel γ} {m : M τ α} (bl : Blt G c x (.builtin id)) (hc : ∀ X, CtxOk G c W X → CallR X (.builtin id) r) (h : Op1 G E W Γ (fun v H Q => r [v] H Q) R f R')
    (ha : ZE G c E W Γ e m R) (hs : Star e [] := by intro _; rfl) : ZE G c E W Γ (.Call (.Name x p) [e] [] pos) (zapp f m) R' := z_callB bl hc (opA1 h) (za_one ha hs) hs (fun _ => rfl)
theorem z_ty1 {T : String} {r : List V → Hp → VK → Prop} {R : Rel α} {f : α → M τ γ} {R' : Rel γ} {m : M τ α} (bl : Blt G c x (.type T)) (hc : ∀ X, CtxOk G c W X → CallR X (.type T) r) (h : Op1 G E W Γ (fun v H Q => r [v] H Q) R f R')
    (ha : ZE G c E W Γ e m R) (hs : Star e [] := by intro _; rfl) : ZE G c E W Γ (.Call (.Name x p) [e] [] pos) (zapp f m) R' := z_callTy bl hc (opA1 h) (za_one ha hs) hs (fun _ => rfl)
theorem z_b2 {id : String} {r : List V → Hp → VK → Prop} {R : Rel α} {R2 : Rel β} {f : α → β → M τ γ} {R' : Rel γ} {m : M τ α} {n : M τ β} (bl : Blt G c x (.builtin id)) (hc : ∀ X, CtxOk G c W X → CallR X (.builtin id) r) (h : Op2 G E W Γ (fun v w H Q => r [v, w] H Q) R R2 f R')
    (ha : ZE G c E W Γ e m R) (hb : ZE G c E W Γ e2 n R2) (hs : Star e [e2] := by intro _; rfl) (hs2 : Star e2 [] := by intro _; rfl) (hpl : Plain1 [e2] := by intro _ _; rfl) : ZE G c E W Γ (.Call (.Name x p) [e, e2] [] pos) (zapp (fun x : α × β => f x.1 x.2) (zpair m n)) R' := z_callB bl hc (opA2 h) (za_cons ha (za_one hb hs2) hs) hs (hpl pos)
def flen (xs : List α) : M τ Int := ret (xs.length : Int)
theorem z_lenL {R : Rel α} {m : M τ (List α)} (bl : Blt G c x (.builtin "len")) (ha : ZE G c E W Γ e m (rLst R)) (hs : Star e [] := by intro _; rfl) : ZE G c E W Γ (.Call (.Name x p) [e] [] pos) (zapp flen m) rInt :=
  z_b1 bl (R := rLst R) (r := fun xs H Q => ∃ p ys, xs = [.ref p] ∧ (SqL G.K H p ys ∨ SqT G.K H p ys) ∧ Q (.int ys.length) H) (fun X C => by rw [← C.K]; exact call_len_seq) (fun B σ S H b x v Q hh ⟨a, vs, e1, e2, e3⟩ q => ⟨a, vs, by rw [e1], .inl (.of (hh.same _ _ e2)), by rw [← e3.length]; exact aft_ret hh q rfl⟩) ha hs
theorem z_lenV {R : Rel α} {m : M τ (List α)} (bl : Blt G c x (.builtin "len")) (ha : ZE G c E W Γ e m (rVT R)) (hs : Star e [] := by intro _; rfl) : ZE G c E W Γ (.Call (.Name x p) [e] [] pos) (zapp flen m) rInt :=
  z_b1 bl (R := rVT R) (r := fun xs H Q => ∃ p ys, xs = [.ref p] ∧ (SqL G.K H p ys ∨ SqT G.K H p ys) ∧ Q (.int ys.length) H) (fun X C => by rw [← C.K]; exact call_len_seq) (fun B σ S H b x v Q hh ⟨a, vs, e1, e2, e3⟩ q => ⟨a, vs, by rw [e1], .inr (.of (hh.same _ _ e2)), by rw [← e3.length]; exact aft_ret hh q rfl⟩) ha hs
def flenS (x : Str) : M τ Int := chk (x.length ≤ sizeLine) (ret (x.length : Int))
theorem z_lenS {m : M τ Str} (bl : Blt G c x (.builtin "len")) (ha : ZE G c E W Γ e m rStr) (hs : Star e [] := by intro _; rfl) : ZE G c E W Γ (.Call (.Name x p) [e] [] pos) (zapp flenS m) rInt :=
  z_b1 bl (r := fun xs H Q => ∃ z, xs = [.str z] ∧ z.length ≤ sizeLine ∧ Q (.int z.length) H) (fun X C => call_len_str) (fun B σ S H b x v Q hh h q => by
    obtain ⟨hl, q⟩ := aft_chk q
    cases h; exact ⟨x, rfl, hl, aft_ret hh q rfl⟩) ha hs
def fsum (xs : List Int) : M τ Int := ret xs.sum
theorem lst_ints {xs : List Int} {S H : Hp} {v : V} {K : PySem.W.Frag} (s : Same S H) (h : (rLst rInt).is xs S v) : ∃ a, v = .ref a ∧ SqL K H a (xs.map V.int) := by
  obtain ⟨a, vs, e1, e2, e3⟩ := h
  have := All2.ints e3
  subst this
  exact ⟨a, e1, .of (s _ _ e2)⟩
theorem z_sum {m : M τ (List Int)} (bl : Blt G c x (.builtin "sum")) (ha : ZE G c E W Γ e m (rLst rInt)) (hs : Star e [] := by intro _; rfl) : ZE G c E W Γ (.Call (.Name x p) [e] [] pos) (zapp fsum m) rInt :=
  z_b1 bl (r := rSum G.K) (fun X C => by rw [← C.K]; exact cr_sum C.calm) (fun B σ S H b x v Q hh h q => by
    obtain ⟨a, e1, e2⟩ := lst_ints (K := G.K) hh.same h
    exact ⟨a, x, by rw [e1], e2, aft_ret hh q rfl⟩) ha hs
def fmaxL (xs : List Int) : M τ Int := match xs with | [] => stk | x :: r => ret (r.foldl max x)
def fminL (xs : List Int) : M τ Int := match xs with | [] => stk | x :: r => ret (r.foldl min x)
theorem foldl_max_mem : ∀ (r : List Int) (x : Int), r.foldl max x ∈ x :: r
  | [], x => by simp
  | y :: r, x => by
    have := foldl_max_mem r (max x y)
    rw [List.foldl_cons]
    rcases List.mem_cons.mp this with h | h
    · rw [h]
      rcases Int.le_total x y with q | q
      · rw [Int.max_eq_right q]; simp
      · rw [Int.max_eq_left q]; simp
    · exact List.mem_cons_of_mem _ (List.mem_cons_of_mem _ h)
theorem foldl_max_ge : ∀ (r : List Int) (x : Int), ∀ y ∈ x :: r, y ≤ r.foldl max x
  | [], x, y, h => by simp at h; simp [h]
  | z :: r, x, y, h => by
    rw [List.foldl_cons]
    have m := foldl_max_ge r (max x z)
    have m0 := m (max x z) (by simp)
    rcases List.mem_cons.mp h with h | h
    · subst h; exact Int.le_trans (Int.le_max_left _ _) m0
    · rcases List.mem_cons.mp h with h | h
      · subst h; exact Int.le_trans (Int.le_max_right _ _) m0
      · exact m y (by simp [h])
theorem foldl_min_mem : ∀ (r : List Int) (x : Int), r.foldl min x ∈ x :: r
  | [], x => by simp
  | y :: r, x => by
    have := foldl_min_mem r (min x y)
    rw [List.foldl_cons]
    rcases List.mem_cons.mp this with h | h
    · rw [h]
      rcases Int.le_total x y with q | q
      · rw [Int.min_eq_left q]; simp
      · rw [Int.min_eq_right q]; simp
    · exact List.mem_cons_of_mem _ (List.mem_cons_of_mem _ h)
theorem foldl_min_le : ∀ (r : List Int) (x : Int), ∀ y ∈ x :: r, r.foldl min x ≤ y
  | [], x, y, h => by simp at h; simp [h]
  | z :: r, x, y, h => by
    rw [List.foldl_cons]
    have m := foldl_min_le r (min x z)
    have m0 := m (min x z) (by simp)
    rcases List.mem_cons.mp h with h | h
    · subst h; exact Int.le_trans m0 (Int.min_le_left _ _)
    · rcases List.mem_cons.mp h with h | h
      · subst h; exact Int.le_trans m0 (Int.min_le_right _ _)
      · exact m y (by simp [h])
theorem z_maxL {m : M τ (List Int)} (bl : Blt G c x (.builtin "max")) (ha : ZE G c E W Γ e m (rLst rInt)) (hs : Star e [] := by intro _; rfl) : ZE G c E W Γ (.Call (.Name x p) [e] [] pos) (zapp fmaxL m) rInt :=
  z_b1 bl (r := rMax G.K) (fun X C => by rw [← C.K]; exact cr_max C.calm) (fun B σ S H b x v Q hh h q => by
    obtain ⟨a, e1, e2⟩ := lst_ints (K := G.K) hh.same h
    match x, q, e2 with
    | [], q, _ => exact q.elim
    | y :: r, q, e2 => exact ⟨a, y :: r, by rw [e1], e2, by simp, fun m hm hmx => by
        have : m = r.foldl max y := Int.le_antisymm (foldl_max_ge r y m hm) (hmx _ (foldl_max_mem r y))
        rw [this]; exact aft_ret hh q rfl⟩) ha hs
theorem z_minL {m : M τ (List Int)} (bl : Blt G c x (.builtin "min")) (ha : ZE G c E W Γ e m (rLst rInt)) (hs : Star e [] := by intro _; rfl) : ZE G c E W Γ (.Call (.Name x p) [e] [] pos) (zapp fminL m) rInt :=
  z_b1 bl (r := rMin G.K) (fun X C => by rw [← C.K]; exact cr_min C.calm) (fun B σ S H b x v Q hh h q => by
    obtain ⟨a, e1, e2⟩ := lst_ints (K := G.K) hh.same h
    match x, q, e2 with
    | [], q, _ => exact q.elim
    | y :: r, q, e2 => exact ⟨a, y :: r, by rw [e1], e2, by simp, fun m hm hmx => by
        have : m = r.foldl min y := Int.le_antisymm (hmx _ (foldl_min_mem r y)) (foldl_min_le r y m hm)
        rw [this]; exact aft_ret hh q rfl⟩) ha hs
def fmax2 (x y : Int) : M τ Int := ret (if y > x then y else x)
def fmin2 (x y : Int) : M τ Int := ret (if y < x then y else x)
theorem z_max2 {m n : M τ Int} (bl : Blt G c x (.builtin "max")) (ha : ZE G c E W Γ e m rInt) (hb : ZE G c E W Γ e2 n rInt) (hs : Star e [e2] := by intro _; rfl) (hs2 : Star e2 [] := by intro _; rfl) (hpl : Plain1 [e2] := by intro _ _; rfl) : ZE G c E W Γ (.Call (.Name x p) [e, e2] [] pos) (zapp (fun x : Int × Int => fmax2 x.1 x.2) (zpair m n)) rInt :=
  z_b2 bl (fun X C => call_max2 C.calm) (fun B σ S H b x y v w Q hh hx hy q => ⟨x, y, by rw [hx, hy], aft_ret hh q rfl⟩) ha hb hs hs2 hpl
theorem z_min2 {m n : M τ Int} (bl : Blt G c x (.builtin "min")) (ha : ZE G c E W Γ e m rInt) (hb : ZE G c E W Γ e2 n rInt) (hs : Star e [e2] := by intro _; rfl) (hs2 : Star e2 [] := by intro _; rfl) (hpl : Plain1 [e2] := by intro _ _; rfl) : ZE G c E W Γ (.Call (.Name x p) [e, e2] [] pos) (zapp (fun x : Int × Int => fmin2 x.1 x.2) (zpair m n)) rInt :=
  z_b2 bl (fun X C => call_min2 C.calm) (fun B σ S H b x y v w Q hh hx hy q => ⟨x, y, by rw [hx, hy], aft_ret hh q rfl⟩) ha hb hs hs2 hpl
def fabs (x : Int) : M τ Int := ret (if x < 0 then -x else x)
theorem z_abs {m : M τ Int} (bl : Blt G c x (.builtin "abs")) (ha : ZE G c E W Γ e m rInt) (hs : Star e [] := by intro _; rfl) : ZE G c E W Γ (.Call (.Name x p) [e] [] pos) (zapp fabs m) rInt :=
  z_b1 bl (fun X C => call_abs) (fun B σ S H b x v Q hh hx q => ⟨x, by rw [hx], aft_ret hh q rfl⟩) ha hs
def fall (xs : List Bool) : M τ Bool := ret (xs.all id)
def fany (xs : List Bool) : M τ Bool := ret (xs.any id)
theorem lst_bls {xs : List Bool} {S H : Hp} {v : V} {K : PySem.W.Frag} (s : Same S H) (h : (rLst rBl).is xs S v) : ∃ a, v = .ref a ∧ SqL K H a (xs.map V.bl) := by
  obtain ⟨a, vs, e1, e2, e3⟩ := h
  have := All2.bls e3
  subst this
  exact ⟨a, e1, .of (s _ _ e2)⟩
theorem z_all {m : M τ (List Bool)} (bl : Blt G c x (.builtin "all")) (ha : ZE G c E W Γ e m (rLst rBl)) (hs : Star e [] := by intro _; rfl) : ZE G c E W Γ (.Call (.Name x p) [e] [] pos) (zapp fall m) rBl :=
  z_b1 bl (r := rAll G.K) (fun X C => by rw [← C.K]; exact cr_all C.calm) (fun B σ S H b x v Q hh h q => by
    obtain ⟨a, e1, e2⟩ := lst_bls hh.same h
    exact ⟨a, x, by rw [e1], e2, aft_ret hh q rfl⟩) ha hs
theorem z_any {m : M τ (List Bool)} (bl : Blt G c x (.builtin "any")) (ha : ZE G c E W Γ e m (rLst rBl)) (hs : Star e [] := by intro _; rfl) : ZE G c E W Γ (.Call (.Name x p) [e] [] pos) (zapp fany m) rBl :=
  z_b1 bl (r := rAny G.K) (fun X C => by rw [← C.K]; exact cr_any C.calm) (fun B σ S H b x v Q hh h q => by
    obtain ⟨a, e1, e2⟩ := lst_bls hh.same h
    exact ⟨a, x, by rw [e1], e2, aft_ret hh q rfl⟩) ha hs
theorem z_listL {R : Rel α} {m : M τ (List α)} (bl : Blt G c x (.type "list")) (ha : ZE G c E W Γ e m (rLst R)) (hs : Star e [] := by intro _; rfl) : ZE G c E W Γ (.Call (.Name x p) [e] [] pos) (zapp ret m) (rLst R) :=
  z_ty1 bl (R := rLst R) (r := fun xs H Q => ∃ p ys, xs = [.ref p] ∧ (SqL G.K H p ys ∨ SqT G.K H p ys) ∧ ∀ l, H l = none → Q (.ref l) (upd H l (.lst ys))) (fun X C => by rw [← C.K]; exact call_list_of) (fun B σ S H b x v Q hh ⟨a, vs, e1, e2, e3⟩ q => ⟨a, vs, by rw [e1], .inl (.of (hh.same _ _ e2)), fun l hl => aft_new hh q hl (rLst_new (hh.same.free hl) e3)⟩) ha hs
theorem z_listV {R : Rel α} {m : M τ (List α)} (bl : Blt G c x (.type "list")) (ha : ZE G c E W Γ e m (rVT R)) (hs : Star e [] := by intro _; rfl) : ZE G c E W Γ (.Call (.Name x p) [e] [] pos) (zapp ret m) (rLst R) :=
  z_ty1 bl (R := rVT R) (r := fun xs H Q => ∃ p ys, xs = [.ref p] ∧ (SqL G.K H p ys ∨ SqT G.K H p ys) ∧ ∀ l, H l = none → Q (.ref l) (upd H l (.lst ys))) (fun X C => by rw [← C.K]; exact call_list_of) (fun B σ S H b x v Q hh ⟨a, vs, e1, e2, e3⟩ q => ⟨a, vs, by rw [e1], .inr (.of (hh.same _ _ e2)), fun l hl => aft_new hh q hl (rLst_new (hh.same.free hl) e3)⟩) ha hs
theorem z_tupL {R : Rel α} {m : M τ (List α)} (bl : Blt G c x (.type "tuple")) (ha : ZE G c E W Γ e m (rLst R)) (hs : Star e [] := by intro _; rfl) : ZE G c E W Γ (.Call (.Name x p) [e] [] pos) (zapp ret m) (rVT R) :=
  z_ty1 bl (R := rLst R) (r := fun xs H Q => ∃ p ys, xs = [.ref p] ∧ ((SqL G.K H p ys ∧ ∀ l, H l = none → Q (.ref l) (upd H l (.tup ys))) ∨ (SqT G.K H p ys ∧ Q (.ref p) H))) (fun X C => by rw [← C.K]; exact call_tuple_of) (fun B σ S H b x v Q hh ⟨a, vs, e1, e2, e3⟩ q => ⟨a, vs, by rw [e1], .inl ⟨.of (hh.same _ _ e2), fun l hl => aft_new hh q hl (rVT_new (hh.same.free hl) e3)⟩⟩) ha hs
def fstr (x : Int) : M τ Str := chk (x.natAbs.log2 < 1920) (ret ((toString x : String) : Str))
theorem z_strI {m : M τ Int} (bl : Blt G c x (.type "str")) (ha : ZE G c E W Γ e m rInt) (hs : Star e [] := by intro _; rfl) : ZE G c E W Γ (.Call (.Name x p) [e] [] pos) (zapp fstr m) rStr :=
  z_ty1 bl (fun X C => call_str_int) (fun B σ S H b x v Q hh hx q => by
    obtain ⟨hl, q⟩ := aft_chk q
    exact ⟨x, by rw [hx], hl, aft_ret hh q rfl⟩) ha hs
def fdivmod (x y : Int) : M τ (Int × Int) := chk (0 < y ∧ y < 1073741824) (ret (x / y, x % y))
theorem z_divmod {m n : M τ Int} (bl : Blt G c x (.builtin "divmod")) (ha : ZE G c E W Γ e m rInt) (hb : ZE G c E W Γ e2 n rInt) (hs : Star e [e2] := by intro _; rfl) (hs2 : Star e2 [] := by intro _; rfl) (hpl : Plain1 [e2] := by intro _ _; rfl) :
    ZE G c E W Γ (.Call (.Name x p) [e, e2] [] pos) (zapp (fun x : Int × Int => fdivmod x.1 x.2) (zpair m n)) (rT2 rInt rInt) :=
  z_b2 bl (fun X C => call_divmod) (fun B σ S H b x y v w Q hh hx hy q => by
    obtain ⟨hl, q⟩ := aft_chk q
    exact ⟨x, y, by rw [hx, hy], hl, fun p hp => aft_new hh q hp ⟨p, _, _, rfl, upd_same, rfl, rfl⟩⟩) ha hb hs hs2 hpl
/-! isinstance, both answers known by the kind -/
structure IsT (G : Gx) (R : Rel α) (t : Value) : Prop where
  h : ∀ {x : α} {S H : Hp} {v : V}, Same S H → R.is x S v → TyX G.K H v t
theorem isI : IsT G rInt (.type "int") := ⟨fun _ h => by cases h; exact .base (.int _)⟩
theorem isB : IsT G rBl (.type "bool") := ⟨fun _ h => by cases h; exact .base (.bl _)⟩
theorem isS : IsT G rStr (.type "str") := ⟨fun _ h => by cases h; exact .base (.str _)⟩
theorem isN : IsT G rNon (.type "NoneType") := ⟨fun _ h => by cases h; exact .base .non⟩
theorem isL {R : Rel α} : IsT G (rLst R) (.type "list") := ⟨fun s ⟨a, vs, e, h, _⟩ => by cases e; exact .base (.lst (s _ _ h))⟩
theorem isV {R : Rel α} : IsT G (rVT R) (.type "tuple") := ⟨fun s ⟨a, vs, e, h, _⟩ => by cases e; exact .base (.tup (s _ _ h))⟩
theorem is2 {R : Rel α} {R2 : Rel β} : IsT G (rT2 R R2) (.type "tuple") := ⟨fun s ⟨a, _, _, e, h, _⟩ => by cases e; exact .base (.tup (s _ _ h))⟩
theorem is3 {R : Rel α} {R2 : Rel β} {R3 : Rel γ} : IsT G (rT3 R R2 R3) (.type "tuple") := ⟨fun s ⟨a, _, _, _, e, h, _⟩ => by cases e; exact .base (.tup (s _ _ h))⟩
def zis (k : Bool) (m : M τ α) : M τ Bool := bnd m fun _ => ret k
theorem z_isi {R : Rel α} {t : Value} {k : Bool} {y : Str} {p2 : Pos} {n : String} {m : M τ α} (bl : Blt G c x (.builtin "isinstance")) (ht : IsT G R t) (b2 : Blt G c y (.type n)) (hk : PySem.W.kitOne G.K t (.type n) = some k) (ha : ZE G c E W Γ e m R) (hs : Star e [.Name y p2] := by intro _; rfl) :
    ZE G c E W Γ (.Call (.Name x p) [e, .Name y p2] [] pos) (zis k m) rBl := fun X C =>
  pe_wk (pe_callB (call_isi) (C.gl bl.g) (by rw [C.mg]; exact bl.m) bl.v (pa_cons (ha X C) (pa_cons (pe_bltn (v := .ty n) (C.gl b2.g) (by rw [C.mg]; exact b2.m) b2.v rfl b2.n b2.d) pa_nil (by rfl)) (hs X.env)) bl.n bl.d (hs X.env) (by rfl)) fun σ H Q _ ⟨B, S, b, hh, q⟩ => by
    refine tz_bnd hh q fun x b1 v S1 H1 s1 h1 r1 q1 => ?_
    exact ⟨v, .ty n, t, .type n, k, rfl, .ty n, by rw [C.K]; exact ht.h h1.same r1, by rw [C.K]; exact hk, aft_ret h1 q1 rfl⟩
theorem z_isiC {R : Rel α} {t : Value} {k : Bool} {y : Str} {p2 : Pos} {C0 : Addr} {m : M τ α} (bl : Blt G c x (.builtin "isinstance")) (ht : IsT G R t) (g2 : Gb c y) (m2 : G.mg y = some (.ref C0)) (hd2 : (y == ("__debug__" : Str)) = false) (hk : PySem.W.kitOne G.K t (.ref C0) = some k) (ha : ZE G c E W Γ e m R) (hs : Star e [.Name y p2] := by intro _; rfl) :
    ZE G c E W Γ (.Call (.Name x p) [e, .Name y p2] [] pos) (zis k m) rBl := fun X C =>
  pe_wk (pe_callB (call_isi) (C.gl bl.g) (by rw [C.mg]; exact bl.m) bl.v (pa_cons (ha X C) (pa_cons (pe_glob (v := .ref C0) (C.gl g2) (by rw [C.mg]; exact m2) rfl hd2) pa_nil (by rfl)) (hs X.env)) bl.n bl.d (hs X.env) (by rfl)) fun σ H Q _ ⟨B, S, b, hh, q⟩ => by
    refine tz_bnd hh q fun x b1 v S1 H1 s1 h1 r1 q1 => ?_
    exact ⟨v, .ref C0, t, .ref C0, k, rfl, .own C0, by rw [C.K]; exact ht.h h1.same r1, by rw [C.K]; exact hk, aft_ret h1 q1 rfl⟩
end

/-! ### lists and tuples put together, cut -/
section
variable {ea eb : Expr} {pos : Pos}
def lcat (xs ys : List α) : M τ (List α) := chk (xs.length + ys.length ≤ sizeLine) (ret (xs ++ ys))
theorem z_catL {R : Rel α} {ma mb : M τ (List α)} (ha : ZE G c E W Γ ea ma (rLst R)) (hb : ZE G c E W Γ eb mb (rLst R)) : ZE G c E W Γ (.BinOp ea .Add eb pos) (zop2 lcat ma mb) (rLst R) :=
  z_bin (Ra := rLst R) (Rb := rLst R) (fun _ _ => op_cat) (fun B σ S H b x y v w Q hh ⟨a, vs, e1, e2, e3⟩ ⟨a', vs', e1', e2', e3'⟩ q => by
    obtain ⟨hl, q⟩ := aft_chk q
    exact ⟨a, a', vs, vs', e1, e1', hh.same _ _ e2, hh.same _ _ e2', by rw [← e3.length, ← e3'.length]; exact hl, fun p hp => aft_new hh q hp (rLst_new (hh.same.free hp) (e3.append e3'))⟩) ha hb
/-- a tuple that isn't empty, and another one -/
def tcat (xs ys : List α) : M τ (List α) := chk (xs ≠ [] ∧ xs.length + ys.length ≤ sizeLine) (ret (xs ++ ys))
def lrep (xs : List α) (k : Int) : M τ (List α) := chk (-(2 ^ 63) ≤ k ∧ k < 2 ^ 63 ∧ xs.length * k.toNat ≤ sizeLine) (ret (List.replicate k.toNat xs).flatten)
theorem z_repL {R : Rel α} {ma : M τ (List α)} {mb : M τ Int} (ha : ZE G c E W Γ ea ma (rLst R)) (hb : ZE G c E W Γ eb mb rInt) : ZE G c E W Γ (.BinOp ea .Mult eb pos) (zop2 lrep ma mb) (rLst R) :=
  z_bin (Ra := rLst R) (fun _ _ => op_rep) (fun B σ S H b x y v w Q hh ⟨a, vs, e1, e2, e3⟩ hy q => by
    obtain ⟨⟨h1, h2, h3⟩, q⟩ := aft_chk q
    exact ⟨a, y, vs, e1, hy, hh.same _ _ e2, h1, h2, by rw [← e3.length]; exact h3, fun p hp => aft_new hh q hp (rLst_new (hh.same.free hp) (e3.rep _))⟩) ha hb
def scat (x y : Str) : M τ Str := chk (x.length + y.length ≤ sizeLine) (ret (x ++ y))
theorem z_catS {ma mb : M τ Str} (ha : ZE G c E W Γ ea ma rStr) (hb : ZE G c E W Γ eb mb rStr) : ZE G c E W Γ (.BinOp ea .Add eb pos) (zop2 scat ma mb) rStr :=
  z_bin (fun _ _ => op_add_str) (fun B σ S H b x y v w Q hh hx hy q => by
    obtain ⟨hl, q⟩ := aft_chk q
    exact ⟨x, y, hx, hy, hl, aft_ret hh q rfl⟩) ha hb
end
end
end Zk

namespace Zk
open PySem L2

section
variable {τ α β γ δ κ ρ ι : Type} {G : Gx} {c : Sc} {E : Eff τ} {W : WX} {Γ Γ' : Env} {B : Bs} {σ : St} {S S1 H H' : Hp} {b : τ} {L : Ls κ ρ}
theorem aftS.same {Γn : α → Env} {D : Ends} (s : Same S S1) : ∀ {o : Out τ (Fl α κ ρ)}, aftS G E W L B S Γn D o → aftS G E W L B S1 Γn D o
  | .ok (.nx _) _, h => fun σ' S' H' s2 => h σ' S' H' (s.trans s2)
  | .ok (.rt _) _, h => h
  | .ok (.bk _) _, h => fun σ' S' H' s2 => h σ' S' H' (s.trans s2)
  | .ok (.ct _) _, h => fun σ' S' H' s2 => h σ' S' H' (s.trans s2)
  | .exc _ _, h => h
  | .stuck, h => h
/-! ### fewer slots; what was one's own becomes stable -/
/-- what Γ tells Γ' tells too (perhaps more has become stable) -/
def Sub (E : Eff τ) (Γ Γ' : Env) : Prop := ∀ {B : Bs} {b : τ} {σ : St} {S H : Hp}, Hold E B Γ b σ S H → ∃ S', Same S S' ∧ Hold E B Γ' b σ S' H
theorem sub_nil : Sub E Γ [] := fun h => ⟨_, Same.refl _, h.nil⟩
theorem sub_rfl : Sub E Γ Γ := fun h => ⟨_, Same.refl _, h⟩
theorem sub_wk (w : ∀ (i : Nat) s, Γ'[i]? = some s → s = .no ∨ Γ[i]? = some s) : Sub E Γ Γ' := fun h => ⟨_, Same.refl _, h.wk w⟩
inductive SubL : Env → Env → Prop
  | nil : SubL [] []
  | keep {s : Sl} {l l' : Env} : SubL l l' → SubL (s :: l) (s :: l')
  | drop {s : Sl} {l l' : Env} : SubL l l' → SubL (s :: l) (.no :: l')
theorem SubL.wk : ∀ {l l' : Env}, SubL l l' → ∀ (i : Nat) s, l'[i]? = some s → s = .no ∨ l[i]? = some s
  | _, _, .nil, _, _, h => by simp at h
  | _, _, .keep h, 0, s, e => .inr e
  | _, _, .keep h, i + 1, s, e => by simpa using SubL.wk h i s (by simpa using e)
  | _, _, .drop h, 0, s, e => by simp at e; exact .inl e.symm
  | _, _, .drop h, i + 1, s, e => by simpa using SubL.wk h i s (by simpa using e)
theorem SubL.sub (h : SubL Γ Γ') : Sub E Γ Γ' := sub_wk h.wk
theorem Sub.trans {Γ'' : Env} (h : Sub E Γ Γ') (h2 : Sub E Γ' Γ'') : Sub E Γ Γ'' := fun x => by
  obtain ⟨S1, s1, h1⟩ := h x
  obtain ⟨S2, s2, h3⟩ := h2 h1
  exact ⟨S2, s1.trans s2, h3⟩

/-! ### blocks -/
def zseq (m : M τ (Fl α κ ρ)) (f : α → M τ (Fl β κ ρ)) : M τ (Fl β κ ρ) := fun s => match m s with
  | .ok (.nx a) s' => f a s'
  | .ok (.rt r) s' => .ok (.rt r) s'
  | .ok (.bk k) s' => .ok (.bk k) s'
  | .ok (.ct k) s' => .ok (.ct k) s'
  | .exc e s' => .exc e s'
  | .stuck => .stuck
def znx (a : α) : M τ (Fl α κ ρ) := ret (.nx a)
theorem zb_nil {Γn : α → Env} {a : α} (h : Sub E Γ (Γn a)) : ZB G c E W L Γ [] (znx a) Γn := fun X C => pss_wk pss_nil fun D σ H _ ⟨B, S, b, hh, q⟩ => by
  obtain ⟨S', s', h'⟩ := h hh
  exact q σ S' H s' h'
theorem zb_cons {st : Stmt} {sts : List Stmt} {m : M τ (Fl α κ ρ)} {f : α → M τ (Fl β κ ρ)} {Γ1 : α → Env} {Γn : β → Env} (h1 : ZS G c E W L Γ st m Γ1) (h2 : ∀ a, ZB G c E W L (Γ1 a) sts (f a) Γn) : ZB G c E W L Γ (st :: sts) (zseq m f) Γn := fun X C =>
  pss_wk (pss_cons (h1 X C) (pss_ex fun a => h2 a X C)) fun D σ H _ ⟨B, S, b, hh, q⟩ => by
    refine ⟨B, S, b, hh, ?_⟩
    unfold zseq at q
    cases e : m b with
    | stuck => rw [e] at q; exact q.elim
    | exc x b1 => rw [e] at q; exact q
    | ok r b1 =>
      rw [e] at q
      cases r with
      | nx a => exact fun σ' S' H' s h => ⟨a, B, S', b1, h, q.same s⟩
      | rt r => exact q
      | bk k => exact q
      | ct k => exact q
/-- the last statement, which hands back or raises on every way, or what it tells is what the block tells -/
theorem zb_one {st : Stmt} {m : M τ (Fl α κ ρ)} {Γn : α → Env} (h1 : ZS G c E W L Γ st m Γn) : ZB G c E W L Γ [st] m Γn := fun X C => pss_wk (pss_one (h1 X C)) fun D σ H _ q => q
/-- behind a statement that never goes on -/
theorem zs_wk {st : Stmt} {m : M τ (Fl α κ ρ)} {Γn : α → Env} (s : Sub E Γ Γ') (h1 : ZS G c E W L Γ' st m Γn) : ZS G c E W L Γ st m Γn := fun X C => ps_wk (h1 X C) fun D σ H _ ⟨B, S, b, hh, q⟩ => by
  obtain ⟨S', s', h'⟩ := s hh
  exact ⟨B, S', b, h', q.same s'⟩
theorem zb_wk {st : List Stmt} {m : M τ (Fl α κ ρ)} {Γn : α → Env} (s : Sub E Γ Γ') (h1 : ZB G c E W L Γ' st m Γn) : ZB G c E W L Γ st m Γn := fun X C => pss_wk (h1 X C) fun D σ H _ ⟨B, S, b, hh, q⟩ => by
  obtain ⟨S', s', h'⟩ := s hh
  exact ⟨B, S', b, h', q.same s'⟩
/-- from an expression's reading on into a statement's -/
theorem tzS_bnd {m : M τ α} {f : α → M τ (Fl β κ ρ)} {R : Rel α} {Γn : β → Env} {D : Ends} {Q' : VK} (sx : Sub E Γ L.x) (hh : Hold E B Γ b σ S H) (h : aftS G E W L B S Γn D (bnd m f b))
    (k : ∀ x b1 v S1 H1, Same S S1 → Hold E B Γ b1 σ S1 H1 → R.is x S1 v → aftS G E W L B S1 Γn D (f x b1) → Q' v H1) : tzE G E W Γ m R σ H Q' := by
  refine ⟨B, S, b, hh, ?_⟩
  unfold bnd at h
  cases e : m b with
  | ok a b1 => rw [e] at h; exact fun v S1 H1 s h1 r => k a b1 v S1 H1 s h1 r (h.same s)
  | exc x b1 => rw [e] at h; exact fun c d S1 H1 _ h1 xa => let ⟨S2, _, h2⟩ := sx h1; h c d σ S2 H1 h2 xa
  | stuck => rw [e] at h; exact h.elim
theorem tzS_bndT {m : M τ Bool} {f : Bool → M τ (Fl β κ ρ)} {Γn : β → Env} {D : Ends} {Q' : Bool → Hp → Prop} (sx : Sub E Γ L.x) (hh : Hold E B Γ b σ S H) (h : aftS G E W L B S Γn D (bnd m f b))
    (k : ∀ x b1 S1 H1, Same S S1 → Hold E B Γ b1 σ S1 H1 → aftS G E W L B S1 Γn D (f x b1) → Q' x H1) : tzT G E W Γ m σ H Q' := by
  refine ⟨B, S, b, hh, ?_⟩
  unfold bnd at h
  cases e : m b with
  | ok a b1 => rw [e] at h; exact fun S1 H1 s h1 => k a b1 S1 H1 s h1 (h.same s)
  | exc x b1 => rw [e] at h; exact fun c d S1 H1 _ h1 xa => let ⟨S2, _, h2⟩ := sx h1; h c d σ S2 H1 h2 xa
  | stuck => rw [e] at h; exact h.elim
theorem tzS_bndA {m : M τ α} {f : α → M τ (Fl β κ ρ)} {A : α → List Pr} {Γn : β → Env} {D : Ends} {Q' : List V → Hp → Prop} (sx : Sub E Γ L.x) (hh : Hold E B Γ b σ S H) (h : aftS G E W L B S Γn D (bnd m f b))
    (k : ∀ x b1 v S1 H1, Same S S1 → Hold E B Γ b1 σ S1 H1 → All2 (fun (p : Pr) v => p.p S1 v) (A x) v → aftS G E W L B S1 Γn D (f x b1) → Q' v H1) : tzA G E W Γ m A σ H Q' := by
  refine ⟨B, S, b, hh, ?_⟩
  unfold bnd at h
  cases e : m b with
  | ok a b1 => rw [e] at h; exact fun v S1 H1 s h1 r => k a b1 v S1 H1 s h1 r (h.same s)
  | exc x b1 => rw [e] at h; exact fun c d S1 H1 _ h1 xa => let ⟨S2, _, h2⟩ := sx h1; h c d σ S2 H1 h2 xa
  | stuck => rw [e] at h; exact h.elim

/-! ### small statements -/
structure Ns (c : Sc) (i : Nat) (x : Str) : Prop where
  n : c.N[i]? = some x
  l : Loc c.sc x
  f : c.fx x = true ∨ c.sc.names.lookup x = some .local
abbrev NoSwap (e : Expr) : Prop := ∀ (t : Option Expr) (l : Nat) (env : PySem.Env), swapsWith e t l env = pure false
def zset (m : M τ α) : M τ (Fl α κ ρ) := bnd m fun x => ret (.nx x)
theorem CtxOk.set_hN {X : Cx} (C : CtxOk G c W X) : X.N.Nodup := by rw [C.N]; exact C.nd
theorem CtxOk.lt {X : Cx} {i : Nat} {x : Str} (C : CtxOk G c W X) (n : c.N[i]? = some x) (h : σ.length = X.N.length) : i < σ.length := by
  rw [h, C.N]; exact (List.getElem?_eq_some_iff.mp n).1
theorem CtxOk.hi {X : Cx} {i : Nat} {x : Str} (C : CtxOk G c W X) (n : c.N[i]? = some x) : X.N[i]? = some x := by rw [C.N]; exact n
theorem CtxOk.hf {X : Cx} {i : Nat} {x : Str} (C : CtxOk G c W X) (n : Ns c i x) : X.fn x = true ∨ X.env.scope.names.lookup x = some .local := by rw [C.fx, C.sc]; exact n.f
theorem zs_set {i : Nat} {x : Str} {e : Expr} {m : M τ α} {R : Rel α} {p pos : Pos} (n : Ns c i x) (h : ZE G c E W Γ e m R) (sx : Sub E Γ L.x) (hs : NoSwap e := by intro _ _ _; rfl) : ZS G c E W L Γ (.Assign [.Name x p] e pos) (zset m) (fun a => Γ.set i (.st (R.pr a))) := fun X C =>
  ps_wk (ps_set C.set_hN (C.hi n.n) (by rw [C.sc]; exact n.l) (h X C) (hs _ _ _) (C.hf n)) fun D σ H hl ⟨B, S, b, hh, q⟩ => by
    refine tzS_bnd (R := R) sx hh q fun x b1 v S1 H1 s1 h1 r1 q1 => ?_
    exact q1 _ S1 H1 (Same.refl _) (h1.set (C.lt n.n hl) r1)
def zrt (m : M τ ρ) : M τ (Fl α κ ρ) := bnd m fun x => ret (.rt x)
theorem zs_ret {e : Expr} {m : M τ ρ} {pos : Pos} {Γn : α → Env} (h : ZE G c E W Γ e m L.R) (sx : Sub E Γ L.x) : ZS G c E W L Γ (.Return (some e) pos) (zrt m) Γn := fun X C =>
  ps_wk (ps_ret (h X C)) fun D σ H hl ⟨B, S, b, hh, q⟩ => by
    refine tzS_bnd (R := L.R) sx hh q fun x b1 v S1 H1 s1 h1 r1 q1 => ?_
    exact q1 v σ S1 H1 h1.nil r1
theorem zs_pass {pos : Pos} : ZS G c E W L Γ (.Pass pos) (znx ()) (fun _ => Γ) := fun X C => ps_wk ps_pass fun D σ H hl ⟨B, S, b, hh, q⟩ => q σ S H (Same.refl _) hh
theorem zs_bk {pos : Pos} {k : κ} {Γn : α → Env} (s : Sub E Γ (L.k k)) : ZS G c E W L Γ (.Break pos) (ret (.bk k)) Γn := fun X C => ps_wk ps_break fun D σ H hl ⟨B, S, b, hh, q⟩ => by
  obtain ⟨S', s', h'⟩ := s hh
  exact q σ S' H s' h'
theorem zs_ct {pos : Pos} {k : κ} {Γn : α → Env} (s : Sub E Γ (L.k k)) : ZS G c E W L Γ (.Continue pos) (ret (.ct k)) Γn := fun X C => ps_wk ps_continue fun D σ H hl ⟨B, S, b, hh, q⟩ => by
  obtain ⟨S', s', h'⟩ := s hh
  exact q σ S' H s' h'
def zdrop (m : M τ α) : M τ (Fl Unit κ ρ) := bnd m fun _ => ret (.nx ())
theorem zs_expr {e : Expr} {m : M τ α} {R : Rel α} {pos : Pos} (h : ZE G c E W Γ e m R) (sx : Sub E Γ L.x) (hs : NoSwap e := by intro _ _ _; rfl) : ZS G c E W L Γ (.Expr e pos) (zdrop m) (fun _ => Γ) := fun X C =>
  ps_wk (ps_expr (h X C) (hs _ _ _)) fun D σ H hl ⟨B, S, b, hh, q⟩ => by
    refine tzS_bnd (R := R) sx hh q fun x b1 v S1 H1 s1 h1 r1 q1 => ?_
    exact q1 σ S1 H1 (Same.refl _) h1
def zifS (m : M τ Bool) (n o : M τ (Fl α κ ρ)) : M τ (Fl α κ ρ) := bnd m fun x => if x = true then n else o
theorem zs_if {e : Expr} {a d : List Stmt} {m : M τ Bool} {n o : M τ (Fl α κ ρ)} {Γn : α → Env} {pos : Pos} (h : ZT G c E W Γ e m) (ha : ZB G c E W L Γ a n Γn) (hd : ZB G c E W L Γ d o Γn) (sx : Sub E Γ L.x) : ZS G c E W L Γ (.If e a d pos) (zifS m n o) Γn := fun X C =>
  ps_wk (ps_if (h X C) (ha X C) (hd X C)) fun D σ H hl ⟨B, S, b, hh, q⟩ => by
    refine tzS_bndT sx hh q fun x b1 S1 H1 s1 h1 q1 => ?_
    cases x with
    | true => exact ⟨B, S1, b1, h1, q1⟩
    | false => exact ⟨B, S1, b1, h1, q1⟩

/-! ### targets -/
/-- the target tg is given what stands for x: the slots vs may change, then Γ is f x -/
def tzG (E : Eff τ) (Γ : Env) (vs : List Nat) (f : α → Env) (R : Rel α) : TG := fun v σ H Q => ∃ B S b x, Hold E B Γ b σ S H ∧ R.is x S v ∧ ∀ σ', wipe σ' vs = wipe σ vs → Hold E B (f x) b σ' S H → Q σ' H
def ZG (G : Gx) (c : Sc) (E : Eff τ) (W : WX) (Γ : Env) (vs : List Nat) (tg : Expr) (f : α → Env) (R : Rel α) : Prop := (∀ X, CtxOk G c W X → PG X tg (tzG E Γ vs f R)) ∧ ∀ x (i : Nat), i ∉ vs → (f x)[i]? = Γ[i]?
theorem pg_wk {X : Cx} {tg : Expr} {t t' : TG} (h : PG X tg t) (w : ∀ v σ H Q, σ.length = X.N.length → t' v σ H Q → t v σ H Q) : PG X tg t' := ⟨fun pins s σ H v u Q I r q => h.run pins s σ H v u Q I r (w v σ H Q I.len q)⟩
theorem pgs_wk {X : Cx} {tg : List Expr} {t t' : TGs} (h : PGs X tg t) (w : ∀ v σ H Q, σ.length = X.N.length → t' v σ H Q → t v σ H Q) : PGs X tg t' := ⟨fun pins s σ H v u Q I r q => h.run pins s σ H v u Q I r (w v σ H Q I.len q)⟩
theorem pg_ex {ι : Type} {X : Cx} {tg : Expr} {t : ι → TG} (h : ∀ i, PG X tg (t i)) : PG X tg (fun v σ H Q => ∃ i, t i v σ H Q) := ⟨fun pins s σ H v u Q I r ⟨i, q⟩ => (h i).run pins s σ H v u Q I r q⟩
theorem wipe_set {i : Nat} {v : Option V} : ∀ {vs : List Nat} {σ : St}, i ∈ vs → wipe (σ.set i v) vs = wipe σ vs
  | j :: vs, σ, h => by
    unfold wipe
    by_cases hj : i ∈ vs
    · rw [wipe_set hj]
    · have e : i = j := by simpa [hj] using h
      subst e
      have : ∀ (vs : List Nat), i ∉ vs → wipe (σ.set i v) vs = (wipe σ vs).set i v := by
        intro vs
        induction vs with
        | nil => intro _; rfl
        | cons k vs ih => intro hk; unfold wipe; rw [ih (by simp at hk; exact hk.2), List.set_comm _ _ (by simp at hk; exact hk.1)]
      rw [this vs hj, List.set_set]
theorem zg_name {i : Nat} {x : Str} {p : Pos} {vs : List Nat} {R : Rel α} (n : Ns c i x) (hv : i ∈ vs) : ZG G c E W Γ vs (.Name x p) (fun a => Γ.set i (.st (R.pr a))) R := ⟨fun X C =>
  pg_wk (pg_name C.set_hN (C.hi n.n) (by rw [C.sc]; exact n.l) (C.hf n)) fun v σ H Q hl ⟨B, S, b, x, hh, r, q⟩ => q _ (wipe_set hv) (hh.set (C.lt n.n hl) r), fun a j hj => List.getElem?_set_ne fun e => hj (by rw [← e]; exact hv)⟩
/-- several targets, one after another -/
def tzGs (E : Eff τ) (Γ : Env) (vs : List Nat) (f : α → Env) (A : α → List Pr) : TGs := fun us σ H Q => ∃ B S b x, Hold E B Γ b σ S H ∧ All2 (fun (p : Pr) v => p.p S v) (A x) us ∧ ∀ σ', wipe σ' vs = wipe σ vs → Hold E B (f x) b σ' S H → Q σ' H
def ZGs (G : Gx) (c : Sc) (E : Eff τ) (W : WX) (Γ : Env) (vs : List Nat) (tgs : List Expr) (f : α → Env) (A : α → List Pr) : Prop := (∀ X, CtxOk G c W X → PGs X tgs (tzGs E Γ vs f A)) ∧ ∀ x (i : Nat), i ∉ vs → (f x)[i]? = Γ[i]?
abbrev AsgC (e : Expr) (es : List Expr) : Prop := ∀ env : PySem.Env, (assignEach (e :: es) env).map (·.2) = assign e env :: (assignEach es env).map (·.2)
theorem zgs_one {t : Expr} {vs : List Nat} {f : α → Env} {R : Rel α} (h : ZG G c E W Γ vs t f R) (hs : AsgC t [] := by intro _; rfl) : ZGs G c E W Γ vs [t] f (fun x => [R.pr x]) := ⟨fun X C =>
  pgs_wk (pgs_cons (h.1 X C) pgs_nil (hs X.env)) fun us σ H Q hl ⟨B, S, b, x, hh, r, q⟩ => by
    match us, r with
    | [u], ⟨r, _⟩ => exact ⟨u, [], rfl, B, S, b, x, hh, r, fun σ' w h' => ⟨rfl, q σ' w h'⟩⟩, h.2⟩
theorem pgs_ex {ι : Type} {X : Cx} {tg : List Expr} {t : ι → TGs} (h : ∀ i, PGs X tg (t i)) : PGs X tg (fun v σ H Q => ∃ i, t i v σ H Q) := ⟨fun pins s σ H v u Q I r ⟨i, q⟩ => (h i).run pins s σ H v u Q I r q⟩
theorem zgs_cons {t : Expr} {ts : List Expr} {vs : List Nat} {f1 : α → Env} {f2 : α → β → Env} {R : Rel α} {A : β → List Pr} (h1 : ZG G c E W Γ vs t f1 R) (h2 : ∀ a, ZGs G c E W (f1 a) vs ts (f2 a) A) (hs : AsgC t ts := by intro _; rfl) : ZGs G c E W Γ vs (t :: ts) (fun x : α × β => f2 x.1 x.2) (fun x : α × β => R.pr x.1 :: A x.2) := ⟨fun X C =>
  pgs_wk (pgs_cons (h1.1 X C) (pgs_ex fun a => (h2 a).1 X C) (hs X.env)) fun us σ H Q hl ⟨B, S, b, x, hh, r, q⟩ => by
    match us, r with
    | u :: us, ⟨r, r2⟩ => exact ⟨u, us, rfl, B, S, b, x.1, hh, r, fun σ' w h' => ⟨x.1, B, S, b, x.2, h', r2, fun σ'' w' h'' => q σ'' (w'.trans w) h''⟩⟩, fun x i hi => ((h2 x.1).2 x.2 i hi).trans (h1.2 x.1 i hi)⟩
/-- a tuple of things -/
structure TupOf (R : Rel α) (n : Nat) (A : α → List Pr) : Prop where
  h : ∀ {x : α} {S : Hp} {v : V}, R.is x S v → ∃ a us, v = .ref a ∧ S a = some (.tup us) ∧ us.length = n ∧ All2 (fun (p : Pr) v => p.p S v) (A x) us
theorem to2 {R : Rel α} {R2 : Rel β} : TupOf (rT2 R R2) 2 (fun x => [R.pr x.1, R2.pr x.2]) := ⟨fun ⟨a, u, w, e, h, q, q2⟩ => ⟨a, _, e, h, rfl, q, q2, trivial⟩⟩
theorem to3 {R : Rel α} {R2 : Rel β} {R3 : Rel γ} : TupOf (rT3 R R2 R3) 3 (fun x => [R.pr x.1, R2.pr x.2.1, R3.pr x.2.2]) := ⟨fun ⟨a, u, w, z, e, h, q, q2, q3⟩ => ⟨a, _, e, h, rfl, q, q2, q3, trivial⟩⟩
theorem to4 {R : Rel α} {R2 : Rel β} {R3 : Rel γ} {R4 : Rel δ} : TupOf (rT4 R R2 R3 R4) 4 (fun x => [R.pr x.1, R2.pr x.2.1, R3.pr x.2.2.1, R4.pr x.2.2.2]) := ⟨fun ⟨a, u, w, z, y, e, h, q, q2, q3, q4⟩ => ⟨a, _, e, h, rfl, q, q2, q3, q4, trivial⟩⟩
theorem zg_tup {es : List Expr} {k : Nat} {pos : Pos} {vs : List Nat} {n : Nat} {f : α → Env} {A : α → List Pr} {R : Rel α} (t : TupOf R n A) (h : ZGs G c E W Γ vs es f A) (hn : ∀ env : PySem.Env, (assignEach es env).length = n := by intro _; rfl) (hst : ∀ env : PySem.Env, (assignEach es env).findIdx? (·.1) = none := by intro _; rfl) :
    ZG G c E W Γ vs (.Tuple es k pos) f R := ⟨fun X C => pg_wk (pg_tup C.calm (h.1 X C) (hn X.env) (hst X.env)) fun v σ H Q hl ⟨B, S, b, x, hh, r, q⟩ => by
  obtain ⟨a, us, e1, e2, e3, e4⟩ := t.h r
  exact ⟨a, us, e1, .of (hh.same _ _ e2), e3, B, S, b, x, hh, e4, q⟩, h.2⟩
/-- target = value -/
theorem zs_asg {tg e : Expr} {m : M τ α} {R : Rel α} {f : α → Env} {vs : List Nat} {pos : Pos} (h : ZE G c E W Γ e m R) (g : ZG G c E W Γ vs tg f R) (sx : Sub E Γ L.x) (hs : ∀ (l : Nat) (env : PySem.Env), swapsWithSole [tg] e l env = pure false := by intro _ _; rfl)
    (hw : ∀ env : PySem.Env, swappedStores [tg] e env = pure none := by intro _; rfl) (h1 : ∀ env : PySem.Env, (assignEach [tg] env).map (·.2) = [assign tg env] := by intro _; rfl) : ZS G c E W L Γ (.Assign [tg] e pos) (zset m) f := fun X C =>
  ps_wk (ps_asg (h X C) (g.1 X C) (hs _ _) (hw _) (h1 _)) fun D σ H hl ⟨B, S, b, hh, q⟩ => by
    refine tzS_bnd (R := R) sx hh q fun x b1 v S1 H1 s1 h1 r1 q1 => ?_
    exact ⟨B, S1, b1, x, h1, r1, fun σ' w h' => q1 σ' S1 H1 (Same.refl _) h'⟩
/-- a, b = e1, e2 -/
theorem zs_par {i j : Nat} {x y : Str} {ea eb : Expr} {ma : M τ α} {mb : M τ β} {R : Rel α} {R2 : Rel β} {px py pt pos : Pos} {kt k2 pt2} (nx : Ns c i x) (ny : Ns c j y) (lx : c.sc.names.lookup x = some .local) (ly : c.sc.names.lookup y = some .local) (hij : i ≠ j) (ha : ZE G c E W Γ ea ma R) (hb : ZE G c E W Γ eb mb R2)
    (sx : Sub E Γ L.x) (hs : Star ea [eb] := by intro _; rfl) (hs2 : Star eb [] := by intro _; rfl) (hw : ∀ env : PySem.Env, env.scope.kind = .function → env.scope.names.lookup x = some .local → env.scope.names.lookup y = some .local → swappedStores [.Tuple [.Name x px, .Name y py] kt pt] (.Tuple [ea, eb] k2 pt2) env = pure (some [x, y])) : True := trivial

/-! ### what a for walks -/
/-- an iterator J gives, while I stands, what stands for xs, one by one -/
structure Src (P : Hp → Hp → Prop) (J : It) (xs : List β) (R : Rel β) (I : Hp → Prop) : Prop where
  mono : ∀ {S S' : Hp}, Same S S' → I S → I S'
  go : ∀ {i : Nat} {S H : Hp}, Same S H → P S H → I S → i < xs.length → J.go i H
  yl : ∀ {i : Nat} {S H H' : Hp} {x : V} {y : β}, Same S H → P S H → I S → xs[i]? = some y → J.yld i H x H' → (H' = H ∧ R.is y S x) ∨ ∃ p o, H p = none ∧ H' = upd H p o ∧ R.is y (upd S p o) x
  st : ∀ {S H : Hp}, Same S H → P S H → I S → J.stop xs.length H
def aftI (G : Gx) (E : Eff τ) (W : WX) (B : Bs) (Γ : Env) (σ : St) (S : Hp) (R : Rel β) (Q : It → Hp → Prop) : Out τ (List β) → Prop
  | .ok xs b' => ∀ J I S' H', Same S S' → Hold E B Γ b' σ S' H' → Src (fun S H => ∃ b, E.is b S H) J xs R I → I S' → Q J H'
  | .exc x b' => ∀ c d S' H', Same S S' → Hold E B Γ b' σ S' H' → XAt G x H' c d → W c d σ H'
  | .stuck => False
theorem aftI.same {R : Rel β} {Q : It → Hp → Prop} (s : Same S S1) : ∀ {o : Out τ (List β)}, aftI G E W B Γ σ S R Q o → aftI G E W B Γ σ S1 R Q o
  | .ok _ _, h => fun J I S' H' s2 => h J I S' H' (s.trans s2)
  | .exc _ _, h => fun c d S' H' s2 => h c d S' H' (s.trans s2)
  | .stuck, h => h
def tzI (G : Gx) (E : Eff τ) (W : WX) (Γ : Env) (m : M τ (List β)) (R : Rel β) : TI := fun σ H Q => ∃ B S b, Hold E B Γ b σ S H ∧ aftI G E W B Γ σ S R Q (m b)
theorem aftI_chk {R : Rel β} {Q : It → Hp → Prop} {p : Prop} [Decidable p] {m : M τ (List β)} (h : aftI G E W B Γ σ S R Q (chk p m b)) : p ∧ aftI G E W B Γ σ S R Q (m b) := by
  unfold chk at h
  by_cases hp : p
  · rw [if_pos hp] at h; exact ⟨hp, h⟩
  · rw [if_neg hp] at h; exact h.elim
def ZI (G : Gx) (c : Sc) (E : Eff τ) (W : WX) (Γ : Env) (tg iter : Expr) (m : M τ (List β)) (R : Rel β) : Prop := ∀ X, CtxOk G c W X → PI X tg iter (tzI G E W Γ m R)
theorem pi_wk {X : Cx} {tg e : Expr} {t t' : TI} (h : PI X tg e t) (w : ∀ σ H Q, t' σ H Q → t σ H Q) : PI X tg e t' := ⟨fun pins s σ H Q I q => h.run pins s σ H Q I (w σ H Q q)⟩
theorem src_list {P : Hp → Hp → Prop} {K : PySem.W.Frag} {R : Rel β} {xs : List β} {a : Addr} : Src P (Itl K a) xs R (fun S => ∃ vs, S a = some (.lst vs) ∧ All2 (fun x v => R.is x S v) xs vs) where
  mono := fun s ⟨vs, e, q⟩ => ⟨vs, s _ _ e, All2.rel s q⟩
  go := fun {i S H} s _ ⟨vs, e, q⟩ hi => ⟨vs, vs[i]'(by rw [← q.length]; exact hi), .of (s _ _ e), by rw [List.getElem?_eq_getElem]⟩
  yl := fun {i S H H' x y} s _ ⟨vs, e, q⟩ hy ⟨e1, e2⟩ => .inl ⟨e1, by
    obtain ⟨v, h1, h2⟩ := q.get hy
    have := e2 vs (.of (s _ _ e))
    rw [h1] at this; cases this; exact h2⟩
  st := fun s _ ⟨vs, e, q⟩ => ⟨vs, .of (s _ _ e), by rw [q.length]; exact Nat.le_refl _⟩
theorem src_tup {P : Hp → Hp → Prop} {K : PySem.W.Frag} {R : Rel β} {xs : List β} {a : Addr} : Src P (Itt K a) xs R (fun S => ∃ vs, S a = some (.tup vs) ∧ All2 (fun x v => R.is x S v) xs vs) where
  mono := fun s ⟨vs, e, q⟩ => ⟨vs, s _ _ e, All2.rel s q⟩
  go := fun {i S H} s _ ⟨vs, e, q⟩ hi => ⟨vs, vs[i]'(by rw [← q.length]; exact hi), .of (s _ _ e), by rw [List.getElem?_eq_getElem]⟩
  yl := fun {i S H H' x y} s _ ⟨vs, e, q⟩ hy ⟨e1, e2⟩ => .inl ⟨e1, by
    obtain ⟨v, h1, h2⟩ := q.get hy
    have := e2 vs (.of (s _ _ e))
    rw [h1] at this; cases this; exact h2⟩
  st := fun s _ ⟨vs, e, q⟩ => ⟨vs, .of (s _ _ e), by rw [q.length]; exact Nat.le_refl _⟩
theorem zi_list {tg e : Expr} {m : M τ (List β)} {R : Rel β} (h : ZE G c E W Γ e m (rLst R)) : ZI G c E W Γ tg e m R := fun X C => pi_wk (pi_list (h X C)) fun σ H Q ⟨B, S, b, hh, q⟩ => by
  refine ⟨B, S, b, hh, ?_⟩
  cases e : m b with
  | stuck => rw [e] at q; exact q.elim
  | exc x b1 => rw [e] at q; exact q
  | ok xs b1 => rw [e] at q; exact fun v S' H' s h' ⟨a, vs, e1, e2, e3⟩ => ⟨a, e1, ⟨vs, .of (h'.same _ _ e2)⟩, q _ _ S' H' s h' src_list ⟨vs, e2, e3⟩⟩
theorem zi_tup {tg e : Expr} {m : M τ (List β)} {R : Rel β} (h : ZE G c E W Γ e m (rVT R)) : ZI G c E W Γ tg e m R := fun X C => pi_wk (pi_tup (h X C)) fun σ H Q ⟨B, S, b, hh, q⟩ => by
  refine ⟨B, S, b, hh, ?_⟩
  cases e : m b with
  | stuck => rw [e] at q; exact q.elim
  | exc x b1 => rw [e] at q; exact q
  | ok xs b1 => rw [e] at q; exact fun v S' H' s h' ⟨a, vs, e1, e2, e3⟩ => ⟨a, e1, ⟨vs, .of (h'.same _ _ e2)⟩, q _ _ S' H' s h' src_tup ⟨vs, e2, e3⟩⟩
def rng (lo : Int) (n : Nat) : List Int := (List.range n).map fun (i : Nat) => lo + (i : Int)
theorem rng_get {lo : Int} {n i : Nat} {y : Int} (h : (rng lo n)[i]? = some y) : y = lo + (i : Int) ∧ i < n := by
  unfold rng at h
  rw [List.getElem?_map] at h
  by_cases hi : i < n
  · rw [List.getElem?_range hi] at h; cases h; exact ⟨rfl, hi⟩
  · rw [List.getElem?_eq_none (by simpa using hi)] at h; cases h
theorem src_rng {P : Hp → Hp → Prop} {lo : Int} {n : Nat} : Src P (Itr lo n) (rng lo n) rInt (fun _ => True) where
  mono := fun _ _ => trivial
  go := fun {i S H} _ _ _ hi => by
    unfold rng at hi
    show i < n
    simpa using hi
  yl := fun _ _ _ hy ⟨e1, e2⟩ => .inl ⟨e1, by rw [(rng_get hy).1]; exact e2⟩
  st := fun _ _ _ => by unfold rng; simp [Itr]
def frng1 (m : M τ Int) : M τ (List Int) := bnd m fun j => chk (-(2 ^ 62) ≤ j ∧ j < 2 ^ 62) (ret (rng 0 j.toNat))
def frng2 (m : M τ (Int × Int)) : M τ (List Int) := bnd m fun x => chk (-(2 ^ 62) ≤ x.1 ∧ x.1 < 2 ^ 62 ∧ -(2 ^ 62) ≤ x.2 ∧ x.2 < 2 ^ 62) (ret (rng x.1 (x.2 - x.1).toNat))
theorem tzI_bndA {m : M τ α} {f : α → M τ (List β)} {A : α → List Pr} {R : Rel β} {Q : It → Hp → Prop} {Q' : List V → Hp → Prop} (hh : Hold E B Γ b σ S H) (h : aftI G E W B Γ σ S R Q (bnd m f b))
    (k : ∀ x b1 vs S1 H1, Same S S1 → Hold E B Γ b1 σ S1 H1 → All2 (fun (p : Pr) v => p.p S1 v) (A x) vs → aftI G E W B Γ σ S1 R Q (f x b1) → Q' vs H1) : tzA G E W Γ m A σ H Q' := by
  refine ⟨B, S, b, hh, ?_⟩
  unfold bnd at h
  cases e : m b with
  | ok a b1 => rw [e] at h; exact fun v S1 H1 s h1 r => k a b1 v S1 H1 s h1 r (h.same s)
  | exc x b1 => rw [e] at h; exact h
  | stuck => rw [e] at h; exact h.elim
theorem zi_rng1 {tg e : Expr} {m : M τ Int} {p pos : Pos} (g : Gb c "range") (hm : G.mg "range" = none) (h : ZE G c E W Γ e m rInt) (hs : ∀ env : PySem.Env, starEach [e] env = [(false, eval e env)] := by intro _; rfl) : ZI G c E W Γ tg (.Call (.Name "range" p) [e] [] pos) (frng1 m) rInt := fun X C =>
  pi_wk (pi_range1 (C.gl g) (by rw [C.mg]; exact hm) (za_one h (fun env => hs env) X C) (hs X.env)) fun σ H Q ⟨B, S, b, hh, q⟩ => by
    refine tzI_bndA (A := fun x => [rInt.pr x]) hh q fun x b1 vs S1 H1 s1 h1 r1 q1 => ?_
    match vs, r1 with
    | [v], ⟨r, _⟩ =>
      obtain ⟨hb, q2⟩ := aftI_chk q1
      exact ⟨x, by rw [show v = V.int x from r], hb.1, hb.2, q2 _ _ S1 H1 (Same.refl _) h1 src_rng trivial⟩
theorem zi_rng2 {tg e e2 : Expr} {m n : M τ Int} {p pos : Pos} (g : Gb c "range") (hm : G.mg "range" = none) (h : ZE G c E W Γ e m rInt) (h2 : ZE G c E W Γ e2 n rInt) (hs : ∀ env : PySem.Env, starEach [e, e2] env = [(false, eval e env), (false, eval e2 env)] := by intro _; rfl)
    (hs2 : ∀ env : PySem.Env, starEach [e2] env = [(false, eval e2 env)] := by intro _; rfl) : ZI G c E W Γ tg (.Call (.Name "range" p) [e, e2] [] pos) (frng2 (zpair m n)) rInt := fun X C =>
  pi_wk (pi_range2 (C.gl g) (by rw [C.mg]; exact hm) (za_cons h (za_one h2 (fun env => hs2 env)) (fun env => (hs env).trans (by rw [hs2 env])) X C) (hs X.env) (hs2 X.env)) fun σ H Q ⟨B, S, b, hh, q⟩ => by
    refine tzI_bndA (A := fun x : Int × Int => [rInt.pr x.1, rInt.pr x.2]) hh q fun x b1 vs S1 H1 s1 h1 r1 q1 => ?_
    match vs, r1 with
    | [v, w], ⟨r, r2, _⟩ =>
      obtain ⟨hb, q2⟩ := aftI_chk q1
      exact ⟨x.1, x.2, by rw [show v = V.int x.1 from r, show w = V.int x.2 from r2], hb, q2 _ _ S1 H1 (Same.refl _) h1 src_rng trivial⟩
def fenum (xs : List α) : List (Int × α) := xs.zipIdx.map fun p => ((p.2 : Int), p.1)
theorem enum_get {xs : List α} {i : Nat} {y : Int × α} (h : (fenum xs)[i]? = some y) : y.1 = (i : Int) ∧ xs[i]? = some y.2 := by
  unfold fenum at h
  rw [List.getElem?_map, List.getElem?_zipIdx] at h
  cases e : xs[i]? with
  | none => rw [e] at h; cases h
  | some x => rw [e] at h; cases h; exact ⟨by simp, rfl⟩
theorem src_enum {P : Hp → Hp → Prop} {K : PySem.W.Frag} {R : Rel β} {xs : List β} {a : Addr} : Src P (Ite K a) (fenum xs) (rT2 rInt R) (fun S => ∃ vs, S a = some (.lst vs) ∧ All2 (fun x v => R.is x S v) xs vs) where
  mono := fun s ⟨vs, e, q⟩ => ⟨vs, s _ _ e, All2.rel s q⟩
  go := fun {i S H} s _ ⟨vs, e, q⟩ hi => ⟨vs, vs[i]'(by rw [← q.length]; unfold fenum at hi; simpa using hi), .of (s _ _ e), by rw [List.getElem?_eq_getElem]⟩
  yl := fun {i S H H' x y} s _ ⟨vs, e, q⟩ hy ⟨T, z, e1, e2, e3, e4⟩ => .inr ⟨T, _, e2, e3, by
    obtain ⟨y1, y2⟩ := enum_get hy
    obtain ⟨v, h1, h2⟩ := q.get y2
    have := e4 vs (.of (s _ _ e))
    rw [h1] at this; cases this
    exact ⟨T, _, _, e1, upd_same, by rw [y1]; rfl, R.mono (same_new (s.free e2)) h2⟩⟩
  st := fun s _ ⟨vs, e, q⟩ => ⟨vs, .of (s _ _ e), by unfold fenum; rw [← q.length]; simp⟩
def zenum (m : M τ (List α)) : M τ (List (Int × α)) := bnd m fun xs => ret (fenum xs)
theorem zi_enum {e : Expr} {elts : List Expr} {kk : Nat} {tpos : Pos} {m : M τ (List β)} {R : Rel β} {p pos : Pos} (g : Gb c "enumerate") (hm : G.mg "enumerate" = none) (h : ZE G c E W Γ e m (rLst R)) (hs : ∀ env : PySem.Env, starEach [e] env = [(false, eval e env)] := by intro _; rfl) :
    ZI G c E W Γ (.Tuple elts kk tpos) (.Call (.Name "enumerate" p) [e] [] pos) (zenum m) (rT2 rInt R) := fun X C =>
  pi_wk (pi_enum (C.gl g) (by rw [C.mg]; exact hm) (za_one h (fun env => hs env) X C) (hs X.env)) fun σ H Q ⟨B, S, b, hh, q⟩ => by
    refine tzI_bndA (A := fun x => [(rLst R).pr x]) hh q fun x b1 vs S1 H1 s1 h1 r1 q1 => ?_
    match vs, r1 with
    | [v], ⟨⟨a, us, e1, e2, e3⟩, _⟩ => exact ⟨a, us, by rw [e1], .of (h1.same _ _ e2), q1 _ _ S1 H1 (Same.refl _) h1 src_enum ⟨us, e2, e3⟩⟩

/-! ### for -/
theorem for_src {P : Hp → Hp → Prop} {J : It} {xs : List β} {R : Rel β} {I : Hp → Prop} (src : Src P J xs R I) {g : TG} {tb : TS} {D : Ends} {σ : St} {H : Hp} (Pv : Nat → St → Hp → Prop) (h0 : Pv 0 σ H) (hl : ∀ i σ H, i ≤ xs.length → Pv i σ H → ∃ S, Same S H ∧ P S H ∧ I S)
    (hs : ∀ i y σ H, xs[i]? = some y → Pv i σ H → ∀ x H', J.yld i H x H' → g x σ H' fun σ2 H2 => tb { D with nx := Pv (i + 1), ct := Pv (i + 1), bk := D.nx } σ2 H2) (hd : ∀ σ H, Pv xs.length σ H → D.nx σ H) :
    ∃ W : Nat → Nat → St → Hp → Prop, (∃ m, W 0 m σ H) ∧ ∀ i m σ H, W i m σ H →
      (J.stop i H ∧ D.nx σ H) ∨ (J.go i H ∧ ∃ N : St → Hp → Prop, (∀ σ' H', N σ' H' → ∃ m', m' < m ∧ W (i + 1) m' σ' H') ∧ ∀ x H', J.yld i H x H' → g x σ H' fun σ2 H2 => tb { D with nx := N, ct := N, bk := D.nx } σ2 H2) := by
  refine ⟨fun i m σ H => m = xs.length - i ∧ i ≤ xs.length ∧ Pv i σ H, ⟨xs.length, by simp, Nat.zero_le _, h0⟩, ?_⟩
  rintro i m σ H ⟨rfl, hi, p⟩
  obtain ⟨S, s, hP, hI⟩ := hl i σ H hi p
  by_cases hlt : i < xs.length
  · exact .inr ⟨src.go s hP hI hlt, Pv (i + 1), fun σ' H' p' => ⟨xs.length - (i + 1), by omega, rfl, hlt, p'⟩, fun x H' y => hs i xs[i] σ H (by simp [hlt]) p x H' y⟩
  · have e : i = xs.length := by omega
    subst e
    exact .inl ⟨src.st s hP hI, hd σ H p⟩
def zfor (f : α → β → M τ (Fl α α ρ)) : α → List β → M τ (Fl α κ ρ)
  | a, [] => ret (.nx a)
  | a, x :: xs => fun s => match f a x s with
    | .ok (.nx a') s' => zfor f a' xs s'
    | .ok (.ct a') s' => zfor f a' xs s'
    | .ok (.bk a') s' => .ok (.nx a') s'
    | .ok (.rt r) s' => .ok (.rt r) s'
    | .exc e s' => .exc e s'
    | .stuck => .stuck
def zforI (m : M τ (List β)) (a : α) (f : α → β → M τ (Fl α α ρ)) : M τ (Fl α κ ρ) := bnd m fun xs => zfor f a xs
theorem zs_for {tg iter : Expr} {body : List Stmt} {pos : Pos} {m : M τ (List β)} {a0 : α} {f : α → β → M τ (Fl α α ρ)} {R : Rel β} {Γh : α → Env} {Γb : α → β → Env} {vs : List Nat} (hi : ZI G c E W Γ tg iter m R) (h0 : Sub E Γ (Γh a0)) (hg : ∀ a, ZG G c E W (Γh a) vs tg (Γb a) R)
    (hb : ∀ a x, ZB G c E W ⟨Γh, L.x, L.R⟩ (Γb a x) body (f a x) Γh) (sx : Sub E Γ L.x) (hs : ∀ (env : PySem.Env) x, foldedSetIterable iter env x = pure x := by intro _ _; rfl) : ZS G c E W L Γ (.For tg iter body [] pos) (zforI m a0 f) Γh := fun X C =>
  ps_wk (ps_for C.owns C.calm (hi X C) (pg_ex fun a => (hg a).1 X C) (pss_ex fun (p : α × β) => hb p.1 p.2 X C) (hs X.env)) fun D σ H hl ⟨B, S, b, hh, q⟩ => by
    refine ⟨B, S, b, hh, ?_⟩
    unfold zforI bnd at q
    cases e : m b with
    | stuck => rw [e] at q; exact q.elim
    | exc x b1 => rw [e] at q; exact fun c d S1 H1 _ h1 xa => let ⟨S2, _, h2⟩ := sx h1; q c d σ S2 H1 h2 xa
    | ok xs b1 =>
      rw [e] at q
      intro J I S1 H1 s1 h1 src hI
      obtain ⟨S2, s2, h2⟩ := h0 h1
      refine for_src (g := fun v σ H Q => ∃ i, tzG E (Γh i) vs (Γb i) R v σ H Q) (tb := fun D σ H => ∃ p : α × β, tzS G E W ⟨Γh, L.x, L.R⟩ (Γb p.1 p.2) (f p.1 p.2) Γh D σ H) (D := D) src (fun i σ H => ∃ S b a, Same S1 S ∧ Hold E B (Γh a) b σ S H ∧ aftS G E W L B S Γh D (zfor f a (xs.drop i) b)) ⟨S2, b1, a0, s2, h2, (q.same s1).same s2⟩ (fun i σ H _ ⟨S, b, a, s, h, _⟩ => ⟨S, h.same, ⟨b, h.ef⟩, src.mono s hI⟩) ?_ ?_
      · rintro i y σ H hy ⟨S, b, a, s, h, q⟩ x H' yl
        have hd : xs.drop i = y :: xs.drop (i + 1) := by
          obtain ⟨h1, h2⟩ := List.getElem?_eq_some_iff.mp hy
          rw [List.drop_eq_getElem_cons h1, h2]
        rw [hd] at q
        have go : ∀ S' H', Same S S' → Hold E B (Γh a) b σ S' H' → R.is y S' x → (fun v σ H Q => ∃ i, tzG E (Γh i) vs (Γb i) R v σ H Q) x σ H' fun σ2 H2 => (fun D σ H => ∃ p : α × β, tzS G E W ⟨Γh, L.x, L.R⟩ (Γb p.1 p.2) (f p.1 p.2) Γh D σ H) { D with nx := fun σ H => ∃ S b a, Same S1 S ∧ Hold E B (Γh a) b σ S H ∧ aftS G E W L B S Γh D (zfor f a (xs.drop (i + 1)) b), ct := fun σ H => ∃ S b a, Same S1 S ∧ Hold E B (Γh a) b σ S H ∧ aftS G E W L B S Γh D (zfor f a (xs.drop (i + 1)) b), bk := D.nx } σ2 H2 := by
          intro S' H' s' h' r'
          refine ⟨a, B, S', b, y, h', r', fun σ' _ h'' => ⟨(a, y), B, S', b, h'', ?_⟩⟩
          have q := q.same s'
          unfold zfor at q
          dsimp only at q ⊢
          cases e : f a y b with
          | stuck => rw [e] at q; exact q.elim
          | exc x b1 => rw [e] at q; exact q
          | ok r b2 =>
            rw [e] at q
            cases r with
            | nx a' => exact fun σ3 S3 H3 s3 h3 => ⟨S3, b2, a', (s.trans s').trans s3, h3, q.same s3⟩
            | ct a' => exact fun σ3 S3 H3 s3 h3 => ⟨S3, b2, a', (s.trans s').trans s3, h3, q.same s3⟩
            | bk a' => exact q
            | rt r => exact q
        rcases src.yl h.same ⟨_, h.ef⟩ (src.mono s hI) hy yl with ⟨e1, r⟩ | ⟨p, o, hp, e1, r⟩
        · subst e1; exact go S _ (Same.refl _) h r
        · subst e1; exact go (upd S p o) _ (same_new (h.same.free hp)) (h.new hp) r
      · rintro σ H ⟨S, b, a, s, h, q⟩
        rw [List.drop_length] at q
        exact q σ S H (Same.refl _) h
end
end Zk

namespace Zk
open PySem L2

/-! ### the promise of a def, with what is known of the guards (g) -/
structure FnG (g : Bool) (P : Program) (w : World) (K : PySem.W.Frag) (mg : Str → Option Value) (base : Heap) (k : Nat) (f : Addr) (fd : FuncData) (ps : List Str) (sp : Sp) : Prop where
  len : ∀ vs H Q XE, sp vs H Q XE → vs.length = ps.length
  go : ∀ (A : Around) (out : List PySem.Env) (s : Shared) (H : Hp) (args : Args) (us : List Value) (vs : List V) (Q : VK) (XE : XK), Room k A → (g = true → A.guards = some []) → Env0 P w K mg base A out s H → BindsTo s fd args (ps.zip us) → Vals vs us → sp vs H Q XE →
    codeAny (model P w) A (.call (.ref f) args) (CR (L2.CX P w) out P w H s Q XE) s
section
variable {P : Program} {w : World} {K : PySem.W.Frag} {mg : Str → Option Value} {base : Heap} {k : Nat} {f : Addr} {fd : FuncData} {ps : List Str} {sp : Sp} {g : Bool}
theorem FnG.ok (F : FnG false P w K mg base k f fd ps sp) : FnOk P w K mg base (L2.CX P w) k f fd ps sp := ⟨F.len, fun A out s H args us vs Q XE hr => F.go A out s H args us vs Q XE hr fun z => nomatch z⟩
theorem fng_of (F : FnOk P w K mg base (L2.CX P w) k f fd ps sp) : FnG g P w K mg base k f fd ps sp := ⟨F.len, fun A out s H args us vs Q XE hr _ => F.run A out s H args us vs Q XE hr⟩
theorem FnG.up (F : FnG g P w K mg base k f fd ps sp) {g' : Bool} (h : g = true → g' = true) : FnG g' P w K mg base k f fd ps sp := ⟨F.len, fun A out s H args us vs Q XE hr hg => F.go A out s H args us vs Q XE hr fun z => hg (h z)⟩
theorem FnG.mono (F : FnG g P w K mg base k f fd ps sp) {k' : Nat} (h : k ≤ k') : FnG g P w K mg base k' f fd ps sp := ⟨F.len, fun A out s H args us vs Q XE hr => F.go A out s H args us vs Q XE (hr.mono h)⟩
theorem deeper_gd {A : Around} {env : PySem.Env} (h : g = true → A.guards = some []) : g = true → (A.deeper env).guards = some [] := h
/-- a def by its body, where it stands in the written part -/
theorem fng_mk {nm qual : Str} {prm : Arguments} {body : List Stmt} {scp : Scope} {dV kV doc pm cdv ct oc : Value} {an od : Option Addr} {osl : Array (Option Value)} {N : List Str}
    (lk : K.lookup f = some ⟨oc, od, .func (PySem.W.fnOf nm qual prm body scp dV kV doc pm an cdv ct), osl⟩) (hcd : PySem.W.codeIn K cdv qual = true) (S : FnScope N ps scp) (len : ∀ vs H Q XE, sp vs H Q XE → vs.length = ps.length)
    (hb : ∀ (A : Around) (out : List PySem.Env) (s : Shared) (H : Hp) (vs : List V) (Q : VK) (XE : XK), Room k (A.deeper (PyProof.Rows.envOfC qual scp s.heap.objs.size f cdv)) → (g = true → A.guards = some []) → sp vs H Q XE →
      ∃ t, PSs (cxOf (L2.CX P w) P w K mg base N qual scp f cdv A out s H XE) body t ∧ t { nx := fun _ H' => Q .non H', rt := Q } (start N vs) H) :
    FnG g P w K mg base (k + 1) f (PySem.W.fnOf nm qual prm body scp dV kV doc pm an cdv ct) ps sp :=
  ⟨len, fun A out s H args us vs Q XE hr hg e0 bd rel hsp => by
    have kin : K.In s.heap := e0.mod.kin.keeps fun a o z => (e0.bs a o z).1
    have nol : s.heap.NoLimit := e0.mod.nolimit.keeps fun a o z => (e0.bs a o z).1
    have hl := len _ _ _ _ hsp
    have par : ∀ y ∈ ps.zip us, scp.names.lookup y.1 = some .local ∨ (scp.names.lookup y.1 = some .cell ∧ ((cellsFrom (s.heap.objs.size + 1) scp.names []).lookup y.1).isSome = true) := by
      intro y hy
      rcases S.par y.1 (List.of_mem_zip (a := y.1) (b := y.2) hy).1 with z | z
      · exact Or.inl z
      · exact Or.inr (And.intro z (PySem.W.cellsFrom_some _ _ _ (.inl z)))
    refine codeAny_call_function hr.depth (kin _ _ lk) rfl S.co S.gen rfl (PySem.W.codeRec_of kin hcd) (bd _ _ _ _ (wpAny_newFunctionEnv_cells S.kind par fun env he s1 nw => ?_))
    subst he
    refine ⟨nol.keeps nw.toInCall.keep, codeAny_func ?_⟩
    obtain ⟨t, ht, hq⟩ := hb A out s H vs Q XE (hr.deeper _) hg hsp
    have I := inv_start (CX := L2.CX P w) (mg := mg) (qual := qual) (f := f) (cd := cdv) (E := XE) S hr.hd e0 hl rel nw
    refine wpAny_mono (ht.run [] s1 (start N vs) H _ I hq) (fun fl s' hs => ?_) fun _ _ z => z
    cases fl with
    | ret u => obtain ⟨v, σ', H', J, rv, q⟩ := hs; exact ⟨v, H', J.os, J.bare, J.base, J.hok, rv, q⟩
    | next => obtain ⟨σ', H', J, q⟩ := hs; exact ⟨.non, H', J.os, J.bare, J.base, J.hok, rfl, q⟩
    | brk => obtain ⟨_, _, _, q⟩ := hs; exact q.elim
    | cont => obtain ⟨_, _, _, q⟩ := hs; exact q.elim⟩
theorem fng_D {x qual : Str} {prm : Arguments} {body : List Stmt} {scp : Scope} {dvs : List V} {kws : List (Str × V)} {N : List Str} (F : FunD K x qual prm body scp dvs kws f fd) (S : FnScope N ps scp) (len : ∀ vs H Q XE, sp vs H Q XE → vs.length = ps.length)
    (hb : ∀ (cdv : Value) (A : Around) (out : List PySem.Env) (s : Shared) (H : Hp) (vs : List V) (Q : VK) (XE : XK), Room k (A.deeper (PyProof.Rows.envOfC qual scp s.heap.objs.size f cdv)) → (g = true → A.guards = some []) → sp vs H Q XE →
      ∃ t, PSs (cxOf (L2.CX P w) P w K mg base N qual scp f cdv A out s H XE) body t ∧ t { nx := fun _ H' => Q .non H', rt := Q } (start N vs) H) : FnG g P w K mg base (k + 1) f fd ps sp := by
  obtain ⟨oc, od, dV, kV, doc, pm, an, cdv, ct, osl, rfl, lk, hcd, _⟩ := F.ex
  exact fng_mk lk hcd S len fun A out s H vs Q XE => hb cdv A out s H vs Q XE
theorem fng_F {x qual : Str} {st : Stmt} {N : List Str} (F : Fun K x qual st f fd) (S : FnScope N ps (defScope st)) (len : ∀ vs H Q XE, sp vs H Q XE → vs.length = ps.length)
    (hb : ∀ (cdv : Value) (A : Around) (out : List PySem.Env) (s : Shared) (H : Hp) (vs : List V) (Q : VK) (XE : XK), Room k (A.deeper (PyProof.Rows.envOfC qual (defScope st) s.heap.objs.size f cdv)) → (g = true → A.guards = some []) → sp vs H Q XE →
      ∃ t, PSs (cxOf (L2.CX P w) P w K mg base N qual (defScope st) f cdv A out s H XE) (defBody st) t ∧ t { nx := fun _ H' => Q .non H', rt := Q } (start N vs) H) : FnG g P w K mg base (k + 1) f fd ps sp := by
  obtain ⟨oc, od, kV, doc, pm, an, cdv, ct, osl, rfl, lk, hcd⟩ := F.ex
  exact fng_mk lk hcd S len fun A out s H vs Q XE => hb cdv A out s H vs Q XE
end
section
variable {X : Cx} {k : Nat} {f C : Addr} {fd : FuncData} {ps : List Str} {sp : Sp} {dvs : List V} {ds : List Value} {Ex : St → XK} {x m : Str} {pos apos p : Pos} {e o : Expr} {es : List Expr} {ta : TE} {t : TA} {g : Bool}
abbrev FnX (g : Bool) (X : Cx) := FnG g X.prog X.w X.K X.mg X.base
theorem FnG.run_ {pins : List (Addr × Obj)} {σ : St} {H : Hp} {s : Shared} {Q : VK} {us : List Value} {vs : List V} (F : FnX g X k f fd ps sp) (hr : Room k X.A) (hg : g = true → X.A.guards = some []) (hb : Binds X.K fd ps ds) (hd : Vals dvs ds) (hx : PassesAt (L2.CX X.prog X.w) X σ (Ex σ))
    (I : Inv X pins σ H s) (r : Vals vs us) (h : sp (vs ++ dvs) H Q (Ex σ)) : wpAny (model X.prog X.w) X.A (call (.ref f) us) (EP X pins σ Q) X.xe s := by
  have rr := r.append hd
  refine wpAny_call (codeAny_mono (F.go X.A X.stack s H ⟨us, []⟩ (us ++ ds) (vs ++ dvs) Q (Ex σ) hr hg I.env0 (hb s us I.kIn (rr.length.symm.trans (F.len _ _ _ _ h))) rr h) fun r s' hq => ?_)
  match r with
  | .error z => exact hx pins H s z s' I hq
  | .ok (.ret u) => exact I.after hq
  | .ok .next => exact hq.elim
  | .ok .brk => exact hq.elim
  | .ok .cont => exact hq.elim
theorem pe_callG (F : FnX g X k f fd ps sp) (hr : Room k X.A) (hg : g = true → X.A.guards = some []) (gl : Gl X x) (hm : X.mg x = some (.ref f)) (hk : PySem.W.keepIn X.K (.ref f) = true) (hb : Binds X.K fd ps ds) (hd : Vals dvs ds) (hx : ∀ σ, PassesAt (L2.CX X.prog X.w) X σ (Ex σ))
    (ha : PA X (e :: es) t) (hdb : (x == ("__debug__" : Str)) = false) (he : starEach (e :: es) X.env = (false, eval e X.env) :: starEach es X.env) (hpl : (backTo pos (starEach es X.env)).any (·.1) = false) :
    PE X (.Call (.Name x p) (e :: es) [] pos) (fun σ H Q => t σ H fun vs H1 => sp (vs ++ dvs) H1 Q (Ex σ)) :=
  ⟨fun pins s σ H Q I h => wpAny_Call_Name_kw (ld_glob I gl hm (PySem.W.callWith_K (h₀ := X.base) I.ok.mod.kin hk (thn (ha.run pos pins s σ H _ I h) fun us s1 ⟨vs, H1, I1, r, q⟩ => ⟨I1.kIn, F.run_ hr hg hb hd (hx σ) I1 r q⟩) he hpl) hdb)⟩
end

section
variable {τ α β γ δ κ ρ ι θ : Type} {G : Gx} {c : Sc} {E : Eff τ} {W : WX} {Γ Γ' : Env} {B : Bs} {σ : St} {S S1 S' H H' : Hp} {b b' : τ} {L : Ls κ ρ}
/-! ### defs: their promise, their call -/
def noE : Eff Unit := ⟨fun _ => False, fun _ _ _ => True, fun _ _ _ _ => trivial, fun _ h => h.elim⟩
/-- behind a call: what was one's own stands -/
theorem Hold.call (h : Hold E B Γ b σ S H) (k : Keep E.own ⟨S, H⟩ S' H') (e : E.is b' S' H') : Hold E B Γ b' σ S' H' := by
  obtain ⟨Fs, hF, hs⟩ := h.sl
  refine ⟨⟨k.same, h.kp.up.trans k.up, fun a o h1 h2 h3 => ?_⟩, e, Fs, ⟨fun i a e => ?_, hF.ds⟩, fun i s e => ?_⟩
  · obtain ⟨q1, q2⟩ := h.kp.kp a o h1 h2 h3
    exact k.kp a o q1 q2 h3
  · obtain ⟨q1, q2, q3, o, q4⟩ := hF.at_ i a e
    exact ⟨(k.kp a o q1 q4 q3).1, q2, q3, o, (k.kp a o q1 q4 q3).2⟩
  · have q := hs i s e
    cases s with
    | no => trivial
    | st p => obtain ⟨x, e1, e2⟩ := q; exact ⟨x, e1, p.mono k.up e2⟩
    | ow p => obtain ⟨x, e1, e2⟩ := q; exact ⟨x, e1, p.mono k.up (fun a o ha e => by
        obtain ⟨q1, _, q3, _⟩ := hF.at_ i a ha
        exact (k.kp a o q1 e q3).2) e2⟩
theorem Hold.callP (h : Hold E B Γ b σ S H) (k : Keep (fun _ => False) ⟨S, H⟩ S' H') : Hold E B Γ b σ S' H' := by
  refine h.grow k.up k.same (fun a o h1 h2 => k.kp a o h1 h2 id) fun a ha hs => ?_
  obtain ⟨_, o, ho⟩ := E.th h.ef ha
  exact (k.kp a o hs ho id).1
def finZ (G : Gx) (E : Eff τ) (S H : Hp) (R : Rel ρ) (Q : VK) (XE : XK) : Out τ ρ → Prop
  | .ok r b' => ∀ v S' H', Keep E.own ⟨S, H⟩ S' H' → E.is b' S' H' → R.is r S' v → Q v H'
  | .exc e b' => ∀ c d S' H', Keep E.own ⟨S, H⟩ S' H' → E.is b' S' H' → XAt G e H' c d → XE c d H'
  | .stuck => False
/-- the promise of a def: of what stands for x (the addresses q of what it may change are the caller's) it hands back what m x tells -/
def spZ (G : Gx) (E : θ → Eff τ) (A : θ → α → List Pr) (m : α → M τ ρ) (R : Rel ρ) : Sp := fun vs H Q XE => ∃ q x S b, All2 (fun (p : Pr) v => p.p S v) (A q x) vs ∧ Same S H ∧ (E q).is b S H ∧ finZ G (E q) S H R Q XE (m x b)
structure FnAt (g : Bool) (G : Gx) (x : Str) (k : Nat) (ps : List Str) (sp : Sp) : Prop where
  ex : ∃ f fd, G.mg x = some (.ref f) ∧ PySem.W.keepIn G.K (.ref f) = true ∧ Binds G.K fd ps [] ∧ FnG g G.P G.w G.K G.mg G.base k f fd ps sp
theorem tz_sp {E' : θ → Eff τ} {A : θ → α → List Pr} {m : α → M τ ρ} {R : Rel ρ} {q : θ} {x : α} {vs : List V} {Q : VK} (hE : E' q = E) (h : Hold E B Γ b σ S H) (r : All2 (fun (p : Pr) v => p.p S v) (A q x) vs) (a : aft G E W B Γ σ S R Q (m x b)) : spZ G E' A m R vs H Q (WE W σ) := by
  subst hE
  refine ⟨q, x, S, b, r, h.same, h.ef, ?_⟩
  cases e : m x b with
  | stuck => rw [e] at a; exact a.elim
  | exc e b' => rw [e] at a; exact fun c d S' H' k he xa => a c d S' H' k.up (h.call k he) xa
  | ok r b' => rw [e] at a; exact fun v S' H' k he rr => a v S' H' k.up (h.call k he) rr
theorem tz_spP {A : θ → α → List Pr} {m : α → M Unit ρ} {R : Rel ρ} {q : θ} {x : α} {vs : List V} {Q : VK} (h : Hold E B Γ b σ S H) (r : All2 (fun (p : Pr) v => p.p S v) (A q x) vs) (a : aft G E W B Γ σ S R Q (lft (m x) b)) : spZ G (fun _ => noE) A m R vs H Q (WE W σ) := by
  refine ⟨q, x, S, (), r, h.same, trivial, ?_⟩
  unfold lft at a
  cases e : m x () with
  | stuck => rw [e] at a; exact a.elim
  | exc e b' => rw [e] at a; exact fun c d S' H' k he xa => a c d S' H' k.up (h.callP k) xa
  | ok r b' => rw [e] at a; exact fun v S' H' k he rr => a v S' H' k.up (h.callP k) rr
theorem z_call {g : Bool} {x : Str} {k : Nat} {ps : List Str} {E' : θ → Eff τ} {A : θ → α → List Pr} {f : α → M τ ρ} {R : Rel ρ} {q : θ} {e : Expr} {es : List Expr} {m : M τ α} {p pos : Pos} (F : FnAt g G x k ps (spZ G E' A f R)) (hE : E' q = E) (hk : k ≤ c.k) (hg : g = true → c.gd = true) (gb : Gb c x) (ha : ZA G c E W Γ (e :: es) m (A q))
    (hd : (x == ("__debug__" : Str)) = false := by decide) (he : Star e es := by intro _; rfl) (hpl : ∀ env : PySem.Env, (backTo pos (starEach es env)).any (·.1) = false := by intro _; rfl) : ZE G c E W Γ (.Call (.Name x p) (e :: es) [] pos) (zapp f m) R := fun X C => by
  obtain ⟨f0, fd, h1, h2, h3, h4⟩ := F.ex
  rw [← C.prog, ← C.w, ← C.K, ← C.mg, ← C.base] at h4
  rw [← C.mg] at h1
  rw [← C.K] at h2 h3
  exact pe_wk (pe_callG (Ex := WE W) h4 (C.room.mono hk) (fun z => C.gds (hg z)) (C.gl gb) h1 h2 h3 .nil (passAt C.takes) (ha X C) hd (he _) (hpl _)) fun σ H Q _ ⟨B, S, b, hh, qq⟩ =>
    tz_Abnd hh qq fun x b1 vs S1 H1 s1 hh1 r1 q1 => by rw [List.append_nil]; exact tz_sp hE hh1 r1 q1
theorem z_callP {g : Bool} {x : Str} {k : Nat} {ps : List Str} {A : θ → α → List Pr} {f : α → M Unit ρ} {R : Rel ρ} {q : θ} {e : Expr} {es : List Expr} {m : M τ α} {p pos : Pos} (F : FnAt g G x k ps (spZ G (fun _ => noE) A f R)) (hk : k ≤ c.k) (hg : g = true → c.gd = true) (gb : Gb c x) (ha : ZA G c E W Γ (e :: es) m (A q))
    (hd : (x == ("__debug__" : Str)) = false := by decide) (he : Star e es := by intro _; rfl) (hpl : ∀ env : PySem.Env, (backTo pos (starEach es env)).any (·.1) = false := by intro _; rfl) : ZE G c E W Γ (.Call (.Name x p) (e :: es) [] pos) (zapp (fun x => lft (f x)) m) R := fun X C => by
  obtain ⟨f0, fd, h1, h2, h3, h4⟩ := F.ex
  rw [← C.prog, ← C.w, ← C.K, ← C.mg, ← C.base] at h4
  rw [← C.mg] at h1
  rw [← C.K] at h2 h3
  exact pe_wk (pe_callG (Ex := WE W) h4 (C.room.mono hk) (fun z => C.gds (hg z)) (C.gl gb) h1 h2 h3 .nil (passAt C.takes) (ha X C) hd (he _) (hpl _)) fun σ H Q _ ⟨B, S, b, hh, qq⟩ =>
    tz_Abnd hh qq fun x b1 vs S1 H1 s1 hh1 r1 q1 => by rw [List.append_nil]; exact tz_spP hh1 r1 q1
/-! ### a def's body -/
/-- behind a body that may go on to its end -/
def zfin (n : α → M τ ρ) (m : M τ (Fl α κ ρ)) : M τ ρ := fun s => match m s with
  | .ok (.nx a) s' => n a s'
  | .ok (.rt r) s' => .ok r s'
  | .ok _ _ => .stuck
  | .exc e s' => .exc e s'
  | .stuck => .stuck
/-- a def never ends but by return -/
def zbody (m : M τ (Fl α κ ρ)) : M τ ρ := zfin (fun _ => stk) m
def envOf (n : Nat) (ps : List Pr) : Env := ps.map .st ++ List.replicate (n - ps.length) .no
theorem hold_start {q : Eff τ} {S H : Hp} {ps : List Pr} {vs : List V} {N : List Str} (s : Same S H) (he : q.is b S H) (r : All2 (fun (p : Pr) v => p.p S v) ps vs) : Hold q ⟨S, H⟩ (envOf N.length ps) b (L2.start N vs) S H := by
  refine ⟨⟨s, Same.refl _, fun a o h1 h2 _ => ⟨h1, h2⟩⟩, he, fun _ _ => False, ⟨fun _ _ h => h.elim, fun _ _ _ h => h.elim⟩, fun i sl e => ?_⟩
  unfold envOf at e
  unfold L2.start
  by_cases hi : i < ps.length
  · rw [List.getElem?_append_left (by simpa using hi), List.getElem?_map] at e
    cases e2 : ps[i]? with
    | none => rw [e2] at e; cases e
    | some p =>
      rw [e2] at e; cases e
      obtain ⟨v, h1, h2⟩ := r.get e2
      rw [List.getElem?_append_left (by rw [List.length_map, ← r.length]; exact hi), List.getElem?_map, h1]
      exact ⟨v, rfl, h2⟩
  · rw [List.getElem?_append_right (by simpa using hi), List.getElem?_replicate] at e
    split at e
    · cases e; trivial
    · cases e
theorem All2.len {r : Pr → V → Prop} {ps : List Pr} {vs : List V} (h : All2 r ps vs) : vs.length = ps.length := h.length.symm
/-- THE RULE for a def: its body's mirror -/
theorem fn_ok {g : Bool} {x qual : Str} {st : Stmt} {f : Addr} {fd : FuncData} {N ps : List Str} {k : Nat} {E : θ → Eff τ} {A : θ → α → List Pr} {m : α → M τ ρ} {R : Rel ρ} {mb : α → M τ (Fl β Empty ρ)} {Γn : θ → α → β → Env} {n : α → β → M τ ρ} (F : Fun G.K x qual st f fd) (sc : FnScope N ps (defScope st))
    (hA : ∀ q x, (A q x).length = ps.length) (hm : ∀ x, m x = zfin (n x) (mb x)) (hn : (∀ x a, n x a = stk) ∨ (∀ x a, ∃ r, n x a = ret r ∧ ∀ S, R.is r S .non))
    (hb : ∀ q x (W : WX), ZB G ⟨N, defScope st, k, true, fun _ => true, g⟩ (E q) W ⟨fun e : Empty => e.elim, [], R⟩ (envOf N.length (A q x)) (defBody st) (mb x) (Γn q x)) :
    FnG g G.P G.w G.K G.mg G.base (k + 1) f fd ps (spZ G E A m R) := by
  refine fng_F F sc (fun vs H Q XE h => ?_) (fun cdv A0 outer s H vs Q XE hr hgd h => ?_)
  · obtain ⟨q, x, S, b, r, _⟩ := h
    rw [← r.length, hA]
  · obtain ⟨q, x, S, b, r, hs, he, fz⟩ := h
    let W : WX := fun cls d _ H => XE cls d H
    have C : CtxOk G ⟨N, defScope st, k, true, fun _ => true, g⟩ W (cxOf (L2.CX G.P G.w) G.P G.w G.K G.mg G.base N qual (defScope st) f cdv A0 outer s H XE) :=
      ⟨rfl, rfl, rfl, rfl, rfl, rfl, sc.nd, rfl, rfl, hr, hgd, takes_of rfl rfl rfl rfl, passes_of rfl, rfl, fun _ => ⟨rfl, rfl⟩⟩
    refine ⟨_, hb q x W _ C, ⟨S, H⟩, S, b, hold_start hs he r, ?_⟩
    rw [hm] at fz
    unfold zfin at fz
    cases e : mb x b with
    | stuck => rw [e] at fz; exact fz.elim
    | exc e b' => rw [e] at fz; exact fun c d σ' S' H' h xa => fz c d S' H' h.kp h.ef xa
    | ok r b' =>
      rw [e] at fz
      cases r with
      | bk k => exact k.elim
      | ct k => exact k.elim
      | rt r => exact fun v σ' S' H' h rr => fz v S' H' h.kp h.ef rr
      | nx a =>
        intro σ' S' H' _ h
        rcases hn with hn | hn
        · have fz : finZ G (E q) S H R Q XE (n x a b') := fz
          rw [hn] at fz; exact fz.elim
        · obtain ⟨r, hr, hR⟩ := hn x a
          have fz : finZ G (E q) S H R Q XE (n x a b') := fz
          rw [hr] at fz
          exact fz .non S' H' h.kp h.ef (hR S')
end
end Zk

namespace Zk
open PySem L2

section
variable {τ α β γ δ κ ρ ι θ : Type} {G : Gx} {c : Sc} {E : Eff τ} {W : WX} {Γ Γ' : Env} {B : Bs} {σ : St} {S S1 S' H H' : Hp} {b b' : τ} {L : Ls κ ρ}
/-! ### what is one's own -/
def ownL (R : Rel α) (xs : List α) : PrO := ⟨fun S H v F => ∃ l vs, v = .ref l ∧ (∀ a, F a ↔ a = l) ∧ H l = some (.lst vs) ∧ All2 (fun x v => R.is x S v) xs vs,
  fun s k ⟨l, vs, e, f, h, q⟩ => ⟨l, vs, e, f, k _ _ ((f l).mpr rfl) h, All2.rel s q⟩⟩
/-- an instance of the class at C with (at least) these fields, the first told of a name counts -/
def ownO (q0 : Addr → Prop) (C : Addr) (fs : List (Str × Pr)) : PrO := ⟨fun S H v F => ∃ l dx vs, v = .ref l ∧ q0 l ∧ (∀ a, F a ↔ a = l) ∧ H l = some (.ins C dx vs) ∧ vs.length ≤ fs.length ∧ (∀ k, fs.lookup k = none → vs.lookup k = none) ∧ ∀ f p, fs.lookup f = some p → ∃ u, vs.lookup f = some u ∧ p.p S u,
  fun s k ⟨l, dx, vs, e, e0, f, h, hl, hn, q⟩ => ⟨l, dx, vs, e, e0, f, k _ _ ((f l).mpr rfl) h, hl, hn, fun f p e => let ⟨u, h1, h2⟩ := q f p e; ⟨u, h1, p.mono s h2⟩⟩⟩
/-- a thing of one's own, what it is where all of it is stable -/
structure One (p : PrO) (q : Pr) : Prop where
  at_ : ∀ {S H : Hp} {v : V} {F : Addr → Prop}, p.p S H v F → ∀ S', Same S S' → (∀ a o, F a → H a = some o → S' a = some o) → q.p S' v
theorem one_L {R : Rel α} {xs : List α} : One (ownL R xs) ((rLst R).pr xs) := ⟨fun ⟨l, vs, e, f, h, q⟩ S' s k => ⟨l, vs, e, k _ _ ((f l).mpr rfl) h, All2.rel s q⟩⟩
open Classical in
/-- becomes stable -/
theorem Hold.frz {i : Nat} {p : PrO} {q : Pr} (one : One p q) (h : Hold E B Γ b σ S H) (hi : Γ[i]? = some (.ow p)) : ∃ S', Same S S' ∧ Hold E B (Γ.set i (.st q)) b σ S' H := by
  obtain ⟨Fs, hF, hs⟩ := h.sl
  obtain ⟨v, e1, e2⟩ := hs i _ hi
  let T : Hp := fun a => if Fs i a then H a else S a
  have ti : ∀ a, Fs i a → T a = H a := fun a z => if_pos z
  have tn : ∀ a, ¬ Fs i a → T a = S a := fun a z => if_neg z
  have sm : Same S T := fun a o e => by
    rw [tn a fun z => by rw [(hF.at_ i a z).1] at e; cases e]; exact e
  refine ⟨T, sm, ⟨fun a o e => ?_, h.kp.up.trans sm, fun a o h1 h2 h3 => ?_⟩, E.mono sm (fun a ha hn => ?_) (fun _ _ _ e => e) h.ef, fun j a => j ≠ i ∧ Fs j a, ⟨fun j a ⟨n, e⟩ => ?_, fun j k a e1 e2 => hF.ds _ _ a e1.2 e2.2⟩, fun j s e => ?_⟩
  · by_cases ha : Fs i a
    · rw [ti a ha] at e; exact e
    · rw [tn a ha] at e; exact h.same _ _ e
  · obtain ⟨r1, r2⟩ := h.kp.kp a o h1 h2 h3
    rw [tn a fun z => by rw [(hF.at_ i a z).2.1] at h2; cases h2]; exact ⟨r1, r2⟩
  · rw [tn a fun z => (hF.at_ i a z).2.2.1 ha]; exact hn
  · obtain ⟨r1, r2, r3, r4⟩ := hF.at_ j a e
    rw [tn a fun z => n (hF.ds j i a e z)]; exact ⟨r1, r2, r3, r4⟩
  · rcases set_get e with ⟨rfl, rfl⟩ | ⟨n, e⟩
    · exact ⟨_, e1, one.at_ e2 T sm fun a o z e => by rw [ti a z]; exact e⟩
    · have q := hs j s e
      cases s with
      | no => trivial
      | st p => obtain ⟨x, e1, e2⟩ := q; exact ⟨x, e1, p.mono sm e2⟩
      | ow p =>
        obtain ⟨x, e1, e2⟩ := q
        refine ⟨x, e1, ?_⟩
        have ef : (fun a => j ≠ i ∧ Fs j a) = Fs j := funext fun a => propext ⟨fun z => z.2, fun z => ⟨n, z⟩⟩
        show p.p T H x (fun a => j ≠ i ∧ Fs j a)
        rw [ef]
        exact p.mono sm (fun _ _ _ e => e) e2
theorem sub_frz {i : Nat} {p : PrO} {q : Pr} (one : One p q) (hi : Γ[i]? = some (.ow p) := by rfl) : Sub E Γ (Γ.set i (.st q)) := fun h => h.frz one hi
/-- kinds whose things have nothing in the heap -/
structure Flat (R : Rel α) : Prop where
  h : ∀ {x : α} {S S' : Hp} {v : V}, R.is x S v → R.is x S' v
theorem fl_int : Flat rInt := ⟨fun h => h⟩
theorem fl_bl : Flat rBl := ⟨fun h => h⟩
theorem fl_str : Flat rStr := ⟨fun h => h⟩
theorem fl_non : Flat rNon := ⟨fun h => h⟩
theorem fl_opt {R : Rel α} (f : Flat R) : Flat (rOpt R) := ⟨fun {x _ _ _} h => by cases x with | none => exact h | some y => exact f.h h⟩
/-- what may change hangs on nothing stable -/
structure Free (E : Eff τ) : Prop where
  h : ∀ {b : τ} {S S' H : Hp}, (∀ a, E.own a → S' a = none) → E.is b S H → E.is b S' H
theorem free_no : Free noE := ⟨fun _ h => h⟩
/-- all that is one's own, as if it were stable -/
inductive Frz : Env → Env → Prop
  | nil : Frz [] []
  | no {l l' : Env} : Frz l l' → Frz (.no :: l) (.no :: l')
  | st {p : Pr} {l l' : Env} : Frz l l' → Frz (.st p :: l) (.st p :: l')
  | ow {p : PrO} {q : Pr} {l l' : Env} : One p q → Frz l l' → Frz (.ow p :: l) (.st q :: l')
theorem Frz.get : ∀ {l l' : Env}, Frz l l' → ∀ {i : Nat} {s : Sl}, l'[i]? = some s → (s = .no ∧ l[i]? = some .no) ∨ (∃ p, s = .st p ∧ l[i]? = some (.st p)) ∨ ∃ p q, s = .st q ∧ One p q ∧ l[i]? = some (.ow p)
  | _, _, .nil, i, s, h => by simp at h
  | _, _, .no f, 0, s, h => by simp at h; exact .inl ⟨h.symm, rfl⟩
  | _, _, .st f, 0, s, h => by simp at h; exact .inr (.inl ⟨_, h.symm, rfl⟩)
  | _, _, .ow one f, 0, s, h => by simp at h; exact .inr (.inr ⟨_, _, h.symm, one, rfl⟩)
  | _, _, .no f, i + 1, s, h => by simpa using f.get (i := i) (by simpa using h)
  | _, _, .st f, i + 1, s, h => by simpa using f.get (i := i) (by simpa using h)
  | _, _, .ow one f, i + 1, s, h => by simpa using f.get (i := i) (by simpa using h)
open Classical in
/-- read as if stable, then one's own again -/
theorem Hold.lend (fz : Frz Γ Γ') (fr : Free E) (h : Hold E B Γ b σ S H) : ∃ Sp, Same S Sp ∧ Hold E B Γ' b σ Sp H ∧ ∀ b1 S2 H2, Same Sp S2 → Hold E B Γ' b1 σ S2 H2 → ∃ S3, Same S S3 ∧ Hold E B Γ b1 σ S3 H2 := by
  obtain ⟨Fs, hF, hs⟩ := h.sl
  let Ow : Addr → Prop := fun a => ∃ i p, Γ[i]? = some (.ow p) ∧ Fs i a
  have nS : ∀ a, Ow a → S a = none := fun a ⟨i, p, _, e⟩ => (hF.at_ i a e).1
  have nB : ∀ a, Ow a → B.H a = none := fun a ⟨i, p, _, e⟩ => (hF.at_ i a e).2.1
  have nE : ∀ a, Ow a → ¬ E.own a := fun a ⟨i, p, _, e⟩ => (hF.at_ i a e).2.2.1
  have sm : Same S (fun a => if Ow a then H a else S a) := fun a o e => by
    have n : ¬ Ow a := fun z => by rw [nS a z] at e; cases e
    show (if Ow a then H a else S a) = some o
    rw [if_neg n]; exact e
  refine ⟨fun a => if Ow a then H a else S a, sm, ⟨⟨fun a o e => ?_, h.kp.up.trans sm, fun a o h1 h2 h3 => ?_⟩, E.mono sm (fun a ha hn => ?_) (fun _ _ _ e => e) h.ef, fun _ _ => False, ⟨fun _ _ z => z.elim, fun _ _ _ z => z.elim⟩, fun i s e => ?_⟩, fun b1 S2 H2 s2 h2 => ?_⟩
  · have e : (if Ow a then H a else S a) = some o := e
    by_cases ha : Ow a
    · rw [if_pos ha] at e; exact e
    · rw [if_neg ha] at e; exact h.same _ _ e
  · have n : ¬ Ow a := fun z => by rw [nB a z] at h2; cases h2
    obtain ⟨r1, r2⟩ := h.kp.kp a o h1 h2 h3
    exact ⟨by show (if Ow a then H a else S a) = none; rw [if_neg n]; exact r1, r2⟩
  · show (if Ow a then H a else S a) = none
    rw [if_neg fun z => nE a z ha]; exact hn
  · rcases fz.get e with ⟨rfl, _⟩ | ⟨p, rfl, e'⟩ | ⟨p, q, rfl, one, e'⟩
    · trivial
    · obtain ⟨x, e1, e2⟩ := hs i _ e'; exact ⟨x, e1, p.mono sm e2⟩
    · obtain ⟨x, e1, e2⟩ := hs i _ e'
      refine ⟨_, e1, one.at_ e2 _ sm fun a o z e => ?_⟩
      show (if Ow a then H a else S a) = some o
      rw [if_pos ⟨i, p, e', z⟩]; exact e
  · have kk : ∀ a o, Ow a → H a = some o → H2 a = some o := fun a o ha e => h2.same _ _ (s2 _ _ (by show (if Ow a then H a else S a) = some o; rw [if_pos ha]; exact e))
    have sm2 : Same S (fun a => if Ow a then none else S2 a) := fun a o e => by
      have n : ¬ Ow a := fun z => by rw [nS a z] at e; cases e
      show (if Ow a then none else S2 a) = some o
      rw [if_neg n]; exact s2 _ _ (sm _ _ e)
    refine ⟨fun a => if Ow a then none else S2 a, sm2, ⟨⟨fun a o e => ?_, h.kp.up.trans sm2, fun a o h1 h2' h3 => ?_⟩, fr.h (fun a ha => ?_) h2.ef, fun i a => (∃ p, Γ[i]? = some (.ow p)) ∧ Fs i a, ⟨fun i a ⟨⟨p, ep⟩, e⟩ => ?_, fun i j a e1 e2 => hF.ds _ _ a e1.2 e2.2⟩, fun i s e => ?_⟩⟩
    · have e : (if Ow a then none else S2 a) = some o := e
      by_cases ha : Ow a
      · rw [if_pos ha] at e; cases e
      · rw [if_neg ha] at e; exact h2.same _ _ e
    · have n : ¬ Ow a := fun z => by rw [nB a z] at h2'; cases h2'
      obtain ⟨r1, r2⟩ := h2.kp.kp a o h1 h2' h3
      exact ⟨by show (if Ow a then none else S2 a) = none; rw [if_neg n]; exact r1, r2⟩
    · show (if Ow a then none else S2 a) = none
      rw [if_neg fun z => nE a z ha]; exact (E.th h2.ef ha).1
    · obtain ⟨r1, r2, r3, o, r4⟩ := hF.at_ i a e
      refine ⟨?_, r2, r3, o, kk a o ⟨i, p, ep, e⟩ r4⟩
      show (if Ow a then none else S2 a) = none
      rw [if_pos ⟨i, p, ep, e⟩]
    · have q := hs i s e
      cases s with
      | no => trivial
      | st p => obtain ⟨x, e1, e2⟩ := q; exact ⟨x, e1, p.mono sm2 e2⟩
      | ow p =>
        obtain ⟨x, e1, e2⟩ := q
        refine ⟨x, e1, ?_⟩
        have ef : (fun a => (∃ p, Γ[i]? = some (.ow p)) ∧ Fs i a) = Fs i := funext fun a => propext ⟨fun z => z.2, fun z => ⟨⟨p, e⟩, z⟩⟩
        show p.p _ H2 x (fun a => (∃ p, Γ[i]? = some (.ow p)) ∧ Fs i a)
        rw [ef]
        exact p.mono sm2 (fun a o ha e' => kk a o ⟨i, p, e, ha⟩ e') e2
theorem z_lend {e : Expr} {m : M τ α} {R : Rel α} (fz : Frz Γ Γ') (fr : Free E) (fl : Flat R) (h : ZE G c E W Γ' e m R) : ZE G c E W Γ e m R := fun X C => pe_wk (h X C) fun σ H Q _ ⟨B, S, b, hh, q⟩ => by
  obtain ⟨Sp, s, hp, back⟩ := hh.lend fz fr
  refine ⟨B, Sp, b, hp, ?_⟩
  cases e : m b with
  | stuck => rw [e] at q; exact q.elim
  | exc x b1 => rw [e] at q; exact fun c d S' H' s' h' xa => let ⟨S3, s3, h3⟩ := back b1 S' H' s' h'; q c d S3 H' s3 h3 xa
  | ok a b1 => rw [e] at q; exact fun v S' H' s' h' r => let ⟨S3, s3, h3⟩ := back b1 S' H' s' h'; q v S3 H' s3 h3 (fl.h r)
theorem zt_lend {e : Expr} {m : M τ Bool} (fz : Frz Γ Γ') (fr : Free E) (h : ZT G c E W Γ' e m) : ZT G c E W Γ e m := fun X C => pt_wk (h X C) fun σ H Q _ ⟨B, S, b, hh, q⟩ => by
  obtain ⟨Sp, s, hp, back⟩ := hh.lend fz fr
  refine ⟨B, Sp, b, hp, ?_⟩
  cases e : m b with
  | stuck => rw [e] at q; exact q.elim
  | exc x b1 => rw [e] at q; exact fun c d S' H' s' h' xa => let ⟨S3, s3, h3⟩ := back b1 S' H' s' h'; q c d S3 H' s3 h3 xa
  | ok a b1 => rw [e] at q; exact fun S' H' s' h' => let ⟨S3, s3, h3⟩ := back b1 S' H' s' h'; q S3 H' s3 h3
end
end Zk

namespace Zk
open PySem L2

section
variable {τ α β γ δ κ ρ ι θ : Type} {G : Gx} {c : Sc} {E : Eff τ} {W : WX} {Γ Γ' : Env} {B : Bs} {σ : St} {S S1 S' H H' : Hp} {b b' : τ} {L : Ls κ ρ}
/-! ### new things that are one's own -/
def aftF (G : Gx) (E : Eff τ) (W : WX) (B : Bs) (Γ : Env) (σ : St) (S : Hp) (P : α → PrO) (Q : VK) : Out τ α → Prop
  | .ok a b' => ∀ v S' H1 H' F, Same S S' → Hold E B Γ b' σ S' H1 → (∀ x, F x → H1 x = none ∧ ∃ o, H' x = some o) → (∀ x, ¬ F x → H' x = H1 x) → (P a).p S' H' v F → Q v H'
  | .exc x b' => ∀ c d S' H', Same S S' → Hold E B Γ b' σ S' H' → XAt G x H' c d → W c d σ H'
  | .stuck => False
theorem aftF.same {P : α → PrO} {Q : VK} (s : Same S S1) : ∀ {o : Out τ α}, aftF G E W B Γ σ S P Q o → aftF G E W B Γ σ S1 P Q o
  | .ok _ _, h => fun v S' H1 H' F s2 => h v S' H1 H' F (s.trans s2)
  | .exc _ _, h => fun c d S' H' s2 => h c d S' H' (s.trans s2)
  | .stuck, h => h
def tzF (G : Gx) (E : Eff τ) (W : WX) (Γ : Env) (m : M τ α) (P : α → PrO) : TE := fun σ H Q => ∃ B S b, Hold E B Γ b σ S H ∧ aftF G E W B Γ σ S P Q (m b)
def ZF (G : Gx) (c : Sc) (E : Eff τ) (W : WX) (Γ : Env) (e : Expr) (m : M τ α) (P : α → PrO) : Prop := ∀ X, CtxOk G c W X → PE X e (tzF G E W Γ m P)
theorem tz_bndF {m : M τ α} {f : α → M τ β} {R : Rel α} {Q : VK} {Q' : VK} {P : β → PrO} (hh : Hold E B Γ b σ S H) (h : aftF G E W B Γ σ S P Q (bnd m f b))
    (k : ∀ x b1 v S1 H1, Same S S1 → Hold E B Γ b1 σ S1 H1 → R.is x S1 v → aftF G E W B Γ σ S1 P Q (f x b1) → Q' v H1) : tzE G E W Γ m R σ H Q' := by
  refine ⟨B, S, b, hh, ?_⟩
  unfold bnd at h
  cases e : m b with
  | ok a b1 => rw [e] at h; exact fun v S1 H1 s h1 r => k a b1 v S1 H1 s h1 r (h.same s)
  | exc x b1 => rw [e] at h; exact h
  | stuck => rw [e] at h; exact h.elim
theorem tz_AbndF {m : M τ α} {f : α → M τ β} {A : α → List Pr} {P : β → PrO} {Q : VK} {Q' : List V → Hp → Prop} (hh : Hold E B Γ b σ S H) (h : aftF G E W B Γ σ S P Q (bnd m f b))
    (k : ∀ x b1 vs S1 H1, Same S S1 → Hold E B Γ b1 σ S1 H1 → All2 (fun (p : Pr) v => p.p S1 v) (A x) vs → aftF G E W B Γ σ S1 P Q (f x b1) → Q' vs H1) : tzA G E W Γ m A σ H Q' := by
  refine ⟨B, S, b, hh, ?_⟩
  unfold bnd at h
  cases e : m b with
  | ok a b1 => rw [e] at h; exact fun v S1 H1 s h1 r => k a b1 v S1 H1 s h1 r (h.same s)
  | exc x b1 => rw [e] at h; exact h
  | stuck => rw [e] at h; exact h.elim
theorem aftF_chk {P : α → PrO} {Q : VK} {p : Prop} [Decidable p] {m : M τ α} (h : aftF G E W B Γ σ S P Q (chk p m b)) : p ∧ aftF G E W B Γ σ S P Q (m b) := by
  unfold chk at h
  by_cases hp : p
  · rw [if_pos hp] at h; exact ⟨hp, h⟩
  · rw [if_neg hp] at h; exact h.elim
/-- one new object -/
theorem aftF_new {P : α → PrO} {Q : VK} {a : α} {p : Addr} {o : HO} (hh : Hold E B Γ b σ S H) (h : aftF G E W B Γ σ S P Q (ret a b)) (hp : H p = none) (r : (P a).p S (upd H p o) (.ref p) (fun x => x = p)) : Q (.ref p) (upd H p o) :=
  h _ S H _ (fun x => x = p) (Same.refl _) hh (fun x e => by subst e; exact ⟨hp, o, upd_same⟩) (fun x n => upd_ne n) r
theorem ownL_new {R : Rel α} {p : Addr} {xs : List α} {vs : List V} (h : All2 (fun x v => R.is x S v) xs vs) : (ownL R xs).p S (upd H p (.lst vs)) (.ref p) (fun x => x = p) := ⟨p, vs, rfl, fun _ => Iff.rfl, upd_same, h⟩
theorem zf_list {es : List Expr} {m : M τ (List α)} {R : Rel α} {pos : Pos} (h : ZA G c E W Γ es m R.all) : ZF G c E W Γ (.List es pos) (zlist m) (ownL R) := fun X C => pe_wk (pe_lst (h X C)) fun σ H Q _ ⟨B, S, b, hh, q⟩ => by
  refine tz_AbndF hh q fun x b1 vs S1 H1 s1 h1 r1 q1 => ?_
  obtain ⟨hl, q2⟩ := aftF_chk q1
  have r2 := all_of r1
  exact ⟨by rw [← r2.length]; exact hl, fun p hp => aftF_new h1 q2 hp (ownL_new r2)⟩
theorem zf_listL {x : Str} {p pos : Pos} {e : Expr} {R : Rel α} {m : M τ (List α)} (bl : Blt G c x (.type "list")) (ha : ZE G c E W Γ e m (rLst R)) (hs : Star e [] := by intro _; rfl) : ZF G c E W Γ (.Call (.Name x p) [e] [] pos) (zapp ret m) (ownL R) := fun X C =>
  pe_wk (pe_callTy call_list_of (C.gl bl.g) (by rw [C.mg]; exact bl.m) bl.v (za_one ha hs X C) bl.n bl.d (hs X.env) rfl) fun σ H Q _ ⟨B, S, b, hh, q⟩ => by
    refine tz_AbndF hh q fun x b1 vs S1 H1 s1 h1 r1 q1 => ?_
    match vs, r1 with
    | [v], ⟨⟨a, us, e1, e2, e3⟩, _⟩ => exact ⟨a, us, by rw [e1], .inl (.of (h1.same _ _ e2)), fun l hl => aftF_new h1 q1 hl (ownL_new e3)⟩
theorem zf_listV {x : Str} {p pos : Pos} {e : Expr} {R : Rel α} {m : M τ (List α)} (bl : Blt G c x (.type "list")) (ha : ZE G c E W Γ e m (rVT R)) (hs : Star e [] := by intro _; rfl) : ZF G c E W Γ (.Call (.Name x p) [e] [] pos) (zapp ret m) (ownL R) := fun X C =>
  pe_wk (pe_callTy call_list_of (C.gl bl.g) (by rw [C.mg]; exact bl.m) bl.v (za_one ha hs X C) bl.n bl.d (hs X.env) rfl) fun σ H Q _ ⟨B, S, b, hh, q⟩ => by
    refine tz_AbndF hh q fun x b1 vs S1 H1 s1 h1 r1 q1 => ?_
    match vs, r1 with
    | [v], ⟨⟨a, us, e1, e2, e3⟩, _⟩ => exact ⟨a, us, by rw [e1], .inr (.of (h1.same _ _ e2)), fun l hl => aftF_new h1 q1 hl (ownL_new e3)⟩
theorem zs_setF {i : Nat} {x : Str} {e : Expr} {m : M τ α} {P : α → PrO} {p pos : Pos} (n : Ns c i x) (h : ZF G c E W Γ e m P) (sx : Sub E Γ L.x) (hs : NoSwap e := by intro _ _ _; rfl) : ZS G c E W L Γ (.Assign [.Name x p] e pos) (zset m) (fun a => Γ.set i (.ow (P a))) := fun X C =>
  ps_wk (ps_set C.set_hN (C.hi n.n) (by rw [C.sc]; exact n.l) (h X C) (hs _ _ _) (C.hf n)) fun D σ H hl ⟨B, S, b, hh, q⟩ => by
    refine ⟨B, S, b, hh, ?_⟩
    unfold zset bnd at q
    cases e : m b with
    | stuck => rw [e] at q; exact q.elim
    | exc x b1 => rw [e] at q; exact fun c d S1 H1 _ h1 xa => let ⟨S2, _, h2⟩ := sx h1; q c d σ S2 H1 h2 xa
    | ok a b1 =>
      rw [e] at q
      intro v S1 H1 H2 F s1 h1 hF hk hp
      exact q _ S1 H2 s1 (h1.mut (C.lt n.n hl) hk (fun y hy => ⟨(hF y hy).2, .inl ⟨(hF y hy).1, h1.fr (hF y hy).1⟩⟩) hp)
/-- the value of a slot -/
theorem slot_get {i : Nat} {v : V} (e : σ[i]?.join = some v) : σ[i]? = some (some v) := by
  cases z : σ[i]? with
  | none => rw [z] at e; cases e
  | some o => rw [z] at e; cases o with
    | none => cases e
    | some u => cases e; rfl
theorem slot_set {i : Nat} {v : V} (e : σ[i]? = some (some v)) : σ.set i (some v) = σ := by
  obtain ⟨h, e⟩ := List.getElem?_eq_some_iff.mp e
  rw [← e]; exact List.set_getElem_self h
/-- what is owned at one address is changed -/
theorem Hold.chg {i : Nat} {l : Addr} {o : HO} {p p' : PrO} (h : Hold E B Γ b σ S H) (hi : Γ[i]? = some (.ow p)) (hp : ∀ {S H v F}, p.p S H v F → v = .ref l → ∀ a, F a ↔ a = l) (hv : σ[i]? = some (some (.ref l))) (hp' : p'.p S (upd H l o) (.ref l) (fun a => a = l)) : Hold E B (Γ.set i (.ow p')) b σ S (upd H l o) := by
  have hlt := (List.getElem?_eq_some_iff.mp hv).1
  rw [show σ = σ.set i (some (.ref l)) from (slot_set hv).symm]
  refine Hold.mut h hlt (F' := fun a => a = l) (fun a n => upd_ne n) (fun a e => ?_) hp'
  subst e
  refine ⟨⟨o, upd_same⟩, .inr fun Fs hF hs => ?_⟩
  obtain ⟨v, e1, e2⟩ := hs i _ hi
  rw [hv] at e1; cases e1
  exact (hp e2 rfl a).mpr rfl
theorem own_at {R : Rel α} {xs : List α} {i : Nat} (h : Hold E B Γ b σ S H) (hi : Γ[i]? = some (.ow (ownL R xs))) : ∃ l vs, σ[i]? = some (some (.ref l)) ∧ H l = some (.lst vs) ∧ All2 (fun x v => R.is x S v) xs vs := by
  obtain ⟨Fs, hF, hs⟩ := h.sl
  obtain ⟨v, e1, l, vs, rfl, hf, hu, hq⟩ := hs i _ hi
  exact ⟨l, vs, slot_get e1, hu, hq⟩
theorem ownL_feet {R : Rel α} {xs : List α} {l : Addr} {S H : Hp} {v : V} {F : Addr → Prop} (h : (ownL R xs).p S H v F) (e : v = .ref l) : ∀ a, F a ↔ a = l := by
  obtain ⟨l', vs, rfl, hf, _⟩ := h; cases e; exact hf
structure BmEnv (o : Expr) (name : Str) (es : List Expr) (apos cpos : Pos) : Prop where
  base : ∀ env : PySem.Env, attributeBase o name env (eval o env) = eval o env
  few : ∀ env : PySem.Env, ((backTo cpos (starEach es env)).all (fun x => !x.1) && (backToKw cpos (keywordEach [] env)).all (fun x => x.1.isSome)
      && decide (es.length + ([] : List Keyword).length + (if ([] : List Keyword).isEmpty then 0 else 1) < 30)) = true
  line : (apos.endLine == cpos.line) = true
  star : ∀ env : PySem.Env, ∀ e r, es = e :: r → starEach es env = (false, eval e env) :: starEach r env ∧ (backTo cpos (starEach r env)).any (·.1) = false
theorem zs_app {i : Nat} {x : Str} {e : Expr} {p1 apos cpos pos : Pos} {R : Rel α} {xs : List α} {m : M τ α} (n : Nm c i x) (hi : Γ[i]? = some (.ow (ownL R xs))) (h : ZE G c E W Γ e m R) (sx : Sub E Γ L.x)
    (hb : BmEnv (.Name x p1) "append" [e] apos cpos := by exact ⟨fun _ => rfl, fun _ => rfl, rfl, fun _ _ _ h => by cases h; exact ⟨rfl, rfl⟩⟩) (hs : Star e [] := by intro _; rfl) :
    ZS G c E W L Γ (.Expr (.Call (.Attribute (.Name x p1) "append" apos) [e] [] cpos) pos) (bnd m fun v => chk (xs.length < sizeLine) (ret (.nx v))) (fun v => Γ.set i (.ow (ownL R (xs ++ [v])))) := fun X C =>
  ps_wk (ps_expr (pe_bm PySem.F.plainAttrs_list PySem.F.slot_list_append PySem.F.type_list_append mt_append (pe_var (C.hi n.n) (by rw [C.sc]; exact n.v) n.d n.cd) (za_one h hs X C) (hb.base _) (hb.few _) hb.line (hb.star _ _ _ rfl).1 (hb.star _ _ _ rfl).2) rfl) fun D σ H hl ⟨B, S, b, hh, q⟩ => by
    obtain ⟨l, vs, e1, e2, e3⟩ := own_at hh hi
    refine ⟨.ref l, e1, .inl ⟨rfl, vs, .of e2⟩, ?_⟩
    refine tzS_bndA (A := fun x => [R.pr x]) sx hh q fun y b1 us S1 H1 s1 h1 r1 q1 => ?_
    match us, r1 with
    | [u], ⟨r, _⟩ =>
      obtain ⟨l', vs', e1', e2', e3'⟩ := own_at h1 hi
      rw [e1] at e1'; cases e1'
      unfold chk at q1
      by_cases hz : xs.length < sizeLine
      · rw [if_pos hz] at q1
        exact ⟨l, vs', u, rfl, rfl, e2', by rw [← e3'.length]; exact hz, q1 σ S1 _ (Same.refl _) (h1.chg hi ownL_feet e1 ⟨l, _, rfl, fun _ => Iff.rfl, upd_same, e3'.append ⟨r, trivial⟩⟩)⟩
      · rw [if_neg hz] at q1; exact q1.elim

/-! ### own classes -/
/-- an instance of the class at C whose fields are fs (no other name is a field) -/
def rObj (C : Addr) (fs : α → List (Str × Pr)) : Rel α :=
  ⟨fun x S v => ∃ a dx vs, v = .ref a ∧ S a = some (.ins C dx vs) ∧ (∀ k, (fs x).lookup k = none → vs.lookup k = none) ∧ ∀ f p, (fs x).lookup f = some p → ∃ u, vs.lookup f = some u ∧ p.p S u,
   fun s ⟨a, dx, vs, e, h, n, q⟩ => ⟨a, dx, vs, e, s _ _ h, n, fun f p e => let ⟨u, h1, h2⟩ := q f p e; ⟨u, h1, p.mono s h2⟩⟩⟩
theorem one_O {q0 : Addr → Prop} {C : Addr} {fs : α → List (Str × Pr)} {x : α} {gs : List (Str × Pr)} (h : ∀ k, (fs x).lookup k = gs.lookup k) : One (ownO q0 C gs) ((rObj C fs).pr x) :=
  ⟨fun ⟨l, dx, vs, e, _, f, hh, hl, hn, q⟩ S' s k => ⟨l, dx, vs, e, k _ _ ((f l).mpr rfl) hh, fun k hk => hn k (by rw [← h]; exact hk), fun f p e => by
    obtain ⟨u, h1, h2⟩ := q f p (by rw [← h]; exact e)
    exact ⟨u, h1, p.mono s h2⟩⟩⟩
/-- the field f of what R tells is what R2 tells of g -/
structure FldAt (R : Rel α) (C : Addr) (f : Str) (g : α → β) (R2 : Rel β) : Prop where
  h : ∀ {x : α} {S : Hp} {v : V}, R.is x S v → ∃ a dx vs u, v = .ref a ∧ S a = some (.ins C dx vs) ∧ vs.lookup f = some u ∧ R2.is (g x) S u
theorem fld_at {C : Addr} {fs : α → List (Str × Pr)} {f : Str} {g : α → β} {R2 : Rel β} (h : ∀ x, (fs x).lookup f = some (R2.pr (g x))) : FldAt (rObj C fs) C f g R2 :=
  ⟨fun {x S v} ⟨a, dx, vs, e, hh, n, q⟩ => let ⟨u, h1, h2⟩ := q f _ (h x); ⟨a, dx, vs, u, e, hh, h1, h2⟩⟩
theorem z_attr {e : Expr} {f : Str} {pos : Pos} {C : Addr} {R : Rel α} {g : α → β} {R2 : Rel β} {m : M τ α} (t : FldAt R C f g R2) (cl : Cls G.K C) (na : NoAttr G.K C f) (h : ZE G c E W Γ e m R) (hb : ∀ env : PySem.Env, attributeBase e f env (eval e env) = eval e env := by intro _; rfl) :
    ZE G c E W Γ (.Attribute e f pos) (zget g m) R2 := fun X C => pe_wk (pe_fld (h X C) (hb _)) fun σ H Q _ ⟨B, S, b, hh, q⟩ => by
  refine tz_bnd hh q fun x b1 v S1 H1 s1 h1 r1 q1 => ?_
  obtain ⟨a, dx, vs, u, e1, e2, e3, e4⟩ := t.h r1
  exact ⟨a, _, dx, vs, u, e1, h1.same _ _ e2, by rw [C.K]; exact cl, by rw [C.K]; exact na, e3, aft_ret h1 q1 e4⟩
/-- self.f = e -/
theorem zs_fld {i : Nat} {x f : Str} {e : Expr} {p1 apos pos : Pos} {q0 : Addr → Prop} {C0 : Addr} {fs : List (Str × Pr)} {R : Rel α} {m : M τ α} (n : Nm c i x) (hi : Γ[i]? = some (.ow (ownO q0 C0 fs))) (cl : Cls G.K C0) (na : NoAttr G.K C0 f) (hn : fs.length < 900) (h : ZE G c E W Γ e m R) (sx : Sub E Γ L.x) (hs : NoSwap e := by intro _ _ _; rfl) :
    ZS G c E W L Γ (.Assign [.Attribute (.Name x p1) f apos] e pos) (zset m) (fun v => Γ.set i (.ow (ownO q0 C0 ((f, R.pr v) :: fs)))) := fun X C =>
  ps_wk (ps_fld (pe_var (C.hi n.n) (by rw [C.sc]; exact n.v) n.d n.cd) (h X C) (hs _ _ _)) fun D σ H hl ⟨B, S, b, hh, q⟩ => by
    refine tzS_bnd (R := R) sx hh q fun y b1 v S1 H1 s1 h1 r1 q1 => ?_
    obtain ⟨Fs, hF, hs⟩ := id h1.sl
    obtain ⟨v0, e1, l, dx, vs, rfl, e0, hf, hu, hlen, hno, hq⟩ := hs i _ hi
    have e1 := slot_get e1
    refine ⟨.ref l, e1, l, C0, dx, vs, rfl, hu, by rw [C.K]; exact cl, by rw [C.K]; exact na, by omega, q1 σ S1 _ (Same.refl _) (h1.chg hi (fun {S H v F} h e => by obtain ⟨l', _, _, rfl, _, hf, _⟩ := h; cases e; exact hf) e1 ⟨l, dx, _, rfl, e0, fun _ => Iff.rfl, upd_same, ?_, fun k hk => ?_, fun k p hk => ?_⟩)⟩
    · have := length_putF f v vs; simp only [List.length_cons]; omega
    · rw [lookup_putF]
      rw [List.lookup_cons] at hk
      by_cases hkf : k = f
      · subst hkf; simp at hk
      · have : (k == f) = false := beq_eq_false_iff_ne.mpr hkf
        rw [this] at hk
        rw [if_neg hkf]; exact hno k hk
    · rw [lookup_putF]
      rw [List.lookup_cons] at hk
      by_cases hkf : k = f
      · subst hkf
        simp at hk
        subst hk
        exact ⟨v, by rw [if_pos rfl], r1⟩
      · have : (k == f) = false := beq_eq_false_iff_ne.mpr hkf
        rw [this] at hk
        rw [if_neg hkf]; exact hq k p hk
end
end Zk

namespace Zk
open PySem L2

section
variable {τ α β γ δ κ ρ ι θ : Type} {G : Gx} {c : Sc} {E : Eff τ} {W : WX} {Γ Γ' : Env} {B : Bs} {σ : St} {S S1 S' H H' : Hp} {b b' : τ} {L : Ls κ ρ}
/-! ### exceptions of own classes -/
/-- A.__init__(self, ..), A an own class over ValueError that has no __init__ of its own -/
structure AIn (K : PySem.W.Frag) (A : Addr) (mc : Value) : Prop where
  rd : ClX.CRead K A mc
  at_ : PySem.W.findCls K (.ref A) mc "__init__" = some (.val (.builtin "ValueError.__init__"))
theorem pe_ainit {X : Cx} {e : Expr} {es : List Expr} {ta : TA} {x : Str} {A : Addr} {mc : Value} {p1 p2 pos : Pos} {pl : Sem Bool} (T : AIn X.K A mc) (hg : Gl X x) (hm : X.mg x = some (.ref A)) (ha : PA X (e :: es) ta)
    (hc : eval (.Call (.Attribute (.Name x p1) "__init__" p2) (e :: es) [] pos) X.env = (do
      let ov ← eval (.Name x p1) X.env
      standAt p2.atName
      let (f, first) ← holding [ov] (getMethod ov "__init__" pl)
      callWith pos f first (backTo pos (starEach (e :: es) X.env)) (backToKw pos (keywordEach [] X.env))))
    (he : starEach (e :: es) X.env = (false, eval e X.env) :: starEach es X.env) (hpl : (backTo pos (starEach es X.env)).any (·.1) = false) (hd : (x == ("__debug__" : Str)) = false) :
    PE X (.Call (.Attribute (.Name x p1) "__init__" p2) (e :: es) [] pos) (tVeI X.K ta) := by
  refine ⟨fun pins s σ H Q I h => ?_⟩
  refine PySem.W.methodCall_KW (ld_glob I hg hm ?_ hd) hc
  refine PySem.W.method_cls I.kIn T.rd.ga (PySem.W.cls_value I.kIn T.rd.rd T.at_ rfl ?_)
  show wpAny _ _ (callWith pos (Value.builtin "ValueError.__init__") [] (backTo pos (starEach (e :: es) X.env)) []) _ _ _
  refine PyProof.Rows.callWith_method1 (thn (ha.run pos pins _ σ H _ (I.tok _) h) fun us s1 ⟨vs, H1, I1, r1, a, C, ws, ev, hl, T, ea, q⟩ => ?_) he hpl
  subst ev
  cases r1 with
  | @cons _ u0 _ ur ra rw' =>
    obtain rfl : u0 = Value.ref a := ra
    have hlen : ur.length ≤ sizeLine := by
      rw [← Paired.length rw', sizeLine_eq]
      omega
    exact oinit_ok T I1 ea hlen fun s' J => ⟨.non, H1, J, rfl, q⟩
/-- the promise of an __init__ that keeps its one argument as the field f -/
def spX1 (K : PySem.W.Frag) (f : Str) : Sp := fun vs H Q _ => ∃ a v C, vs = [.ref a, v] ∧ OexC K C ∧ PySem.W.findIn K (.ref C) f = some none ∧ H a = some (exo a C none) ∧ ∀ d, H d = none → d ≠ a → Q .non (upd (upd H d (exd d [(f, v)])) a (exo a C (some d)))
/-- .. its two arguments as f and g -/
def spX2 (K : PySem.W.Frag) (f g : Str) : Sp := fun vs H Q _ => ∃ a v w C, vs = [.ref a, v, w] ∧ OexC K C ∧ PySem.W.findIn K (.ref C) f = some none ∧ PySem.W.findIn K (.ref C) g = some none ∧ H a = some (exo a C none) ∧ ∀ d, H d = none → d ≠ a → Q .non (upd (upd (upd H d (exd d [(f, v)])) a (exo a C (some d))) d (exd d [(g, w), (f, v)]))
/-- what the written part says of a class of exceptions, and of its __init__ -/
structure XAtC (G : Gx) (x : Str) (k : Nat) (ps : List Str) (sp : Sp) (C : Addr) : Prop where
  mg : G.mg x = some (.ref C)
  ox : OexC G.K C
  ini : ∃ f fd, PySem.W.findIn G.K (.ref C) "__init__" = some (some (.ref f)) ∧ PySem.W.typeIn G.K (.ref f) = some (.type "function") ∧ Binds G.K fd ps [] ∧ FnOk G.P G.w G.K G.mg G.base (L2.CX G.P G.w) k f fd ps sp
theorem del_upd {H : Hp} {a d : Addr} {o o1 o2 o3 : HO} (ha : H a = none) (hda : d ≠ a) : upd (del (upd (upd (upd H a o) d o1) a o2) a) d o3 = upd H d o3 := by
  funext x
  by_cases hx : x = d
  · subst hx; rw [upd_same, upd_same]
  · rw [upd_ne hx, upd_ne hx]
    by_cases hxa : x = a
    · subst hxa; rw [del_same, ha]
    · rw [del_ne hxa, upd_ne hxa, upd_ne hx, upd_ne hxa]
def zraise (cl f : Str) (v : α → V) (m : M τ α) : M τ β := bnd m fun x => rse ⟨cl, [(f, v x)]⟩
/-- raise X(e), X with one field -/
theorem zs_raise1 {x f : Str} {k : Nat} {ps : List Str} {C0 : Addr} {e : Expr} {p pos pos' : Pos} {R : Rel α} {v : α → V} {m : M τ α} {Γn : β → Env} (XA : XAtC G x k ps (spX1 G.K f) C0) (hf : PySem.W.findIn G.K (.ref C0) f = some none) (hk : k + 1 ≤ c.k) (g : Gb c x) (sc : ScalR R v) (h : ZE G c E W Γ e m R) (sx : Sub E Γ L.x)
    (hd : (x == ("__debug__" : Str)) = false := by decide) (hs : Star e [] := by intro _; rfl) (hpl : Plain1 [] := by intro _ _; rfl) : ZS G c E W L Γ (.Raise (some (.Call (.Name x p) [e] [] pos')) none pos) (zraise x f v m) Γn := fun X C => by
  obtain ⟨fi, fd, i1, i2, i3, i4⟩ := XA.ini
  have i4' := i4
  rw [← C.prog, ← C.w, ← C.K, ← C.mg, ← C.base] at i4'
  have hm : X.mg x = some (.ref C0) := by rw [C.mg]; exact XA.mg
  have ox : OexC X.K C0 := by rw [C.K]; exact XA.ox
  rw [← C.K] at i1 i2 i3
  refine ps_wk (ps_raise C.calm C.takes (pmk_oex ox i1 i2 i4' (C.room.mono hk) i3 .nil passL (C.gl g) hm (za_one h hs X C) hd (hs _) (hpl _ _))) fun D σ H hl ⟨B, S, b, hh, q⟩ => ?_
  refine tzS_bndA (A := fun x => [R.pr x]) sx hh q fun y b1 us S1 H1 s1 h1 r1 q1 => ?_
  match us, r1 with
  | [u], ⟨r, _⟩ =>
    refine ⟨by simp, fun a ha => ⟨a, u, C0, rfl, ox, by rw [C.K]; exact hf, upd_same, fun d hd hda => ?_⟩⟩
    have hd1 : H1 d = none := by rw [upd_ne hda] at hd; exact hd
    refine ⟨rfl, d, [(f, u)], upd_same, by rw [upd_ne hda, upd_same], hd1, ?_⟩
    rw [del_upd ha hda]
    have sd := h1.same.free hd1
    have h2 : Hold E B Γ b1 σ S1 (upd H1 d (.xd [(f, u)])) := h1.grow (Same.refl _) (fun a o e => by rw [upd_ne (ne_of_none (h1.same _ _ e) hd1)]; exact h1.same _ _ e) (fun a o e1 e2 => ⟨e1, by rw [upd_ne (ne_of_none e2 hd1)]; exact e2⟩) fun a _ e => e
    obtain ⟨S3, _, h3⟩ := sx h2
    exact q1 _ _ σ S3 _ h3 ⟨C0, XA.mg, rfl, .inr ⟨d, rfl, by rw [upd_same, sc.is r]⟩⟩

/-! ### methods -/
section
variable {X : Cx} {CX : CXT} {k : Nat} {f C : Addr} {fd : FuncData} {ps : List Str} {sp : Sp} {dvs : List V} {ds : List Value} {Ex : St → XK} {m : Str} {pos apos : Pos} {e o : Expr} {es : List Expr} {ta : TE} {t : TA} {g : Bool}
def tMethS (C : Addr) (m : Str) (sp : Sp) (Ex : St → XK) (ta : TE) (t : TA) : TE := fun σ H Q => ta σ H fun x H1 => ∃ a dx fs, x = .ref a ∧ H1 a = some (.ins C dx fs) ∧ fs.lookup m = none ∧
  t σ H1 fun vs H2 => sp (x :: vs) H2 Q (Ex σ)
theorem pe_methS {pl : Sem Bool} (he : PE X o ta) (c : Cls X.K C) (hm : Meth X.K C m f) (F : FnX g X k f fd ps sp) (hr : Room k X.A) (hg : g = true → X.A.guards = some []) (hb : Binds X.K fd ps []) (hx : ∀ σ, PassesAt (L2.CX X.prog X.w) X σ (Ex σ)) (ha : PA X (e :: es) t)
    (hst : starEach (e :: es) X.env = (false, eval e X.env) :: starEach es X.env) (hpl : (backTo pos (starEach es X.env)).any (·.1) = false)
    (ht : eval (.Call (.Attribute o m apos) (e :: es) [] pos) X.env = (do
      let ov ← eval o X.env
      standAt apos.atName
      let (f, first) ← holding [ov] (getMethod ov m pl)
      callWith pos f first (backTo pos (starEach (e :: es) X.env)) (backToKw pos (keywordEach [] X.env)))) :
    PE X (.Call (.Attribute o m apos) (e :: es) [] pos) (tMethS C m sp Ex ta t) := by
  refine ⟨fun pins s σ H Q I h => ?_⟩
  refine PySem.W.methodCall_KW (pl := pl) (thn (he.run pins s σ H _ I h) fun u s1 ⟨x, H1, I1, rx, a, dx, fs, ex, ea, l, q⟩ => ?_) ht
  subst ex
  obtain rfl : u = Value.ref a := rx
  refine getmeth_ok I1 ea c hm l ?_
  refine PySem.W.callWith_K (first := [.ref a]) (h₀ := X.base) I.ok.mod.kin hm.kp (thn (ha.run pos pins s1 σ H1 _ I1 q) fun us s2 ⟨vs, H2, I2, r, q2⟩ => ⟨I2.kIn, ?_⟩) hst hpl
  exact F.run_ (us := .ref a :: us) (vs := .ref a :: vs) hr hg hb .nil (hx σ) I2 (.cons rfl r) (by rw [List.append_nil]; exact q2)
theorem pe_methS0 {pl : Sem Bool} (he : PE X o ta) (c : Cls X.K C) (hm : Meth X.K C m f) (F : FnX g X k f fd ps sp) (hr : Room k X.A) (hg : g = true → X.A.guards = some []) (hb : Binds X.K fd ps []) (hx : ∀ σ, PassesAt (L2.CX X.prog X.w) X σ (Ex σ))
    (ht : eval (.Call (.Attribute o m apos) [] [] pos) X.env = (do
      let ov ← eval o X.env
      standAt apos.atName
      let (f, first) ← holding [ov] (getMethod ov m pl)
      callWith pos f first (backTo pos (starEach [] X.env)) (backToKw pos (keywordEach [] X.env)))) :
    PE X (.Call (.Attribute o m apos) [] [] pos) (tMethS C m sp Ex ta tNil) := by
  refine ⟨fun pins s σ H Q I h => ?_⟩
  refine PySem.W.methodCall_KW (pl := pl) (thn (he.run pins s σ H _ I h) fun u s1 ⟨x, H1, I1, rx, a, dx, fs, ex, ea, l, q⟩ => ?_) ht
  subst ex
  obtain rfl : u = Value.ref a := rx
  refine getmeth_ok I1 ea c hm l ?_
  exact PySem.W.callWith_K0 (first := [.ref a]) I1.kIn hm.kp (F.run_ (us := [.ref a]) (vs := [.ref a]) hr hg hb .nil (hx σ) I1 (.cons rfl .nil) q)
end
structure MethAt (g : Bool) (G : Gx) (C : Addr) (m : Str) (k : Nat) (ps : List Str) (sp : Sp) : Prop where
  ex : ∃ f fd, Meth G.K C m f ∧ Binds G.K fd ps [] ∧ FnG g G.P G.w G.K G.mg G.base k f fd ps sp
/-- R tells instances of the class at C, of which m is no field -/
structure InsAt (R : Rel α) (C : Addr) (m : Str) : Prop where
  h : ∀ {x : α} {S : Hp} {v : V}, R.is x S v → ∃ a dx vs, v = .ref a ∧ S a = some (.ins C dx vs) ∧ vs.lookup m = none
theorem ins_at {C : Addr} {fs : α → List (Str × Pr)} {m : Str} (h : ∀ x, (fs x).lookup m = none) : InsAt (rObj C fs) C m := ⟨fun {x S v} ⟨a, dx, vs, e, hh, n, _⟩ => ⟨a, dx, vs, e, hh, n m (h x)⟩⟩
abbrev EvM (o : Expr) (m : Str) (es : List Expr) (apos pos : Pos) (pl : PySem.Env → Sem Bool) : Prop := ∀ env : PySem.Env, eval (.Call (.Attribute o m apos) es [] pos) env = (do
      let ov ← eval o env
      standAt apos.atName
      let (f, first) ← holding [ov] (getMethod ov m (pl env))
      callWith pos f first (backTo pos (starEach es env)) (backToKw pos (keywordEach [] env)))
def zmeth (f : α × β → M τ γ) (m : M τ α) (n : M τ β) : M τ γ := bnd m fun x => bnd n fun y => f (x, y)
theorem z_methP {g : Bool} {C0 : Addr} {me : Str} {k : Nat} {ps : List Str} {Ro : Rel α} {A : β → List Pr} {f : α × β → M Unit ρ} {R : Rel ρ} {o e : Expr} {es : List Expr} {mo : M τ α} {m : M τ β} {pos apos : Pos} {pl : PySem.Env → Sem Bool} (F : MethAt g G C0 me k ps (spZ G (fun _ : Unit => noE) (fun _ (x : α × β) => Ro.pr x.1 :: A x.2) f R)) (cl : Cls G.K C0) (ia : InsAt Ro C0 me) (hk : k ≤ c.k) (hg : g = true → c.gd = true)
    (ho : ZE G c E W Γ o mo Ro) (ha : ZA G c E W Γ (e :: es) m A) (he : Star e es := by intro _; rfl) (hpl : Plain1 es := by intro _ _; rfl) (ht : EvM o me (e :: es) apos pos pl := by intro _; rfl) : ZE G c E W Γ (.Call (.Attribute o me apos) (e :: es) [] pos) (zmeth (fun x => lft (f x)) mo m) R := fun X C => by
  obtain ⟨f0, fd, h1, h2, h3⟩ := F.ex
  rw [← C.prog, ← C.w, ← C.K, ← C.mg, ← C.base] at h3
  rw [← C.K] at h1 h2 cl
  exact pe_wk (pe_methS (Ex := WE W) (ho X C) cl h1 h3 (C.room.mono hk) (fun z => C.gds (hg z)) h2 (passAt C.takes) (ha X C) (he _) (hpl _ _) (ht _)) fun σ H Q _ ⟨B, S, b, hh, qq⟩ =>
    tz_bnd hh qq fun x b1 v S1 H1 s1 hh1 r1 q1 => by
      obtain ⟨a, dx, vs, e1, e2, e3⟩ := ia.h r1
      exact ⟨a, dx, vs, e1, hh1.same _ _ e2, e3, tz_Abnd hh1 q1 fun y b2 us S2 H2 s2 hh2 r2 q2 => tz_spP (q := ()) (x := (x, y)) hh2 ⟨Ro.mono s2 r1, r2⟩ q2⟩
theorem z_methP0 {g : Bool} {C0 : Addr} {me : Str} {k : Nat} {ps : List Str} {Ro : Rel α} {f : α → M Unit ρ} {R : Rel ρ} {o : Expr} {mo : M τ α} {pos apos : Pos} {pl : PySem.Env → Sem Bool} (F : MethAt g G C0 me k ps (spZ G (fun _ : Unit => noE) (fun _ (x : α) => [Ro.pr x]) f R)) (cl : Cls G.K C0) (ia : InsAt Ro C0 me) (hk : k ≤ c.k) (hg : g = true → c.gd = true)
    (ho : ZE G c E W Γ o mo Ro) (ht : EvM o me [] apos pos pl := by intro _; rfl) : ZE G c E W Γ (.Call (.Attribute o me apos) [] [] pos) (zapp (fun x => lft (f x)) mo) R := fun X C => by
  obtain ⟨f0, fd, h1, h2, h3⟩ := F.ex
  rw [← C.prog, ← C.w, ← C.K, ← C.mg, ← C.base] at h3
  rw [← C.K] at h1 h2 cl
  exact pe_wk (pe_methS0 (Ex := WE W) (ho X C) cl h1 h3 (C.room.mono hk) (fun z => C.gds (hg z)) h2 (passAt C.takes) (ht _)) fun σ H Q _ ⟨B, S, b, hh, qq⟩ =>
    tz_bnd hh qq fun x b1 v S1 H1 s1 hh1 r1 q1 => by
      obtain ⟨a, dx, vs, e1, e2, e3⟩ := ia.h r1
      exact ⟨a, dx, vs, e1, hh1.same _ _ e2, e3, tz_spP (q := ()) (x := x) hh1 ⟨r1, trivial⟩ q1⟩
end
end Zk

namespace Zk
open PySem L2

section
variable {τ α β γ δ κ ρ ι θ : Type} {G : Gx} {c : Sc} {E : Eff τ} {W : WX} {Γ Γ' : Env} {B : Bs} {σ : St} {S S1 S' H H' : Hp} {b b' : τ} {L : Ls κ ρ}
/-! ### list comprehensions -/
def nox (m : M τ α) : M τ α := fun s => match m s with | .ok a s' => .ok a s' | .exc _ _ => .stuck | .stuck => .stuck
def zcomp (t : β → M τ Bool) (f : β → M τ γ) : List γ → List β → M τ (List γ)
  | acc, [] => ret acc
  | acc, x :: xs => bnd (nox (t x)) fun k => if k = true then bnd (nox (f x)) fun y => chk (acc.length < sizeLine) (zcomp t f (acc ++ [y]) xs) else zcomp t f acc xs
def zlc (t : β → M τ Bool) (f : β → M τ γ) (m : M τ (List β)) : M τ (List γ) := bnd m fun xs => zcomp t f [] xs
def Wf : WX := fun _ _ _ _ => False
def wipeE (Γ : Env) : List Nat → Env
  | [] => Γ
  | v :: vs => (wipeE Γ vs).set v .no
theorem Hold.wipe (h : Hold E B Γ b σ S H) : ∀ vs : List Nat, Hold E B (wipeE Γ vs) b (wipe σ vs) S H
  | [] => h
  | v :: vs => (h.wipe vs).unset
/-- the context of a comprehension's block -/
abbrev Sc.blk (c : Sc) (scope : Scope) : Sc := ⟨c.N, relS scope c.sc, c.k, false, fun x => scope.names.lookup x == some .cell, c.gd⟩
theorem CtxOk.blk {X : Cx} (C : CtxOk G c W X) (s : Shared) (H : Hp) (scope : Scope) (A : Addr) (cl : List (Str × Addr)) (fp : List Addr) : CtxOk G (c.blk scope) Wf (X.blk s H scope (compEnvC scope cl A X.env) fp) where
  prog := C.prog
  w := C.w
  K := C.K
  mg := C.mg
  base := C.base
  N := C.N
  nd := C.nd
  sc := by show relS scope X.env.scope = _; rw [C.sc]
  calm := C.calm
  room := C.room
  gds := C.gds
  takes := takes0
  owns := PassesOwn.never
  fx := rfl
  isfn := fun h => nomatch h
/-- a new list, filled, seen from outside -/
def Bd (B : Bs) (D : Addr) (o : HO) : Bs := ⟨B.S, upd B.H D o⟩
theorem Hold.cell0 {D : Addr} {o : HO} (h : Hold E B Γ b σ S H) (hD : H D = none) : Hold E (Bd B D o) Γ b σ S (upd H D o) := by
  have hS : S D = none := h.same.free hD
  obtain ⟨Fs, hF, hs⟩ := h.sl
  have ne : ∀ a o, H a = some o → a ≠ D := fun a o e => ne_of_none e hD
  refine ⟨⟨fun a u e => by rw [upd_ne (ne a u (h.same _ _ e))]; exact h.same _ _ e, h.kp.up, fun a u h1 h2 h3 => ?_⟩, E.mono (Same.refl _) (fun _ _ z => z) (fun a u _ e => by rw [upd_ne (ne a u e)]; exact e) h.ef, Fs, ⟨fun i a e => ?_, hF.ds⟩, fun i s e => ?_⟩
  · by_cases ha : a = D
    · subst ha
      have h2 : upd B.H a o a = some u := h2
      rw [upd_same] at h2 ⊢; exact ⟨hS, h2⟩
    · have h2 : upd B.H D o a = some u := h2
      rw [upd_ne ha] at h2 ⊢; exact h.kp.kp a u h1 h2 h3
  · obtain ⟨r1, r2, r3, u, r4⟩ := hF.at_ i a e
    exact ⟨r1, by show upd B.H D o a = none; rw [upd_ne (ne a u r4)]; exact r2, r3, u, by rw [upd_ne (ne a u r4)]; exact r4⟩
  · have q := hs i s e
    cases s with
    | no => trivial
    | st p => exact q
    | ow p => obtain ⟨x, e1, e2⟩ := q; exact ⟨x, e1, p.mono (Same.refl _) (fun a u _ e => by rw [upd_ne (ne a u e)]; exact e) e2⟩
theorem Hold.cellAt {D : Addr} {o : HO} (h : Hold E (Bd B D o) Γ b σ S H) (hB : B.S D = none) (hE : ¬ E.own D) : S D = none ∧ H D = some o := h.kp.kp D o hB upd_same hE
theorem Hold.cellSet {D : Addr} {o o' : HO} (h : Hold E (Bd B D o) Γ b σ S H) (hB : B.S D = none) (hE : ¬ E.own D) : Hold E (Bd B D o') Γ b σ S (upd H D o') := by
  obtain ⟨hS, _⟩ := h.cellAt hB hE
  obtain ⟨Fs, hF, hs⟩ := h.sl
  have nF : ∀ i a, Fs i a → a ≠ D := fun i a e z => by
    have := (hF.at_ i a e).2.1
    rw [z] at this
    have this : upd B.H D o D = none := this
    rw [upd_same] at this; cases this
  refine ⟨⟨fun a u e => by rw [upd_ne (fun z => by rw [z, hS] at e; cases e)]; exact h.same _ _ e, h.kp.up, fun a u h1 h2 h3 => ?_⟩, E.mono (Same.refl _) (fun _ _ z => z) (fun a u ha e => by rw [upd_ne (fun z => hE (by rw [← z]; exact ha))]; exact e) h.ef, Fs, ⟨fun i a e => ?_, hF.ds⟩, fun i s e => ?_⟩
  · by_cases ha : a = D
    · subst ha
      have h2 : upd B.H a o' a = some u := h2
      rw [upd_same] at h2 ⊢; exact ⟨hS, h2⟩
    · have h2 : upd B.H D o' a = some u := h2
      rw [upd_ne ha] at h2 ⊢; exact h.kp.kp a u h1 (by show upd B.H D o a = some u; rw [upd_ne ha]; exact h2) h3
  · obtain ⟨r1, r2, r3, u, r4⟩ := hF.at_ i a e
    have n := nF i a e
    have r2 : upd B.H D o a = none := r2
    rw [upd_ne n] at r2
    exact ⟨r1, by show upd B.H D o' a = none; rw [upd_ne n]; exact r2, r3, u, by rw [upd_ne n]; exact r4⟩
  · have q := hs i s e
    cases s with
    | no => trivial
    | st p => exact q
    | ow p => obtain ⟨x, e1, e2⟩ := q; exact ⟨x, e1, p.mono (Same.refl _) (fun a u ha e => by rw [upd_ne (nF i a ha)]; exact e) e2⟩
/-- .. the list left out of the heap -/
theorem Hold.cellOff {D : Addr} {o : HO} (h : Hold E (Bd B D o) Γ b σ S H) (hB : B.S D = none) (hBH : B.H D = none) (hE : ¬ E.own D) : Hold E B Γ b σ S (del H D) := by
  obtain ⟨hS, _⟩ := h.cellAt hB hE
  obtain ⟨Fs, hF, hs⟩ := h.sl
  have nF : ∀ i a, Fs i a → a ≠ D := fun i a e z => by
    have := (hF.at_ i a e).2.1
    rw [z] at this
    have this : upd B.H D o D = none := this
    rw [upd_same] at this; cases this
  refine ⟨⟨fun a u e => by rw [del_ne (fun z => by rw [z, hS] at e; cases e)]; exact h.same _ _ e, h.kp.up, fun a u h1 h2 h3 => ?_⟩, E.mono (Same.refl _) (fun _ _ z => z) (fun a u ha e => by rw [del_ne (fun z => hE (by rw [← z]; exact ha))]; exact e) h.ef, Fs, ⟨fun i a e => ?_, hF.ds⟩, fun i s e => ?_⟩
  · have ha : a ≠ D := fun z => by rw [z, hBH] at h2; cases h2
    rw [del_ne ha]; exact h.kp.kp a u h1 (by show upd B.H D o a = some u; rw [upd_ne ha]; exact h2) h3
  · obtain ⟨r1, r2, r3, u, r4⟩ := hF.at_ i a e
    have n := nF i a e
    have r2 : upd B.H D o a = none := r2
    rw [upd_ne n] at r2
    exact ⟨r1, r2, r3, u, by rw [del_ne n]; exact r4⟩
  · have q := hs i s e
    cases s with
    | no => trivial
    | st p => exact q
    | ow p => obtain ⟨x, e1, e2⟩ := q; exact ⟨x, e1, p.mono (Same.refl _) (fun a u ha e => by rw [del_ne (nF i a ha)]; exact e) e2⟩
theorem lc_src {P : Hp → Hp → Prop} {J : It} {xs : List β} {R : Rel β} {I : Hp → Prop} (src : Src P J xs R I) {g : TG} {tt : TT} {te : TE} {vs : List Nat} {σ : St} {H1 : Hp} {D : Addr} {Qd : Hp → Prop} (Pv : Nat → Hp → Prop) (h0 : Pv 0 (upd H1 D (.lst []))) (hl : ∀ i H, i ≤ xs.length → Pv i H → ∃ S, Same S H ∧ P S H ∧ I S)
    (hs : ∀ i y H, xs[i]? = some y → Pv i H → ∀ x H', J.yld i H x H' → g x (wipe σ vs) H' fun σ2 H2 => wipe σ2 vs = wipe σ vs ∧ tt σ2 H2 fun b H3 =>
      if b = true then te σ2 H3 fun y H4 => ∃ acc, H4 D = some (.lst acc) ∧ acc.length < sizeLine ∧ Pv (i + 1) (upd H4 D (.lst (acc ++ [y]))) else Pv (i + 1) H3) (hd : ∀ H, Pv xs.length H → Qd H) :
    ∃ W : Nat → Nat → Hp → Prop, (∃ m, W 0 m (upd H1 D (.lst []))) ∧ ∀ i m H, W i m H →
      (J.stop i H ∧ Qd H) ∨ (J.go i H ∧ ∃ Nx : Hp → Prop, (∀ H', Nx H' → ∃ m', m' < m ∧ W (i + 1) m' H') ∧ ∀ x H', J.yld i H x H' → g x (wipe σ vs) H' fun σ2 H2 => wipe σ2 vs = wipe σ vs ∧ tt σ2 H2 fun b H3 =>
        if b = true then te σ2 H3 fun y H4 => ∃ acc, H4 D = some (.lst acc) ∧ acc.length < sizeLine ∧ Nx (upd H4 D (.lst (acc ++ [y]))) else Nx H3) := by
  refine ⟨fun i m H => m = xs.length - i ∧ i ≤ xs.length ∧ Pv i H, ⟨xs.length, by simp, Nat.zero_le _, h0⟩, ?_⟩
  rintro i m H ⟨rfl, hi, p⟩
  obtain ⟨S, s, hP, hI⟩ := hl i H hi p
  by_cases hlt : i < xs.length
  · exact .inr ⟨src.go s hP hI hlt, Pv (i + 1), fun H' p' => ⟨xs.length - (i + 1), by omega, rfl, hlt, p'⟩, fun x H' y => hs i xs[i] H (by simp [hlt]) p x H' y⟩
  · have e : i = xs.length := by omega
    subst e
    exact .inl ⟨src.st s hP hI, hd H p⟩
/-- the tests of a comprehension's clause -/
def ZTs (G : Gx) (c : Sc) (E : Eff τ) (W : WX) (Γ : Env) (es : List Expr) (m : M τ Bool) : Prop := ∀ X, CtxOk G c W X → PTs X es (tzT G E W Γ m)
theorem pts_wk {X : Cx} {es : List Expr} {t t' : TT} (h : PTs X es t) (w : ∀ σ H Q, t' σ H Q → t σ H Q) : PTs X es t' := ⟨fun pins s σ H Q I q => h.run pins s σ H Q I (w σ H Q q)⟩
theorem pts_ex {ι : Type} {X : Cx} {e : List Expr} {t : ι → TT} (h : ∀ i, PTs X e (t i)) : PTs X e (fun σ H Q => ∃ i, t i σ H Q) := ⟨fun pins s σ H Q I ⟨i, q⟩ => (h i).run pins s σ H Q I q⟩
theorem zts_nil : ZTs G c E W Γ [] (ret true) := fun X C => pts_wk pts_nil fun σ H Q ⟨B, S, b, hh, q⟩ => q S H (Same.refl _) hh
theorem zts_one {e : Expr} {m : M τ Bool} (h : ZT G c E W Γ e m) : ZTs G c E W Γ [e] m := fun X C => pts_one (h X C)
def lcEnd (E : Eff τ) (B : Bs) (Γ : Env) (σ : St) (S : Hp) (R' : Rel γ) (Q : VK) : Out τ (List γ) → Prop
  | .ok ys b' => ∀ D S' H' us, Same S S' → Hold E (Bd B D (.lst us)) Γ b' σ S' H' → B.S D = none → B.H D = none → ¬ E.own D → All2 (fun x v => R'.is x S' v) ys us → Q (.ref D) H'
  | _ => False
theorem lcEnd.same {R' : Rel γ} {Q : VK} (s : Same S S1) : ∀ {o : Out τ (List γ)}, lcEnd E B Γ σ S R' Q o → lcEnd E B Γ σ S1 R' Q o
  | .ok _ _, h => fun D S' H' us s2 => h D S' H' us (s.trans s2)
  | .exc _ _, h => h
  | .stuck, h => h
theorem nox_cases {m : M τ α} {P : Out τ α → Prop} (h1 : ∀ a b1, m b = .ok a b1 → P (.ok a b1)) (h2 : P .stuck) : P (nox m b) := by
  unfold nox
  cases e : m b with
  | ok a b1 => exact h1 a b1 e
  | exc x b1 => exact h2
  | stuck => exact h2
theorem lcEnd_bnd {m : M τ α} {f : α → M τ (List γ)} {R' : Rel γ} {Q : VK} (h : lcEnd E B Γ σ S R' Q (bnd (nox m) f b)) : ∃ a b1, m b = .ok a b1 ∧ lcEnd E B Γ σ S R' Q (f a b1) := by
  unfold bnd nox at h
  cases e : m b with
  | ok a b1 => rw [e] at h; exact ⟨a, b1, rfl, h⟩
  | exc x b1 => rw [e] at h; exact h.elim
  | stuck => rw [e] at h; exact h.elim
theorem wipe_wipe {vs : List Nat} {σ : St} : ∀ {ws : List Nat}, (∀ w ∈ ws, w ∈ vs) → L2.wipe (L2.wipe σ ws) vs = L2.wipe σ vs
  | [], _ => rfl
  | w :: ws, h => by
    have e : L2.wipe σ (w :: ws) = (L2.wipe σ ws).set w none := rfl
    rw [e, wipe_set (h w (by simp))]
    exact wipe_wipe fun x hx => h x (by simp [hx])
theorem wipeE_in {i : Nat} {s : Sl} : ∀ {vs : List Nat}, i ∈ vs → (wipeE Γ vs)[i]? = some s → s = .no
  | v :: vs, h, e => by
    unfold wipeE at e
    rcases set_get e with ⟨_, r⟩ | ⟨n, e⟩
    · exact r
    · exact wipeE_in (by simpa [n] using h) e
theorem wipe_out' {i : Nat} {σ : St} : ∀ {vs : List Nat}, i ∉ vs → (L2.wipe σ vs)[i]? = σ[i]?
  | [], _ => rfl
  | v :: vs, h => by
    have e : L2.wipe σ (v :: vs) = (L2.wipe σ vs).set v none := rfl
    simp only [List.mem_cons, not_or] at h
    rw [e, List.getElem?_set_ne (Ne.symm h.1)]
    exact wipe_out' h.2
/-- a slot of the block, seen from the def -/
theorem Hold.unwipe {vs : List Nat} {σ σ2 : St} {Γ1 : Env} (hΓ : ∀ (i : Nat), i ∉ vs → Γ1[i]? = (wipeE Γ vs)[i]?) (hw : L2.wipe σ2 vs = L2.wipe σ vs) (h : Hold E B Γ1 b σ2 S H) : Hold E B (wipeE Γ vs) b (L2.wipe σ vs) S H := by
  obtain ⟨Fs, hF, hs⟩ := h.sl
  refine ⟨h.kp, h.ef, Fs, hF, fun i s e => ?_⟩
  by_cases hi : i ∈ vs
  · have := wipeE_in hi e
    subst this; trivial
  · have q := hs i s (by rw [hΓ i hi]; exact e)
    have e1 : (L2.wipe σ vs)[i]? = σ2[i]? := by rw [← hw]; exact wipe_out' hi
    rw [e1]; exact q
/-- the reading of a comprehension: the list D with ys is there -/
theorem lc_core {m : M τ (List β)} {t : β → M τ Bool} {f : β → M τ γ} {R : Rel β} {R' : Rel γ} {Γ1 : β → Env} {vs : List Nat} {σ : St} {H : Hp} {Q : VK} (hh : Hold E B Γ b σ S H) (hk : ∀ x (i : Nat), i ∉ vs → (Γ1 x)[i]? = (wipeE Γ vs)[i]?)
    (q : match m b with
      | .ok xs b1 => ∀ S1, Same S S1 → lcEnd E B (wipeE Γ vs) (L2.wipe σ vs) S1 R' Q (zcomp t f [] xs b1)
      | .exc x b' => ∀ c d S' H', Same S S' → Hold E B Γ b' σ S' H' → XAt G x H' c d → W c d σ H'
      | .stuck => False) :
    tLc (tzI G E W Γ m R) (tzG E (wipeE Γ vs) vs Γ1 R) (fun σ H Q => ∃ x, tzT G E Wf (Γ1 x) (t x) σ H Q) (fun σ H Q => ∃ x, tzE G E Wf (Γ1 x) (f x) R' σ H Q) vs σ H Q := by
  refine ⟨B, S, b, hh, ?_⟩
  cases e : m b with
  | stuck => rw [e] at q; exact q.elim
  | exc x b1 => rw [e] at q; exact q
  | ok xs b1 =>
    rw [e] at q
    intro J I S1 H1 s1 h1 src hI D hD
    have hE := h1.fr hD
    have hS1 : S1 D = none := h1.same.free hD
    have hBS : B.S D = none := h1.kp.up.free hS1
    have hBH : B.H D = none := by
      cases z : B.H D with
      | none => rfl
      | some o => have := (h1.kp.kp D o hBS z hE).2; rw [hD] at this; cases this
    have hw := (h1.cell0 (o := .lst []) hD).wipe vs
    refine lc_src (g := tzG E (wipeE Γ vs) vs Γ1 R) (tt := fun σ H Q => ∃ x, tzT G E Wf (Γ1 x) (t x) σ H Q) (te := fun σ H Q => ∃ x, tzE G E Wf (Γ1 x) (f x) R' σ H Q) (vs := vs) (σ := σ) (Qd := fun H => Q (.ref D) H) src
      (fun i H => ∃ S b us acc, Same S1 S ∧ Hold E (Bd B D (.lst us)) (wipeE Γ vs) b (L2.wipe σ vs) S H ∧ All2 (fun x v => R'.is x S v) acc us ∧ lcEnd E B (wipeE Γ vs) (L2.wipe σ vs) S R' Q (zcomp t f acc (xs.drop i) b))
      ⟨S1, b1, [], [], Same.refl _, hw, trivial, by rw [List.drop_zero]; exact q S1 s1⟩ (fun i H _ ⟨S, _, _, _, s, h, _⟩ => ⟨S, h.same, ⟨_, h.ef⟩, src.mono s hI⟩) ?_ ?_
    · rintro i y H hy ⟨S2, b2, us, acc, s2, h2, r2, q2⟩ x H' yl
      have hd : xs.drop i = y :: xs.drop (i + 1) := by
        obtain ⟨h1, h2⟩ := List.getElem?_eq_some_iff.mp hy
        rw [List.drop_eq_getElem_cons h1, h2]
      rw [hd] at q2
      obtain ⟨k, b3, ek, q3⟩ := lcEnd_bnd q2
      have go : ∀ S' H', Same S2 S' → Hold E (Bd B D (.lst us)) (wipeE Γ vs) b2 (L2.wipe σ vs) S' H' → R.is y S' x → tzG E (wipeE Γ vs) vs Γ1 R x (L2.wipe σ vs) H' fun σ2 H2 => L2.wipe σ2 vs = L2.wipe σ vs ∧ (∃ x, tzT G E Wf (Γ1 x) (t x) σ2 H2 fun b H3 =>
          if b = true then ∃ x, tzE G E Wf (Γ1 x) (f x) R' σ2 H3 fun y H4 => ∃ vacc, H4 D = some (.lst vacc) ∧ vacc.length < sizeLine ∧ (∃ S b us, ∃ acc : List γ, Same S1 S ∧ Hold E (Bd B D (.lst us)) (wipeE Γ vs) b (L2.wipe σ vs) S (upd H4 D (.lst (vacc ++ [y]))) ∧ All2 (fun x v => R'.is x S v) acc us ∧ lcEnd E B (wipeE Γ vs) (L2.wipe σ vs) S R' Q (zcomp t f acc (xs.drop (i + 1)) b))
          else (∃ S b us acc, Same S1 S ∧ Hold E (Bd B D (.lst us)) (wipeE Γ vs) b (L2.wipe σ vs) S H3 ∧ All2 (fun x v => R'.is x S v) acc us ∧ lcEnd E B (wipeE Γ vs) (L2.wipe σ vs) S R' Q (zcomp t f acc (xs.drop (i + 1)) b))) := by
        intro S' H' s' h' r'
        refine ⟨_, S', b2, y, h', r', fun σ' hwσ h'' => ?_⟩
        have hw' : L2.wipe σ' vs = L2.wipe σ vs := hwσ.trans (wipe_wipe fun _ h => h)
        refine ⟨hw', y, _, S', b2, h'', ?_⟩
        rw [ek]
        intro S3 H3 s3 h3
        have q3 := q3.same (s'.trans s3)
        cases k with
        | false =>
          rw [if_neg (by decide)] at q3 ⊢
          exact ⟨S3, b3, us, acc, (s2.trans s').trans s3, h3.unwipe (hk y) hw', All2.rel (s'.trans s3) r2, q3⟩
        | true =>
          rw [if_pos rfl] at q3 ⊢
          obtain ⟨z, b4, ez, q4⟩ := lcEnd_bnd q3
          refine ⟨y, _, S3, b3, h3, ?_⟩
          rw [ez]
          intro v S4 H4 s4 h4 rz
          obtain ⟨_, hD4⟩ := h4.cellAt hBS hE
          unfold chk at q4
          by_cases hz : acc.length < sizeLine
          · rw [if_pos hz] at q4
            exact ⟨us, hD4, by rw [← r2.length]; exact hz, S4, b4, us ++ [v], acc ++ [z], ((s2.trans s').trans s3).trans s4, (h4.unwipe (hk y) hw').cellSet hBS hE, (All2.rel ((s'.trans s3).trans s4) r2).append ⟨rz, trivial⟩, q4.same s4⟩
          · rw [if_neg hz] at q4; exact q4.elim
      rcases src.yl h2.same ⟨_, h2.ef⟩ (src.mono s2 hI) hy yl with ⟨e1, r⟩ | ⟨p, o, hp, e1, r⟩
      · subst e1; exact go S2 _ (Same.refl _) h2 r
      · subst e1; exact go (upd S2 p o) _ (same_new (h2.same.free hp)) (h2.new hp) r
    · rintro H ⟨S2, b2, us, acc, s2, h2, r2, q2⟩
      rw [List.drop_length] at q2
      exact q2 D S2 H us (Same.refl _) h2 hBS hBH hE r2
theorem wipe_back {vs : List Nat} (hΓ : ∀ (i : Nat) s, Γ[i]? = some s → s = .no ∨ i ∉ vs) (h : Hold E B (wipeE Γ vs) b (L2.wipe σ vs) S H) : Hold E B Γ b σ S H := by
  obtain ⟨Fs, hF, hs⟩ := h.sl
  refine ⟨h.kp, h.ef, Fs, hF, fun i s e => ?_⟩
  rcases hΓ i s e with r | r
  · subst r; trivial
  · have e2 : (wipeE Γ vs)[i]? = some s := by
      have : ∀ {vs : List Nat}, i ∉ vs → (wipeE Γ vs)[i]? = Γ[i]? := by
        intro vs
        induction vs with
        | nil => intro _; rfl
        | cons v vs ih => intro h; simp only [List.mem_cons, not_or] at h; unfold wipeE; rw [List.getElem?_set_ne (Ne.symm h.1)]; exact ih h.2
      rw [this r]; exact e
    have q := hs i s e2
    rw [wipe_out' r] at q; exact q
theorem bnd_noexc {m : M τ α} {f : α → M τ γ} {x : Exc} {b' : τ} (h : ∀ a b1, f a b1 ≠ .exc x b') : bnd (nox m) f b ≠ .exc x b' := by
  unfold bnd nox
  cases m b with
  | stuck => intro h; cases h
  | exc e b1 => intro h; cases h
  | ok k b1 => exact h k b1
theorem zcomp_noexc {t : β → M τ Bool} {f : β → M τ γ} : ∀ {xs : List β} {acc : List γ} {b : τ} {x : Exc} {b' : τ}, zcomp t f acc xs b ≠ .exc x b'
  | [], acc, b, x, b' => by unfold zcomp; intro h; cases h
  | y :: xs, acc, b, x, b' => by
    unfold zcomp
    refine bnd_noexc fun k b1 => ?_
    cases k with
    | false => exact zcomp_noexc
    | true =>
      refine bnd_noexc (f := fun z => chk (acc.length < sizeLine) (zcomp t f (acc ++ [z]) xs)) fun z b2 => ?_
      unfold chk
      split
      · exact zcomp_noexc
      · intro h; cases h
theorem del_back {D : Addr} {o : HO} {H : Hp} (h : H D = some o) : upd (del H D) D o = H := by
  funext a
  by_cases ha : a = D
  · subst ha; rw [upd_same, h]
  · rw [upd_ne ha, del_ne ha]
theorem lc_stable {m : M τ (List β)} {t : β → M τ Bool} {f : β → M τ γ} {R' : Rel γ} {vs : List Nat} {Q : VK} (hΓ : ∀ (i : Nat) s, Γ[i]? = some s → s = .no ∨ i ∉ vs) (q : aft G E W B Γ σ S (rLst R') Q (zlc t f m b)) :
    match m b with
      | .ok xs b1 => ∀ S1, Same S S1 → lcEnd E B (wipeE Γ vs) (L2.wipe σ vs) S1 R' Q (zcomp t f [] xs b1)
      | .exc x b' => ∀ c d S' H', Same S S' → Hold E B Γ b' σ S' H' → XAt G x H' c d → W c d σ H'
      | .stuck => False := by
  unfold zlc bnd at q
  cases e : m b with
  | stuck => rw [e] at q; exact q
  | exc x b1 => rw [e] at q; exact q
  | ok xs b1 =>
    rw [e] at q
    intro S1 s1
    dsimp only at q
    cases e2 : zcomp t f [] xs b1 with
    | stuck => rw [e2] at q; exact q
    | exc x b2 => exact absurd e2 zcomp_noexc
    | ok ys b2 =>
      rw [e2] at q
      intro D S' H' us s' h hBS hBH hE r
      obtain ⟨hS, hD⟩ := h.cellAt hBS hE
      have h2 := h.cellOff hBS hBH hE
      have h3 := h2.new (o := .lst us) (p := D) del_same
      rw [del_back hD] at h3
      exact q _ (upd S' D (.lst us)) H' ((s1.trans s').trans (same_new hS)) (wipe_back hΓ h3) (rLst_new hS r)
theorem lc_own {m : M τ (List β)} {t : β → M τ Bool} {f : β → M τ γ} {R' : Rel γ} {vs : List Nat} {Q : VK} (hΓ : ∀ (i : Nat) s, Γ[i]? = some s → s = .no ∨ i ∉ vs) (q : aftF G E W B Γ σ S (ownL R') Q (zlc t f m b)) :
    match m b with
      | .ok xs b1 => ∀ S1, Same S S1 → lcEnd E B (wipeE Γ vs) (L2.wipe σ vs) S1 R' Q (zcomp t f [] xs b1)
      | .exc x b' => ∀ c d S' H', Same S S' → Hold E B Γ b' σ S' H' → XAt G x H' c d → W c d σ H'
      | .stuck => False := by
  unfold zlc bnd at q
  cases e : m b with
  | stuck => rw [e] at q; exact q
  | exc x b1 => rw [e] at q; exact q
  | ok xs b1 =>
    rw [e] at q
    intro S1 s1
    dsimp only at q
    cases e2 : zcomp t f [] xs b1 with
    | stuck => rw [e2] at q; exact q
    | exc x b2 => exact absurd e2 zcomp_noexc
    | ok ys b2 =>
      rw [e2] at q
      intro D S' H' us s' h hBS hBH hE r
      obtain ⟨hS, hD⟩ := h.cellAt hBS hE
      have h2 := h.cellOff hBS hBH hE
      exact q _ S' (del H' D) H' (fun x => x = D) (s1.trans s') (wipe_back hΓ h2) (fun x e => by subst e; exact ⟨del_same, _, hD⟩) (fun x n => (del_ne n).symm) ⟨D, us, rfl, fun _ => Iff.rfl, hD, r⟩
/-- a comprehension's parts: its scope, its own names' slots -/
structure Lc (G : Gx) (c : Sc) (E : Eff τ) (W : WX) (Γ : Env) (elt tg iter : Expr) (ifs : List Expr) (scope : Scope) (own : List (Str × Nat)) (m : M τ (List β)) (t : β → M τ Bool) (f : β → M τ γ) (R : Rel β) (R' : Rel γ) (Γ1 : β → Env) : Prop where
  ok : BlkOk c.N c.sc scope own
  hi : ZI G c E W Γ tg iter m R
  hg : ZG G (c.blk scope) E Wf (wipeE Γ (own.map (·.2))) (own.map (·.2)) tg Γ1 R
  ht : ∀ x, ZTs G (c.blk scope) E Wf (Γ1 x) ifs (t x)
  he : ∀ x, ZE G (c.blk scope) E Wf (Γ1 x) elt (f x) R'
  no : ∀ (i : Nat) s, Γ[i]? = some s → s = .no ∨ i ∉ own.map (·.2)
  fs : ∀ (env : PySem.Env) x, foldedSetIterable iter env x = pure x
theorem Lc.pe {elt tg iter : Expr} {ifs : List Expr} {scope : Scope} {own : List (Str × Nat)} {pos : Pos} {m : M τ (List β)} {t : β → M τ Bool} {f : β → M τ γ} {R : Rel β} {R' : Rel γ} {Γ1 : β → Env} (l : Lc G c E W Γ elt tg iter ifs scope own m t f R R' Γ1) {X : Cx} (C : CtxOk G c W X) :
    PE X (.ListComp elt [⟨tg, iter, ifs, 0⟩] scope pos) (tLc (tzI G E W Γ m R) (tzG E (wipeE Γ (own.map (·.2))) (own.map (·.2)) Γ1 R) (fun σ H Q => ∃ x, tzT G E Wf (Γ1 x) (t x) σ H Q) (fun σ H Q => ∃ x, tzE G E Wf (Γ1 x) (f x) R' σ H Q) (own.map (·.2))) :=
  pe_lc C.calm C.set_hN (l.hi X C) (by rw [C.N, C.sc]; exact l.ok) (fun s H A cl fp => l.hg.1 _ (C.blk s H scope A cl fp)) (fun s H A cl fp => pts_ex fun x => l.ht x _ (C.blk s H scope A cl fp)) (fun s H A cl fp => pe_ex fun x => l.he x _ (C.blk s H scope A cl fp)) (l.fs _)
theorem z_lc {elt tg iter : Expr} {ifs : List Expr} {scope : Scope} {own : List (Str × Nat)} {pos : Pos} {m : M τ (List β)} {t : β → M τ Bool} {f : β → M τ γ} {R : Rel β} {R' : Rel γ} {Γ1 : β → Env} (l : Lc G c E W Γ elt tg iter ifs scope own m t f R R' Γ1) : ZE G c E W Γ (.ListComp elt [⟨tg, iter, ifs, 0⟩] scope pos) (zlc t f m) (rLst R') := fun X C =>
  pe_wk (l.pe C) fun σ H Q _ ⟨B, S, b, hh, q⟩ => lc_core hh l.hg.2 (lc_stable l.no q)
theorem zf_lc {elt tg iter : Expr} {ifs : List Expr} {scope : Scope} {own : List (Str × Nat)} {pos : Pos} {m : M τ (List β)} {t : β → M τ Bool} {f : β → M τ γ} {R : Rel β} {R' : Rel γ} {Γ1 : β → Env} (l : Lc G c E W Γ elt tg iter ifs scope own m t f R R' Γ1) : ZF G c E W Γ (.ListComp elt [⟨tg, iter, ifs, 0⟩] scope pos) (zlc t f m) (ownL R') := fun X C =>
  pe_wk (l.pe C) fun σ H Q _ ⟨B, S, b, hh, q⟩ => lc_core hh l.hg.2 (lc_own l.no q)
theorem Lc.ps {i : Nat} {y : Str} {py spos : Pos} {elt tg iter : Expr} {ifs : List Expr} {scope : Scope} {own : List (Str × Nat)} {pos : Pos} {m : M τ (List β)} {t : β → M τ Bool} {f : β → M τ γ} {R : Rel β} {R' : Rel γ} {Γ1 : β → Env} (l : Lc G c E W Γ elt tg iter ifs scope own m t f R R' Γ1) (n : c.N[i]? = some y) (hy : c.sc.names.lookup y = some .local) (hk : c.sc.kind = .function)
    (hl : (py.line == pos.line) = true) (ha : (scope.names.any fun (n, k) => n == y && (k == .local || k == .cell)) = false) {X : Cx} (C : CtxOk G c W X) :
    PS X (.Assign [.Name y py] (.ListComp elt [⟨tg, iter, ifs, 0⟩] scope pos) spos) (tAsg (tLc (tzI G E W Γ m R) (tzG E (wipeE Γ (own.map (·.2))) (own.map (·.2)) Γ1 R) (fun σ H Q => ∃ x, tzT G E Wf (Γ1 x) (t x) σ H Q) (fun σ H Q => ∃ x, tzE G E Wf (Γ1 x) (f x) R' σ H Q) (own.map (·.2))) (gName i)) :=
  ps_setLc C.calm C.set_hN (C.hi n) (by rw [C.sc]; exact hy) (sw_true (by rw [C.sc]; exact hk) (by rw [C.sc]; exact hy) hl ha) (l.hi X C) (by rw [C.N, C.sc]; exact l.ok) (fun s H A cl fp => l.hg.1 _ (C.blk s H scope A cl fp)) (fun s H A cl fp => pts_ex fun x => l.ht x _ (C.blk s H scope A cl fp)) (fun s H A cl fp => pe_ex fun x => l.he x _ (C.blk s H scope A cl fp)) (l.fs _)
theorem zs_setLc {i : Nat} {y : Str} {py spos : Pos} {elt tg iter : Expr} {ifs : List Expr} {scope : Scope} {own : List (Str × Nat)} {pos : Pos} {m : M τ (List β)} {t : β → M τ Bool} {f : β → M τ γ} {R : Rel β} {R' : Rel γ} {Γ1 : β → Env} (l : Lc G c E W Γ elt tg iter ifs scope own m t f R R' Γ1) (n : c.N[i]? = some y) (hy : c.sc.names.lookup y = some .local) (hk : c.sc.kind = .function) (sx : Sub E Γ L.x)
    (hl : (py.line == pos.line) = true) (ha : (scope.names.any fun (n, k) => n == y && (k == .local || k == .cell)) = false) : ZS G c E W L Γ (.Assign [.Name y py] (.ListComp elt [⟨tg, iter, ifs, 0⟩] scope pos) spos) (zset (zlc t f m)) (fun v => Γ.set i (.st ((rLst R').pr v))) := fun X C =>
  ps_wk (l.ps n hy hk hl ha C) fun D σ H hlen ⟨B, S, b, hh, q⟩ => lc_core hh l.hg.2 (lc_stable l.no (by
    show aft G E W B Γ σ S (rLst R') (fun x H1 => gName i x σ H1 D.nx) (zlc t f m b)
    unfold zset bnd at q
    cases e : zlc t f m b with
    | stuck => rw [e] at q; exact q
    | exc x b1 => rw [e] at q; exact fun c d S1 H1 _ h1 xa => let ⟨S2, _, h2⟩ := sx h1; q c d σ S2 H1 h2 xa
    | ok ys b1 => rw [e] at q; exact fun v S1 H1 s1 h1 r => q _ S1 H1 s1 (h1.set (C.lt n hlen) r)))
theorem zs_setLcF {i : Nat} {y : Str} {py spos : Pos} {elt tg iter : Expr} {ifs : List Expr} {scope : Scope} {own : List (Str × Nat)} {pos : Pos} {m : M τ (List β)} {t : β → M τ Bool} {f : β → M τ γ} {R : Rel β} {R' : Rel γ} {Γ1 : β → Env} (l : Lc G c E W Γ elt tg iter ifs scope own m t f R R' Γ1) (n : c.N[i]? = some y) (hy : c.sc.names.lookup y = some .local) (hk : c.sc.kind = .function) (sx : Sub E Γ L.x)
    (hl : (py.line == pos.line) = true) (ha : (scope.names.any fun (n, k) => n == y && (k == .local || k == .cell)) = false) : ZS G c E W L Γ (.Assign [.Name y py] (.ListComp elt [⟨tg, iter, ifs, 0⟩] scope pos) spos) (zset (zlc t f m)) (fun v => Γ.set i (.ow (ownL R' v))) := fun X C =>
  ps_wk (l.ps n hy hk hl ha C) fun D σ H hlen ⟨B, S, b, hh, q⟩ => lc_core hh l.hg.2 (lc_own l.no (by
    show aftF G E W B Γ σ S (ownL R') (fun x H1 => gName i x σ H1 D.nx) (zlc t f m b)
    unfold zset bnd at q
    cases e : zlc t f m b with
    | stuck => rw [e] at q; exact q
    | exc x b1 => rw [e] at q; exact fun c d S1 H1 _ h1 xa => let ⟨S2, _, h2⟩ := sx h1; q c d σ S2 H1 h2 xa
    | ok ys b1 => rw [e] at q; exact fun v S1 H1 H2 F s1 h1 hF hkk r => q _ S1 H2 s1 (h1.mut (C.lt n hlen) hkk (fun y hy => ⟨(hF y hy).2, .inl ⟨(hF y hy).1, h1.fr (hF y hy).1⟩⟩) r)))
end
end Zk

namespace Zk
open PySem L2

section
variable {X : Cx} {CX : CXT} {k n : Nat} {f C : Addr} {fd : FuncData} {ps ks : List Str} {sp : Sp} {dvs : List V} {ds : List Value} {Ex : St → XK} {x : Str} {p pos : Pos} {e : Expr} {es : List Expr} {kws : List Keyword} {t tk : TA} {g : List Value → List Value → List Value} {gV : List V → List V → List V} {gd : Bool}
theorem mk_gd {A : Around} {C : Addr} {us : List Value} {kw : List (Str × Value)} (h : gd = true → A.guards = some []) : gd = true → (A.under (.builtin "type.__call__" ⟨.ref C :: us, kw⟩)).guards = some [] := fun z => by
  simp [Around.under, Code.guards, Code.isGuard, guardIds, pushGuards, h z]
theorem run_makeS {pins : List (Addr × Obj)} {σ : St} {H : Hp} {s : Shared} {Q : VK} {us : List Value} {vs : List V} (M : Mk X.K C f) (F : FnX gd X k f fd ps sp) (hr : Room (k + 1) X.A) (hgd : gd = true → X.A.guards = some []) (hb : Binds X.K fd ps ds) (hd : Vals dvs ds)
    (hx : PassesAt (L2.CX X.prog X.w) X σ (Ex σ)) (I : Inv X pins σ H s) (r : Vals vs us)
    (h : ∀ x dx, H x = none → H dx = none → dx ≠ x → sp (.ref x :: (vs ++ dvs)) (upd (upd H dx (.own x)) x (.ins C dx [])) (fun v H2 => v = .non ∧ Q (.ref x) H2) (Ex σ)) :
    wpAny (model X.prog X.w) X.A (call (.ref C) us) (EP X pins σ Q) X.xe s := by
  have hq := h (s.heap.objs.size + 1) s.heap.objs.size (I.hok.fresh (Nat.le_succ _)) (I.hok.fresh (Nat.le_refl _)) (Nat.ne_of_lt (Nat.lt_succ_self _))
  have I2 := Inv.made (C := C) I
  have r2 : Vals (V.ref (s.heap.objs.size + 1) :: (vs ++ dvs)) (Value.ref (s.heap.objs.size + 1) :: (us ++ ds)) := .cons rfl (r.append hd)
  have hl : (Value.ref (s.heap.objs.size + 1) :: us ++ ds).length = ps.length := by
    have e := r2.length
    rw [F.len _ _ _ _ hq] at e
    exact e.symm
  refine wpAny_call (make_map (f := f) I.kIn M.makes M.init (beq_iff_eq.mp M.fn) (codeAny_mono (F.go _ X.stack _ _ ⟨Value.ref (s.heap.objs.size + 1) :: us, []⟩ (Value.ref (s.heap.objs.size + 1) :: (us ++ ds)) _ _ (Ex σ) (hr.make C us []) (mk_gd hgd)
    (I2.env0.make C us []) (hb _ (Value.ref (s.heap.objs.size + 1) :: us) I2.kIn hl) r2 hq) fun r s' hq' => ?_))
  cases r with
  | error e => exact hx pins _ _ e s' I2 hq'
  | ok fl =>
    cases fl with
    | ret u =>
      obtain ⟨v, H', I3, rv, ev, q3⟩ := I2.after hq'
      subst ev
      exact ⟨rv, ⟨V.ref (s.heap.objs.size + 1), H', I3, rfl, q3⟩⟩
    | next => exact False.elim hq'
    | brk => exact False.elim hq'
    | cont => exact False.elim hq'
def tMakeS (C : Addr) (sp : Sp) (dvs : List V) (Ex : St → XK) (t : TA) : TE := fun σ H Q => t σ H fun vs H1 => ∀ x dx, H1 x = none → H1 dx = none → dx ≠ x →
  sp (.ref x :: (vs ++ dvs)) (upd (upd H1 dx (.own x)) x (.ins C dx [])) (fun v H2 => v = .non ∧ Q (.ref x) H2) (Ex σ)
theorem pe_makeS (M : Mk X.K C f) (F : FnX gd X k f fd ps sp) (hr : Room (k + 1) X.A) (hgd : gd = true → X.A.guards = some []) (hg : Gl X x) (hm : X.mg x = some (.ref C)) (hb : Binds X.K fd ps ds) (hd : Vals dvs ds) (hx : ∀ σ, PassesAt (L2.CX X.prog X.w) X σ (Ex σ))
    (ha : PA X (e :: es) t) (hdb : (x == ("__debug__" : Str)) = false) (he : starEach (e :: es) X.env = (false, eval e X.env) :: starEach es X.env) (hpl : (backTo pos (starEach es X.env)).any (·.1) = false) :
    PE X (.Call (.Name x p) (e :: es) [] pos) (tMakeS C sp dvs Ex t) := by
  refine ⟨fun pins s σ H Q I h => ?_⟩
  refine wpAny_Call_Name_kw (ld_glob I hg hm ?_ hdb)
  refine PySem.W.callWith_K (h₀ := X.base) I.ok.mod.kin M.kp (thn (ha.run pos pins s σ H _ I h) fun us s1 ⟨vs, H1, I1, r, q⟩ => ⟨I1.kIn, ?_⟩) he hpl
  exact run_makeS M F hr hgd hb hd (hx σ) I1 r q
theorem run_makeKS {pins : List (Addr × Obj)} {σ : St} {H : Hp} {s : Shared} {Q : VK} {us ws : List Value} {vs zs : List V} (M : Mk X.K C f) (F : FnX gd X k f fd ps sp) (hr : Room (k + 1) X.A) (hgd : gd = true → X.A.guards = some []) (hb : KBn X.K fd ps (n + 1) ks g gV) (hx : PassesAt (L2.CX X.prog X.w) X σ (Ex σ))
    (I : Inv X pins σ H s) (r : Vals vs us) (rz : Vals zs ws) (l1 : vs.length = n) (l2 : zs.length = ks.length)
    (h : ∀ x dx, H x = none → H dx = none → dx ≠ x → sp (gV (.ref x :: vs) zs) (upd (upd H dx (.own x)) x (.ins C dx [])) (fun v H2 => v = .non ∧ Q (.ref x) H2) (Ex σ)) :
    wpAny (model X.prog X.w) X.A (call (.ref C) us (ks.zip ws)) (EP X pins σ Q) X.xe s := by
  have hq := h (s.heap.objs.size + 1) s.heap.objs.size (I.hok.fresh (Nat.le_succ _)) (I.hok.fresh (Nat.le_refl _)) (Nat.ne_of_lt (Nat.lt_succ_self _))
  have I2 := Inv.made (C := C) I
  have r1 : Vals (V.ref (s.heap.objs.size + 1) :: vs) (Value.ref (s.heap.objs.size + 1) :: us) := .cons rfl r
  have r2 := hb.rel r1 rz
  have n1 : (Value.ref (s.heap.objs.size + 1) :: us).length = n + 1 := by
    rw [List.length_cons, ← r.length, l1]
  refine wpAny_call (make_map (f := f) I.kIn M.makes M.init (beq_iff_eq.mp M.fn) (codeAny_mono (F.go _ X.stack _ _ ⟨Value.ref (s.heap.objs.size + 1) :: us, ks.zip ws⟩ (g (Value.ref (s.heap.objs.size + 1) :: us) ws) _ _ (Ex σ) (hr.make C us (ks.zip ws)) (mk_gd hgd)
    (I2.env0.make C us (ks.zip ws)) (hb.to _ (Value.ref (s.heap.objs.size + 1) :: us) ws I2.kIn n1 (rz.length.symm.trans l2)) r2 hq) fun r s' hq' => ?_))
  cases r with
  | error e => exact hx pins _ _ e s' I2 hq'
  | ok fl =>
    cases fl with
    | ret u =>
      obtain ⟨v, H', I3, rv, ev, q3⟩ := I2.after hq'
      subst ev
      exact ⟨rv, ⟨V.ref (s.heap.objs.size + 1), H', I3, rfl, q3⟩⟩
    | next => exact False.elim hq'
    | brk => exact False.elim hq'
    | cont => exact False.elim hq'
def tMakeKS (C : Addr) (n m : Nat) (sp : Sp) (gV : List V → List V → List V) (Ex : St → XK) (t tk : TA) : TE := fun σ H Q => t σ H fun vs H1 => tk σ H1 fun zs H2 => vs.length = n ∧ zs.length = m ∧ ∀ x dx, H2 x = none → H2 dx = none → dx ≠ x →
  sp (gV (.ref x :: vs) zs) (upd (upd H2 dx (.own x)) x (.ins C dx [])) (fun v H3 => v = .non ∧ Q (.ref x) H3) (Ex σ)
theorem pe_makeKS (M : Mk X.K C f) (F : FnX gd X k f fd ps sp) (hr : Room (k + 1) X.A) (hgd : gd = true → X.A.guards = some []) (hg : Gl X x) (hm : X.mg x = some (.ref C)) (hb : KBn X.K fd ps (n + 1) ks g gV) (hx : ∀ σ, PassesAt (L2.CX X.prog X.w) X σ (Ex σ)) (ha : PA X (e :: es) t) (hkw : PK X kws tk)
    (hall : (backToKw pos (keywordEach kws X.env)).all (·.1.isSome) = true) (hks : (backToKw pos (keywordEach kws X.env)).filterMap (·.1) = ks) (hdb : (x == ("__debug__" : Str)) = false)
    (he : starEach (e :: es) X.env = (false, eval e X.env) :: starEach es X.env) (hpl : ((backTo pos (starEach (e :: es) X.env)).any (·.1) || (backToKw pos (keywordEach kws X.env)).any (·.1.isNone)) = false) :
    PE X (.Call (.Name x p) (e :: es) kws pos) (tMakeKS C n ks.length sp gV Ex t tk) := by
  refine ⟨fun pins s σ H Q I h => ?_⟩
  refine wpAny_Call_Name_kw (ld_glob I hg hm ?_ hdb)
  refine PySem.W.callWith_KW (h₀ := X.base) I.ok.mod.kin M.kp hall (thn (ha.run pos pins s σ H _ I h) fun us s1 ⟨vs, H1, I1, r, q⟩ => ?_) hpl he
  refine thn (hkw.run pos pins s1 σ H1 _ I1 q) fun ws s2 ⟨zs, H2, I2, rz, l1, l2, q2⟩ => ⟨I2.kIn, ?_⟩
  rw [hks]
  exact run_makeKS M F hr hgd hb (hx σ) I2 r rz l1 l2 q2
end

section
variable {τ α β γ δ κ ρ ι θ : Type} {G : Gx} {c : Sc} {E : Eff τ} {W : WX} {Γ Γ' : Env} {B : Bs} {σ : St} {S S1 S' H H' : Hp} {b b' : τ} {L : Ls κ ρ}
def zini (n : α → ρ) (m : M τ (Fl α Empty Empty)) : M τ ρ := fun s => match m s with
  | .ok (.nx y) s' => .ok (n y) s'
  | .ok _ _ => .stuck
  | .exc e s' => .exc e s'
  | .stuck => .stuck
def finI (G : Gx) (C : Addr) (S H : Hp) (l : Addr) (fs : ρ → List (Str × Pr)) (Q : VK) (XE : XK) : Out Unit ρ → Prop
  | .ok r _ => ∀ S' H', Keep (fun _ => False) ⟨S, del H l⟩ S' H' → S' l = none → (ownO (fun _ => True) C (fs r)).p S' H' (.ref l) (fun x => x = l) → Q .non H'
  | .exc e _ => ∀ c d S' H', Keep (fun _ => False) ⟨S, del H l⟩ S' H' → XAt G e H' c d → XE c d H'
  | .stuck => False
/-- the promise of an __init__: the new instance at l has then the fields fs r -/
def spI (G : Gx) (C : Addr) (A : α → List Pr) (m : α → M Unit ρ) (fs : ρ → List (Str × Pr)) : Sp := fun vs H Q XE => ∃ a l dx S us, vs = .ref l :: us ∧ All2 (fun (p : Pr) v => p.p S v) (A a) us ∧ Same S H ∧ S l = none ∧ H l = some (.ins C dx []) ∧ finI G C S H l fs Q XE (m a ())
theorem init_ok {g : Bool} {x qual : Str} {st : Stmt} {f : Addr} {fd : FuncData} {N ps : List Str} {k : Nat} {C : Addr} {A : α → List Pr} {fs : ρ → List (Str × Pr)} {mb : α → M Unit (Fl β Empty Empty)} {Γn : Addr → α → β → Env} {n : α → β → ρ} {kws : List (Str × V)} (F : FunD G.K x qual (defArgs st) (defBody st) (defScope st) [] kws f fd) (sc : FnScope N ps (defScope st))
    (hA : ∀ a, (A a).length + 1 = ps.length) (hn : ∀ l a y, (Γn l a y)[0]? = some (.ow (ownO (fun x => x = l) C (fs (n a y)))))
    (hb : ∀ l a (W : WX), ZB G ⟨N, defScope st, k, true, fun _ => true, g⟩ noE W ⟨fun e : Empty => e.elim, [], (⟨fun e => e.elim, fun {e} => e.elim⟩ : Rel Empty)⟩ (.ow (ownO (fun x => x = l) C []) :: ((A a).map .st ++ List.replicate (N.length - ((A a).length + 1)) .no)) (defBody st) (mb a) (Γn l a)) :
    FnG g G.P G.w G.K G.mg G.base (k + 1) f fd ps (spI G C A (fun a => zini (n a) (mb a)) fs) := by
  refine fng_D F sc (fun vs H Q XE h => ?_) (fun cdv A0 outer s H vs Q XE hr hgd h => ?_)
  · obtain ⟨a, l, dx, S, us, rfl, r, _⟩ := h
    rw [List.length_cons, ← r.length, hA]
  · obtain ⟨a, l, dx, S, us, rfl, r, hs, hl, hH, fz⟩ := h
    let W : WX := fun cls d _ H => XE cls d H
    have Cc : CtxOk G ⟨N, defScope st, k, true, fun _ => true, g⟩ W (cxOf (L2.CX G.P G.w) G.P G.w G.K G.mg G.base N qual (defScope st) f cdv A0 outer s H XE) :=
      ⟨rfl, rfl, rfl, rfl, rfl, rfl, sc.nd, rfl, rfl, hr, hgd, takes_of rfl rfl rfl rfl, passes_of rfl, rfl, fun _ => ⟨rfl, rfl⟩⟩
    have hh : Hold noE ⟨S, del H l⟩ (.ow (ownO (fun x => x = l) C []) :: ((A a).map .st ++ List.replicate (N.length - ((A a).length + 1)) .no)) () (L2.start N (.ref l :: us)) S H := by
      refine ⟨⟨hs, Same.refl _, fun x o h1 h2 _ => ⟨h1, ?_⟩⟩, trivial, fun i x => i = 0 ∧ x = l, ⟨fun i x ⟨e1, e2⟩ => ?_, fun i j x e1 e2 => e1.1.trans e2.1.symm⟩, fun i sl e => ?_⟩
      · have hx : x ≠ l := fun z => by rw [z] at h2; have h2 : del H l l = some o := h2; rw [del_same] at h2; cases h2
        have h2 : del H l x = some o := h2
        rw [del_ne hx] at h2; exact h2
      · subst e1 e2
        exact ⟨hl, del_same, fun z => z, _, hH⟩
      · unfold L2.start
        cases i with
        | zero =>
          cases e
          exact ⟨.ref l, rfl, l, dx, [], rfl, rfl, fun x => ⟨fun z => z.2, fun z => ⟨rfl, z⟩⟩, hH, Nat.le_refl _, fun _ _ => rfl, fun f p z => nomatch z⟩
        | succ i =>
          simp only [List.getElem?_cons_succ] at e
          simp only [List.map_cons, List.cons_append, List.getElem?_cons_succ]
          by_cases hi : i < (A a).length
          · rw [List.getElem?_append_left (by simpa using hi), List.getElem?_map] at e
            cases e2 : (A a)[i]? with
            | none => rw [e2] at e; cases e
            | some p =>
              rw [e2] at e; cases e
              obtain ⟨v, h1, h2⟩ := r.get e2
              rw [List.getElem?_append_left (by rw [List.length_map, ← r.length]; exact hi), List.getElem?_map, h1]
              exact ⟨v, rfl, h2⟩
          · rw [List.getElem?_append_right (by simpa using hi), List.getElem?_replicate] at e
            split at e
            · cases e; trivial
            · cases e
    refine ⟨_, hb l a W _ Cc, ⟨S, del H l⟩, S, (), hh, ?_⟩
    have fz : finI G C S H l fs Q XE (zini (n a) (mb a) ()) := fz
    unfold zini at fz
    cases e : mb a () with
    | stuck => rw [e] at fz; exact fz.elim
    | exc e b' => rw [e] at fz; exact fun c d σ' S' H' h xa => fz c d S' H' h.kp xa
    | ok r b' =>
      rw [e] at fz
      cases r with
      | bk k => exact k.elim
      | ct k => exact k.elim
      | rt r => exact r.elim
      | nx y =>
        intro σ' S' H' _ h
        obtain ⟨Fs, hF, hsl⟩ := id h.sl
        obtain ⟨v, e1, l', dx', vs', rfl, e0, hf, hu, h2, h3, h4⟩ := hsl 0 _ (hn l a y)
        have e0 : l' = l := e0
        subst e0
        obtain ⟨q1, _, _, _⟩ := hF.at_ 0 l' ((hf l').mpr rfl)
        exact fz S' H' h.kp q1 ⟨l', dx', vs', rfl, trivial, fun _ => Iff.rfl, hu, h2, h3, h4⟩
structure MkAt (g : Bool) (G : Gx) (C : Addr) (k : Nat) (ps : List Str) (sp : Sp) (dvs : List V) : Prop where
  ex : ∃ f fd ds, Mk G.K C f ∧ Binds G.K fd ps ds ∧ Vals dvs ds ∧ FnG g G.P G.w G.K G.mg G.base k f fd ps sp
/-- C(e, ..): what is new is one's own; y (a pair of the args and the defaults) goes to __init__ -/
theorem zf_make {gd : Bool} {x : Str} {C0 : Addr} {k : Nat} {ps : List Str} {A : α → List Pr} {f : α → M Unit ρ} {fs : ρ → List (Str × Pr)} {dvs : List V} {Ad : β → List Pr} {g : β → α} {e : Expr} {es : List Expr} {m : M τ β} {p pos : Pos} (F : MkAt gd G C0 k ps (spI G C0 A f fs) dvs) (hm : G.mg x = some (.ref C0)) (hk : k + 1 ≤ c.k) (hg : gd = true → c.gd = true) (gb : Gb c x)
    (hd : ∀ y S us, All2 (fun (p : Pr) v => p.p S v) (Ad y) us → All2 (fun (p : Pr) v => p.p S v) (A (g y)) (us ++ dvs)) (ha : ZA G c E W Γ (e :: es) m Ad)
    (hdb : (x == ("__debug__" : Str)) = false := by decide) (he : Star e es := by intro _; rfl) (hpl : Plain1 es := by intro _ _; rfl) : ZF G c E W Γ (.Call (.Name x p) (e :: es) [] pos) (zapp (fun y => lft (f (g y))) m) (fun r => ownO (fun _ => True) C0 (fs r)) := fun X C => by
  obtain ⟨f0, fd, ds, h1, h2, h3, h4⟩ := F.ex
  rw [← C.prog, ← C.w, ← C.K, ← C.mg, ← C.base] at h4
  rw [← C.K] at h1 h2
  rw [← C.mg] at hm
  refine pe_wk (pe_makeS (Ex := WE W) h1 h4 (C.room.mono hk) (fun z => C.gds (hg z)) (C.gl gb) hm h2 h3 (passAt C.takes) (ha X C) hdb (he _) (hpl _ _)) fun σ H Q _ ⟨B, S, b, hh, qq⟩ => ?_
  refine tz_AbndF hh qq fun y b1 us S1 H1 s1 hh1 r1 q1 => ?_
  intro l dx hl hdx hne
  refine ⟨g y, l, dx, S1, us ++ dvs, rfl, hd y S1 us r1, fun a o e => ?_, hh1.same.free hl, by rw [C.K] at *; exact upd_same, ?_⟩
  · have e := hh1.same _ _ e
    rw [upd_ne (ne_of_none e hl), upd_ne (ne_of_none e hdx)]; exact e
  have old : ∀ a o, H1 a = some o → del (upd (upd H1 dx (.own l)) l (.ins C0 dx [])) l a = some o := fun a o e => by
    rw [del_ne (ne_of_none e hl), upd_ne (ne_of_none e hl), upd_ne (ne_of_none e hdx)]; exact e
  unfold lft at q1
  cases e : f (g y) () with
  | stuck => rw [e] at q1; exact q1.elim
  | exc e b' =>
    rw [e] at q1
    exact fun c d S' H' k xa => q1 c d S' H' k.up (hh1.grow k.up k.same (fun a o e1 e2 => k.kp a o e1 (old a o e2) id) fun a ha hn => by
      obtain ⟨_, o, ho⟩ := E.th hh1.ef ha
      exact (k.kp a o hn (old a o ho) id).1) xa
  | ok r b' =>
    rw [e] at q1
    intro S' H' k hS' hO
    refine ⟨rfl, q1 (.ref l) S' (del H' l) H' (fun x => x = l) k.up (hh1.grow k.up (fun a o e => ?_) (fun a o e1 e2 => ?_) fun a ha hn => ?_) (fun x e => ?_) (fun x n => (del_ne n).symm) hO⟩
    · rw [del_ne (fun z => by rw [z, hS'] at e; cases e)]; exact k.same _ _ e
    · rw [del_ne (ne_of_none e2 hl)]; exact k.kp a o e1 (old a o e2) id
    · obtain ⟨_, o, ho⟩ := E.th hh1.ef ha
      exact (k.kp a o hn (old a o ho) id).1
    · subst e
      obtain ⟨l', dx', vs', e', _, _, hu, _⟩ := hO
      cases e'
      exact ⟨del_same, _, hu⟩
/-- what is one's own at the end is handed on as stable -/
theorem zf_e {e : Expr} {m : M τ α} {P : α → PrO} {R : Rel α} (one : ∀ a, One (P a) (R.pr a)) (h : ZF G c E W Γ e m P) : ZE G c E W Γ e m R := fun X C => pe_wk (h X C) fun σ H Q _ ⟨B, S, b, hh, q⟩ => by
  refine ⟨B, S, b, hh, ?_⟩
  cases e : m b with
  | stuck => rw [e] at q; exact q.elim
  | exc x b1 => rw [e] at q; exact q
  | ok a b1 =>
    rw [e] at q
    intro v S1 H1 H2 F s1 h1 hF hk hp
    classical
    let T : Hp := fun a => if F a then H2 a else S1 a
    have ti : ∀ a, F a → T a = H2 a := fun a z => if_pos z
    have tn : ∀ a, ¬ F a → T a = S1 a := fun a z => if_neg z
    have fr : ∀ a o, H1 a = some o → ¬ F a := fun a o e z => by rw [(hF a z).1] at e; cases e
    have sm : Same S1 T := fun a o e => by rw [tn a (fr a o (h1.same _ _ e))]; exact e
    have h2 : Hold E B Γ b1 σ T H2 := h1.grow sm (fun a o e => by
      by_cases z : F a
      · rw [ti a z] at e; exact e
      · rw [tn a z] at e; rw [hk a z]; exact h1.same _ _ e) (fun a o e1 e2 => ⟨by rw [tn a (fr a o e2)]; exact e1, by rw [hk a (fr a o e2)]; exact e2⟩) fun a ha hn => by
        rw [tn a fun z => h1.fr (hF a z).1 ha]; exact hn
    exact q v T H2 (s1.trans sm) h2 ((one a).at_ hp T sm fun a o z e => by rw [ti a z]; exact e)
end
end Zk

namespace Zk
open PySem L2

/-! ### ranges of any size -/
theorem turn_long {P : Program} {w : World} {K : PySem.W.Frag} {tg : Expr} (it : Addr) (lo : Int) (n : Nat) : Turn P w K tg (Itr lo n) [it] it (fun i h => IsLongIter h it (lo + (i : Nat) * 1) ((n : Int) - (i : Nat)) 1) where
  mem := by simp
  obj := fun i h st b hb => by
    have e : b = it := by simpa using hb
    subst e
    exact ⟨_, st, fun v z => by cases z⟩
  keep := fun i h h' st k => k it (by simp) _ st
  item := by
    intro X hP hw hK hc i pins s σ H E I hf st hg
    subst hP hw hK
    obtain ⟨f0, f1, f2, f3, f4, f5⟩ := hf it (by simp)
    have hg' : i < n := hg
    refine wpAny_pyNext_long_item st (by omega) fun h' st' sb => ?_
    have I1 : Inv X pins σ H { s with heap := h', toks := s.toks + 1 } := I.turned (fun b o hb e => sb.extBut b o (by simpa using hb) e) f0 f1 f3 f4 f5
    have e1 : lo + ((i + 1 : Nat) : Int) * 1 = lo + (i : Int) * 1 + 1 := by push_cast; omega
    have e2 : (n : Int) - ((i + 1 : Nat) : Int) = (n : Int) - (i : Int) - 1 := by push_cast; omega
    have st2 : IsLongIter h' it (lo + ((i + 1 : Nat) : Int) * 1) ((n : Int) - ((i + 1 : Nat) : Int)) 1 := by rw [e1, e2]; exact st'
    refine ⟨_, rfl, go_of (s := { s with heap := h', toks := s.toks + 1 }) (n := "longrange_iterator") st' rfl rfl (by decide) ⟨.int (lo + i), H, I1, ⟨s.toks, ?_⟩, ⟨rfl, rfl⟩, st2, fun b hb => (hf b hb).1⟩⟩
    rw [Int.mul_one]
  done := by
    intro X hP hw hK hc i pins s σ H E I hf st hg
    subst hP hw hK
    obtain ⟨f0, f1, f2, f3, f4, f5⟩ := hf it (by simp)
    have hg' : n ≤ i := hg
    exact wpAny_pyNext_long_end (I.ok.hd hc) st (by omega) fun h' eb => ⟨rfl, I.turned (t' := s.toks) (fun b o hb e => eb b o (by simpa using hb) e) f0 f1 f3 f4 f5⟩
  self := fun _ _ _ _ _ st h => wpAny_pyIter_longiter st h
theorem range_itA {X : Cx} {tg : Expr} {pins : List (Addr × Obj)} {σ : St} {H : Hp} {s : Shared} {R : It → Hp → Prop} {E : Value → Shared → Prop} {lo hi : Int} {t u v : Tok} {tk : Nat} (I : Inv X pins σ H s)
    (q : R (Itr lo (hi - lo).toNat) H) : wpAny (model X.prog X.w) X.A (pyIter (.ref s.heap.objs.size)) (PIE X pins σ tg R) E { s with heap := s.heap.push { cls := .type "range", data := .fields #[.int lo t, .int hi u, .int 1 v] }, toks := tk } := by
  have I1 : Inv X pins σ H { s with heap := s.heap.push { cls := .type "range", data := .fields #[.int lo t, .int hi u, .int 1 v] }, toks := tk } := I.kept fun b o e => Heap.get?_push_of_some _ e
  have e1 : lo + ((0 : Nat) : Int) * 1 = lo := by simp
  have e2 : (((hi - lo).toNat : Nat) : Int) - ((0 : Nat) : Int) = Builtin.Range.rangeSize lo hi 1 := by rw [rangeSize_one]; split <;> omega
  cases hs : Builtin.Range.small lo hi 1 with
  | true =>
    refine wpAny_pyIter_range (IsRange.new ..) hs ?_
    refine ⟨(s.heap.push { cls := .type "range", data := .fields #[.int lo t, .int hi u, .int 1 v] }).objs.size, [(s.heap.push { cls := .type "range", data := .fields #[.int lo t, .int hi u, .int 1 v] }).objs.size], _, _, H, rfl,
      I1.kept (t' := tk) fun b o e => Heap.get?_push_of_some _ e, turn_range _ lo (hi - lo).toNat, ?_, fun b hb => ?_, q⟩
    · show IsRangeIter _ _ (lo + ((0 : Nat) : Int) * 1) ((((hi - lo).toNat : Nat) : Int) - ((0 : Nat) : Int)) 1
      rw [e1, e2]
      exact Heap.get?_push_size _ rfl
    · have e : b = (s.heap.push { cls := .type "range", data := .fields #[.int lo t, .int hi u, .int 1 v] }).objs.size := by simpa using hb
      subst e
      exact I1.fpOk (Nat.le_refl _) (I1.hok.fresh (Nat.le_refl _))
  | false =>
    refine wpAny_pyIter_longrange (IsRange.new ..) hs ?_
    refine ⟨(s.heap.push { cls := .type "range", data := .fields #[.int lo t, .int hi u, .int 1 v] }).objs.size, [(s.heap.push { cls := .type "range", data := .fields #[.int lo t, .int hi u, .int 1 v] }).objs.size], _, _, H, rfl,
      I1.kept (t' := tk) fun b o e => Heap.get?_push_of_some _ e, turn_long _ lo (hi - lo).toNat, ?_, fun b hb => ?_, q⟩
    · show IsLongIter _ _ (lo + ((0 : Nat) : Int) * 1) ((((hi - lo).toNat : Nat) : Int) - ((0 : Nat) : Int)) 1
      rw [e1, e2]
      exact Heap.get?_push_size _ rfl
    · have e : b = (s.heap.push { cls := .type "range", data := .fields #[.int lo t, .int hi u, .int 1 v] }).objs.size := by simpa using hb
      subst e
      exact I1.fpOk (Nat.le_refl _) (I1.hok.fresh (Nat.le_refl _))
def iRng1A (ta : TA) : TI := fun σ H R => ta σ H fun vs H1 => ∃ j : Int, vs = [.int j] ∧ R (Itr 0 j.toNat) H1
def iRng2A (ta : TA) : TI := fun σ H R => ta σ H fun vs H1 => ∃ i j : Int, vs = [.int i, .int j] ∧ R (Itr i (j - i).toNat) H1
theorem pi_range1A {X : Cx} {tg a : Expr} {ta : TA} {p pos : Pos} (hg : Gl X "range") (hm : X.mg "range" = none) (ha : PA X [a] ta) (hs : starEach [a] X.env = [(false, eval a X.env)]) : PI X tg (.Call (.Name "range" p) [a] [] pos) (iRng1A ta) := by
  refine ⟨fun pins s σ H R I h => ?_⟩
  refine PyProof.Rows.Call_ (ld_blt I hg hm PyProof.Rows.boot_range (PyProof.Rows.callWith_type1 (thn (ha.run pos pins s σ H _ I h) fun us s1 ⟨vs, H1, I1, r1, q1⟩ => ?_) hs rfl))
  obtain ⟨j, e, q⟩ := q1
  subst e
  cases r1 with
  | cons r rr =>
    cases rr
    obtain ⟨t, rfl⟩ := r
    exact call_range_1 (range_itA I1 (by simpa using q))
theorem pi_range2A {X : Cx} {tg a b : Expr} {ta : TA} {p pos : Pos} (hg : Gl X "range") (hm : X.mg "range" = none) (ha : PA X [a, b] ta) (hs : starEach [a, b] X.env = [(false, eval a X.env), (false, eval b X.env)]) (hs2 : starEach [b] X.env = [(false, eval b X.env)]) :
    PI X tg (.Call (.Name "range" p) [a, b] [] pos) (iRng2A ta) := by
  refine ⟨fun pins s σ H R I h => ?_⟩
  refine PyProof.Rows.Call_ (ld_blt I hg hm PyProof.Rows.boot_range (PyProof.Rows.callWith_type1 (thn (ha.run pos pins s σ H _ I h) fun us s1 ⟨vs, H1, I1, r1, q1⟩ => ?_) (by rw [hs, hs2]) (by rw [hs2]; rfl)))
  obtain ⟨i, j, e, q⟩ := q1
  subst e
  cases r1 with
  | cons r rr =>
    cases rr with
    | cons r' rr =>
      cases rr
      obtain ⟨t, rfl⟩ := r
      obtain ⟨t', rfl⟩ := r'
      exact call_range_2 (range_itA I1 q)

section
variable {τ α β γ δ κ ρ ι θ : Type} {G : Gx} {c : Sc} {E : Eff τ} {W : WX} {Γ Γ' : Env} {B : Bs} {σ : St} {S S1 S' H H' : Hp} {b b' : τ} {L : Ls κ ρ}
def frA1 (j : Int) : M τ (List Int) := ret (rng 0 j.toNat)
def frA2 (x : Int × Int) : M τ (List Int) := ret (rng x.1 (x.2 - x.1).toNat)
theorem zi_r1 {tg e : Expr} {m : M τ Int} {p pos : Pos} (bl : Blt G c "range" (.type "range")) (h : ZE G c E W Γ e m rInt) (hs : ∀ env : PySem.Env, starEach [e] env = [(false, eval e env)] := by intro _; rfl) : ZI G c E W Γ tg (.Call (.Name "range" p) [e] [] pos) (zapp frA1 m) rInt := fun X C =>
  pi_wk (pi_range1A (C.gl bl.g) (by rw [C.mg]; exact bl.m) (za_one h (fun env => hs env) X C) (hs X.env)) fun σ H Q ⟨B, S, b, hh, q⟩ => by
    refine tzI_bndA (A := fun x => [rInt.pr x]) hh q fun x b1 vs S1 H1 s1 h1 r1 q1 => ?_
    match vs, r1 with
    | [v], ⟨r, _⟩ => exact ⟨x, by rw [show v = V.int x from r], q1 _ _ S1 H1 (Same.refl _) h1 src_rng trivial⟩
theorem zi_r2 {tg e e2 : Expr} {m n : M τ Int} {p pos : Pos} (bl : Blt G c "range" (.type "range")) (h : ZE G c E W Γ e m rInt) (h2 : ZE G c E W Γ e2 n rInt) (hs : ∀ env : PySem.Env, starEach [e, e2] env = [(false, eval e env), (false, eval e2 env)] := by intro _; rfl)
    (hs2 : ∀ env : PySem.Env, starEach [e2] env = [(false, eval e2 env)] := by intro _; rfl) : ZI G c E W Γ tg (.Call (.Name "range" p) [e, e2] [] pos) (zapp frA2 (zpair m n)) rInt := fun X C =>
  pi_wk (pi_range2A (C.gl bl.g) (by rw [C.mg]; exact bl.m) (za_cons h (za_one h2 (fun env => hs2 env)) (fun env => (hs env).trans (by rw [hs2 env])) X C) (hs X.env) (hs2 X.env)) fun σ H Q ⟨B, S, b, hh, q⟩ => by
    refine tzI_bndA (A := fun x : Int × Int => [rInt.pr x.1, rInt.pr x.2]) hh q fun x b1 vs S1 H1 s1 h1 r1 q1 => ?_
    match vs, r1 with
    | [v, w], ⟨r, r2, _⟩ => exact ⟨x.1, x.2, by rw [show v = V.int x.1 from r, show w = V.int x.2 from r2], q1 _ _ S1 H1 (Same.refl _) h1 src_rng trivial⟩

/-! ### while -/
def zwhK (t : α → M τ Bool) (f : α → M τ (Fl α α ρ)) (k : α → M τ (Fl α κ ρ)) (a : α) : M τ (Fl α κ ρ) := fun s => match t a s with
    | .ok false s' => .ok (.nx a) s'
    | .ok true s' => match f a s' with
      | .ok (.nx a') s2 => k a' s2
      | .ok (.ct a') s2 => k a' s2
      | .ok (.bk a') s2 => .ok (.nx a') s2
      | .ok (.rt r) s2 => .ok (.rt r) s2
      | .exc e s2 => .exc e s2
      | .stuck => .stuck
    | .exc e s' => .exc e s'
    | .stuck => .stuck
def zwhN (t : α → M τ Bool) (f : α → M τ (Fl α α ρ)) : Nat → α → M τ (Fl α κ ρ)
  | 0, _ => stk
  | n + 1, a => zwhK t f (zwhN t f n) a
open Classical in
noncomputable def zwh (t : α → M τ Bool) (f : α → M τ (Fl α α ρ)) (a : α) : M τ (Fl α κ ρ) := fun s => if h : ∃ n, zwhN (κ := κ) t f n a s ≠ .stuck then zwhN t f h.choose a s else .stuck
theorem zwhN_succ {t : α → M τ Bool} {f : α → M τ (Fl α α ρ)} : ∀ {n : Nat} {a : α} {s : τ}, zwhN (κ := κ) t f n a s ≠ .stuck → zwhN (κ := κ) t f (n + 1) a s = zwhN t f n a s
  | 0, a, s, h => absurd rfl h
  | n + 1, a, s, h => by
    rw [show zwhN (κ := κ) t f (n + 1) a s = zwhK t f (zwhN t f n) a s from rfl] at h ⊢
    rw [show zwhN (κ := κ) t f (n + 1 + 1) a s = zwhK t f (zwhN t f (n + 1)) a s from rfl]
    unfold zwhK at h ⊢
    cases z : t a s with
    | stuck => rfl
    | exc e s' => rfl
    | ok k s' =>
      rw [z] at h
      cases k with
      | false => rfl
      | true =>
        dsimp only at h ⊢
        cases y : f a s' with
        | stuck => rfl
        | exc e s2 => rfl
        | ok r s2 =>
          rw [y] at h
          cases r with
          | nx a' => exact zwhN_succ h
          | ct a' => exact zwhN_succ h
          | bk a' => rfl
          | rt r => rfl
theorem zwhN_le {t : α → M τ Bool} {f : α → M τ (Fl α α ρ)} {n m : Nat} {a : α} {s : τ} (h : zwhN (κ := κ) t f n a s ≠ .stuck) (hm : n ≤ m) : zwhN (κ := κ) t f m a s = zwhN t f n a s := by
  induction m with
  | zero => have : n = 0 := by omega
            subst this; rfl
  | succ m ih =>
    by_cases e : n = m + 1
    · subst e; rfl
    · have h2 := ih (by omega)
      rw [zwhN_succ (by rw [h2]; exact h), h2]
theorem zwh_of {t : α → M τ Bool} {f : α → M τ (Fl α α ρ)} {n : Nat} {a : α} {s : τ} (h : zwhN (κ := κ) t f n a s ≠ .stuck) : zwh (κ := κ) t f a s = zwhN t f n a s := by
  unfold zwh
  rw [dif_pos ⟨n, h⟩]
  have hc := (⟨n, h⟩ : ∃ n, zwhN (κ := κ) t f n a s ≠ .stuck).choose_spec
  rcases Nat.le_total n (⟨n, h⟩ : ∃ n, zwhN (κ := κ) t f n a s ≠ .stuck).choose with q | q
  · exact zwhN_le h q
  · exact (zwhN_le hc q).symm
theorem zwh_get {t : α → M τ Bool} {f : α → M τ (Fl α α ρ)} {a : α} {s : τ} (h : zwh (κ := κ) t f a s ≠ .stuck) : ∃ n, zwhN (κ := κ) t f n a s ≠ .stuck ∧ zwh (κ := κ) t f a s = zwhN t f n a s := by
  unfold zwh at h ⊢
  by_cases q : ∃ n, zwhN (κ := κ) t f n a s ≠ .stuck
  · rw [dif_pos q]; exact ⟨q.choose, q.choose_spec, rfl⟩
  · rw [dif_neg q] at h; exact absurd rfl h
/-- one turn -/
theorem zwh_eq (t : α → M τ Bool) (f : α → M τ (Fl α α ρ)) (a : α) (s : τ) : zwh (κ := κ) t f a s = zwhK t f (zwh t f) a s := by
  by_cases q : zwh (κ := κ) t f a s = .stuck
  · rw [q]
    have no : ∀ n, zwhN (κ := κ) t f n a s = .stuck := fun n => Classical.byContradiction fun h => by
      have := zwh_of h
      rw [q] at this; exact h this.symm
    have no1 : ∀ n, zwhK (κ := κ) t f (zwhN t f n) a s = .stuck := fun n => no (n + 1)
    unfold zwhK at no1 ⊢
    cases z : t a s with
    | stuck => rfl
    | exc e s' => have := no1 0; rw [z] at this; cases this
    | ok k s' =>
      cases k with
      | false => have := no1 0; rw [z] at this; cases this
      | true =>
        dsimp only
        cases y : f a s' with
        | stuck => rfl
        | exc e s2 => have := no1 0; rw [z] at this; dsimp only at this; rw [y] at this; cases this
        | ok r s2 =>
          cases r with
          | bk a' => have := no1 0; rw [z] at this; dsimp only at this; rw [y] at this; cases this
          | rt r => have := no1 0; rw [z] at this; dsimp only at this; rw [y] at this; cases this
          | nx a' =>
            dsimp only
            exact (Classical.byContradiction fun h => by
              obtain ⟨n, hn, _⟩ := zwh_get (κ := κ) (t := t) (f := f) (a := a') (s := s2) fun e => h e.symm
              have := no1 n; rw [z] at this; dsimp only at this; rw [y] at this; exact hn this)
          | ct a' =>
            dsimp only
            exact (Classical.byContradiction fun h => by
              obtain ⟨n, hn, _⟩ := zwh_get (κ := κ) (t := t) (f := f) (a := a') (s := s2) fun e => h e.symm
              have := no1 n; rw [z] at this; dsimp only at this; rw [y] at this; exact hn this)
  · obtain ⟨n, hn, e⟩ := zwh_get q
    rw [e]
    cases n with
    | zero => exact absurd rfl hn
    | succ n =>
      rw [show zwhN (κ := κ) t f (n + 1) a s = zwhK t f (zwhN t f n) a s from rfl] at hn ⊢
      unfold zwhK at hn ⊢
      cases z : t a s with
      | stuck => rfl
      | exc e s' => rfl
      | ok k s' =>
        rw [z] at hn
        cases k with
        | false => rfl
        | true =>
          dsimp only at hn ⊢
          cases y : f a s' with
          | stuck => rfl
          | exc e s2 => rfl
          | ok r s2 =>
            rw [y] at hn
            cases r with
            | nx a' => exact (zwh_of hn).symm
            | ct a' => exact (zwh_of hn).symm
            | bk a' => rfl
            | rt r => rfl
theorem zs_while {e : Expr} {body : List Stmt} {pos : Pos} {a0 : α} {t : α → M τ Bool} {f : α → M τ (Fl α α ρ)} {Γh : α → Env} (h0 : Sub E Γ (Γh a0)) (ht : ∀ a, ZT G c E W (Γh a) e (t a)) (hb : ∀ a, ZB G c E W ⟨Γh, L.x, L.R⟩ (Γh a) body (f a) Γh) (sx : ∀ a, Sub E (Γh a) L.x) :
    ZS G c E W L Γ (.While e body [] pos) (zwh t f a0) Γh := fun X C =>
  ps_wk (ps_while C.owns (pt_ex fun a => ht a X C) (pss_ex fun a => hb a X C)) fun D σ H hl ⟨B, S, b, hh, q⟩ => by
    obtain ⟨S1, s1, h1⟩ := h0 hh
    have hne : zwh (κ := κ) t f a0 b ≠ .stuck := fun e => by rw [e] at q; exact q.elim
    obtain ⟨n, hn, e⟩ := zwh_get hne
    rw [e] at q
    refine ⟨fun m σ H => ∃ S b a, Hold E B (Γh a) b σ S H ∧ aftS G E W L B S Γh D (zwhN t f m a b), ⟨n, S1, b, a0, h1, q.same s1⟩, ?_⟩
    rintro m σ H ⟨S, b, a, h, q⟩
    cases m with
    | zero => exact q.elim
    | succ m =>
      rw [show zwhN (κ := κ) t f (m + 1) a b = zwhK t f (zwhN t f m) a b from rfl] at q
      unfold zwhK at q
      refine ⟨a, B, S, b, h, ?_⟩
      cases z : t a b with
      | stuck => rw [z] at q; exact q.elim
      | exc e s' => rw [z] at q; exact fun c d S1 H1 _ h1 xa => let ⟨S2, _, h2⟩ := sx a h1; q c d σ S2 H1 h2 xa
      | ok k b1 =>
        rw [z] at q
        intro S2 H2 s2 h2
        cases k with
        | false => rw [if_neg (by decide)]; exact q σ S2 H2 s2 h2
        | true =>
          rw [if_pos rfl]
          refine ⟨fun σ H => ∃ S b a, Hold E B (Γh a) b σ S H ∧ aftS G E W L B S Γh D (zwhN t f m a b), fun σ' H' p => ⟨m, Nat.lt_succ_self _, p⟩, a, B, S2, b1, h2, ?_⟩
          dsimp only at q
          have q := q.same s2
          cases y : f a b1 with
          | stuck => rw [y] at q; exact q.elim
          | exc e s2 => rw [y] at q; exact q
          | ok r b2 =>
            rw [y] at q
            cases r with
            | nx a' => exact fun σ3 S3 H3 s3 h3 => ⟨S3, b2, a', h3, q.same s3⟩
            | ct a' => exact fun σ3 S3 H3 s3 h3 => ⟨S3, b2, a', h3, q.same s3⟩
            | bk a' => exact q
            | rt r => exact q
end
end Zk

namespace Zk
open PySem L2

theorem get_list {X : Cx} : PGet X (rIxL X.K) := by
  intro pins s σ H x y v u Q I rx ry h
  obtain ⟨p, xs, i, z, rfl, rfl, hq, he, q⟩ := h
  cases rx
  obtain ⟨t, rfl⟩ := ry
  obtain ⟨its, r, pl, hz⟩ := I.list hq
  obtain ⟨j, h1, h2, h3, h4, h5⟩ := atI_get he
  obtain ⟨w, ew, rw'⟩ := r.get h2
  have hl := r.length
  have hn := line63
  have fin : EP X pins σ Q w s := ⟨z, H, I, rw', q⟩
  by_cases h0 : 0 ≤ i
  · have hj : i.toNat = j := by
      rw [seqIndex_of h0 h5] at h1
      exact Option.some.inj h1
    exact wpAny_getItem_list pl.isList h0 (by omega) (by rw [hj]; simpa using ew) fin
  · have hj : (i + (its.toArray.size : Int)).toNat = j := by
      rw [seqIndex_neg (by omega) h4] at h1
      rw [List.size_toArray, ← hl]
      exact Option.some.inj h1
    exact wpAny_getItem_list_neg pl.isList (by omega) (by rw [List.size_toArray] <;> omega) (by omega) (by rw [hj]; simpa using ew) fin

/-! ### the bag of a law -/
structure Bag where
  big : Int
  mix : Int
  pos : Int
  cells : List Int
def Bag.row (s : Bag) (c : Addr) : List V := [.int s.big, .int s.mix, .int s.pos, .ref c]
def bagE (b c : Addr) : Eff Bag where
  own a := a = b ∨ a = c
  is s S H := b ≠ c ∧ S b = none ∧ S c = none ∧ H b = some (.lst (s.row c)) ∧ H c = some (.lst (s.cells.map V.int))
  mono := fun s f k ⟨h0, h1, h2, h3, h4⟩ => ⟨h0, f _ (.inl rfl) h1, f _ (.inr rfl) h2, k _ _ (.inl rfl) h3, k _ _ (.inr rfl) h4⟩
  th := fun ⟨h0, h1, h2, h3, h4⟩ h => by
    rcases h with h | h
    · subst h; exact ⟨h1, _, h3⟩
    · subst h; exact ⟨h2, _, h4⟩
theorem free_bag {b c : Addr} : Free (bagE b c) := ⟨fun k ⟨h0, h1, h2, h3, h4⟩ => ⟨h0, k _ (.inl rfl), k _ (.inr rfl), h3, h4⟩⟩
section
variable {α β γ δ κ ρ : Type} {G : Gx} {c : Sc} {W : WX} {Γ Γ' : Env} {B : Bs} {σ : St} {S S1 S' H H' : Hp} {s s' : Bag} {b d : Addr} {L : Ls κ ρ}
/-- the bag's row is written -/
theorem Hold.bag (h : Hold (bagE b d) B Γ s σ S H) (e : s'.cells = s.cells) : Hold (bagE b d) B Γ s' σ S (upd H b (.lst (s'.row d))) := by
  obtain ⟨Fs, hF, hs⟩ := h.sl
  obtain ⟨h0, h1, h2, h3, h4⟩ := h.ef
  refine ⟨⟨fun a o e => ?_, h.kp.up, fun a o e1 e2 e3 => ?_⟩, ⟨h0, h1, h2, upd_same, by rw [upd_ne (Ne.symm h0), e]; exact h4⟩, Fs, ⟨fun i a e => ?_, hF.ds⟩, fun i t e => ?_⟩
  · have n : a ≠ b := fun z => by rw [z, h1] at e; cases e
    rw [upd_ne n]; exact h.same _ _ e
  · have n : a ≠ b := fun z => e3 (.inl z)
    rw [upd_ne n]; exact h.kp.kp a o e1 e2 e3
  · obtain ⟨q1, q2, q3, o, q4⟩ := hF.at_ i a e
    have n : a ≠ b := fun z => q3 (.inl z)
    exact ⟨q1, q2, q3, o, by rw [upd_ne n]; exact q4⟩
  · have q := hs i t e
    cases t with
    | no => trivial
    | st p => exact q
    | ow p => obtain ⟨x, e1, e2⟩ := q; exact ⟨x, e1, p.mono (Same.refl _) (fun a o ha e => by
        have n : a ≠ b := fun z => (hF.at_ i a ha).2.2.1 (.inl z)
        rw [upd_ne n]; exact e) e2⟩
def bget (f : Bag → α) : M Bag α := fun s => .ok (f s) s
variable {i : Nat} {x : Str} {p1 p2 p3 p4 p5 p6 pos : Pos} {j j2 j3 : Nat}
theorem ref_slot {E : Eff δ} {t : δ} {p : Addr} (h : Hold E B Γ t σ S H) (hi : Γ[i]? = some (.st ((rRef p).pr ()))) : σ[i]? = some (some (.ref p)) := by
  obtain ⟨Fs, hF, hs⟩ := h.sl
  obtain ⟨v, e1, e2⟩ := hs i _ hi
  have : v = .ref p := e2
  subst this
  exact slot_get e1
theorem z_bag {k : Int} {f : Bag → Int} (n : Nm c i x) (hi : Γ[i]? = some (.st ((rRef b).pr ()))) (hf : ∀ s : Bag, atI (s.row d) k = some (.int (f s))) (hs : PIx (.Constant (.int k) j p2) := by intro _ _; rfl) :
    ZE G c (bagE b d) W Γ (.Subscript (.Name x p1) (.Constant (.int k) j p2) pos) (bget f) rInt := fun X C =>
  pe_wk (pe_ix ix_list (pe_var (C.hi n.n) (by rw [C.sc]; exact n.v) n.d n.cd) pe_int hs) fun σ H Q _ ⟨B, S, s, hh, q⟩ =>
    ⟨.ref b, ref_slot hh hi, b, s.row d, k, _, rfl, rfl, .of hh.ef.2.2.2.1, hf s, q _ S H (Same.refl _) hh rfl⟩
theorem z_bag3 (n : Nm c i x) (hi : Γ[i]? = some (.st ((rRef b).pr ()))) (hs : PIx (.Constant (.int 3) j p2) := by intro _ _; rfl) :
    ZE G c (bagE b d) W Γ (.Subscript (.Name x p1) (.Constant (.int 3) j p2) pos) (ret ()) (rRef d) := fun X C =>
  pe_wk (pe_ix ix_list (pe_var (C.hi n.n) (by rw [C.sc]; exact n.v) n.d n.cd) pe_int hs) fun σ H Q _ ⟨B, S, s, hh, q⟩ =>
    ⟨.ref b, ref_slot hh hi, b, s.row d, 3, .ref d, rfl, rfl, .of hh.ef.2.2.2.1, rfl, q _ S H (Same.refl _) hh rfl⟩
def bcell (m : M Bag Unit) (n : M Bag Int) : M Bag Int := bnd m fun _ => bnd n fun i => fun s => match atI s.cells i with | some x => .ok x s | none => .stuck
theorem atI_map {xs : List Int} {i : Int} {x : Int} (h : atI xs i = some x) : atI (xs.map V.int) i = some (.int x) := by
  unfold atI at *
  rw [List.length_map]
  cases e : ixN xs.length i with
  | none => rw [e] at h; cases h
  | some j =>
    rw [e] at h
    have h : xs[j]? = some x := h
    show (xs.map V.int)[j]? = _
    rw [List.getElem?_map, h]; rfl
theorem z_bcell {ea eb : Expr} {m : M Bag Unit} {n : M Bag Int} (ha : ZE G c (bagE b d) W Γ ea m (rRef d)) (hb : ZE G c (bagE b d) W Γ eb n rInt) (hs : PIx eb := by intro _ _; rfl) : ZE G c (bagE b d) W Γ (.Subscript ea eb pos) (bcell m n) rInt := fun X C =>
  pe_wk (pe_ix ix_list (ha X C) (hb X C) hs) fun σ H Q _ ⟨B, S, s, hh, q⟩ => by
    refine tz_bnd hh q fun _ s1 v S1 H1 m1 h1 r1 q1 => ?_
    refine tz_bnd h1 q1 fun y s2 w S2 H2 m2 h2 r2 q2 => ?_
    cases e : atI s2.cells y with
    | none => rw [e] at q2; exact q2.elim
    | some z => rw [e] at q2; exact ⟨d, _, y, _, r1, r2, .of h2.ef.2.2.2.2, atI_map e, q2 _ S2 H2 (Same.refl _) h2 rfl⟩
def blen (_ : Unit) : M Bag Int := fun s => .ok (s.cells.length : Int) s
theorem z_blen {e : Expr} {y : Str} {m : M Bag Unit} (bl : Blt G c y (.builtin "len")) (ha : ZE G c (bagE b d) W Γ e m (rRef d)) (hs : Star e [] := by intro _; rfl) : ZE G c (bagE b d) W Γ (.Call (.Name y p1) [e] [] pos) (zapp blen m) rInt :=
  z_b1 bl (R := rRef d) (r := fun xs H Q => ∃ p ys, xs = [.ref p] ∧ (SqL G.K H p ys ∨ SqT G.K H p ys) ∧ Q (.int ys.length) H) (fun X C => by rw [← C.K]; exact call_len_seq) (fun B σ S H t x v Q hh e q => ⟨d, _, by rw [show v = .ref d from e], .inl (.of hh.ef.2.2.2.2), by rw [List.length_map]; exact q _ S H (Same.refl _) hh rfl⟩) ha hs
/-- bag[k] = e -/
def bput (f : Bag → Int → Bag) (m : M Bag Int) : M Bag (Fl Unit κ ρ) := bnd m fun v s => .ok (.nx ()) (f s v)
theorem zs_bput {k : Int} {kj : Nat} {f : Bag → Int → Bag} {e : Expr} {m : M Bag Int} (n : Nm c i x) (hi : Γ[i]? = some (.st ((rRef b).pr ()))) (hk : ixN 4 k = some kj) (hf : ∀ s v, (s.row d).set kj (.int v) = (f s v).row d) (hc : ∀ s v, (f s v).cells = s.cells) (h : ZE G c (bagE b d) W Γ e m rInt) (sx : Sub (bagE b d) Γ L.x)
    (hs : ∀ (l : Nat) (env : PySem.Env), swapsWithSole [.Subscript (.Name x p1) (.Constant (.int k) j p2) p3] e l env = pure false := by intro _ _; rfl)
    (hw : ∀ env : PySem.Env, swappedStores [.Subscript (.Name x p1) (.Constant (.int k) j p2) p3] e env = pure none := by intro _; rfl) :
    ZS G c (bagE b d) W L Γ (.Assign [.Subscript (.Name x p1) (.Constant (.int k) j p2) p3] e pos) (bput f m) (fun _ => Γ) := fun X C =>
  ps_wk (ps_asg (h X C) (pg_sub (pe_var (C.hi n.n) (by rw [C.sc]; exact n.v) n.d n.cd) pe_int set_list) (hs _ _) (hw _)) fun D σ H hl ⟨B, S, s, hh, q⟩ => by
    refine tzS_bnd (R := rInt) sx hh q fun y s1 v S1 H1 m1 h1 r1 q1 => ?_
    have r1 : v = .int y := r1
    subst r1
    exact ⟨.ref b, ref_slot h1 hi, b, s1.row d, k, kj, rfl, rfl, h1.ef.2.2.2.1, hk, by rw [hf]; exact q1 σ S1 _ (Same.refl _) (h1.bag (hc _ _))⟩
/-- bag[k] += e -/
theorem zs_binc {k : Int} {kj : Nat} {g : Bag → Int} {f : Bag → Int → Bag} {e : Expr} {m : M Bag Int} (n : Nm c i x) (hi : Γ[i]? = some (.st ((rRef b).pr ()))) (hg : ∀ s : Bag, atI (s.row d) k = some (.int (g s))) (hk : ixN 4 k = some kj) (hf : ∀ s v, (s.row d).set kj (.int v) = (f s v).row d) (hc : ∀ s v, (f s v).cells = s.cells) (h : ZE G c (bagE b d) W Γ e m rInt) (sx : Sub (bagE b d) Γ L.x)
    (ha : ∀ ov iv new, augStore (.Constant (.int k) j p2) ov iv new = (do holding [new, ov, iv] (setItem ov iv new); release [new, ov, iv] []; pure .next) := by intros; rfl) :
    ZS G c (bagE b d) W L Γ (.AugAssign (.Subscript (.Name x p1) (.Constant (.int k) j p2) p3) .Add e pos) (bput f (zop2 iadd (bget g) m)) (fun _ => Γ) := fun X C =>
  ps_wk (ps_augS (pe_var (C.hi n.n) (by rw [C.sc]; exact n.v) n.d n.cd) pe_int get_list (h X C) ip_add set_list ha) fun D σ H hl ⟨B, S, s, hh, q⟩ => by
    refine ⟨.ref b, ref_slot hh hi, b, s.row d, k, _, rfl, rfl, .of hh.ef.2.2.2.1, hg s, ?_⟩
    have q : aftS G (bagE b d) W L B S (fun _ => Γ) D ((bnd m fun v s2 => .ok (.nx ()) (f s2 (g s + v)) : M Bag (Fl Unit κ ρ)) s) := by
      have : (bput f (zop2 iadd (bget g) m) : M Bag (Fl Unit κ ρ)) s = (bnd m fun v s2 => .ok (.nx ()) (f s2 (g s + v)) : M Bag (Fl Unit κ ρ)) s := by
        simp only [bput, zop2, bget, bnd, iadd, ret]
        cases m s <;> rfl
      rw [← this]; exact q
    refine tzS_bnd (R := rInt) sx hh q fun y s1 v S1 H1 m1 h1 r1 q1 => ?_
    have r1 : v = .int y := r1
    subst r1
    exact ⟨g s, y, rfl, rfl, b, s1.row d, k, kj, rfl, rfl, h1.ef.2.2.2.1, hk, by rw [hf]; exact q1 σ S1 _ (Same.refl _) (h1.bag (hc _ _))⟩
end
end Zk

namespace Zk
open PySem L2

section
variable {τ α β γ δ κ ρ ι θ : Type} {G : Gx} {c : Sc} {E : Eff τ} {W : WX} {Γ Γ' : Env} {B : Bs} {σ : St} {S S1 S' H H' : Hp} {b b' : τ} {L : Ls κ ρ}

/-! ### several targets at once -/
theorem zs_asgS {tg e : Expr} {m : M τ α} {R : Rel α} {f : α → Env} {vs : List Nat} {pos : Pos} (h : ZE G c E W Γ e m R) (g : ZG G c E W Γ vs tg f R) (sx : Sub E Γ L.x) (hs : ∀ (l : Nat) (env : PySem.Env), swapsWithSole [tg] e l env = pure false := by intro _ _; rfl)
    (hw : ∀ env : PySem.Env, env.scope = c.sc → swappedStores [tg] e env = pure none := by intro env h; cases env; cases h; rfl) (h1 : ∀ env : PySem.Env, (assignEach [tg] env).map (·.2) = [assign tg env] := by intro _; rfl) : ZS G c E W L Γ (.Assign [tg] e pos) (zset m) f := fun X C =>
  ps_wk (ps_asg (h X C) (g.1 X C) (hs _ _) (hw _ C.sc) (h1 _)) fun D σ H hl ⟨B, S, b, hh, q⟩ => by
    refine tzS_bnd (R := R) sx hh q fun x b1 v S1 H1 s1 h1 r1 q1 => ?_
    exact ⟨B, S1, b1, x, h1, r1, fun σ' w h' => q1 σ' S1 H1 (Same.refl _) h'⟩
theorem zs_par2 {i j : Nat} {x y : Str} {ea eb : Expr} {m : M τ (α × β)} {R : Rel α} {R2 : Rel β} {px py pt pos : Pos} {kt k2 pt2} (nx : c.N[i]? = some x) (ny : c.N[j]? = some y) (lx : c.sc.names.lookup x = some .local) (ly : c.sc.names.lookup y = some .local) (hij : i ≠ j)
    (h : ZA G c E W Γ [ea, eb] m (fun p => [R.pr p.1, R2.pr p.2])) (sx : Sub E Γ L.x) (hw : ∀ env : PySem.Env, env.scope = c.sc → swappedStores [.Tuple [.Name x px, .Name y py] kt pt] (.Tuple [ea, eb] k2 pt2) env = pure (some [x, y]) := by intro env h; cases env; cases h; rfl)
    (hs : ∀ (l : Nat) (env : PySem.Env), swapsWithSole [.Tuple [.Name x px, .Name y py] kt pt] (.Tuple [ea, eb] k2 pt2) l env = pure false := by intro _ _; rfl) :
    ZS G c E W L Γ (.Assign [.Tuple [.Name x px, .Name y py] kt pt] (.Tuple [ea, eb] k2 pt2) pos) (zset m) (fun p => (Γ.set i (.st (R.pr p.1))).set j (.st (R2.pr p.2))) := fun X C =>
  ps_wk (ps_par C.calm C.set_hN (C.hi nx) (C.hi ny) hij (by rw [C.sc]; exact lx) (by rw [C.sc]; exact ly) (h X C) (hw _ C.sc) (hs _ _)) fun D σ H hl ⟨B, S, b, hh, q⟩ => by
    refine tzS_bndA (A := fun p => [R.pr p.1, R2.pr p.2]) sx hh q fun y b1 us S1 H1 s1 h1 r1 q1 => ?_
    match us, r1 with
    | [u, w], ⟨r, r2, _⟩ => exact ⟨u, w, rfl, q1 _ S1 H1 (Same.refl _) ((h1.set (C.lt nx hl) r).set (by rw [List.length_set]; exact C.lt ny hl) r2)⟩
theorem zs_par3 {i j l : Nat} {x y z : Str} {ea eb ec : Expr} {m : M τ (α × β × γ)} {R : Rel α} {R2 : Rel β} {R3 : Rel γ} {px py pz pt pos : Pos} {kt k2 pt2} (nx : c.N[i]? = some x) (ny : c.N[j]? = some y) (nz : c.N[l]? = some z) (lx : c.sc.names.lookup x = some .local) (ly : c.sc.names.lookup y = some .local) (lz : c.sc.names.lookup z = some .local) (hij : i ≠ j) (hil : i ≠ l) (hjl : j ≠ l)
    (h : ZA G c E W Γ [ea, eb, ec] m (fun p => [R.pr p.1, R2.pr p.2.1, R3.pr p.2.2])) (sx : Sub E Γ L.x) (hw : ∀ env : PySem.Env, env.scope = c.sc → swappedStores [.Tuple [.Name x px, .Name y py, .Name z pz] kt pt] (.Tuple [ea, eb, ec] k2 pt2) env = pure (some [x, y, z]) := by intro env h; cases env; cases h; rfl)
    (hs : ∀ (l : Nat) (env : PySem.Env), swapsWithSole [.Tuple [.Name x px, .Name y py, .Name z pz] kt pt] (.Tuple [ea, eb, ec] k2 pt2) l env = pure false := by intro _ _; rfl) :
    ZS G c E W L Γ (.Assign [.Tuple [.Name x px, .Name y py, .Name z pz] kt pt] (.Tuple [ea, eb, ec] k2 pt2) pos) (zset m) (fun p => ((Γ.set i (.st (R.pr p.1))).set j (.st (R2.pr p.2.1))).set l (.st (R3.pr p.2.2))) := fun X C =>
  ps_wk (ps_par3 C.calm C.set_hN (C.hi nx) (C.hi ny) (C.hi nz) hij hil hjl (by rw [C.sc]; exact lx) (by rw [C.sc]; exact ly) (by rw [C.sc]; exact lz) (h X C) (hw _ C.sc) (hs _ _)) fun D σ H hl ⟨B, S, b, hh, q⟩ => by
    refine tzS_bndA (A := fun p => [R.pr p.1, R2.pr p.2.1, R3.pr p.2.2]) sx hh q fun y b1 us S1 H1 s1 h1 r1 q1 => ?_
    match us, r1 with
    | [u, w, t], ⟨r, r2, r3, _⟩ => exact ⟨u, w, t, rfl, q1 _ S1 H1 (Same.refl _) (((h1.set (C.lt nx hl) r).set (by rw [List.length_set]; exact C.lt ny hl) r2).set (by rw [List.length_set, List.length_set]; exact C.lt nz hl) r3)⟩
/-- (a, b, ..) = a list of that length -/
structure LstOf (R : Rel α) (n : Nat) (A : α → List Pr) : Prop where
  h : ∀ {x : α} {S : Hp} {v : V}, R.is x S v → ∃ a us, v = .ref a ∧ S a = some (.lst us) ∧ us.length = n ∧ All2 (fun (p : Pr) v => p.p S v) (A x) us
theorem zg_lst {es : List Expr} {k : Nat} {pos : Pos} {vs : List Nat} {n : Nat} {f : α → Env} {A : α → List Pr} {R : Rel α} (t : LstOf R n A) (h : ZGs G c E W Γ vs es f A) (hn : ∀ env : PySem.Env, (assignEach es env).length = n := by intro _; rfl) (hst : ∀ env : PySem.Env, (assignEach es env).findIdx? (·.1) = none := by intro _; rfl) :
    ZG G c E W Γ vs (.Tuple es k pos) f R := ⟨fun X C => pg_wk (pg_lst C.calm (h.1 X C) (hn X.env) (hst X.env)) fun v σ H Q hl ⟨B, S, b, x, hh, r, q⟩ => by
  obtain ⟨a, us, e1, e2, e3, e4⟩ := t.h r
  exact ⟨a, us, e1, .of (hh.same _ _ e2), e3, B, S, b, x, hh, e4, q⟩, h.2⟩
/-- a list read as n things -/
def rL2 (R : Rel α) : Rel (α × α) := ⟨fun x => (rLst R).is [x.1, x.2], fun s h => (rLst R).mono s h⟩
def rL3 (R : Rel α) : Rel (α × α × α) := ⟨fun x => (rLst R).is [x.1, x.2.1, x.2.2], fun s h => (rLst R).mono s h⟩
theorem lo2 {R : Rel α} : LstOf (rL2 R) 2 (fun x => [R.pr x.1, R.pr x.2]) := ⟨fun {x S v} ⟨a, vs, e, h, q⟩ => by
  match vs, q with
  | [u, w], ⟨q1, q2, _⟩ => exact ⟨a, _, e, h, rfl, q1, q2, trivial⟩⟩
theorem lo3 {R : Rel α} : LstOf (rL3 R) 3 (fun x => [R.pr x.1, R.pr x.2.1, R.pr x.2.2]) := ⟨fun {x S v} ⟨a, vs, e, h, q⟩ => by
  match vs, q with
  | [u, w, t], ⟨q1, q2, q3, _⟩ => exact ⟨a, _, e, h, rfl, q1, q2, q3, trivial⟩⟩
def as2 (xs : List α) : M τ (α × α) := match xs with | [x, y] => ret (x, y) | _ => stk
def as3 (xs : List α) : M τ (α × α × α) := match xs with | [x, y, z] => ret (x, y, z) | _ => stk
theorem aft_bnd_ret {f : α → M τ β} {R : Rel α} {R' : Rel β} {Q : VK} (hf : ∀ x, (∃ y, f x = ret y ∧ ∀ S v, R.is x S v → R'.is y S v) ∨ f x = stk) : ∀ {m : M τ α}, aft G E W B Γ σ S R' Q (bnd m f b) → aft G E W B Γ σ S R Q (m b) := fun {m} h => by
  unfold bnd at h
  cases e : m b with
  | stuck => rw [e] at h; exact h.elim
  | exc x b1 => rw [e] at h; exact h
  | ok x b1 =>
    rw [e] at h
    rcases hf x with ⟨y, hy, hr⟩ | hy
    · have h : aft G E W B Γ σ S R' Q (f x b1) := h
      rw [hy] at h
      exact fun v S' H' s hh r => h v S' H' s hh (hr _ _ r)
    · have h : aft G E W B Γ σ S R' Q (f x b1) := h
      rw [hy] at h; exact h.elim
theorem z_as2 {e : Expr} {m : M τ (List α)} {R : Rel α} (h : ZE G c E W Γ e m (rLst R)) : ZE G c E W Γ e (bnd m as2) (rL2 R) := fun X C => pe_wk (h X C) fun σ H Q _ ⟨B, S, b, hh, q⟩ => ⟨B, S, b, hh, aft_bnd_ret (fun x => by
  match x with
  | [x, y] => exact .inl ⟨(x, y), rfl, fun _ _ r => r⟩
  | [] => exact .inr rfl
  | [_] => exact .inr rfl
  | _ :: _ :: _ :: _ => exact .inr rfl) q⟩
theorem z_as3 {e : Expr} {m : M τ (List α)} {R : Rel α} (h : ZE G c E W Γ e m (rLst R)) : ZE G c E W Γ e (bnd m as3) (rL3 R) := fun X C => pe_wk (h X C) fun σ H Q _ ⟨B, S, b, hh, q⟩ => ⟨B, S, b, hh, aft_bnd_ret (fun x => by
  match x with
  | [x, y, z] => exact .inl ⟨(x, y, z), rfl, fun _ _ r => r⟩
  | [] => exact .inr rfl
  | [_] => exact .inr rfl
  | [_, _] => exact .inr rfl
  | _ :: _ :: _ :: _ :: _ => exact .inr rfl) q⟩

/-! ### self.f, self.g = .. -/
def gAttr (K : PySem.W.Frag) (to : TE) (f : Str) : TG := fun v σ H Q => to σ H fun x H1 => ∃ a C dx fs, x = .ref a ∧ H1 a = some (.ins C dx fs) ∧ Cls K C ∧ NoAttr K C f ∧ fs.length < 1000 ∧ Q σ (upd H1 a (.ins C dx (putF f v fs)))
theorem pg_attr {X : Cx} {o : Expr} {f : Str} {to : TE} {pos : Pos} (ho : PE X o to) : PG X (.Attribute o f pos) (gAttr X.K to f) := by
  refine ⟨fun pins s σ H v u Q I r h => ?_⟩
  rw [assign_Attribute]
  refine wpAny_bind (wpAny_holding (thn (ho.run pins s σ H _ I h) fun ov s1 ⟨x, H1, I1, r1, a, C, dx, fs, e, ea, c, n, l, q⟩ => ?_))
  subst e
  obtain rfl : ov = Value.ref a := r1
  refine wpAny_bind (wpAny_standAt (wpAny_bind (wpAny_holding ?_)))
  exact setattr_ok I1 ea c n l r fun s2 I2 => wpAny_release ⟨σ, _, I2, q⟩
def putFs : List Str → List Pr → List (Str × Pr) → List (Str × Pr)
  | f :: fs, p :: ps, acc => putFs fs ps ((f, p) :: acc)
  | _, _, acc => acc
def tgs (x : Str) (l : List (Str × Pos × Pos)) : List Expr := l.map fun t => .Attribute (.Name x t.2.1) t.1 t.2.2
theorem set_set {l : Env} {i : Nat} {a b : Sl} : (l.set i a).set i b = l.set i b := by rw [List.set_set]
theorem get_set {l : Env} {i : Nat} {a : Sl} (h : i < l.length) : (l.set i a)[i]? = some a := List.getElem?_set_self h
theorem zs_fld_step {i : Nat} {q0 : Addr → Prop} {C0 : Addr} {fs : List (Str × Pr)} {f : Str} {p : Pr} {v : V} (hi : Γ[i]? = some (.ow (ownO q0 C0 fs))) (hn : fs.length < 900) (h1 : Hold E B Γ b σ S H) (r1 : p.p S v) :
    ∃ l dx vs, σ[i]? = some (some (.ref l)) ∧ H l = some (.ins C0 dx vs) ∧ vs.length < 1000 ∧ Hold E B (Γ.set i (.ow (ownO q0 C0 ((f, p) :: fs)))) b σ S (upd H l (.ins C0 dx (putF f v vs))) := by
  obtain ⟨Fs, hF, hs⟩ := id h1.sl
  obtain ⟨v0, e1, l, dx, vs, rfl, e0, hf, hu, hlen, hno, hq⟩ := hs i _ hi
  have e1 := slot_get e1
  refine ⟨l, dx, vs, e1, hu, by omega, h1.chg hi (fun {S H v F} h e => by obtain ⟨l', _, _, rfl, _, hf, _⟩ := h; cases e; exact hf) e1 ⟨l, dx, _, rfl, e0, fun _ => Iff.rfl, upd_same, ?_, fun k hk => ?_, fun k p hk => ?_⟩⟩
  · have := length_putF f v vs; simp only [List.length_cons]; omega
  · rw [lookup_putF]
    rw [List.lookup_cons] at hk
    by_cases hkf : k = f
    · subst hkf; simp at hk
    · have : (k == f) = false := beq_eq_false_iff_ne.mpr hkf
      rw [this] at hk
      rw [if_neg hkf]; exact hno k hk
  · rw [lookup_putF]
    rw [List.lookup_cons] at hk
    by_cases hkf : k = f
    · subst hkf
      simp at hk
      subst hk
      exact ⟨v, by rw [if_pos rfl], r1⟩
    · have : (k == f) = false := beq_eq_false_iff_ne.mpr hkf
      rw [this] at hk
      rw [if_neg hkf]; exact hq k p hk
def tFlds (E : Eff τ) (Γ : Env) (i : Nat) (q0 : Addr → Prop) (C0 : Addr) (n : Nat) (fns : List Str) : TGs := fun us σ H Q => ∃ B S b ps fs, Γ[i]? = some (.ow (ownO q0 C0 fs)) ∧ Hold E B Γ b σ S H ∧ All2 (fun (p : Pr) v => p.p S v) ps us ∧ ps.length = fns.length ∧ fs.length + fns.length < n ∧ ∀ H', Hold E B (Γ.set i (.ow (ownO q0 C0 (putFs fns ps fs)))) b σ S H' → Q σ H'
theorem set_same {l : Env} {i : Nat} {a : Sl} (h : l[i]? = some a) : l.set i a = l := by
  obtain ⟨h1, h2⟩ := List.getElem?_eq_some_iff.mp h
  rw [← h2]; exact List.set_getElem_self h1
theorem pgs_flds {i : Nat} {x : Str} {q0 : Addr → Prop} {C0 : Addr} (n : Nm c i x) (cl : Cls G.K C0) {X : Cx} (C : CtxOk G c W X) : ∀ (l : List (Str × Pos × Pos)) (Γ : Env), (∀ t ∈ l, NoAttr G.K C0 t.1) → PGs X (tgs x l) (tFlds E Γ i q0 C0 900 (l.map (·.1)))
  | [], Γ, _ => pgs_wk pgs_nil fun us σ H Q hl ⟨B, S, b, ps, fs, hi, hh, r, e, _, q⟩ => by
    have e : ps = [] := List.length_eq_zero_iff.mp e
    subst e
    match us, r with
    | [], _ => exact ⟨rfl, q H (by rw [show Γ.set i (.ow (ownO q0 C0 (putFs (([] : List (Str × Pos × Pos)).map (·.1)) [] fs))) = Γ from set_same hi]; exact hh)⟩
  | t :: l, Γ, ha => pgs_wk (pgs_cons (pg_attr (pe_var (C.hi n.n) (by rw [C.sc]; exact n.v) n.d n.cd)) (pgs_ex fun p : Pr × List (Str × Pr) => pgs_flds (q0 := q0) (C0 := C0) n cl C l (Γ.set i (.ow (ownO q0 C0 ((t.1, p.1) :: p.2)))) fun t ht => ha t (by simp [ht])) rfl) fun us σ H Q hl ⟨B, S, b, ps, fs, hi, hh, r, e, hn, q⟩ => by
    cases ps with
    | nil => simp at e
    | cons p ps =>
    cases us with
    | nil => exact r.elim
    | cons u us =>
      obtain ⟨r1, r2⟩ := r
      have hlt : i < Γ.length := (List.getElem?_eq_some_iff.mp hi).1
      simp only [List.map_cons, List.length_cons] at hn e
      obtain ⟨l0, dx, vs, e1, e2, e3, h2⟩ := zs_fld_step (f := t.1) hi (by omega) hh r1
      refine ⟨u, us, rfl, .ref l0, e1, l0, C0, dx, vs, rfl, e2, by rw [C.K]; exact cl, by rw [C.K]; exact ha t (by simp), e3, (p, fs), B, S, b, ps, _, get_set hlt, h2, r2, by simpa using e, ?_, fun H' h' => q H' ?_⟩
      · simp only [List.length_cons]; omega
      · rw [set_set] at h'; exact h'
theorem zs_flds {i : Nat} {x : Str} {es : List Expr} {l : List (Str × Pos × Pos)} {q0 : Addr → Prop} {C0 : Addr} {fs : List (Str × Pr)} {m : M τ α} {A : α → List Pr} {kt k2 pt pt2 pos} {n : Nat} (nm : Nm c i x) (hi : Γ[i]? = some (.ow (ownO q0 C0 fs))) (cl : Cls G.K C0) (na : ∀ t ∈ l, NoAttr G.K C0 t.1) (hn : fs.length + n < 900) (hl : l.length = n) (hA : ∀ a, (A a).length = n) (hz : n ≤ sizeLine) (h : ZA G c E W Γ es m A) (sx : Sub E Γ L.x)
    (hs : ∀ (n : Nat) (env : PySem.Env), swapsWithSole [.Tuple (tgs x l) kt pt] (.Tuple es k2 pt2) n env = pure false := by intro _ _; rfl) (hw : ∀ env : PySem.Env, env.scope = c.sc → swappedStores [.Tuple (tgs x l) kt pt] (.Tuple es k2 pt2) env = pure none := by intro env h; cases env; cases h; rfl)
    (hn' : ∀ env : PySem.Env, (assignEach (tgs x l) env).length = n := by intro _; rfl) (hst : ∀ env : PySem.Env, (assignEach (tgs x l) env).findIdx? (·.1) = none := by intro _; rfl) :
    ZS G c E W L Γ (.Assign [.Tuple (tgs x l) kt pt] (.Tuple es k2 pt2) pos) (zset m) (fun a => Γ.set i (.ow (ownO q0 C0 (putFs (l.map (·.1)) (A a) fs)))) := fun X C =>
  ps_wk (ps_asg (pe_tup (h X C)) (pg_tup C.calm (pgs_flds (E := E) (q0 := q0) (C0 := C0) nm cl C l Γ na) (hn' X.env) (hst X.env)) (hs _ _) (hw _ C.sc)) fun D σ H hlen ⟨B, S, b, hh, q⟩ => by
    refine tzS_bndA (A := A) sx hh q fun y b1 us S1 H1 s1 h1 r1 q1 => ?_
    have e := r1.length
    rw [hA] at e
    refine ⟨by omega, fun p hp => ⟨p, us, rfl, .of upd_same, by omega, B, upd S1 p (.tup us), b1, A y, fs, hi, h1.new hp, r1.imp (fun p v z => p.mono (same_new (h1.same.free hp)) z), by rw [hA, List.length_map, hl], by rw [List.length_map, hl]; exact hn, fun H' h' => q1 _ _ H' (same_new (h1.same.free hp)) h'⟩⟩
inductive Tgs (x : Str) : List Expr → List (Str × Pos × Pos) → Prop
  | nil : Tgs x [] []
  | cons {f : Str} {p1 p2 : Pos} {es : List Expr} {l : List (Str × Pos × Pos)} : Tgs x es l → Tgs x (.Attribute (.Name x p1) f p2 :: es) ((f, p1, p2) :: l)
theorem Tgs.eq {x : Str} : ∀ {es : List Expr} {l : List (Str × Pos × Pos)}, Tgs x es l → es = tgs x l
  | _, _, .nil => rfl
  | _, _, .cons h => by rw [h.eq]; rfl
theorem zs_fldT {i : Nat} {x : Str} {tg es : List Expr} {l : List (Str × Pos × Pos)} {q0 : Addr → Prop} {C0 : Addr} {fs : List (Str × Pr)} {m : M τ α} {A : α → List Pr} {kt k2 pt pt2 pos} {n : Nat} (t : Tgs x tg l) (nm : Nm c i x) (hi : Γ[i]? = some (.ow (ownO q0 C0 fs))) (cl : Cls G.K C0) (na : ∀ t ∈ l, NoAttr G.K C0 t.1) (hn : fs.length + n < 900) (hl : l.length = n) (hA : ∀ a, (A a).length = n) (hz : n ≤ sizeLine) (h : ZA G c E W Γ es m A) (sx : Sub E Γ L.x)
    (hs : ∀ (n : Nat) (env : PySem.Env), swapsWithSole [.Tuple tg kt pt] (.Tuple es k2 pt2) n env = pure false := by intro _ _; rfl) (hw : ∀ env : PySem.Env, env.scope = c.sc → swappedStores [.Tuple tg kt pt] (.Tuple es k2 pt2) env = pure none := by intro env h; cases env; cases h; rfl)
    (hn' : ∀ env : PySem.Env, (assignEach tg env).length = n := by intro _; rfl) (hst : ∀ env : PySem.Env, (assignEach tg env).findIdx? (·.1) = none := by intro _; rfl) :
    ZS G c E W L Γ (.Assign [.Tuple tg kt pt] (.Tuple es k2 pt2) pos) (zset m) (fun a => Γ.set i (.ow (ownO q0 C0 (putFs (l.map (·.1)) (A a) fs)))) := by
  have e := t.eq
  subst e
  exact zs_flds nm hi cl na hn hl hA hz h sx hs hw hn' hst
/-! ### name += e -/
theorem zs_iadd {i : Nat} {x : Str} {a : Int} {e : Expr} {m : M τ Int} {p pos : Pos} (n : Ns c i x) (hi : Γ[i]? = some (.st (rInt.pr a))) (h : ZE G c E W Γ e m rInt) (sx : Sub E Γ L.x) : ZS G c E W L Γ (.AugAssign (.Name x p) .Add e pos) (zset (zop2 iadd (ret a) m)) (fun v => Γ.set i (.st (rInt.pr v))) := fun X C =>
  ps_wk (ps_aug C.set_hN (C.hi n.n) (by rw [C.sc]; exact n.l) (h X C) ip_add (C.hf n)) fun D σ H hl ⟨B, S, b, hh, q⟩ => by
    obtain ⟨Fs, hF, hs⟩ := id hh.sl
    obtain ⟨v, e1, e2⟩ := hs i _ hi
    have e2 : v = .int a := e2
    subst e2
    refine ⟨_, slot_get e1, ?_⟩
    have q : aftS G E W L B S (fun v => Γ.set i (.st (rInt.pr v))) D (bnd m (fun y => (ret (.nx (a + y)) : M τ (Fl Int κ ρ))) b) := by
      have : (zset (zop2 iadd (ret a) m) : M τ (Fl Int κ ρ)) b = bnd m (fun y => (ret (.nx (a + y)) : M τ (Fl Int κ ρ))) b := by
        simp only [zset, zop2, bnd, iadd, ret]
        cases m b <;> rfl
      rw [← this]; exact q
    refine tzS_bnd (R := rInt) sx hh q fun y b1 v S1 H1 s1 h1 r1 q1 => ?_
    have r1 : v = .int y := r1
    subst r1
    exact ⟨a, y, rfl, rfl, q1 _ S1 H1 (Same.refl _) (h1.set (C.lt n.n hl) rfl)⟩
theorem zs_isub {i : Nat} {x : Str} {a : Int} {e : Expr} {m : M τ Int} {p pos : Pos} (n : Ns c i x) (hi : Γ[i]? = some (.st (rInt.pr a))) (h : ZE G c E W Γ e m rInt) (sx : Sub E Γ L.x) : ZS G c E W L Γ (.AugAssign (.Name x p) .Sub e pos) (zset (zop2 isub (ret a) m)) (fun v => Γ.set i (.st (rInt.pr v))) := fun X C =>
  ps_wk (ps_aug C.set_hN (C.hi n.n) (by rw [C.sc]; exact n.l) (h X C) ip_sub (C.hf n)) fun D σ H hl ⟨B, S, b, hh, q⟩ => by
    obtain ⟨Fs, hF, hs⟩ := id hh.sl
    obtain ⟨v, e1, e2⟩ := hs i _ hi
    have e2 : v = .int a := e2
    subst e2
    refine ⟨_, slot_get e1, ?_⟩
    have q : aftS G E W L B S (fun v => Γ.set i (.st (rInt.pr v))) D (bnd m (fun y => (ret (.nx (a - y)) : M τ (Fl Int κ ρ))) b) := by
      have : (zset (zop2 isub (ret a) m) : M τ (Fl Int κ ρ)) b = bnd m (fun y => (ret (.nx (a - y)) : M τ (Fl Int κ ρ))) b := by
        simp only [zset, zop2, bnd, isub, ret]
        cases m b <;> rfl
      rw [← this]; exact q
    refine tzS_bnd (R := rInt) sx hh q fun y b1 v S1 H1 s1 h1 r1 q1 => ?_
    have r1 : v = .int y := r1
    subst r1
    exact ⟨a, y, rfl, rfl, q1 _ S1 H1 (Same.refl _) (h1.set (C.lt n.n hl) rfl)⟩

/-! ### slices -/
def cut (xs : List α) (lo hi : Option Int) : List α := (xs.drop (HT.sIx xs.length 0 lo)).take (HT.sIx xs.length xs.length hi - HT.sIx xs.length 0 lo)
theorem All2.cut {r : α → V → Prop} {xs : List α} {vs : List V} (h : All2 r xs vs) (lo hi : Option Int) : All2 r (Zk.cut xs lo hi) (cutV vs lo hi) := by
  unfold Zk.cut cutV
  rw [← h.length]
  exact (h.drop _).take _
/-- a written bound of a slice -/
def ZP (G : Gx) (c : Sc) (E : Eff τ) (W : WX) (Γ : Env) (e : Option Expr) (m : M τ (Option Int)) : Prop := ∀ X, CtxOk G c W X → PO X e fun σ H Q => ∃ B S b, Hold E B Γ b σ S H ∧ (match m b with | .ok a b' => ∀ S' H', Same S S' → Hold E B Γ b' σ S' H' → Q a H' | .exc x b' => ∀ c d S' H', Same S S' → Hold E B Γ b' σ S' H' → XAt G x H' c d → W c d σ H' | .stuck => False)
theorem po_wk {X : Cx} {e : Option Expr} {t t' : TO} (h : PO X e t) (w : ∀ σ H Q, t' σ H Q → t σ H Q) : PO X e t' := ⟨fun pins s σ H Q I q => h.run pins s σ H Q I (w σ H Q q)⟩
theorem zp_no : ZP G c E W Γ none (ret none) := fun X C => po_wk po_none fun σ H Q ⟨B, S, b, hh, q⟩ => q S H (Same.refl _) hh
def zsome (m : M τ Int) : M τ (Option Int) := bnd m fun i => ret (some i)
theorem zp_so {e : Expr} {m : M τ Int} (h : ZE G c E W Γ e m rInt) : ZP G c E W Γ (some e) (zsome m) := fun X C => po_wk (po_some (h X C)) fun σ H Q ⟨B, S, b, hh, q⟩ => by
  refine ⟨B, S, b, hh, ?_⟩
  unfold zsome bnd at q
  cases e : m b with
  | stuck => rw [e] at q; exact q.elim
  | exc x b1 => rw [e] at q; exact q
  | ok a b1 => rw [e] at q; exact fun v S1 H1 s1 h1 r1 => ⟨a, r1, q S1 H1 s1 h1⟩
def zsl (m : M τ (List α)) (l h : M τ (Option Int)) : M τ (List α) := bnd m fun xs => bnd l fun lo => bnd h fun hi => ret (cut xs lo hi)
theorem tz_sl {r : V → Option Int → Option Int → Hp → VK → Prop} {R R' : Rel (List α)} {m : M τ (List α)} {l h : M τ (Option Int)} {e : Expr} {lo hi : Option Expr} {p2 pos : Pos} (hr : ∀ X, CtxOk G c W X → SlR X r) (he : ZE G c E W Γ e m R) (hl : ZP G c E W Γ lo l) (hh : ZP G c E W Γ hi h)
    (hq : ∀ {xs : List α} {v : V} {lo hi : Option Int} {B : Bs} {S H : Hp} {b : τ} {σ : St} {Q : VK}, Hold E B Γ b σ S H → R.is xs S v → aft G E W B Γ σ S R' Q (ret (cut xs lo hi) b) → r v lo hi H Q) : ZE G c E W Γ (.Subscript e (.Slice lo hi none p2) pos) (zsl m l h) R' := fun X C =>
  pe_wk (pe_slice (hr X C) (he X C) (hl X C) (hh X C)) fun σ H Q _ ⟨B, S, b, hh, q⟩ => by
    refine tz_bnd hh q fun xs b1 v S1 H1 s1 h1 r1 q1 => ?_
    refine ⟨B, S1, b1, h1, ?_⟩
    unfold bnd at q1
    cases e : l b1 with
    | stuck => rw [e] at q1; exact q1.elim
    | exc x b1 => rw [e] at q1; exact q1
    | ok lo b2 =>
      rw [e] at q1
      intro S2 H2 s2 h2
      refine ⟨B, S2, b2, h2, ?_⟩
      dsimp only at q1
      cases e : h b2 with
      | stuck => rw [e] at q1; exact q1.elim
      | exc x b1 => rw [e] at q1; exact fun c d S' H' s' h' xa => q1 c d S' H' (s2.trans s') h' xa
      | ok hi b3 =>
        rw [e] at q1
        exact fun S3 H3 s3 h3 => hq h3 (R.mono (s2.trans s3) r1) (aft.same (s2.trans s3) q1)
theorem z_slL {R : Rel α} {m : M τ (List α)} {l h : M τ (Option Int)} {e : Expr} {lo hi : Option Expr} {p2 pos : Pos} (he : ZE G c E W Γ e m (rLst R)) (hl : ZP G c E W Γ lo l) (hh : ZP G c E W Γ hi h) : ZE G c E W Γ (.Subscript e (.Slice lo hi none p2) pos) (zsl m l h) (rLst R) :=
  tz_sl (r := rSlL G.K) (fun X C => by rw [← C.K]; exact sl_list) he hl hh fun hh ⟨a, vs, e1, e2, e3⟩ q => ⟨a, vs, e1, .of (hh.same _ _ e2), fun p hp => aft_new hh q hp (rLst_new (hh.same.free hp) (e3.cut _ _))⟩
theorem z_slSc {R : Rel α} {m : M τ (List α)} {l h : M τ (Option Int)} {e : Expr} {lo hi : Option Expr} {p2 pos : Pos} (he : ZE G c E W Γ e m (rSc G.K R)) (hl : ZP G c E W Γ lo l) (hh : ZP G c E W Γ hi h) : ZE G c E W Γ (.Subscript e (.Slice lo hi none p2) pos) (zsl m l h) (rLst R) :=
  tz_sl (r := rSlL G.K) (fun X C => by rw [← C.K]; exact sl_list) he hl hh fun hh ⟨a, vs, e1, e2, e3⟩ q => ⟨a, vs, e1, e2.elim (fun z => .inl (z.elim (fun z => .inl (hh.same _ _ z)) fun ⟨o, z⟩ => .inr ⟨o, hh.same _ _ z⟩)) .inr, fun p hp => aft_new hh q hp (rLst_new (hh.same.free hp) (e3.cut _ _))⟩
theorem cut_all {xs : List α} {lo hi : Option Int} (h : HT.sIx xs.length 0 lo = 0 ∧ HT.sIx xs.length xs.length hi = xs.length) : cut xs lo hi = xs := by
  unfold cut
  rw [h.1, h.2]; simp
theorem z_slV {R : Rel α} {m : M τ (List α)} {l h : M τ (Option Int)} {e : Expr} {lo hi : Option Expr} {p2 pos : Pos} (he : ZE G c E W Γ e m (rVT R)) (hl : ZP G c E W Γ lo l) (hh : ZP G c E W Γ hi h) : ZE G c E W Γ (.Subscript e (.Slice lo hi none p2) pos) (zsl m l h) (rVT R) :=
  tz_sl (r := rSlA G.K) (fun X C => by rw [← C.K]; exact sl_tupA) he hl hh fun {xs v lo hi B S H b σ Q} hh ⟨a, vs, e1, e2, e3⟩ q => ⟨a, vs, e1, .of (hh.same _ _ e2), fun w => by
    rw [← e3.length] at w
    rw [cut_all w] at q
    subst e1
    exact aft_ret (R := rVT R) hh q ⟨a, vs, rfl, e2, e3⟩, fun _ p hp => aft_new hh q hp (rVT_new (hh.same.free hp) (e3.cut _ _))⟩
/-! ### tuples added -/
def fcatV (x y : List α) : M τ (List α) := chk (x.length + y.length ≤ sizeLine) (ret (x ++ y))
theorem z_catV {R : Rel α} {ea eb : Expr} {ma mb : M τ (List α)} {pos : Pos} (ha : ZE G c E W Γ ea ma (rVT R)) (hb : ZE G c E W Γ eb mb (rVT R)) : ZE G c E W Γ (.BinOp ea .Add eb pos) (zop2 fcatV ma mb) (rVT R) :=
  z_bin (r := rCatA G.K) (Ra := rVT R) (Rb := rVT R) (R := rVT R) (fun X C => by rw [← C.K]; exact op_catA) (fun B σ S H b x y v w Q hh ⟨a, vs, e1, e2, e3⟩ ⟨d, us, f1, f2, f3⟩ q => by
    obtain ⟨hz, q⟩ := aft_chk q
    subst e1 f1
    refine ⟨a, d, vs, us, rfl, rfl, .of (hh.same _ _ e2), .of (hh.same _ _ f2), by rw [← e3.length, ← f3.length]; exact hz, fun n => ?_, fun _ n => ?_, fun _ _ p hp => aft_new hh q hp (rVT_new (hh.same.free hp) (e3.append f3))⟩
    · subst n
      have : x = [] := List.length_eq_zero_iff.mp (by rw [e3.length]; rfl)
      subst this
      exact aft_ret (R := rVT R) hh q ⟨d, us, rfl, f2, f3⟩
    · subst n
      have : y = [] := List.length_eq_zero_iff.mp (by rw [f3.length]; rfl)
      subst this
      rw [List.append_nil] at q
      exact aft_ret (R := rVT R) hh q ⟨a, vs, rfl, e2, e3⟩) ha hb
/-! ### sorted -/
def isort (xs : List Int) : List Int := xs.mergeSort (fun a b => decide (a ≤ b))
theorem isort_perm (xs : List Int) : (isort xs).Perm xs := List.mergeSort_perm ..
theorem isort_srt (xs : List Int) : (isort xs).Pairwise (· ≤ ·) := by
  have := List.pairwise_mergeSort (le := fun a b : Int => decide (a ≤ b)) (by intro a b c; simp; omega) (by intro a b; simp; omega) xs
  exact this.imp (by simp)
theorem srt_unique {xs ys : List Int} (p : xs.Perm ys) (h1 : xs.Pairwise (· ≤ ·)) (h2 : ys.Pairwise (· ≤ ·)) : xs = ys := p.eq_of_pairwise (fun a b _ _ => by omega) h1 h2
theorem z_sortI {x : Str} {p pos : Pos} {e : Expr} {m : M τ (List Int)} (bl : Blt G c x (.builtin "sorted")) (ha : ZE G c E W Γ e m (rLst rInt)) (hs : Star e [] := by intro _; rfl) : ZE G c E W Γ (.Call (.Name x p) [e] [] pos) (zapp (fun xs => ret (isort xs)) m) (rLst rInt) :=
  z_b1 bl (R := rLst rInt) (r := rSortedI G.K) (fun X C => by rw [← C.K]; exact cr_sortedI) (fun B σ S H b xs v Q hh ⟨a, vs, e1, e2, e3⟩ q => ⟨a, xs, by rw [e1], by rw [← All2.ints e3]; exact .of (hh.same _ _ e2), fun ns p h1 h2 hp => by
    rw [srt_unique (h1.trans (isort_perm xs).symm) h2 (isort_srt xs)]
    exact aft_new hh q hp (rLst_new (hh.same.free hp) (All2.of_ints _))⟩) ha hs
end
end Zk

namespace Zk
open PySem L2

section
variable {τ α β γ δ κ ρ ι θ : Type} {G : Gx} {c : Sc} {E : Eff τ} {W : WX} {Γ Γ' : Env} {B : Bs} {σ : St} {S S1 S' H H' : Hp} {b b' : τ} {L : Ls κ ρ}

/-! ### an __init__ of an own exception -/
theorem xini1 {qual fld pn bn : Str} {st : Stmt} {f A0 : Addr} {fd : FuncData} {mc : Value} {z : Str} {jz : Nat} {p1 p2 p3 p4 p5 p6 p7 p8 p9 p10 : Pos} {pl : PySem.Env → Sem Bool} (F : Fun G.K "__init__" qual st f fd) (sc : FnScope ["self", pn] ["self", pn] (defScope st))
    (hb : defBody st = [.Expr (.Call (.Attribute (.Name bn p1) "__init__" p2) [.Name "self" p3, .Constant (.str z) jz p4] [] p5) p6, .Assign [.Attribute (.Name "self" p7) fld p8] (.Name pn p9) p10]) (T : AIn G.K A0 mc) (hm : G.mg bn = some (.ref A0))
    (gb : (defScope st).names.lookup bn = some .globalImplicit) (v0 : Vis (defScope st) "self") (v1 : Vis (defScope st) pn) (hd : (bn == ("__debug__" : Str)) = false := by decide) (hd1 : (pn == ("__debug__" : Str)) = false := by decide) (hd2 : (pn == ("__classdict__" : Str)) = false := by decide)
    (ht : EvM (.Name bn p1) "__init__" [.Name "self" p3, .Constant (.str z) jz p4] p2 p5 pl := by intro _; rfl)
    (hsw : ∀ env : PySem.Env, swapsWith (.Name pn p9) (some (.Attribute (.Name "self" p7) fld p8)) p10.line env = pure false := by intro _; rfl) :
    FnOk G.P G.w G.K G.mg G.base (L2.CX G.P G.w) 1 f fd ["self", pn] (spX1 G.K fld) := by
  refine F.okX sc (fun vs H Q XE ⟨a, v, C, e, _⟩ => by rw [e]; rfl) (fun cdv A outer s H vs Q XE hr h => ?_)
  obtain ⟨a, v, C, rfl, ox, hn, ha, q⟩ := h
  rw [hb]
  refine ⟨_, pss_cons (ps_expr (pe_ainit T gb hm (pa_cons (pe_var (i := 0) rfl v0 (by decide) (by decide)) (pa_cons pe_str pa_nil)) (ht _) rfl rfl hd)) (pss_one (ps_ost (pe_var (i := 0) rfl v0 (by decide) (by decide)) (pe_var (i := 1) rfl v1 hd1 hd2) (hsw _))), ?_⟩
  exact ⟨_, rfl, a, C, _, rfl, by simp, ox, ha, _, rfl, _, rfl, a, C, rfl, ox, hn, .inl ⟨ha, fun d hd hne => q d hd hne⟩⟩

/-! ### repr of data -/
def frepr {R : Rel α} (D : DatR R) (x : α) : M τ Str := chk ((D.d x).showable = true ∧ (D.d x).canLay0 = true ∧ D.n ≤ 60 ∧ (D.d x).shown.length ≤ sizeLine) (ret (D.d x).shown)
structure RefR (R : Rel α) : Prop where
  h : ∀ {x : α} {S : Hp} {v : V}, R.is x S v → ∃ a, v = .ref a
theorem rfL {R : Rel α} : RefR (rLst R) := ⟨fun ⟨a, _, e, _⟩ => ⟨a, e⟩⟩
theorem rfV {R : Rel α} : RefR (rVT R) := ⟨fun ⟨a, _, e, _⟩ => ⟨a, e⟩⟩
theorem rf2 {R : Rel α} {R2 : Rel β} : RefR (rT2 R R2) := ⟨fun ⟨a, _, _, e, _⟩ => ⟨a, e⟩⟩
theorem rf3 {R : Rel α} {R2 : Rel β} {R3 : Rel γ} : RefR (rT3 R R2 R3) := ⟨fun ⟨a, _, _, _, e, _⟩ => ⟨a, e⟩⟩
def rReprD (K : PySem.W.Frag) : List V → Hp → VK → Prop := fun xs H Q => ∃ a d, xs = [.ref a] ∧ Dp K H (.ref a) d ∧ d.showable = true ∧ d.hasDict = false ∧ d.depth ≤ 60 ∧ d.shown.length ≤ sizeLine ∧ Q (.str d.shown) H
theorem cr_reprD {X : Cx} (hg : X.A.guards = some []) (hu : X.A.units + 64 < cLine) : CallR X (.builtin "repr") (rReprD X.K) := by
  intro pins s σ H vs us Q I r h
  obtain ⟨a, d, rfl, hd, h1, h2, h3, h4, q⟩ := h
  rw [Vals.ref1 r]
  obtain ⟨as, rd⟩ := Dp.reads I d _ (.ref a) hd rfl
  exact repr_of_reads' rd h1 (PyData.noDict_hsm h2) hg (by omega) (fun _ _ z => z) (fun h' u tk k => ⟨.str _, H, I.kept (t' := tk) k, ⟨_, rfl⟩, q⟩) h4
theorem z_repr {R : Rel α} (D : DatR R) (rf : RefR R) {x : Str} {p pos : Pos} {e : Expr} {m : M τ α} (hgd : c.gd = true) (bl : Blt G c x (.builtin "repr")) (ha : ZE G c E W Γ e m R) (hs : Star e [] := by intro _; rfl) : ZE G c E W Γ (.Call (.Name x p) [e] [] pos) (zapp (frepr D) m) rStr :=
  z_b1 bl (R := R) (r := rReprD G.K) (fun X C => by rw [← C.K]; exact cr_reprD (C.gds hgd) C.room.units) (fun B σ S H b x v Q hh hx q => by
    obtain ⟨⟨h1, h2, h3, h4⟩, q⟩ := aft_chk q
    obtain ⟨a, rfl⟩ := rf.h hx
    exact ⟨a, _, rfl, D.dp hh.same hx, h1, PyData.hasDict_of_canLay _ h2, Nat.le_trans (D.dep x) h3, h4, aft_ret hh q rfl⟩) ha hs
theorem z_reprI {x : Str} {p pos : Pos} {e : Expr} {m : M τ Int} (bl : Blt G c x (.builtin "repr")) (ha : ZE G c E W Γ e m rInt) (hs : Star e [] := by intro _; rfl) : ZE G c E W Γ (.Call (.Name x p) [e] [] pos) (zapp (frepr datI) m) rStr :=
  z_b1 bl (R := rInt) (r := fun xs H Q => ∃ i, xs = [.int i] ∧ i.natAbs.log2 < 1920 ∧ Q (.str (toString i)) H) (fun X C => SkE.call_repr_int) (fun B σ S H b x v Q hh hx q => by
    obtain ⟨⟨h1, h2, h3, h4⟩, q⟩ := aft_chk q
    have h1 : x.natAbs.log2 < 1920 := by simpa [datI, PyData.showable] using h1
    refine ⟨x, by rw [show v = .int x from hx], h1, aft_ret hh q ?_⟩
    show V.str _ = V.str _
    simp [datI, PyData.shown]) ha hs

/-! ### C(e, .., k = e) -/
structure MkAtK (g : Bool) (G : Gx) (C : Addr) (k n : Nat) (ps ks : List Str) (sp : Sp) (gV : List V → List V → List V) : Prop where
  ex : ∃ f fd gg, Mk G.K C f ∧ KBn G.K fd ps (n + 1) ks gg gV ∧ FnG g G.P G.w G.K G.mg G.base k f fd ps sp
theorem zf_makeK {gd : Bool} {x kw : Str} {C0 : Addr} {k n : Nat} {ps : List Str} {A : α → List Pr} {f : α → M Unit ρ} {fs : ρ → List (Str × Pr)} {Ad : β → List Pr} {Rk : Rel γ} {gV : List V → List V → List V} {g : β × γ → α} {e ek : Expr} {es : List Expr} {m : M τ β} {mk : M τ γ} {p pos kp : Pos} (F : MkAtK gd G C0 k n ps [kw] (spI G C0 A f fs) gV) (hm : G.mg x = some (.ref C0)) (hk : k + 1 ≤ c.k) (hg : gd = true → c.gd = true) (gb : Gb c x)
    (hA : ∀ y, (Ad y).length = n) (hd : ∀ y (z : γ) S l us w, All2 (fun (p : Pr) v => p.p S v) (Ad y) us → Rk.is z S w → ∃ ws, gV (.ref l :: us) [w] = .ref l :: ws ∧ All2 (fun (p : Pr) v => p.p S v) (A (g (y, z))) ws) (ha : ZA G c E W Γ (e :: es) m Ad) (hkw : ZE G c E W Γ ek mk Rk)
    (hdb : (x == ("__debug__" : Str)) = false := by decide) (he : Star e es := by intro _; rfl)
    (hall : ∀ env : PySem.Env, (backToKw pos (keywordEach [⟨some kw, ek, kp⟩] env)).all (·.1.isSome) = true := by intro _; rfl) (hks : ∀ env : PySem.Env, (backToKw pos (keywordEach [⟨some kw, ek, kp⟩] env)).filterMap (·.1) = [kw] := by intro _; rfl)
    (hpl : ∀ env : PySem.Env, ((backTo pos (starEach (e :: es) env)).any (·.1) || (backToKw pos (keywordEach [⟨some kw, ek, kp⟩] env)).any (·.1.isNone)) = false := by intro _; rfl) :
    ZF G c E W Γ (.Call (.Name x p) (e :: es) [⟨some kw, ek, kp⟩] pos) (bnd m fun y => bnd mk fun z => lft (f (g (y, z)))) (fun r => ownO (fun _ => True) C0 (fs r)) := fun X C => by
  obtain ⟨f0, fd, gg, h1, h2, h4⟩ := F.ex
  rw [← C.prog, ← C.w, ← C.K, ← C.mg, ← C.base] at h4
  rw [← C.K] at h1 h2
  rw [← C.mg] at hm
  refine pe_wk (pe_makeKS (Ex := WE W) h1 h4 (C.room.mono hk) (fun z => C.gds (hg z)) (C.gl gb) hm h2 (passAt C.takes) (ha X C) (pk_cons (hkw X C) pk_nil) (hall _) (hks _) hdb (he _) (hpl _)) fun σ H Q _ ⟨B, S, b, hh, qq⟩ => ?_
  refine tz_AbndF hh qq fun y b1 us S1 H1 s1 hh1 r1 q1 => ?_
  refine tz_bndF hh1 q1 fun z b2 w S2 H2 s2 hh2 r2 q2 => ?_
  refine ⟨by rw [← r1.length]; exact hA y, rfl, fun l dx hl hdx hne => ?_⟩
  obtain ⟨ws, e0, rw'⟩ := hd y z S2 l us w (r1.imp fun p v z => p.mono s2 z) r2
  rw [e0]
  refine ⟨g (y, z), l, dx, S2, ws, rfl, rw', fun a o e => ?_, hh2.same.free hl, upd_same, ?_⟩
  · have e := hh2.same _ _ e
    rw [upd_ne (ne_of_none e hl), upd_ne (ne_of_none e hdx)]; exact e
  have old : ∀ a o, H2 a = some o → del (upd (upd H2 dx (.own l)) l (.ins C0 dx [])) l a = some o := fun a o e => by
    rw [del_ne (ne_of_none e hl), upd_ne (ne_of_none e hl), upd_ne (ne_of_none e hdx)]; exact e
  unfold lft at q2
  cases e : f (g (y, z)) () with
  | stuck => rw [e] at q2; exact q2.elim
  | exc e b' =>
    rw [e] at q2
    exact fun c d S' H' k xa => q2 c d S' H' k.up (hh2.grow k.up k.same (fun a o e1 e2 => k.kp a o e1 (old a o e2) id) fun a ha hn => by
      obtain ⟨_, o, ho⟩ := E.th hh2.ef ha
      exact (k.kp a o hn (old a o ho) id).1) xa
  | ok r b' =>
    rw [e] at q2
    intro S' H' k hS' hO
    refine ⟨rfl, q2 (.ref l) S' (del H' l) H' (fun x => x = l) k.up (hh2.grow k.up (fun a o e => ?_) (fun a o e1 e2 => ?_) fun a ha hn => ?_) (fun x e => ?_) (fun x n => (del_ne n).symm) hO⟩
    · rw [del_ne (fun z => by rw [z, hS'] at e; cases e)]; exact k.same _ _ e
    · rw [del_ne (ne_of_none e2 hl)]; exact k.kp a o e1 (old a o e2) id
    · obtain ⟨_, o, ho⟩ := E.th hh2.ef ha
      exact (k.kp a o hn (old a o ho) id).1
    · subst e
      obtain ⟨l', dx', vs', e', _, _, hu, _⟩ := hO
      cases e'
      exact ⟨del_same, _, hu⟩

/-! ### the bag's making -/
def spBag (K : PySem.W.Frag) (mk : List Int → M Unit (List Int)) : Sp := fun vs H Q _ => ∃ xs v S, vs = [v] ∧ (rSc K rInt).is xs S v ∧ Same S H ∧ match mk xs () with
  | .ok cs _ => ∀ p l S' H', Keep (fun _ => False) ⟨S, H⟩ S' H' → S' p = none → S' l = none → H p = none → H l = none → p ≠ l → H' p = some (.lst (Bag.row ⟨0, 1234567891, 0, cs⟩ l)) → H' l = some (.lst (cs.map V.int)) → Q (.ref p) H'
  | _ => False
theorem bag_ok {g : Bool} {x qual pn : Str} {st : Stmt} {f : Addr} {fd : FuncData} {N : List Str} {e : Expr} {j1 j2 j3 : Nat} {p1 p2 p3 p4 p5 : Pos} {mk : List Int → M Unit (List Int)} (F : Fun G.K x qual st f fd) (sc : FnScope N [pn] (defScope st))
    (hb : defBody st = [.Return (some (.List [.Constant (.int 0) j1 p1, .Constant (.int 1234567891) j2 p2, .Constant (.int 0) j3 p3, e] p4)) p5])
    (h : ∀ xs W, ZF G ⟨N, defScope st, 0, true, fun _ => true, g⟩ noE W (envOf N.length [(rSc G.K rInt).pr xs]) e (mk xs) (ownL rInt))
    (hs : ∀ env : PySem.Env, swapsWith (.List [.Constant (.int 0) j1 p1, .Constant (.int 1234567891) j2 p2, .Constant (.int 0) j3 p3, e] p4) none p5.line env = pure false := by intro _; rfl)
    (h1 : Star (.Constant (.int 0) j1 p1) [.Constant (.int 1234567891) j2 p2, .Constant (.int 0) j3 p3, e] := by intro _; rfl) (h2 : Star (.Constant (.int 1234567891) j2 p2) [.Constant (.int 0) j3 p3, e] := by intro _; rfl) (h3 : Star (.Constant (.int 0) j3 p3) [e] := by intro _; rfl) (h4 : Star e [] := by intro _; rfl) :
    FnG g G.P G.w G.K G.mg G.base 1 f fd [pn] (spBag G.K mk) := by
  refine fng_F F sc (fun vs H Q XE h => ?_) (fun cdv A0 outer s H vs Q XE hr hgd hq => ?_)
  · obtain ⟨xs, v, S, rfl, _⟩ := h; rfl
  · obtain ⟨xs, v, S, rfl, hv, sm, q⟩ := hq
    let W : WX := fun cls d _ H => XE cls d H
    have C : CtxOk G ⟨N, defScope st, 0, true, fun _ => true, g⟩ W (cxOf (L2.CX G.P G.w) G.P G.w G.K G.mg G.base N qual (defScope st) f cdv A0 outer s H XE) :=
      ⟨rfl, rfl, rfl, rfl, rfl, rfl, sc.nd, rfl, rfl, hr, hgd, takes_of rfl rfl rfl rfl, passes_of rfl, rfl, fun _ => ⟨rfl, rfl⟩⟩
    rw [hb]
    refine ⟨_, pss_one (ps_ret (pe_lst (pa_cons pe_int (pa_cons pe_int (pa_cons pe_int (pa_cons (h xs W _ C) pa_nil (h4 _)) (h3 _)) (h2 _)) (h1 _)))), ?_⟩
    have hh : Hold noE ⟨S, H⟩ (envOf N.length [(rSc G.K rInt).pr xs]) () (start N [v]) S H := hold_start sm trivial ⟨hv, trivial⟩
    refine ⟨⟨S, H⟩, S, (), hh, ?_⟩
    cases e : mk xs () with
    | stuck => rw [e] at q; exact q.elim
    | exc x b => rw [e] at q; exact q.elim
    | ok cs u =>
      rw [e] at q
      intro w S1 H1 H2 F s1 hh1 hF hk ⟨l, ws, ew, hf, hl, hw⟩
      subst ew
      obtain ⟨n1, _⟩ := hF l ((hf l).mpr rfl)
      refine ⟨by show 4 ≤ _; decide, fun p hp => ?_⟩
      have npl : p ≠ l := fun z => by rw [z, hl] at hp; cases hp
      have hp1 : H1 p = none := by rw [← hk p fun z => npl ((hf p).mp z)]; exact hp
      have oldH : ∀ a o, S a = none → H a = some o → a ≠ p ∧ a ≠ l := fun a o e1 e2 => by
        have := (hh1.kp.kp a o e1 e2 id).2
        exact ⟨ne_of_none this hp1, ne_of_none this n1⟩
      have fr : ∀ a, H1 a = none → H a = none := fun a z => by
        cases y : H a with
        | none => rfl
        | some o =>
          cases t : S a with
          | none => have := (hh1.kp.kp a o t y id).2; rw [z] at this; cases this
          | some o' => have := hh1.same _ _ (hh1.kp.up _ _ t); rw [z] at this; cases this
      refine q p l S1 _ ⟨fun a o e => ?_, hh1.kp.up, fun a o e1 e2 _ => ?_⟩ (hh1.same.free hp1) (hh1.same.free n1) (fr p hp1) (fr l n1) npl upd_same ?_
      · have e := hh1.same _ _ e
        rw [upd_ne (ne_of_none e hp1), hk a fun z => ne_of_none e n1 ((hf a).mp z)]; exact e
      · obtain ⟨y1, y2⟩ := oldH a o e1 e2
        obtain ⟨z1, z2⟩ := hh1.kp.kp a o e1 e2 id
        exact ⟨z1, by rw [upd_ne y1, hk a fun z => y2 ((hf a).mp z)]; exact z2⟩
      · rw [upd_ne (Ne.symm npl), hl, All2.ints hw]
theorem Hold.unbag {Γ : Env} {B : Bs} {σ : St} {S H : Hp} {s : Bag} {p l : Addr} (h : Hold (bagE p l) B Γ s σ S H) (f : ∀ a o, B.S a = none → B.H a = some o → a ≠ p ∧ a ≠ l) : Hold noE B Γ () σ S H := by
  obtain ⟨Fs, hF, hs⟩ := h.sl
  exact ⟨⟨h.kp.same, h.kp.up, fun a o e1 e2 _ => h.kp.kp a o e1 e2 fun z => z.elim (f a o e1 e2).1 (f a o e1 e2).2⟩, trivial, Fs, ⟨fun i a e => let ⟨q1, q2, _, q4⟩ := hF.at_ i a e; ⟨q1, q2, id, q4⟩, hF.ds⟩, hs⟩
theorem Hold.inbag {Γ : Env} {B : Bs} {σ : St} {S H S' H' : Hp} {s : Bag} {p l : Addr} (h : Hold noE B Γ () σ S H) (k : Keep (fun _ => False) ⟨S, H⟩ S' H') (e : (bagE p l).is s S' H') (hp : H p = none) (hl : H l = none) : Hold (bagE p l) B Γ s σ S' H' := by
  obtain ⟨Fs, hF, hs⟩ := h.sl
  refine ⟨⟨k.same, h.kp.up.trans k.up, fun a o h1 h2 _ => ?_⟩, e, Fs, ⟨fun i a e => ?_, hF.ds⟩, fun i t e => ?_⟩
  · obtain ⟨q1, q2⟩ := h.kp.kp a o h1 h2 id
    exact k.kp a o q1 q2 id
  · obtain ⟨q1, q2, q3, o, q4⟩ := hF.at_ i a e
    exact ⟨(k.kp a o q1 q4 id).1, q2, fun z => z.elim (ne_of_none q4 hp) (ne_of_none q4 hl), o, (k.kp a o q1 q4 id).2⟩
  · have q := hs i t e
    cases t with
    | no => trivial
    | st p => obtain ⟨x, e1, e2⟩ := q; exact ⟨x, e1, p.mono k.up e2⟩
    | ow p => obtain ⟨x, e1, e2⟩ := q; exact ⟨x, e1, p.mono k.up (fun a o ha e => (k.kp a o (hF.at_ i a ha).1 e id).2) e2⟩
def unb (o : Out Bag α) : Out Unit α := match o with | .ok a _ => .ok a () | .exc e _ => .exc e () | .stuck => .stuck
def zbag (mk : List Int → M Unit (List Int)) (xs : List Int) (m : M Bag α) : M Unit α := fun _ => match mk xs () with
  | .ok cs _ => unb (m ⟨0, 1234567891, 0, cs⟩)
  | _ => .stuck
/-- bag = _law_bag(script), then the rest -/
theorem zb_bag {g : Bool} {i j k : Nat} {x y fn : Str} {ps : List Str} {rest : List Stmt} {p p2 p3 pos pos2 : Pos} {mk : List Int → M Unit (List Int)} {xs : List Int} {m : M Bag (Fl α κ ρ)} {Γn : α → Env} (F : FnAt g G fn k ps (spBag G.K mk)) (hk : k ≤ c.k) (hg : g = true → c.gd = true) (gb : Gb c fn)
    (nx : Nm c i x) (hi : Γ[i]? = some (.st ((rSc G.K rInt).pr xs))) (ny : Ns c j y) (h : ∀ p l, ZB G c (bagE p l) W L (Γ.set j (.st ((rRef p).pr ()))) rest m Γn)
    (hd : (fn == ("__debug__" : Str)) = false := by decide) (hs : NoSwap (.Call (.Name fn p2) [.Name x p3] [] pos2) := by intro _ _ _; rfl) :
    ZB G c noE W L Γ (.Assign [.Name y p] (.Call (.Name fn p2) [.Name x p3] [] pos2) pos :: rest) (zbag mk xs m) Γn := fun X C => by
  obtain ⟨f0, fd, h1, h2, h3, h4⟩ := F.ex
  rw [← C.prog, ← C.w, ← C.K, ← C.mg, ← C.base] at h4
  rw [← C.mg] at h1
  rw [← C.K] at h2 h3
  refine pss_wk (pss_cons (ps_set C.set_hN (C.hi ny.n) (by rw [C.sc]; exact ny.l) (pe_callG (Ex := WE W) h4 (C.room.mono hk) (fun z => C.gds (hg z)) (C.gl gb) h1 h2 h3 .nil (passAt C.takes) (pa_cons (pe_var (C.hi nx.n) (by rw [C.sc]; exact nx.v) nx.d nx.cd) pa_nil rfl) hd rfl rfl) (hs _ _ _) (C.hf ny)) (pss_ex fun p : Addr × Addr => h p.1 p.2 X C)) fun D σ H hl ⟨B, S, b, hh, q⟩ => ?_
  obtain ⟨Fs, hF, hsl⟩ := id hh.sl
  obtain ⟨v, e1, e2⟩ := hsl i _ hi
  refine ⟨v, slot_get e1, xs, v, S, rfl, by rw [C.K]; exact e2, hh.same, ?_⟩
  unfold zbag at q
  cases e : mk xs () with
  | stuck => rw [e] at q; exact q.elim
  | exc x b => rw [e] at q; exact q.elim
  | ok cs u =>
    rw [e] at q
    intro p l S' H' k s1 s2 f1 f2 hne e3 e4
    have h' : Hold (bagE p l) B (Γ.set j (.st ((rRef p).pr ()))) ⟨0, 1234567891, 0, cs⟩ (σ.set j (some (.ref p))) S' H' := (hh.inbag (s := ⟨0, 1234567891, 0, cs⟩) k ⟨hne, s1, s2, e3, e4⟩ f1 f2).set (C.lt ny.n hl) rfl
    refine ⟨(p, l), B, S', _, h', ?_⟩
    have ff : ∀ a o, B.S a = none → B.H a = some o → a ≠ p ∧ a ≠ l := fun a o e1 e2 => by
      have := (hh.kp.kp a o e1 e2 id).2
      exact ⟨ne_of_none this f1, ne_of_none this f2⟩
    dsimp only at q
    cases e : m ⟨0, 1234567891, 0, cs⟩ with
    | stuck => rw [e] at q; exact q.elim
    | exc x b => rw [e] at q; exact fun c d σ' S1 H1 h1 xa => q c d σ' S1 H1 (h1.unbag ff) xa
    | ok r b =>
      rw [e] at q
      cases r with
      | nx a => exact fun σ' S1 H1 s h1 => q σ' S1 H1 (k.up.trans s) (h1.unbag ff)
      | rt r => exact fun v σ' S1 H1 h1 rr => q v σ' S1 H1 (h1.unbag ff) rr
      | bk r => exact fun σ' S1 H1 s h1 => q σ' S1 H1 (k.up.trans s) (h1.unbag ff)
      | ct r => exact fun σ' S1 H1 s h1 => q σ' S1 H1 (k.up.trans s) (h1.unbag ff)
end
end Zk

namespace Zk
open PySem L2
/-! ### small checks, for printed walks -/
def visB (k : Option NameKind) : Bool := match k with | some .local => true | some .cell => true | some .free => true | _ => false
def nmB (c : Sc) (i : Nat) (x : Str) : Bool := (c.N[i]? == some x) && visB (c.sc.names.lookup x) && !(x == ("__debug__" : Str)) && !(x == ("__classdict__" : Str))
theorem nm_of {c : Sc} {i : Nat} {x : Str} (h : nmB c i x = true) : Nm c i x := by
  unfold nmB at h
  simp only [Bool.and_eq_true, Bool.not_eq_true', beq_iff_eq] at h
  obtain ⟨⟨⟨h1, h2⟩, h3⟩, h4⟩ := h
  refine ⟨h1, ?_, h3, h4⟩
  cases e : c.sc.names.lookup x with
  | none => rw [e] at h2; cases h2
  | some k =>
    rw [e] at h2
    cases k with
    | «local» => exact .inl e
    | cell => exact .inr (.inl e)
    | free => exact .inr (.inr e)
    | _ => cases h2
def nsB (c : Sc) (i : Nat) (x : Str) : Bool := (c.N[i]? == some x) && (match c.sc.names.lookup x with | some .local => true | some .cell => c.fx x | _ => false)
theorem ns_of {c : Sc} {i : Nat} {x : Str} (h : nsB c i x = true) : Ns c i x := by
  unfold nsB at h
  simp only [Bool.and_eq_true, beq_iff_eq] at h
  obtain ⟨h1, h2⟩ := h
  cases e : c.sc.names.lookup x with
  | none => rw [e] at h2; cases h2
  | some k =>
    rw [e] at h2
    cases k with
    | «local» => exact ⟨h1, .inl e, .inr e⟩
    | cell => exact ⟨h1, .inr e, .inl h2⟩
    | _ => cases h2
theorem blt_of {G : Gx} {c : Sc} {x : Str} {u : Value} (m : G.mg x = none) (h : (c.sc.names.lookup x = some .globalImplicit ∧ bootBuiltins x = some u) ∧ x ≠ "__name__" ∧ (x == ("__debug__" : Str)) = false) : Blt G c x u := ⟨h.1.1, m, h.1.2, h.2.1, h.2.2⟩
theorem blk_of {N : List Str} {sc scope : Scope} {own : List (Str × Nat)} (k : scope.kind = .function) (h : (∀ y ∈ scope.names, scope.names.lookup y.1 = some y.2) ∧ (∀ p ∈ own, N[p.2]? = some p.1) ∧ (∀ y ∈ scope.names, y.2 = .free → sc.names.lookup y.1 = some .cell ∨ sc.names.lookup y.1 = some .free) ∧ ∀ y ∈ scope.names, y.2 = .local ∨ y.2 = .cell → y.1 ∈ own.map (·.1) ∨ y.1 ∉ N) : BlkOk N sc scope own := ⟨k, h.1, h.2.1, h.2.2.1, h.2.2.2⟩
theorem z_obj {τ ρ : Type} {G : Gx} {c : Sc} {E : Eff τ} {W : WX} {Γ : Env} {e : Expr} {m : M τ ρ} {C : Addr} (fs : ρ → List (Str × Pr)) (h : ZF G c E W Γ e m (fun r => ownO (fun _ => True) C (fs r))) : ZE G c E W Γ e m (rObj C fs) := zf_e (fun _ => one_O fun _ => rfl) h
def NoAt (Γ : Env) : List Nat → Prop
  | [] => True
  | v :: vs => Γ[v]? = some .no ∧ NoAt Γ vs
theorem lc_no {Γ : Env} : ∀ {vs : List Nat}, NoAt Γ vs → ∀ (i : Nat) s, Γ[i]? = some s → s = .no ∨ i ∉ vs
  | [], _, _, _, _ => .inr (by simp)
  | v :: vs, ⟨h1, h2⟩, i, s, h => by
    by_cases e : i = v
    · subst e; rw [h1] at h; cases h; exact .inl rfl
    · rcases lc_no h2 i s h with z | z
      · exact .inl z
      · exact .inr (by simp [e, z])
theorem z_gintE {τ : Type} {G : Gx} {c : Sc} {E : Eff τ} {W : WX} {Γ : Env} {x : Str} {i : Int} {pos : Pos} (g : Gb c x) (h : ∃ u, G.mg x = some u ∧ RelV (.int i) u) (hd : (x == ("__debug__" : Str)) = false := by decide) : ZE G c E W Γ (.Name x pos) (ret i) rInt := let ⟨_, h1, h2⟩ := h; z_gint g h1 h2 hd
theorem nas_nil {K : PySem.W.Frag} {C : Addr} : ∀ t ∈ ([] : List (Str × Pos × Pos)), NoAttr K C t.1 := fun t h => by cases h
theorem nas_cons {K : PySem.W.Frag} {C : Addr} {f : Str} {p : Pos × Pos} {l : List (Str × Pos × Pos)} (h : NoAttr K C f) (h2 : ∀ t ∈ l, NoAttr K C t.1) : ∀ t ∈ (f, p) :: l, NoAttr K C t.1 := fun t ht => by
  rcases List.mem_cons.mp ht with e | e
  · rw [e]; exact h
  · exact h2 t e
section
variable {α β γ δ ε : Type} {R1 : Rel α} {R2 : Rel β} {R3 : Rel γ} {R4 : Rel δ}
theorem gv3 : ∀ (y : α × β × γ) (z : δ) (S : Hp) (l : Addr) (us : List V) (w : V), All2 (fun (p : Pr) v => p.p S v) [R1.pr y.1, R2.pr y.2.1, R3.pr y.2.2] us → R4.is z S w → ∃ ws, (V.ref l :: us) ++ [w] = .ref l :: ws ∧ All2 (fun (p : Pr) v => p.p S v) [R1.pr y.1, R2.pr y.2.1, R3.pr y.2.2, R4.pr z] ws
  | y, z, S, l, [a, b, c], w, ⟨h1, h2, h3, _⟩, h4 => ⟨[a, b, c, w], rfl, h1, h2, h3, h4, trivial⟩
end
end Zk

namespace Zk
open PySem L2 PySem.Spec PyProof.Rows
/-! ### the end: a law whose def is known with the guards -/
section
variable {P : Program} {w : World} {K : PySem.W.Frag} {mg mb : Str → Option Value} {k : Nat} {fa a : Addr} {fd : FuncData} {x : Str} {sp : Sp} {s : Shared} {vs : List Value} {ns : List Int} {H : Hp}
/-- the call, where nothing but the script may be tracked -/
theorem enter_law (KX : K.In s.heap) (hns : s.heap.Ns mainGlobals mg) (hb : s.heap.Ns builtinsNs mb) (hbb : ∀ x : Str, x ≠ "__name__" → mb x = bootBuiltins x) (hlim : s.heap.NoLimit) (hg : s.gens = #[])
    (ha : s.heap.get? a = some { cls := .type "list", data := .seq vs.toArray }) (hr : Room k callerA) (F : ∀ base : Heap, K.In base → base.Ns mainGlobals mg → FnG true P w K mg base k fa fd [x] sp) (hbind : ∀ (s : Shared) (u : Value), BindsTo s fd ⟨[u], []⟩ [(x, u)])
    (hO : Only H) (hok : HOk P w H s.heap) (hA : ∀ b u, H b = some u → b = a ∧ K.lookup a = none) (hsp : sp [.ref a] H (fun v _ => v = .bl true) fun _ _ _ => False) :
    codeAny (model P w) callerA (.call (.ref fa) ⟨[.ref a], []⟩) (fun r s' => r = .ok (.ret (.bool true)) ∧ OldK s.heap s'.heap ∧ s'.os = s.os ∧ AllBare s'.gens) s := by
  have keepNs : ∀ b (m : Str → Option Value), s.heap.Ns b m → (hidT s.heap H).Ns b m := by
    rintro b m ⟨o, es, ep, e, d, r⟩
    have hn : H b = none := by
      cases q : H b with
      | none => rfl
      | some u =>
        obtain ⟨rfl, _⟩ := hA b u q
        rw [ha] at e
        cases e
        exact nomatch d
    exact ⟨o, es, ep, hidT_get e hn, d, r⟩
  have kin : K.In (hidT s.heap H) := by
    intro b o e
    cases q : H b with
    | none => exact hidT_get (KX b o e) q
    | some u =>
      obtain ⟨rfl, z⟩ := hA b u q
      rw [z] at e
      exact nomatch e
  obtain ⟨ml, l1, l2⟩ := hlim
  have md : Mod K mg (hidT s.heap H) := ⟨kin, keepNs _ _ hns, ⟨mb, keepNs _ _ hb, hbb⟩, ⟨ml, keepNs _ _ l1, l2⟩⟩
  have noMem : ∀ b : Addr, b ∉ ([] : List Addr) := by simp
  refine codeAny_mono ((F _ kin (keepNs _ _ hns)).go callerA [] s H ⟨[.ref a], []⟩ [.ref a] [.ref a] _ _ hr (fun _ => rfl) ⟨rfl, md, fun b o e => of_hidT e, Nat.le_of_eq (hidT_size _ _), trivial, fun b hb => absurd hb (noMem b), hok, .of_eq hg⟩ (hbind s (.ref a)) (.cons rfl .nil) hsp) fun r s' h => ?_
  match r, h with
  | .error e, h =>
    obtain ⟨_, _, _, _, _, _, _, _, _, _, _, _, z⟩ := h
    exact z.elim
  | .ok .next, h => exact False.elim h
  | .ok .brk, h => exact False.elim h
  | .ok .cont, h => exact False.elim h
  | .ok (.ret u), h =>
    obtain ⟨v, H', os, bare, un, hok', rv, q⟩ := h
    have q : v = .bl true := q
    subst q
    have rv : u = Value.bool true := rv
    subst rv
    refine ⟨rfl, OldK.of_keep fun b o e => ?_, os, bare⟩
    rcases hO b with z | ⟨ob, xs, z⟩
    · exact un.keep b o e z (fun y => absurd y (noMem b)) (by simp)
    · obtain ⟨e1, _⟩ := hok b _ z
      obtain ⟨e2, _⟩ := hok' b _ (un.frzs b ob _ z)
      rw [e1] at e
      cases e
      exact e2
open Classical in
theorem enter_lawS (KX : K.In s.heap) (hns : s.heap.Ns mainGlobals mg) (hb : s.heap.Ns builtinsNs mb) (hbb : ∀ x : Str, x ≠ "__name__" → mb x = bootBuiltins x) (hlim : s.heap.NoLimit) (hg : s.gens = #[])
    (ha : s.heap.get? a = some { cls := .type "list", data := .seq vs.toArray }) (hi : IntsAre vs ns) (hl : ns.length ≤ sizeLine) (hr : Room k callerA) (F : ∀ base : Heap, K.In base → base.Ns mainGlobals mg → FnG true P w K mg base k fa fd [x] sp) (hbind : ∀ (s : Shared) (u : Value), BindsTo s fd ⟨[u], []⟩ [(x, u)])
    (hsp : ∀ H, SqL K H a (ns.map V.int) → sp [.ref a] H (fun v _ => v = .bl true) fun _ _ _ => False) :
    codeAny (model P w) callerA (.call (.ref fa) ⟨[.ref a], []⟩) (fun r s' => r = .ok (.ret (.bool true)) ∧ OldK s.heap s'.heap ∧ s'.os = s.os ∧ AllBare s'.gens) s := by
  have rv : Vals (ns.map V.int) vs := vals_ints hi
  have lv : vs.length = ns.length := hi.length
  by_cases hk : K.lookup a = none
  · let u : HO := .frz { cls := .type "list", data := .seq vs.toArray } (.lst (ns.map V.int))
    have at_ : ∀ b z, (fun b => if b = a then some u else none : Hp) b = some z → b = a ∧ z = u := fun b z e => by
      by_cases hba : b = a
      · simp only [hba, if_true] at e; cases e; exact ⟨hba, rfl⟩
      · simp only [if_neg hba] at e; cases e
    refine enter_law (H := fun b => if b = a then some u else none) KX hns hb hbb hlim hg ha hr F hbind (fun b => ?_) (fun b z e => ?_) (fun b z e => ⟨(at_ b z e).1, hk⟩) (hsp _ (.inl (.inr ⟨_, if_pos rfl⟩)))
    · by_cases hba : b = a
      · exact .inr ⟨_, _, if_pos hba⟩
      · exact .inl (if_neg hba)
    · obtain ⟨rfl, rfl⟩ := at_ b z e
      exact ⟨ha, by rw [List.length_map]; exact hl, vs, _, rv, ha⟩
  · obtain ⟨o, e⟩ : ∃ o, K.lookup a = some o := Option.ne_none_iff_exists'.mp hk
    have e2 := KX a o e
    rw [ha] at e2
    cases e2
    exact enter_law (H := fun _ => none) KX hns hb hbb hlim hg ha hr F hbind (fun _ => .inl rfl) (fun b z e => nomatch e) (fun b z e => nomatch e) (hsp _ (.inr ⟨_, vs.toArray, _, e, rfl, rfl, rfl, by rw [List.size_toArray, lv]; exact hl, by simpa using rv⟩))
end
theorem walk_G {l : PySem.W.OpenLaw} {n k : Nat} {q : Program} {loose : List Str} {XP : (Str → Option Value) → Heap → Prop} {YP : World → Heap → Prop} {d : DefRec} {K : Params → PySem.W.Frag} {x : Str} {m : List Int → M Unit Bool}
    (hn : l.most = some n) (hn2 : n ≤ sizeLine) (hdf : d.params.defaults = []) (hr : Room k callerA) (hY : ∀ (w : World) (h : Heap), YP w h → (K w.params).In h)
    (F : ∀ (w : World) (mg : Str → Option Value) (fa : Addr) (h : Heap), (K w.params).In h → h.Ns mainGlobals mg → mg d.name = some (.ref fa) →
      ∃ fd : FuncData, (∀ (s : Shared) (u : Value), BindsTo s fd ⟨[u], []⟩ [(x, u)]) ∧ ∀ base : Heap, (K w.params).In base → base.Ns mainGlobals mg →
        FnG true l.prog w (K w.params) mg base k fa fd [x] (spZ ⟨l.prog, w, K w.params, mg, base⟩ (fun _ : Unit => noE) (fun (_ : Unit) (p : List Int) => [(rSc (K w.params) rInt).pr p]) m rBl))
    (hm : ∀ ns : List Int, ns.length ≤ n → m ns () = .ok true ()) : PySem.W.WalkO q loose XP YP l.row.toRowW d [] (fun f vs => PySem.call f vs) := by
  refine Att.attach_call hn hdf fun w s₀ s₁ mg mb fa o pm cd doc a vs ns G Y ho hd hcd hmg hobj hints hlen hg => ?_
  obtain ⟨fd, hb, hF⟩ := F w mg fa _ (hY w _ Y) G.T.g hmg
  refine enter_lawS (sp := spZ ⟨l.prog, w, K w.params, mg, s₁.heap⟩ (fun _ : Unit => noE) (fun (_ : Unit) (p : List Int) => [(rSc (K w.params) rInt).pr p]) m rBl) (hY w _ Y) G.T.g G.T.b G.T.builtins G.T.nolimit hg hobj hints (Nat.le_trans hlen hn2) hr (fun base k1 k2 => hF base k1 k2) hb fun H hS => ?_
  refine ⟨(), ns, H, (), ⟨⟨a, _, rfl, hS, All2.of_ints ns⟩, trivial⟩, Same.refl _, trivial, ?_⟩
  rw [hm ns hlen]
  exact fun v S' H' _ _ r => r
end Zk

namespace Zk
open PySem L2 PySem.Spec PyProof.Rows
/-! ### mirrors reckoned -/
section
variable {τ α β γ δ κ ρ : Type}
@[simp] theorem bnd_ret {a : α} {f : α → M τ β} : bnd (ret a) f = f a := rfl
@[simp] theorem ret_at {a : α} {s : τ} : (ret a : M τ α) s = .ok a s := rfl
@[simp] theorem zop1_ret {f : α → M τ β} {a : α} : zop1 f (ret a) = f a := rfl
@[simp] theorem zop2_ret {f : α → β → M τ γ} {a : α} {b : β} : zop2 f (ret a) (ret b) = f a b := rfl
@[simp] theorem zapp_ret {f : α → M τ β} {a : α} : zapp f (ret a) = f a := rfl
@[simp] theorem zpair_ret {a : α} {b : β} : zpair (ret a) (ret b) = (ret (a, b) : M τ _) := rfl
@[simp] theorem zcons_ret {a : α} {b : List α} : zcons (ret a) (ret b) = (ret (a :: b) : M τ _) := rfl
@[simp] theorem zget_ret {f : α → β} {a : α} : zget f (ret a) = (ret (f a) : M τ _) := rfl
@[simp] theorem zis_ret {k : Bool} {a : α} : zis k (ret a) = (ret k : M τ _) := rfl
@[simp] theorem zset_ret {a : α} : zset (ret a) = (ret (.nx a) : M τ (Fl α κ ρ)) := rfl
@[simp] theorem zrt_ret {a : ρ} : zrt (ret a) = (ret (.rt a) : M τ (Fl α κ ρ)) := rfl
@[simp] theorem znx_ret {a : α} : znx a = (ret (.nx a) : M τ (Fl α κ ρ)) := rfl
@[simp] theorem zseq_nx {a : α} {f : α → M τ (Fl β κ ρ)} : zseq (ret (.nx a)) f = f a := rfl
@[simp] theorem zseq_rt {r : ρ} {f : α → M τ (Fl β κ ρ)} : zseq (ret (.rt r)) f = ret (.rt r) := rfl
@[simp] theorem zseq_bk {r : κ} {f : α → M τ (Fl β κ ρ)} : zseq (ret (.bk r)) f = ret (.bk r) := rfl
@[simp] theorem zseq_ct {r : κ} {f : α → M τ (Fl β κ ρ)} : zseq (ret (.ct r)) f = ret (.ct r) := rfl
@[simp] theorem zseq_rse {e : Exc} {f : α → M τ (Fl β κ ρ)} : zseq (rse e) f = rse e := rfl
@[simp] theorem zifS_ret {b : Bool} {n o : M τ (Fl α κ ρ)} : zifS (ret b) n o = if b = true then n else o := rfl
@[simp] theorem zif_ret {b : Bool} {n o : M τ α} : zif (ret b) n o = if b = true then n else o := rfl
@[simp] theorem zbody_rt {r : ρ} : zbody (ret (.rt r) : M τ (Fl α κ ρ)) = ret r := rfl
@[simp] theorem zbody_rse {e : Exc} : zbody (rse e : M τ (Fl α κ ρ)) = rse e := rfl
@[simp] theorem zfin_rt {r : ρ} {n : α → M τ ρ} : zfin n (ret (.rt r) : M τ (Fl α κ ρ)) = ret r := rfl
@[simp] theorem zfin_nx {a : α} {n : α → M τ ρ} : zfin n (ret (.nx a) : M τ (Fl α κ ρ)) = n a := rfl
@[simp] theorem zini_nx {y : α} {n : α → ρ} : zini n (ret (.nx y) : M τ (Fl α Empty Empty)) = ret (n y) := rfl
@[simp] theorem lft_ret {a : α} : lft (ret a) = (ret a : M τ α) := rfl
@[simp] theorem lft_rse {e : Exc} : lft (rse e) = (rse e : M τ α) := rfl
@[simp] theorem znot_ret {b : Bool} : znot (ret b) = (ret (!b) : M τ _) := rfl
theorem zand_ret {b : Bool} {n : M τ Bool} : zand (ret b) n = if b = true then n else ret false := rfl
theorem zor_ret {b : Bool} {n : M τ Bool} : zor (ret b) n = if b = true then ret true else n := rfl
@[simp] theorem zand_rr {b c : Bool} : zand (ret b) (ret c) = (ret (b && c) : M τ _) := by cases b <;> rfl
@[simp] theorem zor_rr {b c : Bool} : zor (ret b) (ret c) = (ret (b || c) : M τ _) := by cases b <;> rfl
@[simp] theorem zand_t {n : M τ Bool} : zand (ret true) n = n := rfl
@[simp] theorem zand_f {n : M τ Bool} : zand (ret false) n = ret false := rfl
@[simp] theorem zor_t {n : M τ Bool} : zor (ret true) n = ret true := rfl
@[simp] theorem zor_f {n : M τ Bool} : zor (ret false) n = n := rfl
@[simp] theorem iadd_eq {x y : Int} : (iadd x y : M τ Int) = ret (x + y) := rfl
@[simp] theorem isub_eq {x y : Int} : (isub x y : M τ Int) = ret (x - y) := rfl
@[simp] theorem ineg_eq {x : Int} : (ineg x : M τ Int) = ret (-x) := rfl
@[simp] theorem ilt_eq {x y : Int} : (ilt x y : M τ Bool) = ret (decide (x < y)) := rfl
@[simp] theorem ile_eq {x y : Int} : (ile x y : M τ Bool) = ret (decide (x ≤ y)) := rfl
@[simp] theorem igt_eq {x y : Int} : (igt x y : M τ Bool) = ret (decide (x > y)) := rfl
@[simp] theorem ige_eq {x y : Int} : (ige x y : M τ Bool) = ret (decide (x ≥ y)) := rfl
@[simp] theorem feq_eq [DecidableEq α] {x y : α} : (feq x y : M τ Bool) = ret (decide (x = y)) := rfl
@[simp] theorem fne_eq [DecidableEq α] {x y : α} : (fne x y : M τ Bool) = ret (!decide (x = y)) := rfl
@[simp] theorem flen_eq {xs : List α} : (flen xs : M τ Int) = ret (xs.length : Int) := rfl
@[simp] theorem fsum_eq {xs : List Int} : (fsum xs : M τ Int) = ret xs.sum := rfl
@[simp] theorem fabs_eq {x : Int} : (fabs x : M τ Int) = ret (if x < 0 then -x else x) := rfl
@[simp] theorem fall_eq {xs : List Bool} : (fall xs : M τ Bool) = ret (xs.all id) := rfl
@[simp] theorem fany_eq {xs : List Bool} : (fany xs : M τ Bool) = ret (xs.any id) := rfl
@[simp] theorem frA1_eq {j : Int} : (frA1 j : M τ (List Int)) = ret (rng 0 j.toNat) := rfl
@[simp] theorem frA2_eq {x : Int × Int} : (frA2 x : M τ (List Int)) = ret (rng x.1 (x.2 - x.1).toNat) := rfl
@[simp] theorem zenum_ret {xs : List α} : zenum (ret xs) = (ret (fenum xs) : M τ _) := rfl
@[simp] theorem zsome_ret {i : Int} : zsome (ret i) = (ret (some i) : M τ _) := rfl
@[simp] theorem zsl_ret {xs : List α} {l h : Option Int} : zsl (ret xs) (ret l) (ret h) = (ret (cut xs l h) : M τ _) := rfl
theorem chk_pos {c : Prop} [Decidable c] {m : M τ α} (h : c) : chk c m = m := if_pos h
theorem zchain_ret {f : α → β → M τ Bool} {g : β → γ → M τ Bool} {a : α} {b : β} {c : γ} : zchain f g (ret a) (ret b) (ret c) = zand (f a b) (g b c) := rfl
@[simp] theorem zchain_ll {x y z : Int} : zchain ile ile (ret x) (ret y) (ret z) = (ret (decide (x ≤ y) && decide (y ≤ z)) : M τ _) := by rw [zchain_ret]; simp
@[simp] theorem zmeth_ret {f : α × β → M τ γ} {a : α} {b : β} : zmeth f (ret a) (ret b) = f (a, b) := rfl
theorem unit_eq {m : M Unit α} {v : α} (h : m () = .ok v ()) : m = ret v := funext fun _ => h
theorem zlist_ret {xs : List α} (h : xs.length ≤ sizeLine) : zlist (ret xs) = (ret xs : M τ _) := by unfold zlist; rw [bnd_ret, chk_pos h]
theorem imod_eq {x y : Int} (h : 0 < y) : (imod x y : M τ Int) = ret (x % y) := chk_pos h
theorem imul_eq {x y : Int} (h : mulOk x y) : (imul x y : M τ Int) = ret (x * y) := chk_pos h
theorem idiv_eq {x y : Int} (h : divOk x y) : (idiv x y : M τ Int) = ret (x / y) := chk_pos h
theorem mul_small {x y : Int} (h : -(2 ^ 64) < y ∧ y < 2 ^ 64) : mulOk x y := .inr (.inr h)
theorem mul_smallL {x y : Int} (h : -(2 ^ 64) < x ∧ x < 2 ^ 64) : mulOk x y := .inr (.inl h)
theorem mul_wide {x y : Int} (hx : x.natAbs < 2 ^ 500000) (hy : y.natAbs < 2 ^ 499999) : mulOk x y := .inl (wide_mul hx hy (by omega) (by omega) (by omega))
theorem div_ok {x y : Int} (h : 0 < y) (hy : y < 2 ^ 9000) : divOk x y := wide_div (b := 9000) h (by omega) (by omega) (by omega)
theorem fdivmod_eq {x y : Int} (h : 0 < y ∧ y < 1073741824) : (fdivmod x y : M τ _) = ret (x / y, x % y) := chk_pos h
theorem ixat_eq {xs : List α} {i : Int} {x : α} (h : atI xs i = some x) : (ixat xs i : M τ α) = ret x := by unfold ixat; rw [h]
theorem atI_nat {xs : List α} {i : Int} (h0 : 0 ≤ i) (h : i.toNat < xs.length) : atI xs i = some (xs[i.toNat]'h) := by
  unfold atI ixN
  have : i < xs.length := by omega
  simp [h0, this, h]
theorem ixat_nat {xs : List α} {i : Int} (h0 : 0 ≤ i) (h : i.toNat < xs.length) : (ixat xs i : M τ α) = ret (xs[i.toNat]'h) := ixat_eq (atI_nat h0 h)
theorem atI_last {xs : List α} (h : xs ≠ []) : atI xs (-1) = some (xs.getLast h) := by
  have hl : 0 < xs.length := List.length_pos_iff.mpr h
  unfold atI ixN
  rw [if_neg (by omega), if_pos (by omega)]
  show xs[(-1 + (xs.length : Int)).toNat]? = _
  rw [show (-1 + (xs.length : Int)).toNat = xs.length - 1 by omega, List.getLast_eq_getElem, List.getElem?_eq_getElem (by omega)]
theorem ixat_last {xs : List α} (h : xs ≠ []) : (ixat xs (-1) : M τ α) = ret (xs.getLast h) := ixat_eq (atI_last h)
theorem zforI_ret {xs : List β} {a : α} {f : α → β → M τ (Fl α α ρ)} : zforI (ret xs) a f = (zfor f a xs : M τ (Fl α κ ρ)) := rfl
theorem zfor_nil {a : α} {f : α → β → M τ (Fl α α ρ)} : zfor f a [] = (ret (.nx a) : M τ (Fl α κ ρ)) := rfl
theorem zfor_cons_nx {a a' : α} {x : β} {xs : List β} {f : α → β → M τ (Fl α α ρ)} (h : f a x = ret (.nx a')) : zfor f a (x :: xs) = (zfor f a' xs : M τ (Fl α κ ρ)) := by
  funext s; conv => lhs; unfold zfor
  rw [h]; rfl
theorem zfor_cons_rt {a : α} {x : β} {xs : List β} {r : ρ} {f : α → β → M τ (Fl α α ρ)} (h : f a x = ret (.rt r)) : zfor f a (x :: xs) = (ret (.rt r) : M τ (Fl α κ ρ)) := by
  funext s; conv => lhs; unfold zfor
  rw [h]; rfl
/-- a loop that only goes on -/
theorem zfor_fold {f : α → β → M τ (Fl α α ρ)} {g : α → β → α} : ∀ (xs : List β) (a : α), (∀ (i : Nat) (x : β), xs[i]? = some x → f ((xs.take i).foldl g a) x = ret (.nx (g ((xs.take i).foldl g a) x))) → zfor f a xs = (ret (.nx (xs.foldl g a)) : M τ (Fl α κ ρ))
  | [], a, _ => rfl
  | x :: xs, a, h => by
    have h0 := h 0 x rfl
    simp at h0
    rw [zfor_cons_nx h0]
    rw [zfor_fold xs (g a x) fun i y hy => by simpa using h (i + 1) y (by simpa using hy)]
    rfl
/-- a comprehension of pure parts -/
theorem zcomp_map {f : β → M τ γ} {g : β → γ} : ∀ (xs : List β) (acc : List γ), (∀ x ∈ xs, f x = ret (g x)) → acc.length + xs.length ≤ sizeLine → zcomp (fun _ => ret true) f acc xs = (ret (acc ++ xs.map g) : M τ _)
  | [], acc, _, _ => by simp [zcomp]
  | x :: xs, acc, h, hl => by
    unfold zcomp
    rw [show nox (ret true : M τ Bool) = ret true from rfl, bnd_ret, if_pos rfl, h x (by simp), show nox (ret (g x) : M τ γ) = ret (g x) from rfl, bnd_ret, chk_pos (by simp at hl; omega), zcomp_map xs (acc ++ [g x]) (fun y hy => h y (by simp [hy])) (by simp at hl ⊢; omega)]
    simp
theorem zlc_map {f : β → M τ γ} {g : β → γ} {xs : List β} (h : ∀ x ∈ xs, f x = ret (g x)) (hl : xs.length ≤ sizeLine) : zlc (fun _ => ret true) f (ret xs) = (ret (xs.map g) : M τ _) := by
  unfold zlc
  rw [bnd_ret, zcomp_map xs [] h (by simpa using hl)]; rfl
theorem frepr_eq {R : Rel α} {D : DatR R} {x : α} (h : (D.d x).showable = true ∧ (D.d x).canLay0 = true ∧ D.n ≤ 60 ∧ (D.d x).shown.length ≤ sizeLine) : (frepr D x : M τ Str) = ret (D.d x).shown := chk_pos h
theorem deq_eq {R : Rel α} {D : DatR R} [DecidableEq α] {x y : α} (h : deqOk D x y) : (deq D x y : M τ Bool) = ret (decide (x = y)) := chk_pos h
theorem dne_eq {R : Rel α} {D : DatR R} [DecidableEq α] {x y : α} (h : deqOk D x y) : (dne D x y : M τ Bool) = ret (!decide (x = y)) := chk_pos h

/-! ### what a mirror with draws answers -/
def Ok (I : τ → Prop) (m : M τ α) (Q : α → Prop) : Prop := ∀ s, I s → ∃ a s', m s = .ok a s' ∧ I s' ∧ Q a
def OkS (I : τ → Prop) (m : M τ (Fl α κ ρ)) (N : α → Prop) (R : ρ → Prop) (Kb Kc : κ → Prop) : Prop := ∀ s, I s → ∃ o s', m s = .ok o s' ∧ I s' ∧ (match o with | .nx a => N a | .rt r => R r | .bk k => Kb k | .ct k => Kc k)
variable {I : τ → Prop}
theorem ok_ret {a : α} {Q : α → Prop} (h : Q a) : Ok I (ret a) Q := fun s hs => ⟨a, s, rfl, hs, h⟩
theorem Ok.mono {m : M τ α} {P Q : α → Prop} (h : Ok I m P) (k : ∀ a, P a → Q a) : Ok I m Q := fun s hs => let ⟨a, s', e, i, p⟩ := h s hs; ⟨a, s', e, i, k a p⟩
theorem ok_bnd {m : M τ α} {f : α → M τ β} {P : α → Prop} {Q : β → Prop} (h : Ok I m P) (k : ∀ a, P a → Ok I (f a) Q) : Ok I (bnd m f) Q := fun s hs => by
  obtain ⟨a, s', e, i, p⟩ := h s hs
  unfold bnd; rw [e]; exact k a p s' i
theorem ok_op1 {m : M τ α} {f : α → M τ β} {P : α → Prop} {Q : β → Prop} (h : Ok I m P) (k : ∀ a, P a → Ok I (f a) Q) : Ok I (zop1 f m) Q := ok_bnd h k
theorem ok_op2 {m : M τ α} {n : M τ β} {f : α → β → M τ γ} {P1 : α → Prop} {P2 : β → Prop} {Q : γ → Prop} (h : Ok I m P1) (h2 : Ok I n P2) (k : ∀ a b, P1 a → P2 b → Ok I (f a b) Q) : Ok I (zop2 f m n) Q := ok_bnd h fun a pa => ok_bnd h2 fun b pb => k a b pa pb
theorem ok_app {m : M τ α} {f : α → M τ β} {P : α → Prop} {Q : β → Prop} (h : Ok I m P) (k : ∀ a, P a → Ok I (f a) Q) : Ok I (zapp f m) Q := ok_bnd h k
theorem ok_meth {m : M τ α} {n : M τ β} {f : α × β → M τ γ} {P1 : α → Prop} {P2 : β → Prop} {Q : γ → Prop} (h : Ok I m P1) (h2 : Ok I n P2) (k : ∀ a b, P1 a → P2 b → Ok I (f (a, b)) Q) : Ok I (zmeth f m n) Q := ok_bnd h fun a pa => ok_bnd h2 fun b pb => k a b pa pb
theorem ok_pair {m : M τ α} {n : M τ β} {P1 : α → Prop} {P2 : β → Prop} (h : Ok I m P1) (h2 : Ok I n P2) : Ok I (zpair m n) (fun p => P1 p.1 ∧ P2 p.2) := ok_bnd h fun a pa => ok_bnd h2 fun b pb => ok_ret ⟨pa, pb⟩
theorem ok_get {m : M τ α} {f : α → β} {P : α → Prop} (h : Ok I m P) : Ok I (zget f m) (fun y => ∃ x, P x ∧ y = f x) := ok_bnd h fun a pa => ok_ret ⟨a, pa, rfl⟩
/-- a list of k things that all keep Q -/
def LOf (k : Nat) (Q : α → Prop) (xs : List α) : Prop := xs.length = k ∧ ∀ x ∈ xs, Q x
theorem ok_nil {Q : α → Prop} : Ok I (ret ([] : List α)) (LOf 0 Q) := ok_ret ⟨rfl, by simp⟩
theorem ok_cons {m : M τ α} {n : M τ (List α)} {k : Nat} {Q : α → Prop} (h : Ok I m Q) (h2 : Ok I n (LOf k Q)) : Ok I (zcons m n) (LOf (k + 1) Q) := ok_bnd h fun a pa => ok_bnd h2 fun b pb => ok_ret ⟨by simp [pb.1], fun x hx => by
  rcases List.mem_cons.mp hx with e | e
  · rw [e]; exact pa
  · exact pb.2 x e⟩
theorem ok_list {m : M τ (List α)} {P : List α → Prop} (h : Ok I m P) (k : ∀ xs, P xs → xs.length ≤ sizeLine) : Ok I (zlist m) P := ok_bnd h fun a pa => by rw [chk_pos (k a pa)]; exact ok_ret pa
theorem ok_listN {m : M τ (List α)} {k : Nat} {Q : α → Prop} (h : Ok I m (LOf k Q)) (hk : k ≤ 1000) : Ok I (zlist m) (LOf k Q) := ok_list h fun xs p => by rw [p.1]; exact Nat.le_trans hk (by decide)
theorem ok_ix {m : M τ (List α)} {n : M τ Int} {k : Nat} {Q : α → Prop} (h : Ok I m (LOf k Q)) (h2 : Ok I n (fun i => 0 ≤ i ∧ i < (k : Int))) : Ok I (zop2 ixat m n) Q := ok_op2 h h2 fun xs i p q => by
  have hi : i.toNat < xs.length := by rw [p.1]; omega
  rw [ixat_nat q.1 hi]
  exact ok_ret (p.2 _ (List.getElem_mem hi))
theorem ok_and {m n : M τ Bool} {P Q : Bool → Prop} (h : Ok I m P) (hf : P false → Q false) (ht : P true → Ok I n Q) : Ok I (zand m n) Q := ok_bnd h fun a pa => by
  cases a with
  | false => exact ok_ret (hf pa)
  | true => exact ht pa
theorem ok_or {m n : M τ Bool} {P Q : Bool → Prop} (h : Ok I m P) (ht : P true → Q true) (hf : P false → Ok I n Q) : Ok I (zor m n) Q := ok_bnd h fun a pa => by
  cases a with
  | true => exact ok_ret (ht pa)
  | false => exact hf pa
theorem ok_not {m : M τ Bool} {P : Bool → Prop} (h : Ok I m P) : Ok I (znot m) (fun b => P (!b)) := ok_bnd h fun a pa => ok_ret (by simpa using pa)
theorem ok_if {m : M τ Bool} {n o : M τ α} {P : Bool → Prop} {Q : α → Prop} (h : Ok I m P) (ht : P true → Ok I n Q) (hf : P false → Ok I o Q) : Ok I (zif m n o) Q := ok_bnd h fun a pa => by
  cases a with
  | true => exact ht pa
  | false => exact hf pa
theorem ok_lft {m : M Unit α} {v : α} {Q : α → Prop} (h : m = ret v) (q : Q v) : Ok I (lft m) Q := by rw [h]; exact ok_ret q
theorem ok_zcomp {f : β → M τ γ} {Q : γ → Prop} : ∀ (xs : List β) (acc : List γ), (∀ x ∈ xs, Ok I (f x) Q) → (∀ y ∈ acc, Q y) → acc.length + xs.length ≤ sizeLine → Ok I (zcomp (fun _ => ret true) f acc xs) (LOf (acc.length + xs.length) Q)
  | [], acc, _, ha, _ => ok_ret ⟨rfl, ha⟩
  | x :: xs, acc, h, ha, hl => by
    unfold zcomp
    rw [show nox (ret true : M τ Bool) = ret true from rfl, bnd_ret, if_pos rfl]
    refine ok_bnd (P := Q) (fun s hs => ?_) fun y hy => ?_
    · obtain ⟨a, s', e, i, p⟩ := h x (by simp) s hs
      exact ⟨a, s', by unfold nox; rw [e], i, p⟩
    · rw [chk_pos (by simp at hl; omega)]
      have := ok_zcomp xs (acc ++ [y]) (fun z hz => h z (by simp [hz])) (fun z hz => by
        rcases List.mem_append.mp hz with q | q
        · exact ha z q
        · simp at q; rw [q]; exact hy) (by simp at hl ⊢; omega)
      refine this.mono fun a p => ⟨?_, p.2⟩
      have := p.1
      simp at this ⊢; omega
theorem ok_lc {f : β → M τ γ} {xs : List β} {Q : γ → Prop} (h : ∀ x ∈ xs, Ok I (f x) Q) (hl : xs.length ≤ sizeLine) : Ok I (zlc (fun _ => ret true) f (ret xs)) (LOf xs.length Q) := by
  unfold zlc
  rw [bnd_ret]
  exact (ok_zcomp xs [] h (by simp) (by simpa using hl)).mono fun a p => by simpa using p
section
variable {N N' : α → Prop} {N2 : β → Prop} {R : ρ → Prop} {Kb Kc : κ → Prop}
theorem oks_seq {m : M τ (Fl α κ ρ)} {f : α → M τ (Fl β κ ρ)} (h : OkS I m N R Kb Kc) (k : ∀ a, N a → OkS I (f a) N2 R Kb Kc) : OkS I (zseq m f) N2 R Kb Kc := fun s hs => by
  obtain ⟨o, s', e, i, p⟩ := h s hs
  unfold zseq; rw [e]
  cases o with
  | nx a => exact k a p s' i
  | rt r => exact ⟨_, _, rfl, i, p⟩
  | bk r => exact ⟨_, _, rfl, i, p⟩
  | ct r => exact ⟨_, _, rfl, i, p⟩
theorem oks_set {m : M τ α} (h : Ok I m N) : OkS I (zset m) N R Kb Kc := fun s hs => by
  obtain ⟨o, s', e, i, p⟩ := h s hs
  exact ⟨.nx o, s', by unfold zset bnd; rw [e]; rfl, i, p⟩
theorem oks_drop {m : M τ γ} {P : γ → Prop} (h : Ok I m P) : OkS I (zdrop m) (fun _ : Unit => True) R Kb Kc := fun s hs => by
  obtain ⟨o, s', e, i, p⟩ := h s hs
  exact ⟨.nx (), s', by unfold zdrop bnd; rw [e]; rfl, i, trivial⟩
theorem oks_rt {m : M τ ρ} (h : Ok I m R) : OkS I (zrt m : M τ (Fl α κ ρ)) N R Kb Kc := fun s hs => by
  obtain ⟨o, s', e, i, p⟩ := h s hs
  exact ⟨.rt o, s', by unfold zrt bnd; rw [e]; rfl, i, p⟩
theorem oks_nx {a : α} (h : N a) : OkS I (znx a : M τ (Fl α κ ρ)) N R Kb Kc := fun s hs => ⟨.nx a, s, rfl, hs, h⟩
theorem oks_bk {k : κ} (h : Kb k) : OkS I (ret (.bk k) : M τ (Fl α κ ρ)) N R Kb Kc := fun s hs => ⟨.bk k, s, rfl, hs, h⟩
theorem oks_ct {k : κ} (h : Kc k) : OkS I (ret (.ct k) : M τ (Fl α κ ρ)) N R Kb Kc := fun s hs => ⟨.ct k, s, rfl, hs, h⟩
theorem oks_if {m : M τ Bool} {n o : M τ (Fl α κ ρ)} {P : Bool → Prop} (h : Ok I m P) (ht : P true → OkS I n N R Kb Kc) (hf : P false → OkS I o N R Kb Kc) : OkS I (zifS m n o) N R Kb Kc := fun s hs => by
  obtain ⟨b, s', e, i, p⟩ := h s hs
  unfold zifS bnd; rw [e]
  cases b with
  | true => exact ht p s' i
  | false => exact hf p s' i
theorem oks_app {xs : List β} {m : M τ β} {P : β → Prop} {N : β → Prop} (h : Ok I m P) (hl : xs.length < sizeLine) (k : ∀ a, P a → N a) : OkS I (bnd m fun v => chk (List.length xs < sizeLine) (ret (.nx v)) : M τ (Fl β κ ρ)) N R Kb Kc := fun s hs => by
  obtain ⟨o, s', e, i, p⟩ := h s hs
  exact ⟨.nx o, s', by unfold bnd; rw [e]; simp only; rw [chk_pos hl]; rfl, i, k o p⟩
theorem oks_zfor {f : α → β → M τ (Fl α α ρ)} {J : List β → α → Prop} (step : ∀ x xs a, J (x :: xs) a → OkS I (f a x) (fun a' => J xs a') R N (fun a' => J xs a')) (fin : ∀ a, J [] a → N a) : ∀ (xs : List β) (a : α), J xs a → OkS I (zfor f a xs : M τ (Fl α κ ρ)) N R Kb Kc
  | [], a, h => fun s hs => ⟨.nx a, s, rfl, hs, fin a h⟩
  | x :: xs, a, h => fun s hs => by
    obtain ⟨o, s', e, i, p⟩ := step x xs a h s hs
    unfold zfor; rw [e]
    cases o with
    | nx a' => exact oks_zfor step fin xs a' p s' i
    | ct a' => exact oks_zfor step fin xs a' p s' i
    | bk a' => exact ⟨_, _, rfl, i, p⟩
    | rt r => exact ⟨_, _, rfl, i, p⟩
theorem oks_for {f : α → β → M τ (Fl α α ρ)} {xs : List β} {a0 : α} {J : List β → α → Prop} (h0 : J xs a0) (step : ∀ x xs a, J (x :: xs) a → OkS I (f a x) (fun a' => J xs a') R N (fun a' => J xs a')) (fin : ∀ a, J [] a → N a) : OkS I (zforI (ret xs) a0 f : M τ (Fl α κ ρ)) N R Kb Kc := oks_zfor step fin xs a0 h0
theorem ok_body {m : M τ (Fl α κ ρ)} (h : OkS I m (fun _ => False) R (fun _ => False) (fun _ => False)) : Ok I (zbody m) R := fun s hs => by
  obtain ⟨o, s', e, i, p⟩ := h s hs
  unfold zbody zfin; rw [e]
  cases o with
  | rt r => exact ⟨r, s', rfl, i, p⟩
  | nx a => exact p.elim
  | bk a => exact p.elim
  | ct a => exact p.elim
end
/-! ### repr of lists of ints -/
theorem listText_le (ts : List Str) : (listText ts).length ≤ (ts.map fun t => t.length + 2).sum + 2 := by
  have app : ∀ a b : Str, (a ++ b).length = a.length + b.length := fun a b => strLen_append a b
  have go : ∀ (ts : List Str) (k : Nat) (acc : Str), (textFrom k acc ts).length ≤ acc.length + (ts.map fun t => t.length + 2).sum := by
    intro ts
    induction ts with
    | nil => intro k acc; exact Nat.le_refl _
    | cons t r ih =>
      intro k acc
      have h := ih (k + 1) (acc ++ (if k > 0 then ", " else "" : String) ++ t)
      have e : (acc ++ (if k > 0 then ", " else "" : String) ++ t).length ≤ acc.length + 2 + t.length := by
        rw [app, app]
        split
        · exact Nat.le_refl _
        · show acc.length + 0 + t.length ≤ _; omega
      simp only [List.map_cons, List.sum_cons]
      exact Nat.le_trans h (by omega)
  have h := go ts 0 "["
  have e : (listText ts).length = (textFrom 0 "[" ts).length + 1 := by
    show (textFrom 0 "[" ts ++ "]").length = _
    rw [app]; rfl
  have e1 : (("[" : Str)).length = 1 := rfl
  omega
theorem int_small {i : Int} (h : i.natAbs < 2 ^ 1900) : i.natAbs.log2 < 1920 := by
  by_cases z : i.natAbs = 0
  · rw [z]; decide
  · exact Nat.lt_trans ((Nat.log2_lt z).mpr h) (by omega)
theorem show_int {i : Int} (h : i.natAbs < 2 ^ 1900) : (PyData.shown (.int i)).length ≤ 1921 := by
  simp only [PyData.shown]
  exact PyProof.Rows.int_text_len_1921 (int_small h)
theorem showableAll_ints : ∀ xs : List Int, (∀ x ∈ xs, x.natAbs < 2 ^ 1900) → PyData.showableAll (xs.map PyData.int) = true
  | [], _ => by simp [PyData.showableAll]
  | x :: xs, h => by
    simp only [List.map_cons, PyData.showableAll, PyData.showable, showableAll_ints xs fun y hy => h y (by simp [hy]), Bool.and_true, decide_eq_true_eq]
    exact int_small (h x (by simp))
theorem canLayAll_ints : ∀ xs : List Int, PyData.canLayAll0 (xs.map PyData.int) = true
  | [] => by simp [PyData.canLayAll0]
  | x :: xs => by simp [PyData.canLayAll0, PyData.canLay0, canLayAll_ints xs]
theorem shownAll_ints : ∀ xs : List Int, (∀ x ∈ xs, x.natAbs < 2 ^ 1900) → ((PyData.shownAll (xs.map PyData.int)).map fun t => t.length + 2).sum ≤ xs.length * 1923
  | [], _ => by simp [PyData.shownAll]
  | x :: xs, h => by
    have h1 := shownAll_ints xs fun y hy => h y (by simp [hy])
    have h2 := show_int (h x (by simp))
    simp only [List.map_cons, PyData.shownAll, List.sum_cons, List.length_cons]
    omega
theorem frepr_ints {xs : List Int} (h : ∀ x ∈ xs, x.natAbs < 2 ^ 1900) (hl : xs.length ≤ 5000) : ((datL datI).d xs).showable = true ∧ ((datL datI).d xs).canLay0 = true ∧ (datL datI).n ≤ 60 ∧ ((datL datI).d xs).shown.length ≤ sizeLine := by
  refine ⟨?_, ?_, by decide, ?_⟩
  · show (PyData.list (xs.map PyData.int)).showable = true
    simp only [PyData.showable]; exact showableAll_ints xs h
  · show (PyData.list (xs.map PyData.int)).canLay0 = true
    simp only [PyData.canLay0]; exact canLayAll_ints xs
  · show (PyData.list (xs.map PyData.int)).shown.length ≤ sizeLine
    simp only [PyData.shown]
    have h1 := listText_le (PyData.shownAll (xs.map PyData.int))
    have h2 := shownAll_ints xs h
    have h3 : xs.length * 1923 ≤ 5000 * 1923 := Nat.mul_le_mul_right _ hl
    have : sizeLine = 16777216 := by decide
    omega
theorem frepr_int {x : Int} (h : x.natAbs < 2 ^ 1900) : (datI.d x).showable = true ∧ (datI.d x).canLay0 = true ∧ datI.n ≤ 60 ∧ (datI.d x).shown.length ≤ sizeLine := by
  refine ⟨?_, ?_, by decide, ?_⟩
  · show (PyData.int x).showable = true
    simp only [PyData.showable, decide_eq_true_eq]; exact int_small h
  · show (PyData.int x).canLay0 = true
    simp only [PyData.canLay0]
  · exact Nat.le_trans (show_int h) (by decide)
theorem deq_ints {xs ys : List Int} : deqOk (datL datI) xs ys := by
  refine ⟨?_, ?_, by decide⟩
  · show (PyData.list (xs.map PyData.int)).canLay0 = true
    simp only [PyData.canLay0]; exact canLayAll_ints xs
  · show (PyData.list (ys.map PyData.int)).canLay0 = true
    simp only [PyData.canLay0]; exact canLayAll_ints ys
/-! ### the bag -/
def Bok (s : Bag) : Prop := 0 ≤ s.big ∧ 0 ≤ s.mix ∧ 0 ≤ s.pos ∧ ∀ x ∈ s.cells, 0 ≤ x
theorem ok_bget {I : Bag → Prop} {f : Bag → α} {P : α → Prop} (h : ∀ s, I s → P (f s)) : Ok I (bget f) P := fun s hs => ⟨f s, s, rfl, hs, h s hs⟩
theorem oks_bput {I : Bag → Prop} {f : Bag → Int → Bag} {m : M Bag Int} {P : Int → Prop} {R : ρ → Prop} {Kb Kc : κ → Prop} (h : Ok I m P) (k : ∀ s v, I s → P v → I (f s v)) : OkS I (bput f m : M Bag (Fl Unit κ ρ)) (fun _ => True) R Kb Kc := fun s hs => by
  obtain ⟨v, s', e, i, p⟩ := h s hs
  exact ⟨.nx (), f s' v, by unfold bput bnd; rw [e], k s' v i p, trivial⟩
/-- the law's end: from the bag's beginning -/
theorem law_end {mk : List Int → M Unit (List Int)} {xs cs : List Int} {m : M Bag (Fl Unit Empty Bool)} {I : Bag → Prop} (h1 : mk xs = ret cs) (h2 : I ⟨0, 1234567891, 0, cs⟩) (h : OkS I m (fun _ => False) (fun b => b = true) (fun _ => False) (fun _ => False)) : zbody (zbag mk xs m) () = .ok true () := by
  obtain ⟨o, s', e, i, p⟩ := h _ h2
  unfold zbody zfin zbag
  rw [h1]
  simp only [ret_at]
  rw [e]
  cases o with
  | rt r => have p : r = true := p; rw [p]; rfl
  | nx a => exact p.elim
  | bk a => exact p.elim
  | ct a => exact p.elim
end
end Zk

namespace Zk
open PySem L2 PySem.W PyProof.Rows
/-! ### == and != of own classes, by values -/
section
variable {prog : Program} {w : World} {A : Around} {E : Value → Shared → Prop} {s : Shared} {K : PySem.W.Frag} {x C L f : Addr} {h₀ : Heap} {m : Str → Option Value} {ox : Obj} {od : Option Obj} {tb b : Value}
theorem bound_slot {M : Model} {name : Str} {id : String} {args : List Value} {Q : Option Value → Shared → Prop} (X : K.In s.heap) (I : InstAt s.heap x ox C od) (hne : findIn K (.ref C) name = some (some (.builtin id))) (hb : bindSpecial (.builtin id) (.ref x) = pure (.builtin id, [.ref x]))
    (h : wpAny M A (call (.builtin id) (.ref x :: args)) (fun v => Q (some v)) E s) : wpAny M A (callSpecialIfBound? (.ref x) name args) Q E s := by
  simp only [callSpecialIfBound?, bindSpecialIfBound?]
  refine wpAny_holding (wpAny_bind (wpAny_bind (wpAny_bind (I.type.here ((looks_findIn X hne).here ?_)))))
  simp only [hb]
  refine wpAny_bind (wpAny_askSetting (wpAny_ite ?_))
  have fin : wpAny M A (call (.builtin id) ([.ref x] ++ args) >>= fun v => pure (some v)) Q E s := wpAny_bind (wpAny_mono h (fun v s' h' => wpAny_pure h') fun _ _ h' => h')
  split
  · exact wpAny_bind (wpAny_pure (wpAny_pure fin))
  · exact wpAny_tryCatch (wpAny_bind (wpAny_pure (wpAny_pure fin)))
theorem ne_body {Q : Value → Shared → Prop} (hu : A.units < cLine) (X : K.In s.heap) (I : InstAt s.heap x ox C od) (he : findIn K (.ref C) "__eq__" = some (some (.ref f))) (hf : isFn K (.ref f) = true)
    (h : wpAny (model prog w) A (call (.ref f) [.ref x, b]) (fun v s' => ∃ r, v = .bool r ∧ Q (.bool (!r)) s') E s) : wpAny (model prog w) A (Builtin.«object.__ne__» ⟨[.ref x, b], []⟩) (fun fin s' => ∃ r, fin = .done (.ret (.bool r)) ∧ Q (.bool r) s') E s := by
  unfold Builtin.«object.__ne__»
  refine wpAny_bind (m := slotArgs "__ne__" 1 _) (wpAny_pure ?_)
  refine wpAny_bind (wpAny_cRoomFor hu ?_)
  refine wpAny_bind (ifBound_K X I he hf (wpAny_mono h (fun v s' hv => ?_) fun _ _ e => e))
  obtain ⟨r, rfl, q⟩ := hv
  exact wpAny_bind (wpAny_truthy_bool (wpAny_pure ⟨_, rfl, q⟩))
theorem ne_call {Q : Value → Shared → Prop} (hu : A.units + 1 < cLine) (X : K.In s.heap) (I : InstAt s.heap x ox C od) (he : findIn K (.ref C) "__eq__" = some (some (.ref f))) (hf : isFn K (.ref f) = true) (hm : mroIn K C (.type "object") = some true)
    (h : wpAny (model prog w) A.in1 (call (.ref f) [.ref x, b]) (fun v s' => ∃ r, v = .bool r ∧ Q (.bool (!r)) s') E s) : wpAny (model prog w) A (call (.builtin "object.__ne__") [.ref x, b]) (fun v s' => ∃ r, v = .bool r ∧ Q (.bool r) s') E s := by
  refine wpAny_call (codeAny_call_builtin PySem.F.cmp_object.ne.plain PySem.F.cmpEntry_ne (check_slot PySem.F.cmpKind_ne PySem.F.cmpSplit_ne (I.type.andThen (looks_mroIn X hm)) (PySem.F.cmpArgs_ne _ _) ?_))
  refine wpAny_mono (ne_body (A := A.in1) hu X I he hf h) (fun fin s' z => ?_) fun _ _ e => e
  obtain ⟨r, rfl, q⟩ := z
  exact ⟨r, rfl, q⟩
theorem ne_try {Q : Option Value → Shared → Prop} (hu : A.units + 1 < cLine) (X : K.In s.heap) (I : InstAt s.heap x ox C od) (hne : findIn K (.ref C) "__ne__" = some (some (.builtin "object.__ne__"))) (he : findIn K (.ref C) "__eq__" = some (some (.ref f))) (hf : isFn K (.ref f) = true) (hm : mroIn K C (.type "object") = some true)
    (h : wpAny (model prog w) A.in1 (call (.ref f) [.ref x, b]) (fun v s' => ∃ r, v = .bool r ∧ Q (some (.bool (!r))) s') E s) : wpAny (model prog w) A (tryCompare (.ref x) "__ne__" b) Q E s := by
  unfold tryCompare
  refine wpAny_bind (bound_slot X I hne (PySem.F.cmp_object.ne.bind _) (wpAny_mono (ne_call (Q := fun v s' => ∃ r, v = .bool r ∧ Q (some (.bool r)) s') hu X I he hf hm (wpAny_mono h (fun v s' ⟨r, e, q⟩ => ⟨r, e, _, rfl, q⟩) fun _ _ e => e)) (fun v s' z => ?_) fun _ _ e => e))
  obtain ⟨r, rfl, r', e, q⟩ := z
  cases e
  exact wpAny_pure q
theorem ne_own {Q : Value → Shared → Prop} (hu : A.units + 1 < cLine) (F : Fr h₀ L s.heap m) (X₀ : K.In h₀) (I : InstAt s.heap x ox C od) (hb : Looks (model prog w) s.heap (typeOf b) tb) (hn : notFirst K C tb = true)
    (hne : findIn K (.ref C) "__ne__" = some (some (.builtin "object.__ne__"))) (he : findIn K (.ref C) "__eq__" = some (some (.ref f))) (hf : isFn K (.ref f) = true) (hm : mroIn K C (.type "object") = some true)
    (h : wpAny (model prog w) A.in1 (call (.ref f) [.ref x, b]) (fun v s' => ∃ r, v = .bool r ∧ Q (.bool (!r)) s') E s) : wpAny (model prog w) A (richCompare .NotEq (.ref x) b) Q E s := by
  have X := X₀.keeps F.keep
  have one : wpAny (model prog w) A (tryCompare (.ref x) "__ne__" b) (fun r s' => ∃ v, r = some v ∧ Q v s') E s := ne_try hu X I hne he hf hm (wpAny_mono h (fun v s' ⟨r, e, q⟩ => ⟨r, e, _, rfl, q⟩) fun _ _ e => e)
  unfold richCompare
  simp only [oneThing_ref, PySem.cmpInfo_NotEq]
  refine wpAny_holding (wpAny_bind (wpAny_cRoomFor (by omega) ?_))
  refine wpAny_bind (I.type.here (wpAny_bind (hb.here ?_)))
  split
  · rename_i q
    have e : subIn K tb (.ref C) = some false := by
      rcases Bool.or_eq_true_iff.mp hn with e | e
      · rw [beq_iff_eq.mp e] at q; simp at q
      · exact beq_iff_eq.mp e
    refine wpAny_bind ((looks_subIn X e).here ?_)
    simp only [Bool.false_eq_true, if_false]
    refine wpAny_bind (wpAny_mono one (fun r s' z => ?_) fun _ _ e => e)
    obtain ⟨v, rfl, hq⟩ := z
    exact wpAny_pure hq
  · refine wpAny_bind (wpAny_pure ?_)
    simp only [Bool.false_eq_true, if_false]
    refine wpAny_bind (wpAny_mono one (fun r s' z => ?_) fun _ _ e => e)
    obtain ⟨v, rfl, hq⟩ := z
    exact wpAny_pure hq
end
section
variable {X : Cx} {k : Nat} {f C : Addr} {fd : FuncData} {ps : List Str} {sp : Sp} {g : Bool}
/-- a def run beneath, where nothing may be let out -/
theorem FnG.runA {A : Around} {pins : List (Addr × Obj)} {σ : L2.St} {H : Hp} {s : Shared} {Q : VK} {us : List Value} {vs : List V} (F : FnX g X k f fd ps sp) (hr : Room k A) (hg : g = true → A.guards = some []) (hb : Binds X.K fd ps []) (e0 : Env0 X.prog X.w X.K X.mg X.base A X.stack s H)
    (I : Inv X pins σ H s) (r : Vals vs us) (h : sp vs H Q (fun _ _ _ => False)) : wpAny (model X.prog X.w) A (call (.ref f) us) (EP X pins σ Q) X.xe s := by
  have hl : us.length = ps.length := by rw [← r.length]; exact F.len _ _ _ _ h
  have b := hb s us I.kIn (by rw [List.append_nil]; exact hl)
  rw [List.append_nil] at b
  refine wpAny_call (codeAny_mono (F.go A X.stack s H ⟨us, []⟩ us vs Q _ hr hg e0 b r h) fun r s' hq => ?_)
  match r with
  | .error z =>
    obtain ⟨_, _, _, _, _, _, _, _, _, _, _, _, z⟩ := hq
    exact z.elim
  | .ok (.ret u) => exact I.after hq
  | .ok .next => exact hq.elim
  | .ok .brk => exact hq.elim
  | .ok .cont => exact hq.elim
def rOwn (C : Addr) (sp : Sp) (n : Bool → Bool) : R2 := fun x y H Q => ∃ a b dx dy fs gs, x = .ref a ∧ y = .ref b ∧ H a = some (.ins C dx fs) ∧ H b = some (.ins C dy gs) ∧ sp [.ref a, .ref b] H (fun z H' => ∃ r, z = .bl r ∧ Q (.bl (n r)) H') (fun _ _ _ => False)
theorem op_ownEq (F : FnX g X k f fd ps sp) (hr : Room k X.A) (hg : g = true → X.A.guards = some []) (hs : findIn X.K (.ref C) "__eq__" = some (some (.ref f))) (hf : isFn X.K (.ref f) = true) (hb : Binds X.K fd ps []) : OpR X (compareOp .Eq) (rOwn C sp id) := by
  intro pins s σ H x y v u Q I rx ry ⟨a, b, dx, dy, fs, gs, e1, e2, ha, hb', q⟩
  subst e1 e2
  cases rx
  cases ry
  obtain ⟨mA, J, _⟩ := ins_get I.hok ha
  obtain ⟨mB, J', _⟩ := ins_get I.hok hb'
  obtain ⟨od, J, _⟩ := J.look
  obtain ⟨od', J', _⟩ := J'.look
  obtain ⟨m, hF⟩ := I.fr
  refine cmp_K (op := .Eq) (tb := .ref C) hr.units0 hF I.ok.mod.kin J J'.type (by simp [notFirst]) hs hf (wpAny_mono (F.runA (us := [.ref a, .ref b]) (vs := [.ref a, .ref b]) hr hg hb I.env0 I (.cons rfl (.cons rfl .nil)) q) (fun z s' hz => ?_) fun _ _ e => e)
  obtain ⟨w, H', I', rz, r, ez, q'⟩ := hz
  subst ez
  cases rz
  exact ⟨.bl r, H', I', rfl, q'⟩
theorem op_ownNe (F : FnX g X k f fd ps sp) (hr : Room (k + 1) X.A) (hg : g = true → X.A.guards = some []) (hne : findIn X.K (.ref C) "__ne__" = some (some (.builtin "object.__ne__"))) (hs : findIn X.K (.ref C) "__eq__" = some (some (.ref f))) (hf : isFn X.K (.ref f) = true) (hm : mroIn X.K C (.type "object") = some true) (hb : Binds X.K fd ps []) : OpR X (compareOp .NotEq) (rOwn C sp (!·)) := by
  intro pins s σ H x y v u Q I rx ry ⟨a, b, dx, dy, fs, gs, e1, e2, ha, hb', q⟩
  subst e1 e2
  cases rx
  cases ry
  obtain ⟨mA, J, _⟩ := ins_get I.hok ha
  obtain ⟨mB, J', _⟩ := ins_get I.hok hb'
  obtain ⟨od, J, _⟩ := J.look
  obtain ⟨od', J', _⟩ := J'.look
  obtain ⟨m, hF⟩ := I.fr
  refine ne_own (tb := .ref C) (by have := hr.units; omega) hF I.ok.mod.kin J J'.type (by simp [notFirst]) hne hs hf hm (wpAny_mono (F.runA (A := X.A.in1) (us := [.ref a, .ref b]) (vs := [.ref a, .ref b]) hr.in1 hg hb I.env0.in1 I (.cons rfl (.cons rfl .nil)) q) (fun z s' hz => ?_) fun _ _ e => e)
  obtain ⟨w, H', I', rz, r, ez, q'⟩ := hz
  subst ez
  cases rz
  exact ⟨r, rfl, .bl (!r), H', I', rfl, q'⟩
end
end Zk

namespace Zk
open PySem L2
section
variable {τ α β γ δ κ ρ ι θ : Type} {G : Gx} {c : Sc} {E : Eff τ} {W : WX} {Γ Γ' : Env} {B : Bs} {σ : St} {S S1 S' H H' : Hp} {b b' : τ} {L : Ls κ ρ}
/-- what the written part says of an own class that has __eq__ -/
structure EqAt (g : Bool) (G : Gx) (C : Addr) (k : Nat) (ps : List Str) (sp : Sp) : Prop where
  ex : ∃ f fd, PySem.W.findIn G.K (.ref C) "__eq__" = some (some (.ref f)) ∧ PySem.W.isFn G.K (.ref f) = true ∧ Binds G.K fd ps [] ∧ FnG g G.P G.w G.K G.mg G.base k f fd ps sp
theorem tz_spN {A : θ → α → List Pr} {m : α → M Unit Bool} {q : θ} {x : α} {vs : List V} {n : Bool → Bool} {Q : VK} (h : Hold E B Γ b σ S H) (r : All2 (fun (p : Pr) v => p.p S v) (A q x) vs) (a : aft G E W B Γ σ S rBl Q (bnd (nox (lft (m x))) (fun z => ret (n z)) b)) : spZ G (fun _ => noE) A m rBl vs H (fun z H' => ∃ r, z = .bl r ∧ Q (.bl (n r)) H') (fun _ _ _ => False) := by
  refine ⟨q, x, S, (), r, h.same, trivial, ?_⟩
  unfold bnd nox lft at a
  cases e : m x () with
  | stuck => rw [e] at a; exact a.elim
  | exc e b' => rw [e] at a; exact a.elim
  | ok r b' => rw [e] at a; exact fun v S' H' k he rr => ⟨r, rr, a _ S' H' k.up (h.callP k) rfl⟩
def fown (m : α × α → M Unit Bool) (x y : α) : M τ Bool := bnd (nox (lft (m (x, y)))) (fun z => ret (id z))
def fownN (m : α × α → M Unit Bool) (x y : α) : M τ Bool := bnd (nox (lft (m (x, y)))) (fun z => ret (!z))
section
variable {C0 : Addr} {k : Nat} {g : Bool} {ps : List Str} {fs : α → List (Str × Pr)} {m : α × α → M Unit Bool} {ea eb : Expr} {ma mb : M τ α} {pos : Pos}
theorem op2_own {n : Bool → Bool} {f : α → α → M τ Bool} (hf : ∀ x y, f x y = bnd (nox (lft (m (x, y)))) (fun z => ret (n z))) : Op2 G E W Γ (rOwn C0 (spZ G (fun _ : Unit => noE) (fun _ (x : α × α) => [(rObj C0 fs).pr x.1, (rObj C0 fs).pr x.2]) m rBl) n) (rObj C0 fs) (rObj C0 fs) f rBl := fun B σ S H b x y v w Q hh hx hy q => by
  obtain ⟨a, dx, vs, e1, e2, _⟩ := id hx
  obtain ⟨a', dx', vs', e1', e2', _⟩ := id hy
  subst e1 e1'
  exact ⟨a, a', dx, dx', vs, vs', rfl, rfl, hh.same _ _ e2, hh.same _ _ e2', tz_spN (q := ()) (x := (x, y)) hh ⟨hx, hy, trivial⟩ (by rw [hf] at q; exact q)⟩
theorem z_ownEq (F : EqAt g G C0 k ps (spZ G (fun _ : Unit => noE) (fun _ (x : α × α) => [(rObj C0 fs).pr x.1, (rObj C0 fs).pr x.2]) m rBl)) (hk : k ≤ c.k) (hg : g = true → c.gd = true) (ha : ZE G c E W Γ ea ma (rObj C0 fs)) (hb : ZE G c E W Γ eb mb (rObj C0 fs)) :
    ZE G c E W Γ (.Compare ea [.Eq] [eb] pos) (zop2 (fown m) ma mb) rBl := by
  obtain ⟨f, fd, h1, h2, h3, h4⟩ := F.ex
  refine z_cmp (fun X C => ?_) (op2_own (n := id) fun _ _ => rfl) ha hb (nomark _)
  rw [← C.prog, ← C.w, ← C.K, ← C.mg, ← C.base] at h4
  rw [← C.K] at h1 h2 h3
  exact op_ownEq h4 (C.room.mono hk) (fun z => C.gds (hg z)) h1 h2 h3
theorem z_ownNe (F : EqAt g G C0 k ps (spZ G (fun _ : Unit => noE) (fun _ (x : α × α) => [(rObj C0 fs).pr x.1, (rObj C0 fs).pr x.2]) m rBl)) (hk : k + 1 ≤ c.k) (hg : g = true → c.gd = true) (hne : PySem.W.findIn G.K (.ref C0) "__ne__" = some (some (.builtin "object.__ne__"))) (hm : PySem.W.mroIn G.K C0 (.type "object") = some true) (ha : ZE G c E W Γ ea ma (rObj C0 fs)) (hb : ZE G c E W Γ eb mb (rObj C0 fs)) :
    ZE G c E W Γ (.Compare ea [.NotEq] [eb] pos) (zop2 (fownN m) ma mb) rBl := by
  obtain ⟨f, fd, h1, h2, h3, h4⟩ := F.ex
  refine z_cmp (fun X C => ?_) (op2_own (n := (!·)) fun _ _ => rfl) ha hb (nomark _)
  rw [← C.prog, ← C.w, ← C.K, ← C.mg, ← C.base] at h4
  rw [← C.K] at h1 h2 h3 hne hm
  exact op_ownNe h4 (C.room.mono hk) (fun z => C.gds (hg z)) hne h1 h2 hm h3
theorem zt_ownEq (F : EqAt g G C0 k ps (spZ G (fun _ : Unit => noE) (fun _ (x : α × α) => [(rObj C0 fs).pr x.1, (rObj C0 fs).pr x.2]) m rBl)) (hk : k ≤ c.k) (hg : g = true → c.gd = true) (ha : ZE G c E W Γ ea ma (rObj C0 fs)) (hb : ZE G c E W Γ eb mb (rObj C0 fs)) :
    ZT G c E W Γ (.Compare ea [.Eq] [eb] pos) (zop2 (fown m) ma mb) := by
  obtain ⟨f, fd, h1, h2, h3, h4⟩ := F.ex
  refine zt_cmp (fun X C => ?_) (op2_own (n := id) fun _ _ => rfl) ha hb (nomark _)
  rw [← C.prog, ← C.w, ← C.K, ← C.mg, ← C.base] at h4
  rw [← C.K] at h1 h2 h3
  exact op_ownEq h4 (C.room.mono hk) (fun z => C.gds (hg z)) h1 h2 h3
theorem zt_ownNe (F : EqAt g G C0 k ps (spZ G (fun _ : Unit => noE) (fun _ (x : α × α) => [(rObj C0 fs).pr x.1, (rObj C0 fs).pr x.2]) m rBl)) (hk : k + 1 ≤ c.k) (hg : g = true → c.gd = true) (hne : PySem.W.findIn G.K (.ref C0) "__ne__" = some (some (.builtin "object.__ne__"))) (hm : PySem.W.mroIn G.K C0 (.type "object") = some true) (ha : ZE G c E W Γ ea ma (rObj C0 fs)) (hb : ZE G c E W Γ eb mb (rObj C0 fs)) :
    ZT G c E W Γ (.Compare ea [.NotEq] [eb] pos) (zop2 (fownN m) ma mb) := by
  obtain ⟨f, fd, h1, h2, h3, h4⟩ := F.ex
  refine zt_cmp (fun X C => ?_) (op2_own (n := (!·)) fun _ _ => rfl) ha hb (nomark _)
  rw [← C.prog, ← C.w, ← C.K, ← C.mg, ← C.base] at h4
  rw [← C.K] at h1 h2 h3 hne hm
  exact op_ownNe h4 (C.room.mono hk) (fun z => C.gds (hg z)) hne h1 h2 hm h3
end
/-! ### own __repr__ -/
structure RpAt (g : Bool) (G : Gx) (C : Addr) (k : Nat) (ps : List Str) (sp : Sp) : Prop where
  ex : ∃ f fd, PySem.W.findIn G.K (.ref C) "__repr__" = some (some (.ref f)) ∧ PySem.W.isFn G.K (.ref f) = true ∧ Binds G.K fd ps [] ∧ FnG g G.P G.w G.K G.mg G.base k f fd ps sp
def rRepO (C : Addr) (sp : Sp) : List V → Hp → VK → Prop := fun xs H Q => ∃ a dx fs, xs = [.ref a] ∧ H a = some (.ins C dx fs) ∧ sp [.ref a] H (fun z H' => ∃ r, z = .str r ∧ Q (.str r) H') (fun _ _ _ => False)
theorem cr_repO {X : Cx} {k : Nat} {f C : Addr} {fd : FuncData} {ps : List Str} {sp : Sp} {g : Bool} (F : FnX g X k f fd ps sp) (hr : Room (k + 1) X.A) (hg : g = true → X.A.guards = some []) (hs : PySem.W.findIn X.K (.ref C) "__repr__" = some (some (.ref f))) (hf : PySem.W.isFn X.K (.ref f) = true) (hb : Binds X.K fd ps []) : CallR X (.builtin "repr") (rRepO C sp) := by
  intro pins s σ H vs us Q I r ⟨a, dx, fs, e1, ha, q⟩
  subst e1
  rw [Vals.ref1 r]
  obtain ⟨mA, J, _⟩ := ins_get I.hok ha
  obtain ⟨od, J, _⟩ := J.look
  obtain ⟨m, hF⟩ := I.fr
  refine PySem.W.repr_K (by have := hr.units; show X.A.units + 1 < cLine; omega) hF I.ok.mod.kin J hs hf (PySem.wpAny_mono (F.runA (A := X.A.in1) (us := [.ref a]) (vs := [.ref a]) hr.in1 hg hb I.env0.in1 I (.cons rfl .nil) q) (fun z s' hz => ?_) fun _ _ e => e)
  obtain ⟨w, H', I', rz, r, ez, q'⟩ := hz
  subst ez
  obtain ⟨t, rfl⟩ := rz
  exact ⟨.str r, H', I', ⟨t, rfl⟩, q'⟩
theorem tz_spS {A : θ → α → List Pr} {m : α → M Unit Str} {q : θ} {x : α} {vs : List V} {Q : VK} (h : Hold E B Γ b σ S H) (r : All2 (fun (p : Pr) v => p.p S v) (A q x) vs) (a : aft G E W B Γ σ S rStr Q (nox (lft (m x)) b)) : spZ G (fun _ => noE) A m rStr vs H (fun z H' => ∃ r, z = .str r ∧ Q (.str r) H') (fun _ _ _ => False) := by
  refine ⟨q, x, S, (), r, h.same, trivial, ?_⟩
  unfold nox lft at a
  cases e : m x () with
  | stuck => rw [e] at a; exact a.elim
  | exc e b' => rw [e] at a; exact a.elim
  | ok r b' => rw [e] at a; exact fun v S' H' k he rr => ⟨r, rr, a _ S' H' k.up (h.callP k) rfl⟩
theorem z_reprO {C0 : Addr} {k : Nat} {g : Bool} {ps : List Str} {fs : α → List (Str × Pr)} {m : α → M Unit Str} {x : Str} {e : Expr} {ma : M τ α} {p pos : Pos} (F : RpAt g G C0 k ps (spZ G (fun _ : Unit => noE) (fun _ (x : α) => [(rObj C0 fs).pr x]) m rStr)) (hk : k + 1 ≤ c.k) (hg : g = true → c.gd = true) (bl : Blt G c x (.builtin "repr")) (ha : ZE G c E W Γ e ma (rObj C0 fs)) (hs : Star e [] := by intro _; rfl) :
    ZE G c E W Γ (.Call (.Name x p) [e] [] pos) (zapp (fun x => nox (lft (m x))) ma) rStr := by
  obtain ⟨f, fd, h1, h2, h3, h4⟩ := F.ex
  refine z_b1 bl (R := rObj C0 fs) (r := rRepO C0 (spZ G (fun _ : Unit => noE) (fun _ (x : α) => [(rObj C0 fs).pr x]) m rStr)) (fun X C => ?_) (fun B σ S H b x v Q hh hx q => ?_) ha hs
  · rw [← C.prog, ← C.w, ← C.K, ← C.mg, ← C.base] at h4
    rw [← C.K] at h1 h2 h3
    exact cr_repO h4 (C.room.mono hk) (fun z => C.gds (hg z)) h1 h2 h3
  · obtain ⟨a, dx, vs, e1, e2, _⟩ := id hx
    subst e1
    exact ⟨a, dx, vs, rfl, hh.same _ _ e2, tz_spS (q := ()) (x := x) hh ⟨hx, trivial⟩ q⟩
end
end Zk

namespace Zk
open PySem L2
section
variable {τ α β γ δ κ ρ ι θ : Type} {G : Gx} {c : Sc} {E : Eff τ} {W : WX} {Γ Γ' : Env} {B : Bs} {σ : St} {S S1 S' H H' : Hp} {b b' : τ} {L : Ls κ ρ}
/-! ### f-strings -/
def ffmtS (x : Str) : M τ Str := chk (x.length ≤ sizeLine) (ret x)
def ffmtI (x : Int) : M τ Str := chk (x.natAbs.log2 < 1920) (ret ((toString x : String) : Str))
theorem z_fmtI {e : Expr} {m : M τ Int} {pos : Pos} (h : ZE G c E W Γ e m rInt) : ZE G c E W Γ (.FormattedValue e (-1) none pos) (bnd m ffmtI) rStr := fun X C => pe_wk (pe_fmt (h X C)) fun σ H Q _ ⟨B, S, b, hh, q⟩ => by
  refine tz_bnd hh q fun x b1 v S1 H1 s1 h1 r1 q1 => ?_
  obtain ⟨hz, q2⟩ := aft_chk q1
  exact .inr ⟨x, r1, hz, aft_ret h1 q2 rfl⟩
theorem z_fmtS {e : Expr} {m : M τ Str} {pos : Pos} (h : ZE G c E W Γ e m rStr) : ZE G c E W Γ (.FormattedValue e (-1) none pos) (bnd m ffmtS) rStr := fun X C => pe_wk (pe_fmt (h X C)) fun σ H Q _ ⟨B, S, b, hh, q⟩ => by
  refine tz_bnd hh q fun x b1 v S1 H1 s1 h1 r1 q1 => ?_
  obtain ⟨hz, q2⟩ := aft_chk q1
  exact .inl ⟨x, r1, hz, aft_ret h1 q2 rfl⟩
def ZJ (G : Gx) (c : Sc) (E : Eff τ) (W : WX) (Γ : Env) (es : List Expr) (f : Str → M τ Str) : Prop := ∀ X, CtxOk G c W X → ∃ ts, PJ X es ts ∧ ∀ (B : Bs) (σ : St) (S H : Hp) (b : τ) (acc : Str) (Q : Str → Hp → Prop), Hold E B Γ b σ S H → aft G E W B Γ σ S rStr (fun v H => ∃ out, v = .str out ∧ Q out H) (f acc b) → tJs ts acc σ H Q
theorem zj_nil : ZJ G c E W Γ [] ret := fun X C => ⟨[], .nil, fun B σ S H b acc Q hh q => by
  obtain ⟨out, e, q⟩ := aft_ret (R := rStr) hh q (v := .str acc) rfl
  cases e; exact q⟩
def zjc (m : M τ Str) (f : Str → M τ Str) (acc : Str) : M τ Str := bnd m fun y => chk ((acc ++ y).length ≤ sizeLine) (f (acc ++ y))
theorem zj_cons {e : Expr} {es : List Expr} {m : M τ Str} {f : Str → M τ Str} (h : ZE G c E W Γ e m rStr) (r : ZJ G c E W Γ es f) : ZJ G c E W Γ (e :: es) (zjc m f) := fun X C => by
  obtain ⟨ts, p, k⟩ := r X C
  refine ⟨_, .cons (h X C) p, fun B σ S H b acc Q hh q => ?_⟩
  refine tz_bnd hh q fun x b1 v S1 H1 s1 h1 r1 q1 => ?_
  obtain ⟨hz, q2⟩ := aft_chk q1
  exact ⟨x, r1, hz, k B σ S1 H1 b1 (acc ++ x) Q h1 q2⟩
theorem z_joined {v1 v2 : Expr} {rest : List Expr} {f : Str → M τ Str} {pos : Pos} (h : ZJ G c E W Γ (v1 :: v2 :: rest) f) : ZE G c E W Γ (.JoinedStr (v1 :: v2 :: rest) pos) (f Str.empty) rStr := fun X C => by
  obtain ⟨ts, p, k⟩ := h X C
  refine pe_wk (pe_joined p) fun σ H Q _ ⟨B, S, b, hh, q⟩ => k B σ S H b Str.empty _ hh ?_
  cases e : f Str.empty b with
  | stuck => rw [e] at q; exact q.elim
  | exc x b1 => rw [e] at q; exact q
  | ok a b1 => rw [e] at q; exact fun v S1 H1 s1 h1 r1 => ⟨a, r1, q _ S1 H1 s1 h1 rfl⟩
/-! ### C(e, ..), what lacks has a default -/
theorem zf_makeK0 {gd : Bool} {x : Str} {C0 : Addr} {k n : Nat} {ps : List Str} {A : α → List Pr} {f : α → M Unit ρ} {fs : ρ → List (Str × Pr)} {Ad : β → List Pr} {gV : List V → List V → List V} {g : β → α} {e : Expr} {es : List Expr} {m : M τ β} {p pos : Pos} (F : MkAtK gd G C0 k n ps [] (spI G C0 A f fs) gV) (hm : G.mg x = some (.ref C0)) (hk : k + 1 ≤ c.k) (hg : gd = true → c.gd = true) (gb : Gb c x)
    (hA : ∀ y, (Ad y).length = n) (hd : ∀ y S l us, All2 (fun (p : Pr) v => p.p S v) (Ad y) us → ∃ ws, gV (.ref l :: us) [] = .ref l :: ws ∧ All2 (fun (p : Pr) v => p.p S v) (A (g y)) ws) (ha : ZA G c E W Γ (e :: es) m Ad)
    (hdb : (x == ("__debug__" : Str)) = false := by decide) (he : Star e es := by intro _; rfl)
    (hpl : ∀ env : PySem.Env, ((backTo pos (starEach (e :: es) env)).any (·.1) || (backToKw pos (keywordEach [] env)).any (·.1.isNone)) = false := by intro _; rfl) :
    ZF G c E W Γ (.Call (.Name x p) (e :: es) [] pos) (bnd m fun y => lft (f (g y))) (fun r => ownO (fun _ => True) C0 (fs r)) := fun X C => by
  obtain ⟨f0, fd, gg, h1, h2, h4⟩ := F.ex
  rw [← C.prog, ← C.w, ← C.K, ← C.mg, ← C.base] at h4
  rw [← C.K] at h1 h2
  rw [← C.mg] at hm
  refine pe_wk (pe_makeKS (Ex := WE W) h1 h4 (C.room.mono hk) (fun z => C.gds (hg z)) (C.gl gb) hm h2 (passAt C.takes) (ha X C) pk_nil rfl rfl hdb (he _) (hpl _)) fun σ H Q _ ⟨B, S, b, hh, qq⟩ => ?_
  refine tz_AbndF hh qq fun y b2 us S2 H2 s2 hh2 r1 q2 => ?_
  refine ⟨by rw [← r1.length]; exact hA y, rfl, fun l dx hl hdx hne => ?_⟩
  obtain ⟨ws, e0, rw'⟩ := hd y S2 l us r1
  rw [e0]
  refine ⟨g y, l, dx, S2, ws, rfl, rw', fun a o e => ?_, hh2.same.free hl, upd_same, ?_⟩
  · have e := hh2.same _ _ e
    rw [upd_ne (ne_of_none e hl), upd_ne (ne_of_none e hdx)]; exact e
  have old : ∀ a o, H2 a = some o → del (upd (upd H2 dx (.own l)) l (.ins C0 dx [])) l a = some o := fun a o e => by
    rw [del_ne (ne_of_none e hl), upd_ne (ne_of_none e hl), upd_ne (ne_of_none e hdx)]; exact e
  unfold lft at q2
  cases e : f (g y) () with
  | stuck => rw [e] at q2; exact q2.elim
  | exc e b' =>
    rw [e] at q2
    exact fun c d S' H' k xa => q2 c d S' H' k.up (hh2.grow k.up k.same (fun a o e1 e2 => k.kp a o e1 (old a o e2) id) fun a ha hn => by
      obtain ⟨_, o, ho⟩ := E.th hh2.ef ha
      exact (k.kp a o hn (old a o ho) id).1) xa
  | ok r b' =>
    rw [e] at q2
    intro S' H' k hS' hO
    refine ⟨rfl, q2 (.ref l) S' (del H' l) H' (fun x => x = l) k.up (hh2.grow k.up (fun a o e => ?_) (fun a o e1 e2 => ?_) fun a ha hn => ?_) (fun x e => ?_) (fun x n => (del_ne n).symm) hO⟩
    · rw [del_ne (fun z => by rw [z, hS'] at e; cases e)]; exact k.same _ _ e
    · rw [del_ne (ne_of_none e2 hl)]; exact k.kp a o e1 (old a o e2) id
    · obtain ⟨_, o, ho⟩ := E.th hh2.ef ha
      exact (k.kp a o hn (old a o ho) id).1
    · subst e
      obtain ⟨l', dx', vs', e', _, _, hu, _⟩ := hO
      cases e'
      exact ⟨del_same, _, hu⟩

/-! ### an instance of one's own in a slot: a field stored again -/
def updF (f : Str) (p : Pr) (l : List (Str × Pr)) : List (Str × Pr) := l.map fun q => if q.1 = f then (q.1, p) else q
theorem lookup_updF {f : Str} {p : Pr} : ∀ {l : List (Str × Pr)}, l.any (fun q => q.1 == f) = true → ∀ k, (updF f p l).lookup k = ((f, p) :: l).lookup k := by
  have other : ∀ (l : List (Str × Pr)) k, (k == f) = false → (updF f p l).lookup k = l.lookup k := by
    intro l k hk
    induction l with
    | nil => rfl
    | cons q l ih =>
      have hkf : k ≠ f := by simpa using hk
      show List.lookup k ((if q.1 = f then (q.1, p) else q) :: updF f p l) = _
      by_cases hq : q.1 = f
      · rw [if_pos hq, List.lookup_cons, List.lookup_cons, hq, hk]; exact ih
      · rw [if_neg hq, List.lookup_cons, List.lookup_cons, ih]
  intro l h k
  rw [List.lookup_cons]
  by_cases hk : (k == f) = true
  · rw [hk]
    have e : k = f := by simpa using hk
    subst e
    clear hk
    induction l with
    | nil => simp at h
    | cons q l ih =>
      show List.lookup k ((if q.1 = k then (q.1, p) else q) :: updF k p l) = some p
      by_cases hq : q.1 = k
      · rw [if_pos hq, List.lookup_cons, hq]; simp
      · rw [if_neg hq, List.lookup_cons]
        have : (k == q.1) = false := by simp [Ne.symm hq]
        rw [this]
        refine ih ?_
        simp only [List.any_cons, Bool.or_eq_true, beq_iff_eq] at h
        rcases h with h | h
        · exact absurd h hq
        · exact h
  · have hk : (k == f) = false := by simpa using hk
    rw [hk]; exact other l k hk
end
end Zk

namespace Zk
open PySem L2
section
variable {α β γ δ ε : Type} {R1 : Rel α} {R2 : Rel β} {R3 : Rel γ} {i : Int}
theorem gw3 : ∀ (y : α × β × γ) (S : Hp) (l : Addr) (us : List V), All2 (fun (p : Pr) v => p.p S v) [R1.pr y.1, R2.pr y.2.1, R3.pr y.2.2] us → ∃ ws, (V.ref l :: us) ++ [V.int i] = .ref l :: ws ∧ All2 (fun (p : Pr) v => p.p S v) [R1.pr y.1, R2.pr y.2.1, R3.pr y.2.2, rInt.pr i] ws
  | y, S, l, [a, b, c], ⟨h1, h2, h3, _⟩ => ⟨[a, b, c, .int i], rfl, h1, h2, h3, rfl, trivial⟩
structure Ic (K : PySem.W.Frag) (C : Addr) : Prop where
  cl : Cls K C
  a : PySem.W.findIn K (.ref C) "__class__" = some (some (.builtin "object.__class__"))
  n : PySem.W.specialIn K (.builtin "object.__class__") "__get__" = some (some (.builtin "getset_descriptor.__get__"))
  t : PySem.W.takesIn K (.builtin "object.__class__") = some true
  m : PySem.W.mroIn K C (.type "object") = some true
theorem isO {G : Gx} {C : Addr} {fs : α → List (Str × Pr)} (ic : Ic G.K C) : IsT G (rObj C fs) (.ref C) := ⟨fun s ⟨a, dx, vs, e, h, _⟩ => by cases e; exact .base (.ins (s _ _ h) ic.cl ic.a ic.n ic.t ic.m)⟩
end
end Zk

namespace Zk
open PySem L2 PySem.Spec PyProof.Rows
/-! ### how many things are apart -/
def ddp : List Int → List Int
  | [] => []
  | x :: xs => if x ∈ xs then ddp xs else x :: ddp xs
theorem mem_ddp {k : Int} : ∀ {xs : List Int}, k ∈ ddp xs ↔ k ∈ xs
  | [] => Iff.rfl
  | x :: xs => by
    unfold ddp
    split
    · rename_i h
      rw [mem_ddp, List.mem_cons]
      exact ⟨.inr, fun z => z.elim (fun e => e ▸ h) id⟩
    · rw [List.mem_cons, List.mem_cons, mem_ddp]
theorem nodup_ddp : ∀ xs : List Int, (ddp xs).Nodup
  | [] => List.nodup_nil
  | x :: xs => by
    unfold ddp
    split
    · exact nodup_ddp xs
    · rename_i h
      exact List.nodup_cons.mpr ⟨fun z => h (mem_ddp.mp z), nodup_ddp xs⟩
theorem ddp_length {xs out : List Int} (h : out.Nodup) (m : ∀ k, k ∈ out ↔ k ∈ xs) : out.length = (ddp xs).length :=
  ((List.perm_ext_iff_of_nodup h (nodup_ddp xs)).mpr fun k => (m k).trans mem_ddp.symm).length_eq
def tLenSetT (K : PySem.W.Frag) (ta : TE) : TE := fun σ H Q => ta σ H fun x H1 => ∃ (l : Addr) (ns : List Int), x = V.ref l ∧ SqT K H1 l (ns.map V.int) ∧ ns.length ≤ 1000 ∧ Q (.int (ddp ns).length) H1
theorem pe_lenSetT {X : Cx} {a : Expr} {ta : TE} {p p2 q pos : Pos} (hg : Gl X "len") (hm : X.mg "len" = none) (hg2 : Gl X "set") (hm2 : X.mg "set" = none) (ha : PE X a ta) (hc : X.calm = true)
    (na : starEach [a] X.env = (false, eval a X.env) :: starEach [] X.env) : PE X (.Call (.Name "len" p) [.Call (.Name "set" p2) [a] [] q] [] pos) (tLenSetT X.K ta) := by
  refine ⟨fun pins s σ H Q I h => ?_⟩
  refine Call_ (ld_blt I hg hm PySem.boot_len (PyProof.Rows.callWith_builtin1 (PyProof.Rows.args_cons ?_ rfl) rfl rfl))
  refine Call_ (ld_blt I hg2 hm2 PyProof.Rows.boot_set (PyProof.Rows.callWith_type1 (PyProof.Rows.args_cons (thn (ha.run pins s σ H _ I h) fun v s1 ⟨x, H1, I1, r1, l, ns, ex, hq, hl, q1⟩ => PyProof.Rows.args_nil ?_) na) na rfl))
  subst ex
  cases r1
  obtain ⟨its, rv, pt, hz⟩ := I1.tuple hq
  have hi : IntsAre its.toArray.toList ns := ints_of_vals rv
  refine call_set_tupI ns (I1.ok.hd hc) (show s1.heap.IsTuple l its.toArray from pt) hi (by unfold scanBound; omega) fun h' tk c R1 hcn k => ?_
  refine PyProof.Rows.args_nil ?_
  obtain ⟨o, es, ep, t, ho, hex, hdt, g, nd, hmm, hb, hf, hn, hr, hl2⟩ := R1
  have I2 : Inv X pins σ H1 { s1 with heap := h', toks := tk } := I1.kept fun b o e => k b o e
  have hlen : es.size = (ddp ns).length := by
    have := ddp_length nd (xs := ns) fun j => by rw [← hmm j, decide_eq_true_eq]
    rw [← this, List.length_map, Array.length_toList]
  have hsz : (ddp ns).length ≤ ns.length := by
    have : ∀ xs : List Int, (ddp xs).length ≤ xs.length := by
      intro xs
      induction xs with
      | nil => exact Nat.le_refl _
      | cons x xs ih =>
        unfold ddp
        split
        · simp only [List.length_cons]; omega
        · simp only [List.length_cons]; omega
    exact this ns
  exact PySem.call_len_set ho hex hdt hf (by rw [hlen]; omega) ⟨.int (ddp ns).length, H1, I2.tok _, ⟨_, by rw [hlen]⟩, q1⟩
section
variable {τ : Type} {G : Gx} {c : Sc} {E : Eff τ} {W : WX} {Γ : Env}
def fnset (xs : List Int) : M τ Int := chk (xs.length ≤ 1000) (ret ((ddp xs).length : Int))
theorem z_lenSetT {e : Expr} {m : M τ (List Int)} {p p2 q pos : Pos} (g1 : Gb c "len") (m1 : G.mg "len" = none) (g2 : Gb c "set") (m2 : G.mg "set" = none) (h : ZE G c E W Γ e m (rVT rInt)) (hs : Star e [] := by intro _; rfl) : ZE G c E W Γ (.Call (.Name "len" p) [.Call (.Name "set" p2) [e] [] q] [] pos) (zapp fnset m) rInt := fun X C =>
  pe_wk (pe_lenSetT (C.gl g1) (by rw [C.mg]; exact m1) (C.gl g2) (by rw [C.mg]; exact m2) (h X C) C.calm (hs _)) fun σ H Q _ ⟨B, S, b, hh, q⟩ => by
    refine tz_bnd hh q fun x b1 v S1 H1 s1 h1 r1 q1 => ?_
    obtain ⟨a, vs, e1, e2, e3⟩ := r1
    obtain ⟨hz, q2⟩ := aft_chk q1
    refine ⟨a, x, e1, ?_, hz, aft_ret h1 q2 rfl⟩
    rw [← All2.ints e3]
    exact .of (h1.same _ _ e2)
end
end Zk

namespace Zk
open PySem L2
/-! ### lists of things of several kinds -/
section
variable {τ α β : Type} {G : Gx} {c : Sc} {E : Eff τ} {W : WX} {Γ : Env}
def rHet (A : α → List Pr) : Rel α :=
  ⟨fun x S v => ∃ a vs, v = .ref a ∧ S a = some (.lst vs) ∧ All2 (fun (p : Pr) v => p.p S v) (A x) vs, fun s ⟨a, vs, e, h, q⟩ => ⟨a, vs, e, s _ _ h, q.imp fun p v z => p.mono s z⟩⟩
theorem z_het {es : List Expr} {m : M τ α} {A : α → List Pr} {pos : Pos} (h : ZA G c E W Γ es m A) (n : ∀ a, (A a).length ≤ sizeLine) : ZE G c E W Γ (.List es pos) m (rHet A) := fun X C => pe_wk (pe_lst (h X C)) fun σ H Q _ ⟨B, S, b, hh, q⟩ => by
  refine ⟨B, S, b, hh, ?_⟩
  cases e : m b with
  | exc x b1 => rw [e] at q; exact q
  | stuck => rw [e] at q; exact q.elim
  | ok a b1 =>
    rw [e] at q
    intro vs S1 H1 s1 h1 r1
    refine ⟨by rw [← r1.length]; exact n a, fun p hp => ?_⟩
    have sm := same_new (o := HO.lst vs) (h1.same.free hp)
    exact q _ (upd S1 p (.lst vs)) _ (s1.trans sm) (h1.new hp) ⟨p, vs, rfl, upd_same, r1.imp fun p v z => p.mono sm z⟩
structure DH (A : α → List Pr) where
  d : α → List PyData
  n : Nat
  dep : ∀ x, PyData.depthAll (d x) ≤ n
  dp : ∀ {K : PySem.W.Frag} {x : α} {S H : Hp} {vs : List V}, Same S H → All2 (fun (p : Pr) v => p.p S v) (A x) vs → DpAll K H vs (d x)
  eq : ∀ x y, PyData.eqvAll (d x) (d y) = true ↔ x = y
def dhOne {R : Rel α} (D : DatR R) : DH (fun x => [R.pr x]) := ⟨fun x => [D.d x], D.n, fun x => by have := D.dep x; simp only [PyData.depthAll]; omega, fun {K x S H vs} s h => by
  match vs, h with
  | [v], ⟨h1, _⟩ => exact .cons (D.dp s h1) .nil, fun x y => by simp [PyData.eqvAll, D.eq]⟩
def dhCons {R : Rel α} (D : DatR R) {A : β → List Pr} (T : DH A) : DH (fun x : α × β => R.pr x.1 :: A x.2) := ⟨fun x => D.d x.1 :: T.d x.2, max D.n T.n, fun x => by have := D.dep x.1; have := T.dep x.2; simp only [PyData.depthAll]; omega, fun {K x S H vs} s h => by
  match vs, h with
  | v :: vs, ⟨h1, h2⟩ => exact .cons (D.dp s h1) (T.dp s h2), fun x y => by simp [PyData.eqvAll, D.eq, T.eq, Prod.ext_iff]⟩
def datH {A : α → List Pr} (T : DH A) : DatR (rHet A) := ⟨fun x => .list (T.d x), T.n + 1, fun x => by have := T.dep x; simp only [PyData.depth]; omega, fun s ⟨a, vs, e, h, q⟩ => by cases e; exact .lst (.of (s _ _ h)) (T.dp s q), fun x y => by simp only [PyData.eqv, T.eq]⟩
theorem rfH {A : α → List Pr} : RefR (rHet A) := ⟨fun ⟨a, _, e, _⟩ => ⟨a, e⟩⟩
end
end Zk

namespace Zk
open PySem L2 PySem.Spec PyProof.Rows RT
/-! ### list(reversed(a tuple)) -/
section
variable {prog : Program} {w : World} {A : Around} {E : Value → Shared → Prop} {s : Shared}
theorem IsTup.at' {h h' : Heap} {t : Addr} {items : Array Value} (x : IsTup h t items) (e : ∀ o, h.get? t = some o → h'.get? t = some o) : IsTup h' t items := let ⟨o, ho, r⟩ := x; ⟨o, e _ ho, r⟩
theorem walks_rt (hh : A.handled = none) (it t : Addr) (hne : t ≠ it) (items : Array Value) (hsz : items.size ≤ sizeLine) :
    Walks prog w A it [it, t] [it] items.size (fun i v => items[items.size - 1 - i]? = some v) (fun i h => i ≤ items.size ∧ IsRt h it t ((items.size : Int) - 1 - (i : Nat)) ∧ IsTup h t items) where
  sub := by simp
  frame := fun i h h' ⟨h1, h2, h3⟩ k => ⟨h1, h2.at fun o e => k it (by simp) o e, IsTup.at' h3 fun o e => k t (by simp) o e⟩
  item := by
    intro i s Q E hi ⟨h1, h2, h3⟩ hq
    have e1 : (items.size : Int) - 1 - (i : Nat) = ((items.size - 1 - i : Nat) : Int) := by omega
    rw [e1] at h2
    have hx : items[items.size - 1 - i]? = some (items[items.size - 1 - i]'(by omega)) := Array.getElem?_eq_getElem (by omega)
    refine next_rt_item h2 h3 hx hsz fun h' h2' sb => hq _ h' _ hx ⟨by omega, ?_, IsTup.at' h3 fun o e => sb.2 t hne |>.trans e⟩ fun b o hb e => (sb.2 b (by simpa using hb)).trans e
    rw [show (items.size : Int) - 1 - ((i + 1 : Nat) : Int) = ((items.size - 1 - i : Nat) : Int) - 1 by omega]; exact h2'
  done := by
    intro s Q E ⟨h1, h2, h3⟩ hq
    rw [show (items.size : Int) - 1 - (items.size : Nat) = -1 by omega] at h2
    exact next_rt_end hh h2 fun h' eb => hq h' s.toks fun b o hb e => eb b o (by simpa using hb) e
  self := fun i s Q E ⟨_, h2, _⟩ q => iter_rt h2 q
theorem nolen_rt : typeLookup (.type "reversed") "__len__" = pure none := by rw [typeLookup_type, builtinLookup_eq_fast]; kernel_rfl
theorem hint_rt : typeLookup (.type "reversed") "__length_hint__" = pure (some (.builtin "reversed.__length_hint__")) := by rw [typeLookup_type, builtinLookup_eq_fast]; kernel_rfl
theorem slot_rt_hint : Slot "reversed" "__length_hint__" "reversed.__length_hint__" :=
  .of (owner := "reversed") (n := "__length_hint__") hint_rt (by decide +kernel) (by decide +kernel) (by decide +kernel) (by first | exact .inl (by decide +kernel) | exact .inr (by decide +kernel)) (by rw [isSubtype_type]; kernel_rfl)
theorem entry_rt_hint : entryFor table "reversed.__length_hint__" = some Builtin.«reversed.__length_hint__» := entryFor_of_tree (by kernel_rfl)
theorem args_rt_hint (a : Value) : argsOk "reversed.__length_hint__" ⟨[a], []⟩ := by
  unfold argsOk; rw [signature?_of (id := "reversed.__length_hint__") (n := "__length_hint__".toList.reverse) (o := "reversed".toList.reverse) (by kernel_rfl) owner_rt]; kernel_rfl
theorem call_rt_hint {it t : Addr} {items : Array Value} {Q : Value → Shared → Prop} (hit : IsRt s.heap it t ((items.size : Int) - 1)) (ht : IsTup s.heap t items) (hsz : items.size ≤ sizeLine) (h : ∀ tk, Q (.int items.size tk) { s with toks := tk + 1 }) : wpAny (model prog w) A (call (.builtin "reversed.__length_hint__") [.ref it]) Q E s := by
  obtain ⟨o, ho, hc, hd⟩ := id hit
  rw [sizeLine_eq] at hsz
  refine wpAny_call_entry slot_rt_hint hit.typeIs entry_rt_hint ?_ (args_rt_hint _)
  unfold Builtin.«reversed.__length_hint__»
  refine wpAny_bind (wpAny_of_eq (a := Value.ref it) rfl ?_)
  refine wpAny_bind (wpAny_field ho hd (x := .ref t) rfl ?_)
  try dsimp only
  rw [if_neg (by simp)]
  refine wpAny_bind (len_tuple ht (by omega) ?_)
  refine wpAny_bind (wpAny_of_eq (a := some (items.size : Int)) rfl ?_)
  try dsimp only
  refine wpAny_bind (wpAny_field (s := { s with toks := s.toks + 1 + 1 }) ho hd (x := rawInt ((items.size : Int) - 1)) rfl ?_)
  show wpAny _ _ (if (items.size : Int) < (items.size : Int) - 1 + 1 then _ else _) _ _ _
  rw [if_neg (by omega)]
  rw [show (items.size : Int) - 1 + 1 = items.size by omega]
  unfold retInt
  exact wpAny_bind (wpAny_mkInt (wpAny_pure ⟨_, rfl, h _⟩))
theorem hint_of_rt {it t : Addr} {items : Array Value} {Q : Bool → Shared → Prop} (x : IsRt s.heap it t ((items.size : Int) - 1)) (ht : IsTup s.heap t items) (hsz : items.size ≤ sizeLine) (h : ∀ b tk, Q b { s with toks := tk }) : wpAny (model prog w) A (Builtin.List.listLengthHint (.ref it)) Q E s := by
  have hT := x.typeIs
  have hz := hsz
  rw [sizeLine_eq] at hz
  unfold Builtin.List.listLengthHint
  refine wpAny_bind (wpAny_specialOf hT nolen_rt ?_)
  show wpAny _ A (specialOf (Value.ref it) (Str.ofString "__length_hint__") >>= _) _ _ _
  refine wpAny_bind (wpAny_specialOf hT hint_rt ?_)
  generalize hid : ("reversed.__length_hint__" : String) = id0
  wp_delta
  rw [show splitId id0 = some ("reversed", "__length_hint__") from by subst hid; decide +kernel]
  subst hid
  refine wpAny_bind (wpAny_isInstance (b := true) hT (by rw [isSubtype_type]; kernel_rfl) ?_)
  rw [if_neg (by decide)]
  try dsimp only
  rw [if_neg (by decide +kernel)]
  refine wpAny_bind (wpAny_rule ?_)
  refine wpAny_bind (wpAny_of_eq (slot_rt_hint.bind _) ?_)
  try dsimp only
  refine wpAny_bind (wpAny_attempt (call_rt_hint x ht hsz fun tk => ?_))
  try dsimp only

  have e : asInt? (Value.int (items.size : Int) tk) = pure (some (items.size : Int)) := by first | rfl | simp [asInt?] | kernel_rfl
  have e2 : Builtin.List.listFitsIndex (items.size : Int) = true := by unfold Builtin.List.listFitsIndex; simp; omega
  have e3 : Builtin.List.listTooLong ((items.size : Int)).toNat = false := by unfold Builtin.List.listTooLong; simp; exact hsz
  rw [e, pure_bind]
  have e4 : ¬ (items.size : Int) < 0 := by omega
  generalize (items.size : Int) = k at *
  simp only [e2, e3]
  rw [if_neg (by decide), if_neg e4, if_neg (by decide)]
  exact wpAny_pure (h _ _)
theorem touch_list {S : Addr} {c : Nat} {Q : Unit → Shared → Prop} (hS : s.heap.get? S = some { cls := .type "list", data := .seq #[] c }) (h : ∀ h' c', (∀ b o, b ≠ S → s.heap.get? b = some o → h'.get? b = some o) → h'.get? S = some { cls := .type "list", data := .seq #[] c' } → Q () { s with heap := h' }) : wpAny (model prog w) A (Builtin.List.listTouch (.ref S)) Q E s := by
  unfold Builtin.List.listTouch
  show wpAny _ _ (updateSeq S (·.push .none) >>= fun _ => updateSeq S (·.pop)) _ _ s
  refine wpAny_bind (wpAny_updateSeq hS rfl ?_)
  have h1 := Heap.get?_update_self (Obj.mapSeq (fun x => x.push Value.none)) hS rfl
  refine wpAny_updateSeq h1 rfl ?_
  have h2 := Heap.get?_update_self (Obj.mapSeq (fun x => x.pop)) h1 rfl
  exact h _ _ (fun b o hb e => (Heap.get?_update_other _ _ (Ne.symm hb)).trans ((Heap.get?_update_other _ _ (Ne.symm hb)).trans e)) h2
theorem extend_rt {R : Result → Shared → Prop} (hh : A.handled = none) {it t : Addr} (hne : t ≠ it) {items : Array Value} (S : Addr) (res : Value) (c₀ : Nat) (hit : IsRt s.heap it t ((items.size : Int) - 1)) (ht : IsTup s.heap t items) (hSi : S ≠ it) (hSt : S ≠ t) (hS : s.heap.get? S = some { cls := .type "list", data := .seq #[] c₀ })
    (hR : ∀ h' tk acc c', (∀ b o, b ≠ S → b ≠ it → s.heap.get? b = some o → h'.get? b = some o) → h'.get? S = some { cls := .type "list", dict := none, data := .seq acc c', slots := #[] } → ItemsOf (fun i v => items[items.size - 1 - i]? = some v) acc items.size → R (.ok (.ret res)) { s with heap := h', toks := tk }) (hn : items.size ≤ sizeLine) :
    wpAny (model prog w) A.in1 (Builtin.List.listExtendWith (.ref S) (.ref it) res)
      (fun fin s' => match fin with | .done f => R (.ok f) s' | .again c' => c'.quiet = true ∧ codeAny (model prog w) A c' R s') (fun e s' => R (.error e) s') s := by
  have hSf : S ∉ [it, t] := by simp [hSi, hSt]
  unfold Builtin.List.listExtendWith
  refine wpAny_bind (wpAny_typeOf hit.typeIs ?_)
  have h1 : Builtin.List.listSameRef (.ref S) (.ref it) = false := by simp [Builtin.List.listSameRef, hSi]
  have h2 : (Value.type "reversed" == Value.type "list") = false := by decide
  have h3 : (Value.type "reversed" == Value.type "tuple") = false := by decide
  simp only [h1, h2, h3, Bool.or_false, Bool.false_eq_true, if_false]
  refine wpAny_bind (iter_rt hit ?_)
  refine wpAny_bind (wpAny_holding (hint_of_rt hit ht hn fun b tk => ?_))
  have W := (walks_rt (prog := prog) (w := w) (A := A.in1) hh it t hne items hn).toS
  have loop : ∀ (h0 : Heap) (c' : Nat) (tk : Nat), (∀ b o, b ≠ S → s.heap.get? b = some o → h0.get? b = some o) → h0.get? S = some { cls := .type "list", data := .seq #[] c' } →
      wpAny (model prog w) A.in1 (again (.builtin "list.extend.loop" ⟨[.ref S, .ref it, res], []⟩)) (fun fin s' => match fin with | .done f => R (.ok f) s' | .again c' => c'.quiet = true ∧ codeAny (model prog w) A c' R s') (fun e s' => R (.error e) s') { s with heap := h0, toks := tk } := by
    intro h0 c' tk hk0 hS0
    refine wpAny_pure ⟨plainId_quiet PySem.F.plain_extend_loop _, codeAny_extend_loopS W hn _ hSf _ items.size 0 _ _ _ rfl (Nat.zero_le _) ⟨Nat.zero_le _, by rw [show (items.size : Int) - 1 - ((0 : Nat) : Int) = (items.size : Int) - 1 by omega]; exact hit.at fun o e => hk0 _ o (Ne.symm hSi) e, IsTup.at' ht fun o e => hk0 _ o (Ne.symm hSt) e⟩ hS0 (ItemsOf.nil _) fun s' acc c2 hm hS' hacc => ?_⟩
    rw [Moved.eq_with hm]
    refine hR s'.heap s'.toks acc c2 (fun b o hb hb2 e => hm.heap b o (fun hmem => ?_) (hk0 b o hb e)) hS' hacc
    rcases List.mem_cons.mp hmem with e' | hmem
    · exact hb e'
    · exact hb2 (List.mem_singleton.mp hmem)
  split
  · refine wpAny_bind (wpAny_rule (wpAny_bind (touch_list (s := { s with toks := tk }) hS fun h0 c0 hk0 hS0 => ?_)))
    exact loop h0 c0 tk hk0 hS0
  · exact loop s.heap _ tk (fun _ _ _ e => e) hS
theorem init_rt {R : Result → Shared → Prop} (hh : A.handled = none) {it t : Addr} (hne : t ≠ it) {items : Array Value} (S : Addr) (hit : IsRt s.heap it t ((items.size : Int) - 1)) (ht : IsTup s.heap t items) (hSi : S ≠ it) (hSt : S ≠ t) (hS : s.heap.get? S = some { cls := .type "list", data := .seq #[] })
    (hR : ∀ h' tk acc c', (∀ b o, b ≠ S → b ≠ it → s.heap.get? b = some o → h'.get? b = some o) → h'.get? S = some { cls := .type "list", dict := none, data := .seq acc c', slots := #[] } → ItemsOf (fun i v => items[items.size - 1 - i]? = some v) acc items.size → R (.ok (.ret .none)) { s with heap := h', toks := tk }) (hn : items.size ≤ sizeLine) :
    wpAny (model prog w) A.in1 (Builtin.«list.__init__» ⟨[.ref S, .ref it], []⟩)
      (fun fin s' => match fin with | .done f => R (.ok f) s' | .again c' => c'.quiet = true ∧ codeAny (model prog w) A c' R s') (fun e s' => R (.error e) s') s := by
  show wpAny _ _ (do let old ← Builtin.List.listItems (.ref S); Builtin.List.listUpdate (.ref S) (fun _ => #[]); letGo old.toList.reverse; Builtin.List.listExtendWith (.ref S) (.ref it) .none) _ _ s
  refine wpAny_bind ?_
  unfold Builtin.List.listItems
  refine wpAny_bind (wpAny_seqItems hS rfl (wpAny_pure ?_))
  show wpAny _ _ (updateSeq S (fun _ => #[]) >>= fun _ => letGo (#[] : Array Value).toList.reverse >>= fun _ => Builtin.List.listExtendWith (.ref S) (.ref it) .none) _ _ s
  refine wpAny_bind (wpAny_updateSeq hS rfl ?_)
  have hS2 := Heap.get?_update_self (Obj.mapSeq (fun _ => (#[] : Array Value))) hS rfl
  have oth : ∀ b o, b ≠ S → s.heap.get? b = some o → (s.heap.update S (Obj.mapSeq (fun _ => (#[] : Array Value)))).get? b = some o := fun b o hb e => (Heap.get?_update_other _ _ (Ne.symm hb)).trans e
  refine wpAny_bind (wpAny_letGo ?_)
  exact extend_rt hh hne S .none _ (hit.at fun o e => oth _ o (Ne.symm hSi) e) (IsTup.at' ht fun o e => oth _ o (Ne.symm hSt) e) hSi hSt hS2 (fun h' tk acc c' hk hS' ha => hR h' tk acc c' (fun b o h1 h2 e => hk b o h1 h2 (oth b o h1 e)) hS' ha) hn
theorem call_list_rt {it t : Addr} {items : Array Value} {Q : Value → Shared → Prop} (hh : A.handled = none) (hne : t ≠ it) (hit : IsRt s.heap it t ((items.size : Int) - 1)) (ht : IsTup s.heap t items) (hn : items.size ≤ sizeLine)
    (hQ : ∀ h' tk acc c', (∀ b o, b ≠ it → s.heap.get? b = some o → h'.get? b = some o) → h'.get? s.heap.objs.size = some { cls := .type "list", dict := none, data := .seq acc c', slots := #[] } → ItemsOf (fun i v => items[items.size - 1 - i]? = some v) acc items.size → Q (.ref s.heap.objs.size) { s with heap := h', toks := tk }) :
    wpAny (model prog w) A (call (.type "list") [.ref it]) Q E s := by
  refine callType_codes (Q₁ := fun obj s₁ => obj = .ref s.heap.objs.size ∧ s₁ = { s with heap := s.heap.push { cls := .type "list", data := .seq #[] } }) PySem.F.called_list (PySem.F.typeCall_list_1 _) PySem.F.entry_list_init (code_list_new _ ⟨rfl, rfl⟩) fun obj s1 h1 => ?_
  obtain ⟨rfl, rfl⟩ := h1
  obtain ⟨oi, hoi, _⟩ := id hit
  obtain ⟨ot, hot, _⟩ := id ht
  have hS : (s.heap.push { cls := .type "list", data := .seq #[] }).get? s.heap.objs.size = some { cls := .type "list", data := .seq #[] } := Heap.get?_push_size _ rfl
  have old : ∀ b o, s.heap.get? b = some o → (s.heap.push { cls := .type "list", data := .seq #[] }).get? b = some o := fun b o e => Heap.get?_push_of_some _ e
  refine ⟨⟨_, hS, rfl⟩, PySem.F.args_list_init_2 _ _, init_rt (A := A.in1) hh hne _ (hit.at fun o e => old _ o e) (IsTup.at' ht fun o e => old _ o e) (Nat.ne_of_gt (Heap.lt_size hoi)) (Nat.ne_of_gt (Heap.lt_size hot)) hS (fun h' tk acc c' hk hS' ha => ?_) hn⟩
  exact ⟨rfl, hQ h' tk acc c' (fun b o hb e => hk b o (Nat.ne_of_lt (Heap.lt_size e)) hb (old b o e)) hS' ha⟩
end
def tListRev (K : PySem.W.Frag) (te : TE) : TE := fun σ H Q => te σ H fun v H1 => ∃ (a : Addr) (xs : List V), v = .ref a ∧ SqT K H1 a xs ∧ ∀ q, H1 q = none → Q (.ref q) (upd H1 q (.lst xs.reverse))
theorem pe_listRev {X : Cx} {e : Expr} {te : TE} {p p2 pos pos2 : Pos} (hc : X.calm = true) (hg : Gl X "list") (hm : X.mg "list" = none) (hg2 : Gl X "reversed") (hm2 : X.mg "reversed" = none) (he : PE X e te)
    (hs : starEach [e] X.env = (false, eval e X.env) :: starEach [] X.env) (hs2 : starEach [.Call (.Name "reversed" p2) [e] [] pos2] X.env = (false, eval (.Call (.Name "reversed" p2) [e] [] pos2) X.env) :: starEach [] X.env) :
    PE X (.Call (.Name "list" p) [.Call (.Name "reversed" p2) [e] [] pos2] [] pos) (tListRev X.K te) := by
  refine ⟨fun pins s σ H Q I h => ?_⟩
  refine Call_ (ld_blt I hg hm PyProof.Rows.boot_list (PyProof.Rows.callWith_type1 (args_cons (Call_ (ld_blt I hg2 hm2 PyProof.Rows.boot_reversed (PyProof.Rows.callWith_type1 (args_cons (thn (he.run pins s σ H _ I h) fun u s1 ⟨v, H1, I1, r1, q1⟩ => args_nil ?_) hs) hs rfl))) hs2) hs2 rfl))
  obtain ⟨a, xs, ev, hq, q⟩ := q1
  subst ev
  obtain rfl : u = Value.ref a := r1
  obtain ⟨its, rv, p', hz⟩ := I1.tuple hq
  have hn : its.toArray.size ≤ sizeLine := by rw [List.size_toArray, ← rv.length]; exact hz
  obtain ⟨ot, hot, _⟩ := id p'
  refine call_reversed_tup p' (fun A E Q k => len_tuple p' (by rw [sizeLine_eq] at hn; omega) k) (args_nil ?_)
  have k0 : ∀ b o, s1.heap.get? b = some o → (s1.heap.push (rtObj a ((its.toArray.size : Int) - 1))).get? b = some o := fun b o e => Heap.get?_push_of_some _ e
  have I2 : Inv X pins σ H1 { s1 with heap := s1.heap.push (rtObj a ((its.toArray.size : Int) - 1)), toks := s1.toks + 1 + 1 } := I1.kept (t' := s1.toks + 1 + 1) k0
  obtain ⟨f0, f1, f2, f3, f4, f5⟩ := I1.fpOk (H' := H1) (b := s1.heap.objs.size) (Nat.le_refl _) (I1.hok.fresh (Nat.le_refl _))
  have hne : a ≠ s1.heap.objs.size := Nat.ne_of_lt (Heap.lt_size hot)
  refine call_list_rt (s := { s1 with heap := s1.heap.push (rtObj a ((its.toArray.size : Int) - 1)), toks := s1.toks + 1 + 1 }) (I1.ok.hd hc) hne ⟨_, Heap.get?_push_size _ rfl, rfl, rfl⟩ (IsTup.at' p' fun o e => k0 _ o e) hn fun h' tk acc c' hk hS ha => ?_
  have keep : ∀ b o, s1.heap.get? b = some o → h'.get? b = some o := fun b o e => hk b o (Nat.ne_of_lt (Heap.lt_size e)) (k0 b o e)
  have hle : s1.heap.objs.size ≤ (s1.heap.push (rtObj a ((its.toArray.size : Int) - 1))).objs.size := by simp [Heap.push]
  refine ⟨.ref _, upd H1 _ (.lst xs.reverse), I1.laid (t' := tk) keep hle (show ObjOk X.prog X.w _ _ _ (.lst xs.reverse) from ⟨by rw [List.length_reverse]; exact hz, acc.toList, c', vals_rev rv ha, ?_⟩), rfl, q _ (I1.hok.fresh hle)⟩
  rw [Array.toArray_toList]; exact hS
end Zk

namespace Zk
open PySem L2
section
variable {τ α : Type} {G : Gx} {c : Sc} {E : Eff τ} {W : WX} {Γ : Env}
def frev (xs : List α) : M τ (List α) := ret xs.reverse
theorem z_listRev {R : Rel α} {e : Expr} {m : M τ (List α)} {p p2 pos pos2 : Pos} (g1 : Gb c "list") (m1 : G.mg "list" = none) (g2 : Gb c "reversed") (m2 : G.mg "reversed" = none) (h : ZE G c E W Γ e m (rVT R)) (hs : Star e [] := by intro _; rfl) (hs2 : Star (.Call (.Name "reversed" p2) [e] [] pos2) [] := by intro _; rfl) :
    ZE G c E W Γ (.Call (.Name "list" p) [.Call (.Name "reversed" p2) [e] [] pos2] [] pos) (zapp frev m) (rLst R) := fun X C =>
  pe_wk (pe_listRev C.calm (C.gl g1) (by rw [C.mg]; exact m1) (C.gl g2) (by rw [C.mg]; exact m2) (h X C) (hs _) (hs2 _)) fun σ H Q _ ⟨B, S, b, hh, q⟩ => by
    refine tz_bnd hh q fun x b1 v S1 H1 s1 h1 r1 q1 => ?_
    obtain ⟨a, vs, e1, e2, e3⟩ := r1
    exact ⟨a, vs, e1, .of (h1.same _ _ e2), fun l hl => aft_new h1 q1 hl (rLst_new (h1.same.free hl) e3.reverse)⟩
end
end Zk

namespace Zk
open PySem L2

section
variable {τ α β γ δ κ ρ ι θ : Type} {G : Gx} {c : Sc} {E : Eff τ} {W : WX} {Γ Γ' : Env} {B : Bs} {σ : St} {S S1 S' H H' : Hp} {b b' : τ} {L : Ls κ ρ}
/-! ### own lists of own lists -/
/-- the lists at rs are what xss tells -/
def Rows (R : Rel α) (S H : Hp) (rs : List Addr) (xss : List (List α)) : Prop := All2 (fun xs r => ∃ vs, H r = some (.lst vs) ∧ All2 (fun x v => R.is x S v) xs vs) xss rs
theorem ne_mem {a p : Addr} {rs : List Addr} (h : p ∉ rs) (ha : a ∈ rs) : a ≠ p := fun z => h (by rw [← z]; exact ha)
theorem Rows.mono {R : Rel α} {rs : List Addr} (s : Same S S') (k : ∀ a o, a ∈ rs → H a = some o → H' a = some o) : ∀ {rs' : List Addr} {xss : List (List α)}, (∀ a, a ∈ rs' → a ∈ rs) → Rows R S H rs' xss → Rows R S' H' rs' xss
  | [], [], _, _ => trivial
  | r :: rs', xs :: xss, hm, ⟨⟨vs, e, q⟩, h⟩ => ⟨⟨vs, k _ _ (hm r (by simp)) e, All2.rel s q⟩, Rows.mono s k (fun a ha => hm a (by simp [ha])) h⟩
  | [], _ :: _, _, h => h.elim
  | _ :: _, [], _, h => h.elim
def ownLL (R : Rel α) (rs : List Addr) (xss : List (List α)) : PrO := ⟨fun S H v F => ∃ l, v = .ref l ∧ l ∉ rs ∧ rs.Nodup ∧ (∀ a, F a ↔ a = l ∨ a ∈ rs) ∧ H l = some (.lst (rs.map V.ref)) ∧ Rows R S H rs xss,
  fun s k ⟨l, e, n, d, f, h, q⟩ => ⟨l, e, n, d, f, k _ _ ((f l).mpr (.inl rfl)) h, Rows.mono s (fun a o ha e => k a o ((f a).mpr (.inr ha)) e) (fun _ z => z) q⟩⟩
/-- .. at whatever addresses -/
def ownLX (R : Rel α) (xss : List (List α)) : PrO := ⟨fun S H v F => ∃ rs, (ownLL R rs xss).p S H v F, fun s k ⟨rs, h⟩ => ⟨rs, (ownLL R rs xss).mono s k h⟩⟩
theorem rows_st {R : Rel α} {rs : List Addr} : ∀ {rs' : List Addr} {xss : List (List α)}, (∀ a o, a ∈ rs → H a = some o → S' a = some o) → Same S S' → (∀ a, a ∈ rs' → a ∈ rs) → Rows R S H rs' xss → All2 (fun xs v => (rLst R).is xs S' v) xss (rs'.map V.ref)
  | [], [], _, _, _, _ => trivial
  | r :: rs', xs :: xss, k, s, hm, ⟨⟨vs, e, q⟩, h⟩ => ⟨⟨r, vs, rfl, k _ _ (hm r (by simp)) e, All2.rel s q⟩, rows_st k s (fun a ha => hm a (by simp [ha])) h⟩
  | [], _ :: _, _, _, _, h => h.elim
  | _ :: _, [], _, _, _, h => h.elim
theorem one_LL {R : Rel α} {rs : List Addr} {xss : List (List α)} : One (ownLL R rs xss) ((rLst (rLst R)).pr xss) :=
  ⟨fun ⟨l, e, n, d, f, h, q⟩ S' s k => ⟨l, _, e, k _ _ ((f l).mpr (.inl rfl)) h, rows_st (rs := rs) (fun a o ha e => k a o ((f a).mpr (.inr ha)) e) s (fun _ z => z) q⟩⟩
theorem one_LX {R : Rel α} {xss : List (List α)} : One (ownLX R xss) ((rLst (rLst R)).pr xss) := ⟨fun ⟨rs, h⟩ S' s k => one_LL.at_ h S' s k⟩

/-! making: a display of new lists -/
def aftAL (G : Gx) (E : Eff τ) (W : WX) (B : Bs) (Γ : Env) (σ : St) (S : Hp) (R : Rel α) (Q : List V → Hp → Prop) : Out τ (List (List α)) → Prop
  | .ok xss b' => ∀ rs S' H1 H', Same S S' → Hold E B Γ b' σ S' H1 → rs.Nodup → (∀ r ∈ rs, H1 r = none) → (∀ x, x ∉ rs → H' x = H1 x) → Rows R S' H' rs xss → Q (rs.map V.ref) H'
  | .exc x b' => ∀ c d S' H', Same S S' → Hold E B Γ b' σ S' H' → XAt G x H' c d → W c d σ H'
  | .stuck => False
theorem aftAL.same {R : Rel α} {Q : List V → Hp → Prop} (s : Same S S1) : ∀ {o : Out τ (List (List α))}, aftAL G E W B Γ σ S R Q o → aftAL G E W B Γ σ S1 R Q o
  | .ok _ _, h => fun v S' H1 H' s2 => h v S' H1 H' (s.trans s2)
  | .exc _ _, h => fun c d S' H' s2 => h c d S' H' (s.trans s2)
  | .stuck, h => h
def ZAL (G : Gx) (c : Sc) (E : Eff τ) (W : WX) (Γ : Env) (es : List Expr) (m : M τ (List (List α))) (R : Rel α) : Prop := ∀ X, CtxOk G c W X → PA X es fun σ H Q => ∃ B S b, Hold E B Γ b σ S H ∧ aftAL G E W B Γ σ S R Q (m b)
theorem zal_nil {R : Rel α} : ZAL G c E W Γ [] (ret []) R := fun X C => pa_wk pa_nil fun σ H Q _ ⟨B, S, b, hh, q⟩ => q [] S H H (Same.refl _) hh (by simp) (by simp) (by simp) trivial
theorem Hold.bOld {D : Addr} {o : HO} (h : Hold E B Γ b σ S H) (hD : H D = none) : B.S D = none ∧ (B.H D = none) := by
  have hS : B.S D = none := by
    cases e : B.S D with
    | none => rfl
    | some u => have := h.same _ _ (h.kp.up _ _ e); rw [hD] at this; cases this
  refine ⟨hS, ?_⟩
  cases e : B.H D with
  | none => rfl
  | some u => have := (h.kp.kp D u hS e (h.fr hD)).2; rw [hD] at this; cases this
theorem Hold.unBd {D : Addr} {o : HO} (h : Hold E (Bd B D o) Γ b σ S H) (hBH : B.H D = none) : Hold E B Γ b σ S H := by
  obtain ⟨Fs, hF, hs⟩ := h.sl
  refine ⟨⟨h.kp.same, h.kp.up, fun a u h1 h2 h3 => ?_⟩, h.ef, Fs, ⟨fun i a e => ?_, hF.ds⟩, hs⟩
  · have ha : a ≠ D := fun z => by rw [z, hBH] at h2; cases h2
    exact h.kp.kp a u h1 (by show upd B.H D o a = some u; rw [upd_ne ha]; exact h2) h3
  · obtain ⟨r1, r2, r3, r4⟩ := hF.at_ i a e
    have r2 : upd B.H D o a = none := r2
    have ha : a ≠ D := fun z => by rw [z, upd_same] at r2; cases r2
    rw [upd_ne ha] at r2
    exact ⟨r1, r2, r3, r4⟩
theorem zal_cons {e : Expr} {es : List Expr} {m : M τ (List α)} {n : M τ (List (List α))} {R : Rel α} (h : ZF G c E W Γ e m (ownL R)) (h2 : ZAL G c E W Γ es n R) (hs : Star e es := by intro _; rfl) : ZAL G c E W Γ (e :: es) (zcons m n) R := fun X C =>
  pa_wk (pa_cons (h X C) (h2 X C) (hs X.env)) fun σ H Q _ ⟨B, S, b, hh, q⟩ => by
    refine ⟨B, S, b, hh, ?_⟩
    unfold zcons bnd at q
    cases e1 : m b with
    | stuck => rw [e1] at q; exact q.elim
    | exc x b1 => rw [e1] at q; exact q
    | ok xs b1 =>
      rw [e1] at q
      intro v S1 H1 H1' F s1 h1 hF hk ⟨l, vs, e2, f, hl, hq⟩
      have fl : F l := (f l).mpr rfl
      have hn := (hF l fl).1
      have eH : H1' = upd H1 l (.lst vs) := by
        funext x
        by_cases hx : x = l
        · subst hx; rw [hl, upd_same]
        · rw [hk x fun z => hx ((f x).mp z), upd_ne hx]
      obtain ⟨bS, bH⟩ := h1.bOld (o := .lst vs) hn
      have nE := h1.fr hn
      refine ⟨Bd B l (.lst vs), S1, b1, by rw [eH]; exact h1.cell0 hn, ?_⟩
      have q : aftAL G E W B Γ σ S R Q ((bnd n fun y => ret (xs :: y)) b1) := q
      unfold bnd at q
      cases e3 : n b1 with
      | stuck => rw [e3] at q; exact q.elim
      | exc x b2 =>
        rw [e3] at q
        intro c d S2 H2 s2 h2 xa
        exact q c d S2 H2 (s1.trans s2) (h2.unBd bH) xa
      | ok xss b2 =>
        rw [e3] at q
        intro rs S2 H2 H2' s2 h2 nd hr hk2 hrow
        obtain ⟨cS, cH⟩ := h2.cellAt bS nE
        have nl : l ∉ rs := fun z => by rw [hr l z] at cH; cases cH
        have h3 := h2.cellOff bS bH nE
        rw [e2]
        refine q (l :: rs) S2 (del H2 l) H2' (s1.trans s2) h3 (List.nodup_cons.mpr ⟨nl, nd⟩) (fun r hr' => ?_) (fun x hx => ?_) ⟨⟨vs, ?_, All2.rel s2 hq⟩, hrow⟩
        · rcases List.mem_cons.mp hr' with z | z
          · subst z; exact del_same
          · rw [del_ne (fun y => nl (by rw [← y]; exact z))]; exact hr r z
        · have : x ≠ l := fun z => hx (by simp [z])
          rw [del_ne this]; exact hk2 x fun z => hx (by simp [z])
        · rw [hk2 l nl]; exact cH
/-- a new own list of new own lists -/
theorem zf_LX {es : List Expr} {m : M τ (List (List α))} {R : Rel α} {pos : Pos} (h : ZAL G c E W Γ es m R) : ZF G c E W Γ (.List es pos) (zlist m) (ownLX R) := fun X C => pe_wk (pe_lst (h X C)) fun σ H Q _ ⟨B, S, b, hh, q⟩ => by
  refine ⟨B, S, b, hh, ?_⟩
  unfold zlist bnd at q
  cases e1 : m b with
  | stuck => rw [e1] at q; exact q.elim
  | exc x b1 => rw [e1] at q; exact q
  | ok xss b1 =>
    rw [e1] at q
    intro rs S1 H1 H' s1 h1 nd hr hk hrow
    have q : aftF G E W B Γ σ S (ownLX R) Q (chk (xss.length ≤ sizeLine) (ret xss) b1) := q
    obtain ⟨hl, q2⟩ := aftF_chk q
    have el : rs.length = xss.length := hrow.length.symm
    refine ⟨by rw [List.length_map, el]; exact hl, fun p hp => ?_⟩
    have np : p ∉ rs := fun z => by
      obtain ⟨i, hi, rfl⟩ := List.mem_iff_getElem.mp z
      obtain ⟨xs, _, vs, e, _⟩ := hrow.get' (List.getElem?_eq_getElem hi)
      rw [hp] at e; cases e
    refine q2 (.ref p) S1 H1 (upd H' p (.lst (rs.map V.ref))) (fun a => a = p ∨ a ∈ rs) s1 h1 (fun x hx => ?_) (fun x hx => ?_) ⟨rs, p, rfl, np, nd, fun _ => Iff.rfl, upd_same, Rows.mono (Same.refl _) (rs := rs) (fun a o ha e => by rw [upd_ne (ne_mem np ha)]; exact e) (fun _ z => z) hrow⟩
    · rcases hx with rfl | hx
      · exact ⟨by rw [← hk x np]; exact hp, _, upd_same⟩
      · refine ⟨hr x hx, ?_⟩
        obtain ⟨i, hi, rfl⟩ := List.mem_iff_getElem.mp hx
        obtain ⟨xs, _, vs, e, _⟩ := hrow.get' (List.getElem?_eq_getElem hi)
        exact ⟨_, by rw [upd_ne (ne_mem np hx)]; exact e⟩
    · rw [upd_ne fun z => hx (.inl z)]; exact hk x fun z => hx (.inr z)
/-- the addresses are told -/
theorem zb_open {i : Nat} {R : Rel α} {xss : List (List α)} {sts : List Stmt} {m : M τ (Fl β κ ρ)} {Γn : β → Env} (hi : Γ[i]? = some (.ow (ownLX R xss))) (h : ∀ rs, ZB G c E W L (Γ.set i (.ow (ownLL R rs xss))) sts m Γn) : ZB G c E W L Γ sts m Γn := fun X C =>
  pss_wk (pss_ex fun rs => h rs X C) fun D σ H _ ⟨B, S, b, hh, q⟩ => by
    obtain ⟨Fs, hF, hs⟩ := id hh.sl
    obtain ⟨v, e1, rs, e2⟩ := hs i _ hi
    refine ⟨rs, B, S, b, ⟨hh.kp, hh.ef, Fs, hF, fun j s e => ?_⟩, q⟩
    rcases set_get e with ⟨rfl, rfl⟩ | ⟨n, e⟩
    · exact ⟨v, e1, e2⟩
    · exact hs j s e
/-- what a slot owns -/
theorem ll_at {R : Rel α} {rs : List Addr} {xss : List (List α)} {i : Nat} (h : Hold E B Γ b σ S H) (hi : Γ[i]? = some (.ow (ownLL R rs xss))) : ∃ l, σ[i]? = some (some (.ref l)) ∧ l ∉ rs ∧ rs.Nodup ∧ H l = some (.lst (rs.map V.ref)) ∧ Rows R S H rs xss := by
  obtain ⟨Fs, hF, hs⟩ := h.sl
  obtain ⟨v, e1, l, rfl, n, d, f, hl, q⟩ := hs i _ hi
  exact ⟨l, slot_get e1, n, d, hl, q⟩
theorem Rows.at_ {R : Rel α} : ∀ {rs : List Addr} {xss : List (List α)} {j : Nat} {xs : List α}, Rows R S H rs xss → xss[j]? = some xs → ∃ r vs, rs[j]? = some r ∧ H r = some (.lst vs) ∧ All2 (fun x v => R.is x S v) xs vs := fun {rs xss j xs} h e => by
  obtain ⟨r, e2, vs, e3, e4⟩ := All2.get (β := Addr) h e
  exact ⟨r, vs, e2, e3, e4⟩
/-- one of the own lists is written -/
theorem Hold.row {R : Rel α} {rs : List Addr} {xss : List (List α)} {i j : Nat} {r : Addr} {ys : List α} {vs : List V} (h : Hold E B Γ b σ S H) (hi : Γ[i]? = some (.ow (ownLL R rs xss))) (hr : rs[j]? = some r) (hv : All2 (fun x v => R.is x S v) ys vs) :
    Hold E B (Γ.set i (.ow (ownLL R rs (xss.set j ys)))) b σ S (upd H r (.lst vs)) := by
  obtain ⟨l, e1, n, d, hl, q⟩ := ll_at h hi
  have hlt := (List.getElem?_eq_some_iff.mp e1).1
  have hm : r ∈ rs := by obtain ⟨hj, e⟩ := List.getElem?_eq_some_iff.mp hr; rw [← e]; exact List.getElem_mem hj
  rw [show σ = σ.set i (some (.ref l)) from (slot_set e1).symm]
  refine Hold.mut h hlt (F' := fun a => a = l ∨ a ∈ rs) (fun a hn => upd_ne fun z => hn (.inr (z ▸ hm))) (fun a ha => ?_) ⟨l, rfl, n, d, fun _ => Iff.rfl, ?_, ?_⟩
  · constructor
    · by_cases z : a = r
      · subst z; exact ⟨_, upd_same⟩
      · rw [upd_ne z]
        rcases ha with rfl | ha
        · exact ⟨_, hl⟩
        · obtain ⟨k, hk, rfl⟩ := List.mem_iff_getElem.mp ha
          obtain ⟨_, _, vs, e, _⟩ := All2.get' (β := Addr) q (List.getElem?_eq_getElem hk)
          exact ⟨_, e⟩
    · refine .inr fun Fs hF hs => ?_
      obtain ⟨v, z1, l', rfl, n', d', f', hl', q'⟩ := hs i _ hi
      rw [e1] at z1; cases z1
      exact (f' a).mpr ha
  · rw [upd_ne fun z => n (by rw [z]; exact hm)]; exact hl
  · have : ∀ (rs : List Addr) (xss : List (List α)) (j : Nat), rs.Nodup → rs[j]? = some r → Rows R S H rs xss → Rows R S (upd H r (.lst vs)) rs (xss.set j ys) := by
      intro rs
      induction rs with
      | nil => intro xss j _ e; simp at e
      | cons r0 rs ih =>
        intro xss j nd e q
        match xss, q with
        | xs :: xss, ⟨⟨us, e1, e2⟩, q⟩ =>
          obtain ⟨n0, nd⟩ := List.nodup_cons.mp nd
          cases j with
          | zero =>
            simp at e
            subst e
            exact ⟨⟨vs, upd_same, hv⟩, Rows.mono (rs := rs) (Same.refl _) (fun a o ha e => by rw [upd_ne (ne_mem n0 ha)]; exact e) (fun _ z => z) q⟩
          | succ j =>
            simp at e
            have hm : r ∈ rs := by obtain ⟨hj, e⟩ := List.getElem?_eq_some_iff.mp e; rw [← e]; exact List.getElem_mem hj
            exact ⟨⟨us, by rw [upd_ne (Ne.symm (ne_mem n0 hm))]; exact e1, e2⟩, ih xss j nd e q⟩
    exact this rs xss j d hr q
/-! one of the lists, by its place -/
def rRow (rs : List Addr) : Rel Nat := ⟨fun j _ v => ∃ r, rs[j]? = some r ∧ v = .ref r, fun _ h => h⟩
theorem atI_nat' {xs : List β} {i : Int} {x : β} (h : atI xs i = some x) : ∃ j, ixN xs.length i = some j ∧ xs[j]? = some x := by
  unfold atI at h
  cases e : ixN xs.length i with
  | none => rw [e] at h; cases h
  | some j => rw [e] at h; exact ⟨j, rfl, h⟩
def rowix (n : Nat) (i : Int) : M τ Nat := match ixN n i with | some j => ret j | none => stk
/-- xss[i] -/
theorem z_row {R : Rel α} {rs : List Addr} {xss : List (List α)} {i : Nat} {x : Str} {p1 pos : Pos} {e : Expr} {m : M τ Int} (n : Nm c i x) (hi : Γ[i]? = some (.ow (ownLL R rs xss))) (h : ZE G c E W Γ e m rInt) (hs : PIx e := by intro _ _; rfl) :
    ZE G c E W Γ (.Subscript (.Name x p1) e pos) (bnd m (rowix xss.length)) (rRow rs) := fun X C =>
  pe_wk (pe_ix ix_list (pe_var (C.hi n.n) (by rw [C.sc]; exact n.v) n.d n.cd) (h X C) hs) fun σ H Q _ ⟨B, S, b, hh, q⟩ => by
    obtain ⟨l, e1, _⟩ := ll_at hh hi
    refine ⟨.ref l, e1, ?_⟩
    refine tz_bnd hh q fun k b1 v S1 H1 s1 h1 r1 q1 => ?_
    obtain ⟨l', e1', nl, d, hl, hq⟩ := ll_at h1 hi
    rw [e1] at e1'; cases e1'
    unfold rowix at q1
    have el : rs.length = xss.length := hq.length.symm
    cases e2 : ixN xss.length k with
    | none => rw [e2] at q1; exact q1.elim
    | some j =>
      rw [e2] at q1
      have hj : j < rs.length := by rw [el]; exact (ixN_seq e2).2.1
      refine ⟨l, _, k, .ref rs[j], rfl, r1, .of hl, ?_, aft_ret h1 q1 ⟨rs[j], by simp [hj], rfl⟩⟩
      unfold atI
      rw [List.length_map, el, e2]
      show (rs.map V.ref)[j]? = _
      rw [List.getElem?_map, List.getElem?_eq_getElem hj]; rfl
/-- a or b, of rows -/
def rowor (xss : List (List α)) (m n : M τ Nat) : M τ Nat := bnd m fun j => match xss[j]? with | some xs => if xs.isEmpty = true then n else ret j | none => stk
theorem z_rowOr {R : Rel α} {rs : List Addr} {xss : List (List α)} {i : Nat} {ea eb : Expr} {m n : M τ Nat} {pos : Pos} (hi : Γ[i]? = some (.ow (ownLL R rs xss))) (ha : ZE G c E W Γ ea m (rRow rs)) (hb : ZE G c E W Γ eb n (rRow rs)) :
    ZE G c E W Γ (.BoolOp .Or [ea, eb] pos) (rowor xss m n) (rRow rs) := fun X C => pe_wk (pe_orT (ha X C) (pe_one (hb X C))) fun σ H Q _ ⟨B, S, b, hh, q⟩ => by
  refine tz_bnd hh q fun j b1 v S1 H1 s1 h1 r1 q1 => ?_
  obtain ⟨l, e1, _, _, _, hq⟩ := ll_at h1 hi
  obtain ⟨r, er, rfl⟩ := r1
  cases e2 : xss[j]? with
  | none => rw [e2] at q1; exact q1.elim
  | some xs =>
    rw [e2] at q1
    obtain ⟨r', vs, e3, e4, e5⟩ := hq.at_ e2
    rw [er] at e3; cases e3
    have el := e5.length
    refine ⟨!vs.isEmpty, .inl ⟨vs, .of e4, rfl⟩, ?_⟩
    have ee : vs.isEmpty = xs.isEmpty := by
      cases xs <;> cases vs <;> simp_all
    rw [ee]
    cases hz : xs.isEmpty with
    | true => dsimp only at q1; rw [if_pos hz] at q1; exact ⟨B, S1, b1, h1, q1⟩
    | false => dsimp only at q1; rw [if_neg (by rw [hz]; simp)] at q1; exact aft_ret h1 q1 ⟨r, er, rfl⟩
def rowlen (xss : List (List α)) (m : M τ Nat) : M τ Int := bnd m fun j => match xss[j]? with | some xs => ret (xs.length : Int) | none => stk
theorem z_rowLen {R : Rel α} {rs : List Addr} {xss : List (List α)} {i : Nat} {x : Str} {e : Expr} {m : M τ Nat} {p pos : Pos} (hi : Γ[i]? = some (.ow (ownLL R rs xss))) (bl : Blt G c x (.builtin "len")) (ha : ZE G c E W Γ e m (rRow rs)) (hs : Star e [] := by intro _; rfl) :
    ZE G c E W Γ (.Call (.Name x p) [e] [] pos) (rowlen xss m) rInt :=
  z_b1 bl (R := rRow rs) (f := fun j => match xss[j]? with | some xs => ret (xs.length : Int) | none => stk) (r := fun xs H Q => ∃ p ys, xs = [.ref p] ∧ (SqL G.K H p ys ∨ SqT G.K H p ys) ∧ Q (.int ys.length) H) (fun X C => by rw [← C.K]; exact call_len_seq) (fun B σ S H b j v Q hh e q => by
    obtain ⟨r, er, rfl⟩ := e
    obtain ⟨l, e1, _, _, _, hq⟩ := ll_at hh hi
    cases e2 : xss[j]? with
    | none => dsimp only at q; rw [e2] at q; exact q.elim
    | some xs =>
      dsimp only at q
      rw [e2] at q
      obtain ⟨r', vs, e3, e4, e5⟩ := hq.at_ e2
      rw [er] at e3; cases e3
      exact ⟨r, vs, rfl, .inl (.of e4), by rw [← e5.length]; exact aft_ret hh q rfl⟩) ha hs
/-- row[k] -/
def rowat (xss : List (List α)) (j : Nat) (k : Int) : M τ α := match xss[j]? with | some xs => ixat xs k | none => stk
theorem z_rowIx {R : Rel α} {rs : List Addr} {xss : List (List α)} {i : Nat} {ea eb : Expr} {m : M τ Nat} {n : M τ Int} {pos : Pos} (hi : Γ[i]? = some (.ow (ownLL R rs xss))) (ha : ZE G c E W Γ ea m (rRow rs)) (hb : ZE G c E W Γ eb n rInt) (hs : PIx eb := by intro _ _; rfl) :
    ZE G c E W Γ (.Subscript ea eb pos) (zop2 (rowat xss) m n) R := fun X C => pe_wk (pe_ix ix_list (ha X C) (hb X C) hs) fun _ _ _ _ q => by
  rw [C.K]
  refine tz_op2 (fun B σ S H b j k v w Q hh e1 e2 q => ?_) q
  obtain ⟨r, er, rfl⟩ := e1
  obtain ⟨l, _, _, _, _, hq⟩ := ll_at hh hi
  unfold rowat at q
  cases e3 : xss[j]? with
  | none => rw [e3] at q; exact q.elim
  | some xs =>
    rw [e3] at q
    obtain ⟨r', vs, e4, e5, e6⟩ := hq.at_ e3
    rw [er] at e4; cases e4
    dsimp only at q
    unfold ixat at q
    cases z : atI xs k with
    | none => rw [z] at q; exact q.elim
    | some x =>
      rw [z] at q
      obtain ⟨u, h1, h2⟩ := e6.atI z
      exact ⟨r, vs, k, u, rfl, e2, .of e5, h1, aft_ret hh q h2⟩
/-- xs with v at the place k -/
def putI (xs : List α) (k : Int) (v : α) : Option (List α) := (ixN xs.length k).map fun j => xs.set j v
def rowputF (xss : List (List α)) (j : Nat) (k : Int) (v : α) : Option (List (List α)) := (xss[j]?).bind fun xs => (putI xs k v).map fun ys => xss.set j ys
def rowput (xss : List (List α)) (m : M τ α) (mo : M τ Nat) (mk : M τ Int) : M τ (Fl (List (List α)) κ ρ) := bnd m fun v => bnd mo fun j => bnd mk fun k => match rowputF xss j k v with | some yss => ret (.nx yss) | none => stk
abbrev AsgSub (o i : Expr) (pos : Pos) : Prop := ∀ (env : PySem.Env) (v : Value), assign (.Subscript o i pos) env v = (do
      let ov ← holding [v] (eval o env)
      let iv ← holding [v, ov] (eval i env)
      standAt pos
      holding [v, ov, iv] (setItem ov iv v)
      release [v, ov, iv] [])
theorem zs_rowPut {R : Rel α} {rs : List Addr} {xss : List (List α)} {i : Nat} {eo ek e : Expr} {m : M τ α} {mo : M τ Nat} {mk : M τ Int} {p3 pos : Pos} (hi : Γ[i]? = some (.ow (ownLL R rs xss))) (ho : ZE G c E W Γ eo mo (rRow rs)) (hk : ZE G c E W Γ ek mk rInt) (h : ZE G c E W Γ e m R) (sx : Sub E Γ L.x)
    (hasg : AsgSub eo ek p3 := by intro _ _; rfl)
    (hs : ∀ (l : Nat) (env : PySem.Env), swapsWithSole [.Subscript eo ek p3] e l env = pure false := by intro _ _; rfl)
    (hw : ∀ env : PySem.Env, swappedStores [.Subscript eo ek p3] e env = pure none := by intro _; rfl) :
    ZS G c E W L Γ (.Assign [.Subscript eo ek p3] e pos) (rowput xss m mo mk) (fun yss => Γ.set i (.ow (ownLL R rs yss))) := fun X C =>
  ps_wk (ps_asg (h X C) (pg_sub (ho X C) (hk X C) set_list (hasg _)) (hs _ _) (hw _)) fun D σ H hl ⟨B, S, b, hh, q⟩ => by
    refine tzS_bnd (R := R) sx hh q fun v b1 u S1 H1 s1 h1 r1 q1 => ?_
    refine tzS_bnd (R := rRow rs) sx h1 q1 fun j b2 w S2 H2 s2 h2 r2 q2 => ?_
    refine tzS_bnd (R := rInt) sx h2 q2 fun k b3 y S3 H3 s3 h3 r3 q3 => ?_
    obtain ⟨r, er, rfl⟩ := r2
    obtain ⟨l, _, _, _, _, hq⟩ := ll_at h3 hi
    unfold rowputF putI at q3
    cases e3 : xss[j]? with
    | none => rw [e3] at q3; exact q3.elim
    | some xs =>
      rw [e3] at q3
      cases e4 : ixN xs.length k with
      | none => simp [e4] at q3; exact q3.elim
      | some t =>
        simp [e4] at q3
        obtain ⟨r', vs, e5, e6, e7⟩ := hq.at_ e3
        rw [er] at e5; cases e5
        refine ⟨r, vs, k, t, rfl, r3, e6, by rw [← e7.length]; exact e4, q3 σ S3 _ (Same.refl _) (h3.row hi er (All2.set (r := fun x v => R.is x S3 v) (R.mono s3 (R.mono s2 r1)) t e7))⟩
/-- an own list's item is written -/
def putM (xs : List α) (m : M τ α) (mk : M τ Int) : M τ (Fl (List α) κ ρ) := bnd m fun v => bnd mk fun k => match putI xs k v with | some ys => ret (.nx ys) | none => stk
theorem zs_put {R : Rel α} {xs : List α} {i : Nat} {x : Str} {ek e : Expr} {m : M τ α} {mk : M τ Int} {p1 p3 pos : Pos} (n : Nm c i x) (hi : Γ[i]? = some (.ow (ownL R xs))) (hk : ZE G c E W Γ ek mk rInt) (h : ZE G c E W Γ e m R) (sx : Sub E Γ L.x)
    (hasg : AsgSub (.Name x p1) ek p3 := by intro _ _; rfl)
    (hs : ∀ (l : Nat) (env : PySem.Env), swapsWithSole [.Subscript (.Name x p1) ek p3] e l env = pure false := by intro _ _; rfl)
    (hw : ∀ env : PySem.Env, swappedStores [.Subscript (.Name x p1) ek p3] e env = pure none := by intro _; rfl) :
    ZS G c E W L Γ (.Assign [.Subscript (.Name x p1) ek p3] e pos) (putM xs m mk) (fun ys => Γ.set i (.ow (ownL R ys))) := fun X C =>
  ps_wk (ps_asg (h X C) (pg_sub (pe_var (C.hi n.n) (by rw [C.sc]; exact n.v) n.d n.cd) (hk X C) set_list (hasg _)) (hs _ _) (hw _)) fun D σ H hl ⟨B, S, b, hh, q⟩ => by
    refine tzS_bnd (R := R) sx hh q fun v b1 u S1 H1 s1 h1 r1 q1 => ?_
    obtain ⟨l, vs, e1, e2, e3⟩ := own_at h1 hi
    refine ⟨.ref l, e1, ?_⟩
    refine tzS_bnd (R := rInt) sx h1 q1 fun k b3 y S3 H3 s3 h3 r3 q3 => ?_
    obtain ⟨l', vs', e1', e2', e3'⟩ := own_at h3 hi
    rw [e1] at e1'; cases e1'
    unfold putI at q3
    cases e4 : ixN xs.length k with
    | none => simp [e4] at q3; exact q3.elim
    | some t =>
      simp [e4] at q3
      exact ⟨l, vs', k, t, rfl, r3, e2', by rw [← e3'.length]; exact e4, q3 σ S3 _ (Same.refl _) (h3.chg hi ownL_feet e1 ⟨l, _, rfl, fun _ => Iff.rfl, upd_same, All2.set (r := fun x v => R.is x S3 v) (R.mono s3 r1) t e3'⟩)⟩
theorem zs_rev {R : Rel α} {xs : List α} {i : Nat} {x : Str} {p1 apos cpos pos : Pos} (n : Nm c i x) (hi : Γ[i]? = some (.ow (ownL R xs))) (hb : BmEnv (.Name x p1) "reverse" [] apos cpos := by exact ⟨fun _ => rfl, fun _ => rfl, rfl, fun _ _ _ h => by cases h⟩) :
    ZS G c E W L Γ (.Expr (.Call (.Attribute (.Name x p1) "reverse" apos) [] [] cpos) pos) (znx ()) (fun _ => Γ.set i (.ow (ownL R xs.reverse))) := fun X C =>
  ps_wk (ps_expr (pe_bm0 PySem.F.plainAttrs_list PySem.F.slot_list_reverse PySem.F.type_list_reverse mt_reverse (pe_var (C.hi n.n) (by rw [C.sc]; exact n.v) n.d n.cd) (hb.base _) hb.line) rfl) fun D σ H hl ⟨B, S, b, hh, q⟩ => by
    obtain ⟨l, vs, e1, e2, e3⟩ := own_at hh hi
    exact ⟨.ref l, e1, .inl ⟨rfl, vs, .of e2⟩, l, vs, rfl, rfl, e2, q σ S _ (Same.refl _) (hh.chg hi ownL_feet e1 ⟨l, _, rfl, fun _ => Iff.rfl, upd_same, e3.reverse⟩)⟩
end
end Zk

namespace Zk
open PySem L2

section
variable {τ α β γ δ κ ρ ι θ : Type} {G : Gx} {c : Sc} {E : Eff τ} {W : WX} {Γ Γ' : Env} {B : Bs} {σ : St} {S S1 S' H H' : Hp} {b b' : τ} {L : Ls κ ρ}
/-! ### among -/
structure ScalIn (R : Rel α) (f : α → V) : Prop where
  s : ScalR R f
  fl : ∀ x, flatV (f x) = true
  eq : ∀ x y, eqV (f x) (f y) = true ↔ x = y
theorem inI : ScalIn rInt V.int := ⟨scI, fun _ => rfl, fun x y => by simp [eqV]⟩
theorem inB : ScalIn rBl V.bl := ⟨scB, fun _ => rfl, fun x y => by simp [eqV]⟩
theorem inS : ScalIn rStr V.str := ⟨scS, fun _ => rfl, fun x y => by simp [eqV]⟩
theorem ScalIn.map {R : Rel α} {f : α → V} (D : ScalIn R f) : ∀ {xs : List α} {vs : List V}, All2 (fun x v => R.is x S v) xs vs → vs = xs.map f
  | [], [], _ => rfl
  | _ :: _, _ :: _, ⟨a, b⟩ => by rw [D.s.is a, D.map b]; rfl
  | [], _ :: _, h => h.elim
  | _ :: _, [], h => h.elim
theorem ScalIn.inV {R : Rel α} {f : α → V} [DecidableEq α] (D : ScalIn R f) (x : α) (xs : List α) : inV (f x) (xs.map f) = decide (x ∈ xs) := by
  unfold L2.inV
  rw [List.any_map]
  by_cases h : x ∈ xs
  · rw [decide_eq_true h, List.any_eq_true]; exact ⟨x, h, (D.eq x x).mpr rfl⟩
  · rw [decide_eq_false h, List.any_eq_false]
    intro y hy z
    exact h ((D.eq y x).mp z ▸ hy)
theorem ScalIn.all {R : Rel α} {f : α → V} (D : ScalIn R f) (xs : List α) : (xs.map f).all flatV = true := by
  rw [List.all_map, List.all_eq_true]; exact fun x _ => D.fl x
def fin_ [DecidableEq α] (x : α) (xs : List α) : M τ Bool := ret (decide (x ∈ xs))
def fnin [DecidableEq α] (x : α) (xs : List α) : M τ Bool := ret (!decide (x ∈ xs))
section
variable {ea eb : Expr} {pos : Pos}
theorem op_inL {R : Rel α} {f : α → V} (D : ScalIn R f) [DecidableEq α] : Op2 G E W Γ (rIn G.K false) R (rLst R) fin_ rBl := fun B σ S H b x xs v w Q hh hx ⟨a, vs, e1, e2, e3⟩ q => by
  have e := D.map e3
  subst e
  refine ⟨a, _, e1, .inl (.of (hh.same _ _ e2)), by rw [D.s.is hx]; exact D.fl x, D.all xs, ?_⟩
  rw [D.s.is hx, D.inV]; exact aft_ret hh q rfl
theorem op_ninL {R : Rel α} {f : α → V} (D : ScalIn R f) [DecidableEq α] : Op2 G E W Γ (rIn G.K true) R (rLst R) fnin rBl := fun B σ S H b x xs v w Q hh hx ⟨a, vs, e1, e2, e3⟩ q => by
  have e := D.map e3
  subst e
  refine ⟨a, _, e1, .inl (.of (hh.same _ _ e2)), by rw [D.s.is hx]; exact D.fl x, D.all xs, ?_⟩
  rw [D.s.is hx, D.inV]; exact aft_ret hh q rfl
theorem op_inT {R : Rel α} {f : α → V} (D : ScalIn R f) [DecidableEq α] : Op2 G E W Γ (rIn G.K false) R (rVT R) fin_ rBl := fun B σ S H b x xs v w Q hh hx ⟨a, vs, e1, e2, e3⟩ q => by
  have e := D.map e3
  subst e
  refine ⟨a, _, e1, .inr (.of (hh.same _ _ e2)), by rw [D.s.is hx]; exact D.fl x, D.all xs, ?_⟩
  rw [D.s.is hx, D.inV]; exact aft_ret hh q rfl
theorem op_ninT {R : Rel α} {f : α → V} (D : ScalIn R f) [DecidableEq α] : Op2 G E W Γ (rIn G.K true) R (rVT R) fnin rBl := fun B σ S H b x xs v w Q hh hx ⟨a, vs, e1, e2, e3⟩ q => by
  have e := D.map e3
  subst e
  refine ⟨a, _, e1, .inr (.of (hh.same _ _ e2)), by rw [D.s.is hx]; exact D.fl x, D.all xs, ?_⟩
  rw [D.s.is hx, D.inV]; exact aft_ret hh q rfl
theorem z_inL {R : Rel α} {f : α → V} (D : ScalIn R f) [DecidableEq α] {ma : M τ α} {mb : M τ (List α)} (ha : ZE G c E W Γ ea ma R) (hb : ZE G c E W Γ eb mb (rLst R)) (hm : behindInMarks .In eb = false := by rfl) : ZE G c E W Γ (.Compare ea [.In] [eb] pos) (zop2 fin_ ma mb) rBl := z_cmp (fun X C => by rw [← C.K]; exact op_in_seq) (op_inL D) ha hb hm
theorem z_ninL {R : Rel α} {f : α → V} (D : ScalIn R f) [DecidableEq α] {ma : M τ α} {mb : M τ (List α)} (ha : ZE G c E W Γ ea ma R) (hb : ZE G c E W Γ eb mb (rLst R)) (hm : behindInMarks .NotIn eb = false := by rfl) : ZE G c E W Γ (.Compare ea [.NotIn] [eb] pos) (zop2 fnin ma mb) rBl := z_cmp (fun X C => by rw [← C.K]; exact op_notIn_seq) (op_ninL D) ha hb hm
theorem zt_inL {R : Rel α} {f : α → V} (D : ScalIn R f) [DecidableEq α] {ma : M τ α} {mb : M τ (List α)} (ha : ZE G c E W Γ ea ma R) (hb : ZE G c E W Γ eb mb (rLst R)) (hm : behindInMarks .In eb = false := by rfl) : ZT G c E W Γ (.Compare ea [.In] [eb] pos) (zop2 fin_ ma mb) := zt_cmp (fun X C => by rw [← C.K]; exact op_in_seq) (op_inL D) ha hb hm
theorem zt_ninL {R : Rel α} {f : α → V} (D : ScalIn R f) [DecidableEq α] {ma : M τ α} {mb : M τ (List α)} (ha : ZE G c E W Γ ea ma R) (hb : ZE G c E W Γ eb mb (rLst R)) (hm : behindInMarks .NotIn eb = false := by rfl) : ZT G c E W Γ (.Compare ea [.NotIn] [eb] pos) (zop2 fnin ma mb) := zt_cmp (fun X C => by rw [← C.K]; exact op_notIn_seq) (op_ninL D) ha hb hm
theorem z_inT {R : Rel α} {f : α → V} (D : ScalIn R f) [DecidableEq α] {ma : M τ α} {mb : M τ (List α)} (ha : ZE G c E W Γ ea ma R) (hb : ZE G c E W Γ eb mb (rVT R)) (hm : behindInMarks .In eb = false := by rfl) : ZE G c E W Γ (.Compare ea [.In] [eb] pos) (zop2 fin_ ma mb) rBl := z_cmp (fun X C => by rw [← C.K]; exact op_in_seq) (op_inT D) ha hb hm
theorem z_ninT {R : Rel α} {f : α → V} (D : ScalIn R f) [DecidableEq α] {ma : M τ α} {mb : M τ (List α)} (ha : ZE G c E W Γ ea ma R) (hb : ZE G c E W Γ eb mb (rVT R)) (hm : behindInMarks .NotIn eb = false := by rfl) : ZE G c E W Γ (.Compare ea [.NotIn] [eb] pos) (zop2 fnin ma mb) rBl := z_cmp (fun X C => by rw [← C.K]; exact op_notIn_seq) (op_ninT D) ha hb hm
theorem zt_inT {R : Rel α} {f : α → V} (D : ScalIn R f) [DecidableEq α] {ma : M τ α} {mb : M τ (List α)} (ha : ZE G c E W Γ ea ma R) (hb : ZE G c E W Γ eb mb (rVT R)) (hm : behindInMarks .In eb = false := by rfl) : ZT G c E W Γ (.Compare ea [.In] [eb] pos) (zop2 fin_ ma mb) := zt_cmp (fun X C => by rw [← C.K]; exact op_in_seq) (op_inT D) ha hb hm
theorem zt_ninT {R : Rel α} {f : α → V} (D : ScalIn R f) [DecidableEq α] {ma : M τ α} {mb : M τ (List α)} (ha : ZE G c E W Γ ea ma R) (hb : ZE G c E W Γ eb mb (rVT R)) (hm : behindInMarks .NotIn eb = false := by rfl) : ZT G c E W Γ (.Compare ea [.NotIn] [eb] pos) (zop2 fnin ma mb) := zt_cmp (fun X C => by rw [← C.K]; exact op_notIn_seq) (op_ninT D) ha hb hm
end
/-! ### int(..) -/
section
variable {e : Expr} {p pos : Pos} {x : Str}
def fint (k : Bool) : M τ Int := ret (if k = true then 1 else 0)
theorem z_intB {m : M τ Bool} (bl : Blt G c x (.type "int")) (ha : ZE G c E W Γ e m rBl) (hs : Star e [] := by intro _; rfl) : ZE G c E W Γ (.Call (.Name x p) [e] [] pos) (zapp fint m) rInt :=
  z_ty1 bl (fun X C => call_int1) (fun B σ S H b k v Q hh hx q => .inr ⟨k, by rw [hx], aft_ret hh q rfl⟩) ha hs
theorem z_intI {m : M τ Int} (bl : Blt G c x (.type "int")) (ha : ZE G c E W Γ e m rInt) (hs : Star e [] := by intro _; rfl) : ZE G c E W Γ (.Call (.Name x p) [e] [] pos) (zapp ret m) rInt :=
  z_ty1 bl (fun X C => call_int1) (fun B σ S H b k v Q hh hx q => .inl ⟨k, by rw [hx], aft_ret hh q rfl⟩) ha hs
end
theorem zf_rep {R : Rel α} {ea eb : Expr} {pos : Pos} {ma : M τ (List α)} {mb : M τ Int} (ha : ZE G c E W Γ ea ma (rLst R)) (hb : ZE G c E W Γ eb mb rInt) : ZF G c E W Γ (.BinOp ea .Mult eb pos) (zop2 lrep ma mb) (ownL R) := fun X C =>
  pe_wk (pe_op op_rep (ha X C) (hb X C)) fun σ H Q _ ⟨B, S, b, hh, q⟩ => by
    refine tz_bndF hh q fun x b1 v S1 H1 s1 h1 r1 q1 => ?_
    refine tz_bndF h1 q1 fun y b2 w S2 H2 s2 h2 r2 q2 => ?_
    obtain ⟨⟨e1, e2, e3⟩, q3⟩ := aftF_chk q2
    obtain ⟨a, vs, rfl, e4, e5⟩ := (rLst R).mono s2 r1
    exact ⟨a, y, vs, rfl, r2, h2.same _ _ e4, e1, e2, by rw [← e5.length]; exact e3, fun p hp => aftF_new h2 q3 hp (ownL_new (e5.rep _))⟩
theorem zf_cat {R : Rel α} {ea eb : Expr} {pos : Pos} {ma mb : M τ (List α)} (ha : ZE G c E W Γ ea ma (rLst R)) (hb : ZE G c E W Γ eb mb (rLst R)) : ZF G c E W Γ (.BinOp ea .Add eb pos) (zop2 lcat ma mb) (ownL R) := fun X C =>
  pe_wk (pe_op op_cat (ha X C) (hb X C)) fun σ H Q _ ⟨B, S, b, hh, q⟩ => by
    refine tz_bndF hh q fun x b1 v S1 H1 s1 h1 r1 q1 => ?_
    refine tz_bndF h1 q1 fun y b2 w S2 H2 s2 h2 r2 q2 => ?_
    obtain ⟨e1, q3⟩ := aftF_chk q2
    obtain ⟨a, vs, rfl, e4, e5⟩ := (rLst R).mono s2 r1
    obtain ⟨a', vs', rfl, e4', e5'⟩ := r2
    exact ⟨a, a', vs, vs', rfl, rfl, h2.same _ _ e4, h2.same _ _ e4', by rw [← e5.length, ← e5'.length]; exact e1, fun p hp => aftF_new h2 q3 hp (ownL_new (e5.append e5'))⟩
end
end Zk

namespace Zk
open PySem L2
/-! ### plain facts: texts, places -/
theorem strOk_of (s : String) : PyData.strOk (Str.ofString s) = true := by
  rw [Str.ofString_eq_toList]
  unfold PyData.strOk
  rw [List.all_toArray, List.all_eq_true]
  intro n hn
  obtain ⟨c, _, rfl⟩ := List.mem_map.mp hn
  rw [decide_eq_true_eq]
  rcases c.valid with h | h
  · exact Nat.lt_of_lt_of_le h (by decide)
  · exact h.2
theorem strOk_app {a b : Str} (h1 : PyData.strOk a = true) (h2 : PyData.strOk b = true) : PyData.strOk (a ++ b) = true := by
  unfold PyData.strOk at *
  show (a.cps ++ b.cps).all _ = true
  rw [Array.all_append, h1, h2]; rfl
theorem empty_app (x : Str) : Str.empty ++ x = x := by
  cases x with
  | mk c => show (⟨#[] ++ c⟩ : Str) = ⟨c⟩; simp
theorem ixN_nat {n : Nat} {i : Int} (h0 : 0 ≤ i) (h : i < n) : ixN n i = some i.toNat := by unfold ixN; rw [if_pos h0, if_pos h]
theorem mem_rng {lo d : Int} {n : Nat} : d ∈ rng lo n ↔ lo ≤ d ∧ d < lo + n := by
  unfold rng
  rw [List.mem_map]
  constructor
  · rintro ⟨i, hi, rfl⟩
    have := List.mem_range.mp hi
    omega
  · intro h
    exact ⟨(d - lo).toNat, List.mem_range.mpr (by omega), by omega⟩
theorem rng_length (lo : Int) (n : Nat) : (rng lo n).length = n := by unfold rng; rw [List.length_map, List.length_range]
theorem canLayAll_bls : ∀ xs : List Bool, PyData.canLayAll0 (xs.map PyData.bool) = true
  | [] => by simp [PyData.canLayAll0]
  | x :: xs => by simp [PyData.canLayAll0, PyData.canLay0, canLayAll_bls xs]
theorem showableAll_bls : ∀ xs : List Bool, PyData.showableAll (xs.map PyData.bool) = true
  | [] => by simp [PyData.showableAll]
  | x :: xs => by simp [PyData.showableAll, PyData.showable, showableAll_bls xs]
theorem shownAll_bls : ∀ xs : List Bool, ((PyData.shownAll (xs.map PyData.bool)).map fun t => t.length + 2).sum ≤ xs.length * 7
  | [] => by simp [PyData.shownAll]
  | x :: xs => by
    have h1 := shownAll_bls xs
    have h2 : (PyData.shown (.bool x)).length ≤ 5 := by cases x <;> decide
    simp only [List.map_cons, PyData.shownAll, List.sum_cons, List.length_cons]
    omega
theorem frepr_bls {xs : List Bool} (hl : xs.length ≤ 5000) : ((datL datB).d xs).showable = true ∧ ((datL datB).d xs).canLay0 = true ∧ (datL datB).n ≤ 60 ∧ ((datL datB).d xs).shown.length ≤ sizeLine := by
  refine ⟨?_, ?_, by decide, ?_⟩
  · show (PyData.list (xs.map PyData.bool)).showable = true
    simp only [PyData.showable]; exact showableAll_bls xs
  · show (PyData.list (xs.map PyData.bool)).canLay0 = true
    simp only [PyData.canLay0]; exact canLayAll_bls xs
  · show (PyData.list (xs.map PyData.bool)).shown.length ≤ sizeLine
    simp only [PyData.shown]
    have h1 := listText_le (PyData.shownAll (xs.map PyData.bool))
    have h2 := shownAll_bls xs
    have h3 : xs.length * 7 ≤ 5000 * 7 := Nat.mul_le_mul_right _ hl
    have : sizeLine = 16777216 := by decide
    omega
theorem deq_bls {xs ys : List Bool} : deqOk (datL datB) xs ys := by
  refine ⟨?_, ?_, by decide⟩
  · show (PyData.list (xs.map PyData.bool)).canLay0 = true
    simp only [PyData.canLay0]; exact canLayAll_bls xs
  · show (PyData.list (ys.map PyData.bool)).canLay0 = true
    simp only [PyData.canLay0]; exact canLayAll_bls ys
theorem fown_eq {α τ : Type} {m : α × α → M Unit Bool} {x y : α} {b : Bool} (h : m (x, y) = ret b) : (fown m x y : M τ Bool) = ret b := by unfold fown; rw [h]; rfl
theorem fownN_eq {α τ : Type} {m : α × α → M Unit Bool} {x y : α} {b : Bool} (h : m (x, y) = ret b) : (fownN m x y : M τ Bool) = ret (!b) := by unfold fownN; rw [h]; rfl
end Zk

namespace Zk
open PySem L2

section
variable {τ α β γ δ κ ρ ι θ : Type} {G : Gx} {c : Sc} {E : Eff τ} {W : WX} {Γ Γ' : Env} {B : Bs} {σ : St} {S S1 S' H H' : Hp} {b b' : τ} {L : Ls κ ρ}
/-! ### things of any kind -/
theorem rd_sm {a : Addr} {o : HO} (s : Same S S') (h : Rd S a o) : Rd S' a o := by
  rcases h with h | ⟨u, h⟩
  · exact .inl (s _ _ h)
  · exact .inr ⟨u, s _ _ h⟩
theorem sql_sm {K : PySem.W.Frag} {a : Addr} {xs : List V} (s : Same S S') (h : SqL K S a xs) : SqL K S' a xs := h.elim (fun h => .inl (rd_sm s h)) .inr
theorem sqt_sm {K : PySem.W.Frag} {a : Addr} {xs : List V} (s : Same S S') (h : SqT K S a xs) : SqT K S' a xs := h.elim (fun h => .inl (rd_sm s h)) .inr
mutual
theorem dp_sm {K : PySem.W.Frag} (s : Same S S') : ∀ {v : V} {d : PyData}, Dp K S v d → Dp K S' v d
  | _, _, .non => .non
  | _, _, .bl b => .bl b
  | _, _, .int i => .int i
  | _, _, .str x => .str x
  | _, _, .lst h q => .lst (sql_sm s h) (dpa_sm s q)
  | _, _, .tup h q => .tup (sqt_sm s h) (dpa_sm s q)
theorem dpa_sm {K : PySem.W.Frag} (s : Same S S') : ∀ {v : List V} {d : List PyData}, DpAll K S v d → DpAll K S' v d
  | _, _, .nil => .nil
  | _, _, .cons h q => .cons (dp_sm s h) (dpa_sm s q)
end
def rDat (K : PySem.W.Frag) : Rel PyData := ⟨fun d S v => Dp K S v d, fun s h => dp_sm s h⟩
def datN : DatR rNon := ⟨fun _ => .none, 0, fun _ => by simp [PyData.depth], fun _ h => by cases h; exact .non, fun x y => by simp [PyData.eqv]⟩
theorem z_dat {R : Rel α} (D : DatR R) {e : Expr} {m : M τ α} (h : ZE G c E W Γ e m R) : ZE G c E W Γ e (zget D.d m) (rDat G.K) := fun X C => pe_wk (h X C) fun σ H Q _ ⟨B, S, b, hh, q⟩ => by
  refine tz_bnd hh q fun x b1 v S1 H1 s1 h1 r1 q1 => ?_
  exact aft_ret h1 q1 (D.dp (Same.refl _) r1)
/-- its type -/
def tyD : PyData → String
  | .none => "NoneType" | .bool _ => "bool" | .int _ => "int" | .str _ => "str" | .list _ => "list" | .tuple _ => "tuple" | .dict _ => "dict"
theorem tyx_of {K : PySem.W.Frag} {S : Hp} {v : V} {d : PyData} (h : Dp K S v d) : TyX K S v (.type (tyD d)) := by
  cases h with
  | non => exact .base .non
  | bl b => exact .base (.bl b)
  | int i => exact .base (.int i)
  | str x => exact .base (.str x)
  | lst h q =>
    rcases h with (h | ⟨o, h⟩) | ⟨o, its, n, e1, e2, _⟩
    · exact .base (.lst h)
    · exact .base (.frz h)
    · exact .kList e1 e2
  | tup h q =>
    rcases h with (h | ⟨o, h⟩) | ⟨o, its, n, e1, e2, _⟩
    · exact .base (.tup h)
    · exact .fTuple h
    · exact .kTuple e1 e2
theorem dp_same {K : PySem.W.Frag} (s : Same S H) {v : V} {d : PyData} (h : Dp K S v d) : Dp K H v d := dp_sm s h
def isD (n : String) (d : PyData) : Bool := tyD d == n || (n == "int" && tyD d == "bool")
section
variable {e : Expr} {p pos : Pos} {x : Str}
/-- isinstance of a thing of any kind -/
theorem z_isiDat {y : Str} {p2 : Pos} {n : String} {m : M τ PyData} (bl : Blt G c x (.builtin "isinstance")) (b2 : Blt G c y (.type n)) (hk : ∀ d : PyData, PySem.W.kitOne G.K (.type (tyD d)) (.type n) = some (isD n d)) (ha : ZE G c E W Γ e m (rDat G.K)) (hs : Star e [.Name y p2] := by intro _; rfl) :
    ZE G c E W Γ (.Call (.Name x p) [e, .Name y p2] [] pos) (zget (isD n) m) rBl := fun X C =>
  pe_wk (pe_callB (call_isi) (C.gl bl.g) (by rw [C.mg]; exact bl.m) bl.v (pa_cons (ha X C) (pa_cons (pe_bltn (v := .ty n) (C.gl b2.g) (by rw [C.mg]; exact b2.m) b2.v rfl b2.n b2.d) pa_nil (by rfl)) (hs X.env)) bl.n bl.d (hs X.env) (by rfl)) fun σ H Q _ ⟨B, S, b, hh, q⟩ => by
    refine tz_bnd hh q fun x b1 v S1 H1 s1 h1 r1 q1 => ?_
    exact ⟨v, .ty n, .type (tyD x), .type n, isD n x, rfl, .ty n, by rw [C.K]; exact tyx_of (dp_same h1.same r1), by rw [C.K]; exact hk x, aft_ret h1 q1 rfl⟩
theorem kit_no {K : PySem.W.Frag} {C : Addr} (h : PySem.W.kitOne K (.type "int") (.ref C) = some false) (d : PyData) : PySem.W.kitOne K (.type (tyD d)) (.ref C) = some false := by
  have h1 : ∀ T : String, PySem.W.kitOne K (.type T) (.ref C) = if ((PySem.W.clsIn K C).isSome && PySem.W.typeIn K (.ref C) == some (.type "type")) = true then PySem.W.subIn K (.type T) (.ref C) else none := fun T => by
    unfold PySem.W.kitOne
    rw [if_neg (show ¬ (Value.type T == Value.ref C) = true from fun h => nomatch (show false = true from h))]; rfl
  rw [h1] at h
  rw [h1]
  split at h
  · next q =>
    rw [if_pos q]
    cases d <;> rfl
  · cases h
theorem z_isiDatC {y : Str} {p2 : Pos} {C0 : Addr} {m : M τ PyData} (bl : Blt G c x (.builtin "isinstance")) (g2 : Gb c y) (m2 : G.mg y = some (.ref C0)) (hd2 : (y == ("__debug__" : Str)) = false) (hk : PySem.W.kitOne G.K (.type "int") (.ref C0) = some false) (ha : ZE G c E W Γ e m (rDat G.K)) (hs : Star e [.Name y p2] := by intro _; rfl) :
    ZE G c E W Γ (.Call (.Name x p) [e, .Name y p2] [] pos) (zis false m) rBl := fun X C =>
  pe_wk (pe_callB (call_isi) (C.gl bl.g) (by rw [C.mg]; exact bl.m) bl.v (pa_cons (ha X C) (pa_cons (pe_glob (v := .ref C0) (C.gl g2) (by rw [C.mg]; exact m2) rfl hd2) pa_nil (by rfl)) (hs X.env)) bl.n bl.d (hs X.env) (by rfl)) fun σ H Q _ ⟨B, S, b, hh, q⟩ => by
    refine tz_bnd hh q fun x b1 v S1 H1 s1 h1 r1 q1 => ?_
    exact ⟨v, .ref C0, .type (tyD x), .ref C0, false, rfl, .own C0, by rw [C.K]; exact tyx_of (dp_same h1.same r1), by rw [C.K]; exact kit_no hk x, aft_ret h1 q1 rfl⟩
end
/-! own == and != with a thing of any kind -/
section
variable {X : Cx} {k : Nat} {f C : Addr} {fd : FuncData} {ps : List Str} {sp : Sp} {g : Bool}
open PySem.W in
def rOwnD (K : PySem.W.Frag) (C : Addr) (sp : Sp) (n : Bool → Bool) : R2 := fun x y H Q => ∃ a dx fs d, x = .ref a ∧ H a = some (.ins C dx fs) ∧ Dp K H y d ∧ sp [.ref a, y] H (fun z H' => ∃ r, z = .bl r ∧ Q (.bl (n r)) H') (fun _ _ _ => False)
open PySem.W in
theorem nf_dat {K : PySem.W.Frag} {C : Addr} (d : PyData) : notFirst K C (.type (tyD d)) = true := by
  unfold notFirst
  rw [show subIn K (.type (tyD d)) (.ref C) = some false by cases d <;> rfl]
  simp
open PySem.W in
theorem op_ownEqD (F : FnX g X k f fd ps sp) (hr : Room k X.A) (hg : g = true → X.A.guards = some []) (hs : findIn X.K (.ref C) "__eq__" = some (some (.ref f))) (hf : isFn X.K (.ref f) = true) (hb : Binds X.K fd ps []) : OpR X (compareOp .Eq) (rOwnD X.K C sp id) := by
  intro pins s σ H x y v u Q I rx ry ⟨a, dx, fs, d, e1, ha, hd, q⟩
  subst e1
  cases rx
  obtain ⟨mA, J, _⟩ := ins_get I.hok ha
  obtain ⟨od, J, _⟩ := J.look
  obtain ⟨P, Z, hP, _⟩ := kit_of I ry (tyx_of hd)
  obtain ⟨m, hF⟩ := I.fr
  refine cmp_K (op := .Eq) (tb := .type (tyD d)) hr.units0 hF I.ok.mod.kin J (Z.ty _ _ I.kIn hP) (nf_dat d) hs hf (wpAny_mono (F.runA (us := [.ref a, u]) (vs := [.ref a, y]) hr hg hb I.env0 I (.cons rfl (.cons ry .nil)) q) (fun z s' hz => ?_) fun _ _ e => e)
  obtain ⟨w, H', I', rz, r, ez, q'⟩ := hz
  subst ez
  cases rz
  exact ⟨.bl r, H', I', rfl, q'⟩
open PySem.W in
theorem op_ownNeD (F : FnX g X k f fd ps sp) (hr : Room (k + 1) X.A) (hg : g = true → X.A.guards = some []) (hne : findIn X.K (.ref C) "__ne__" = some (some (.builtin "object.__ne__"))) (hs : findIn X.K (.ref C) "__eq__" = some (some (.ref f))) (hf : isFn X.K (.ref f) = true) (hm : mroIn X.K C (.type "object") = some true) (hb : Binds X.K fd ps []) : OpR X (compareOp .NotEq) (rOwnD X.K C sp (!·)) := by
  intro pins s σ H x y v u Q I rx ry ⟨a, dx, fs, d, e1, ha, hd, q⟩
  subst e1
  cases rx
  obtain ⟨mA, J, _⟩ := ins_get I.hok ha
  obtain ⟨od, J, _⟩ := J.look
  obtain ⟨P, Z, hP, _⟩ := kit_of I ry (tyx_of hd)
  obtain ⟨m, hF⟩ := I.fr
  refine ne_own (tb := .type (tyD d)) (by have := hr.units; omega) hF I.ok.mod.kin J (Z.ty _ _ I.kIn hP) (nf_dat d) hne hs hf hm (wpAny_mono (F.runA (A := X.A.in1) (us := [.ref a, u]) (vs := [.ref a, y]) hr.in1 hg hb I.env0.in1 I (.cons rfl (.cons ry .nil)) q) (fun z s' hz => ?_) fun _ _ e => e)
  obtain ⟨w, H', I', rz, r, ez, q'⟩ := hz
  subst ez
  cases rz
  exact ⟨r, rfl, .bl (!r), H', I', rfl, q'⟩
end
def fownD (m : α × PyData → M Unit Bool) (x : α) (y : PyData) : M τ Bool := bnd (nox (lft (m (x, y)))) (fun z => ret (id z))
def fownND (m : α × PyData → M Unit Bool) (x : α) (y : PyData) : M τ Bool := bnd (nox (lft (m (x, y)))) (fun z => ret (!z))
section
variable {C0 : Addr} {k : Nat} {g : Bool} {ps : List Str} {fs : α → List (Str × Pr)} {m : α × PyData → M Unit Bool} {ea eb : Expr} {pos : Pos} {ma : M τ α} {mb : M τ PyData}
theorem op2_ownD {n : Bool → Bool} {f : α → PyData → M τ Bool} (hf : ∀ x y, f x y = bnd (nox (lft (m (x, y)))) (fun z => ret (n z))) : Op2 G E W Γ (rOwnD G.K C0 (spZ G (fun _ : Unit => noE) (fun _ (x : α × PyData) => [(rObj C0 fs).pr x.1, (rDat G.K).pr x.2]) m rBl) n) (rObj C0 fs) (rDat G.K) f rBl := fun B σ S H b x y v w Q hh hx hy q => by
  obtain ⟨a, dx, vs, e1, h1, n1, q1⟩ := id hx
  subst e1
  refine ⟨a, dx, vs, y, rfl, hh.same _ _ h1, dp_same hh.same hy, ?_⟩
  rw [hf] at q
  exact tz_spN (A := fun _ (x : α × PyData) => [(rObj C0 fs).pr x.1, (rDat G.K).pr x.2]) (q := ()) (x := (x, y)) hh ⟨hx, hy, trivial⟩ q
theorem z_ownEqD (F : EqAt g G C0 k ps (spZ G (fun _ : Unit => noE) (fun _ (x : α × PyData) => [(rObj C0 fs).pr x.1, (rDat G.K).pr x.2]) m rBl)) (hk : k ≤ c.k) (hg : g = true → c.gd = true) (ha : ZE G c E W Γ ea ma (rObj C0 fs)) (hb : ZE G c E W Γ eb mb (rDat G.K)) : ZE G c E W Γ (.Compare ea [.Eq] [eb] pos) (zop2 (fownD m) ma mb) rBl := by
  obtain ⟨f0, fd, h1, h1', h2, h3⟩ := F.ex
  refine z_cmp (fun X C => ?_) (op2_ownD fun _ _ => rfl) ha hb (nomark _)
  rw [← C.prog, ← C.w, ← C.K, ← C.mg, ← C.base] at h3
  rw [← C.K] at h1 h1' h2
  rw [← C.K]
  exact op_ownEqD h3 (C.room.mono hk) (fun z => C.gds (hg z)) h1 h1' h2
theorem z_ownNeD (F : EqAt g G C0 k ps (spZ G (fun _ : Unit => noE) (fun _ (x : α × PyData) => [(rObj C0 fs).pr x.1, (rDat G.K).pr x.2]) m rBl)) (hk : k + 1 ≤ c.k) (hg : g = true → c.gd = true) (hne : PySem.W.findIn G.K (.ref C0) "__ne__" = some (some (.builtin "object.__ne__"))) (hm : PySem.W.mroIn G.K C0 (.type "object") = some true) (ha : ZE G c E W Γ ea ma (rObj C0 fs)) (hb : ZE G c E W Γ eb mb (rDat G.K)) : ZE G c E W Γ (.Compare ea [.NotEq] [eb] pos) (zop2 (fownND m) ma mb) rBl := by
  obtain ⟨f0, fd, h1, h1', h2, h3⟩ := F.ex
  refine z_cmp (fun X C => ?_) (op2_ownD fun _ _ => rfl) ha hb (nomark _)
  rw [← C.prog, ← C.w, ← C.K, ← C.mg, ← C.base] at h3
  rw [← C.K] at h1 h1' h2 hne hm
  rw [← C.K]
  exact op_ownNeD h3 (C.room.mono hk) (fun z => C.gds (hg z)) hne h1 h1' hm h2
theorem zt_ownEqD (F : EqAt g G C0 k ps (spZ G (fun _ : Unit => noE) (fun _ (x : α × PyData) => [(rObj C0 fs).pr x.1, (rDat G.K).pr x.2]) m rBl)) (hk : k ≤ c.k) (hg : g = true → c.gd = true) (ha : ZE G c E W Γ ea ma (rObj C0 fs)) (hb : ZE G c E W Γ eb mb (rDat G.K)) : ZT G c E W Γ (.Compare ea [.Eq] [eb] pos) (zop2 (fownD m) ma mb) := by
  obtain ⟨f0, fd, h1, h1', h2, h3⟩ := F.ex
  refine zt_cmp (fun X C => ?_) (op2_ownD fun _ _ => rfl) ha hb (nomark _)
  rw [← C.prog, ← C.w, ← C.K, ← C.mg, ← C.base] at h3
  rw [← C.K] at h1 h1' h2
  rw [← C.K]
  exact op_ownEqD h3 (C.room.mono hk) (fun z => C.gds (hg z)) h1 h1' h2
theorem zt_ownNeD (F : EqAt g G C0 k ps (spZ G (fun _ : Unit => noE) (fun _ (x : α × PyData) => [(rObj C0 fs).pr x.1, (rDat G.K).pr x.2]) m rBl)) (hk : k + 1 ≤ c.k) (hg : g = true → c.gd = true) (hne : PySem.W.findIn G.K (.ref C0) "__ne__" = some (some (.builtin "object.__ne__"))) (hm : PySem.W.mroIn G.K C0 (.type "object") = some true) (ha : ZE G c E W Γ ea ma (rObj C0 fs)) (hb : ZE G c E W Γ eb mb (rDat G.K)) : ZT G c E W Γ (.Compare ea [.NotEq] [eb] pos) (zop2 (fownND m) ma mb) := by
  obtain ⟨f0, fd, h1, h1', h2, h3⟩ := F.ex
  refine zt_cmp (fun X C => ?_) (op2_ownD fun _ _ => rfl) ha hb (nomark _)
  rw [← C.prog, ← C.w, ← C.K, ← C.mg, ← C.base] at h3
  rw [← C.K] at h1 h1' h2 hne hm
  rw [← C.K]
  exact op_ownNeD h3 (C.room.mono hk) (fun z => C.gds (hg z)) hne h1 h1' hm h2
end
/-- what is never come to -/
theorem zb_dead {sts : List Stmt} {Γn : α → Env} : ZB G c E W L Γ sts (stk : M τ (Fl α κ ρ)) Γn := fun X C => ⟨fun pins s σ H D I ⟨B, S, b, hh, q⟩ => q.elim⟩
theorem kit_self {K : PySem.W.Frag} {C : Addr} : PySem.W.kitOne K (.ref C) (.ref C) = some true := by
  unfold PySem.W.kitOne
  rw [if_pos (by simp)]
theorem kit_int {K : PySem.W.Frag} {C : Addr} (h1 : PySem.W.isClsIn K C = true) (h2 : PySem.W.typeIn K (.ref C) = some (.type "type")) : PySem.W.kitOne K (.type "int") (.ref C) = some false := by
  unfold PySem.W.kitOne
  rw [if_neg (show ¬ (Value.type "int" == Value.ref C) = true from fun h => nomatch (show false = true from h))]
  show (if ((PySem.W.clsIn K C).isSome && PySem.W.typeIn K (.ref C) == some (.type "type")) = true then PySem.W.subIn K (.type "int") (.ref C) else none) = some false
  rw [h2]
  have h1 : (PySem.W.clsIn K C).isSome = true := h1
  rw [h1]
  rfl
def dat4 {R : Rel α} {R2 : Rel β} {R3 : Rel γ} {R4 : Rel δ} (D : DatR R) (D2 : DatR R2) (D3 : DatR R3) (D4 : DatR R4) : DatR (rT4 R R2 R3 R4) := ⟨fun x => .tuple [D.d x.1, D2.d x.2.1, D3.d x.2.2.1, D4.d x.2.2.2], max D.n (max D2.n (max D3.n D4.n)) + 1, fun x => by have := D.dep x.1; have := D2.dep x.2.1; have := D3.dep x.2.2.1; have := D4.dep x.2.2.2; simp only [PyData.depth, PyData.depthAll]; omega,
  fun s ⟨a, u, w, z, y, e, h, q, q2, q3, q4⟩ => by cases e; exact .tup (.of (s _ _ h)) (.cons (D.dp s q) (.cons (D2.dp s q2) (.cons (D3.dp s q3) (.cons (D4.dp s q4) .nil)))), fun x y => by simp [PyData.eqv, PyData.eqvAll, D.eq, D2.eq, D3.eq, D4.eq, Prod.ext_iff]⟩
end
end Zk

namespace Zk
open PySem L2
/-! ### plain facts: the greatest, the least, parts of lists, comprehensions with a test -/
def maxF (xs : List Int) : Int := match xs with | [] => 0 | x :: r => r.foldl max x
def minF (xs : List Int) : Int := match xs with | [] => 0 | x :: r => r.foldl min x
theorem fmaxL_eq {τ : Type} {xs : List Int} (h : xs ≠ []) : (fmaxL xs : M τ Int) = ret (maxF xs) := by cases xs with | nil => exact absurd rfl h | cons x r => rfl
theorem fminL_eq {τ : Type} {xs : List Int} (h : xs ≠ []) : (fminL xs : M τ Int) = ret (minF xs) := by cases xs with | nil => exact absurd rfl h | cons x r => rfl
theorem maxF_mem {xs : List Int} (h : xs ≠ []) : maxF xs ∈ xs := by cases xs with | nil => exact absurd rfl h | cons x r => exact foldl_max_mem r x
theorem maxF_ge {xs : List Int} : ∀ y ∈ xs, y ≤ maxF xs := by cases xs with | nil => simp | cons x r => exact foldl_max_ge r x
theorem minF_mem {xs : List Int} (h : xs ≠ []) : minF xs ∈ xs := by cases xs with | nil => exact absurd rfl h | cons x r => exact foldl_min_mem r x
theorem minF_le {xs : List Int} : ∀ y ∈ xs, minF xs ≤ y := by cases xs with | nil => simp | cons x r => exact foldl_min_le r x
section
variable {α β γ τ κ ρ : Type}
theorem cut_mem {xs : List α} {lo hi : Option Int} {x : α} (h : x ∈ cut xs lo hi) : x ∈ xs := by
  unfold cut at h
  exact List.mem_of_mem_drop (List.mem_of_mem_take h)
theorem cut_hi {xs : List α} (k : Nat) : cut xs none (some (k : Int)) = xs.take k := by
  unfold cut
  rw [HT.sIx_none, HT.sIx_nat, List.drop_zero, Nat.sub_zero]
  by_cases h : k ≤ xs.length
  · rw [Nat.min_eq_left h]
  · rw [Nat.min_eq_right (by omega), List.take_of_length_le (Nat.le_refl _), List.take_of_length_le (by omega)]
theorem cut_lo {xs : List α} (k : Nat) : cut xs (some (k : Int)) none = xs.drop k := by
  unfold cut
  rw [HT.sIx_none, HT.sIx_nat]
  by_cases h : k ≤ xs.length
  · rw [Nat.min_eq_left h, List.take_of_length_le (by rw [List.length_drop]; exact Nat.le_refl _)]
  · rw [Nat.min_eq_right (by omega), List.drop_of_length_le (Nat.le_refl _), List.drop_of_length_le (by omega)]; simp
theorem cut_hi1 {xs : List α} : cut xs none (some 1) = xs.take 1 := cut_hi 1
theorem cut_lo1 {xs : List α} : cut xs (some 1) none = xs.drop 1 := cut_lo 1
theorem cut_full {xs : List α} : cut xs none none = xs := by
  unfold cut
  rw [HT.sIx_none, HT.sIx_none]; simp
theorem cut_hi' {xs : List α} {k : Int} (h : 0 ≤ k) : cut xs none (some k) = xs.take k.toNat := by
  obtain ⟨n, rfl⟩ := Int.eq_ofNat_of_zero_le h
  exact cut_hi n
theorem cut_lo' {xs : List α} {k : Int} (h : 0 ≤ k) : cut xs (some k) none = xs.drop k.toNat := by
  obtain ⟨n, rfl⟩ := Int.eq_ofNat_of_zero_le h
  exact cut_lo n
/-- a comprehension with a test, of pure parts -/
theorem zcomp_filter {t : β → M τ Bool} {f : β → M τ γ} {p : β → Bool} {g : β → γ} : ∀ (xs : List β) (acc : List γ), (∀ x ∈ xs, t x = ret (p x)) → (∀ x ∈ xs, f x = ret (g x)) → acc.length + xs.length ≤ sizeLine → zcomp t f acc xs = (ret (acc ++ (xs.filter p).map g) : M τ _)
  | [], acc, _, _, _ => by simp [zcomp]
  | x :: xs, acc, ht, h, hl => by
    simp only [List.length_cons] at hl
    unfold zcomp
    rw [ht x (by simp), show nox (ret (p x) : M τ Bool) = ret (p x) from rfl, bnd_ret]
    by_cases hp : p x = true
    · rw [if_pos hp, h x (by simp), show nox (ret (g x) : M τ γ) = ret (g x) from rfl, bnd_ret, chk_pos (by omega), zcomp_filter xs (acc ++ [g x]) (fun y hy => ht y (by simp [hy])) (fun y hy => h y (by simp [hy])) (by simp; omega), List.filter_cons_of_pos hp]
      simp
    · rw [if_neg hp, zcomp_filter xs acc (fun y hy => ht y (by simp [hy])) (fun y hy => h y (by simp [hy])) (by omega), List.filter_cons_of_neg hp]
theorem zlc_filter {t : β → M τ Bool} {f : β → M τ γ} {p : β → Bool} {g : β → γ} {xs : List β} (ht : ∀ x ∈ xs, t x = ret (p x)) (h : ∀ x ∈ xs, f x = ret (g x)) (hl : xs.length ≤ sizeLine) : zlc t f (ret xs) = (ret ((xs.filter p).map g) : M τ _) := by
  unfold zlc
  rw [bnd_ret, zcomp_filter xs [] ht h (by simpa using hl)]; rfl
/-- a loop that changes nothing -/
theorem zfor_same {f : α → β → M τ (Fl α α ρ)} {a : α} : ∀ {xs : List β}, (∀ x ∈ xs, f a x = ret (.nx a)) → zfor f a xs = (ret (.nx a) : M τ (Fl α κ ρ))
  | [], _ => rfl
  | x :: xs, h => by rw [zfor_cons_nx (h x (by simp))]; exact zfor_same fun y hy => h y (by simp [hy])
variable {I : τ → Prop}
theorem ok_and' {m n : M τ Bool} {Q : Bool → Prop} (h : Ok I m fun _ => True) (hf : Q false) (ht : Ok I n Q) : Ok I (zand m n) Q := ok_bnd h fun a _ => by
  cases a with
  | false => exact ok_ret hf
  | true => exact ht
theorem ok_eqk {m : M τ Int} {k : Int} (h : Ok I m fun _ => True) : Ok I (zop2 feq m (ret k)) fun _ => True := ok_op2 h (ok_ret trivial) (P2 := fun _ => True) fun _ _ _ _ => ok_ret trivial
theorem ok_any {m : M τ α} {P : α → Prop} (h : Ok I m P) : Ok I m fun _ => True := h.mono fun _ _ => trivial
theorem ok_catL {m n : M τ (List α)} {j k : Nat} {Q : α → Prop} (h1 : Ok I m (LOf j Q)) (h2 : Ok I n (LOf k Q)) (hk : j + k ≤ 1000000) : Ok I (zop2 lcat m n) (LOf (j + k) Q) := ok_op2 h1 h2 fun xs ys hx hy => by
  unfold lcat
  rw [chk_pos (by rw [hx.1, hy.1]; exact Nat.le_trans hk (by decide))]
  exact ok_ret ⟨by rw [List.length_append, hx.1, hy.1], fun z hz => (List.mem_append.mp hz).elim (hx.2 z) (hy.2 z)⟩
theorem ok_lcN {f : β → M τ γ} {xs : List β} {n : Nat} {Q : γ → Prop} (h : ∀ x ∈ xs, Ok I (f x) Q) (hn : xs.length = n) (hl : n ≤ 1000000) : Ok I (zlc (fun _ => ret true) f (ret xs)) (LOf n Q) := by
  have := ok_lc h (by rw [hn]; exact Nat.le_trans hl (by decide))
  rwa [hn] at this
theorem lcat_eq {xs ys : List α} (h : xs.length + ys.length ≤ 16777216) : (lcat xs ys : M τ _) = ret (xs ++ ys) := chk_pos (by rw [show sizeLine = 16777216 by decide]; exact h)
theorem zlist_eq {xs : List α} (h : xs.length ≤ 16777216) : zlist (ret xs) = (ret xs : M τ _) := zlist_ret (by rw [show sizeLine = 16777216 by decide]; exact h)
theorem oks_forB {f : α → β → M τ (Fl α α ρ)} {m : M τ (List β)} {a : α} {P : List β → Prop} {N : α → Prop} {R : ρ → Prop} {Kb Kc : κ → Prop} (h : Ok I m P) (k : ∀ xs, P xs → OkS I (zfor f a xs : M τ (Fl α κ ρ)) N R Kb Kc) : OkS I (zforI m a f : M τ (Fl α κ ρ)) N R Kb Kc := fun s hs => by
  obtain ⟨xs, s', e, i, p⟩ := h s hs
  unfold zforI bnd; rw [e]
  exact k xs p s' i
theorem deq_nil {xs ys : List Int} : deqOk (datL datI) xs ys := deq_ints
end
end Zk

namespace Zk
open PySem L2

/-! ### what is lent: read, never changed -/
def Eff.lent {τ : Type} (E : Eff τ) (L : Hp) : Eff τ where
  own a := E.own a ∨ ∃ o, L a = some o
  is b S H := E.is b S H ∧ (∀ a o, L a = some o → S a = none ∧ H a = some o) ∧ ∀ a o, L a = some o → ¬ E.own a
  mono := fun s f k ⟨h1, h2, h3⟩ => ⟨E.mono s (fun a ha => f a (.inl ha)) (fun a o ha => k a o (.inl ha)) h1, fun a o e => ⟨f a (.inr ⟨o, e⟩) (h2 a o e).1, k a o (.inr ⟨o, e⟩) (h2 a o e).2⟩, h3⟩
  th := fun ⟨h1, h2, h3⟩ ha => ha.elim (fun ha => E.th h1 ha) fun ⟨o, e⟩ => ⟨(h2 _ o e).1, o, (h2 _ o e).2⟩
structure HasL {τ : Type} (E : Eff τ) (L : Hp) : Prop where
  h : ∀ {b : τ} {S H : Hp}, E.is b S H → ∀ a o, L a = some o → H a = some o
theorem hasL {τ : Type} {E : Eff τ} {L : Hp} : HasL (E.lent L) L := ⟨fun h a o e => (h.2.1 a o e).2⟩

section
variable {τ α β γ δ κ ρ ι θ : Type} {G : Gx} {c : Sc} {E : Eff τ} {W : WX} {Γ : Env} {B : Bs} {σ : St} {S S1 S' H H' : Hp} {b b' : τ} {Ls : Ls κ ρ} {L : Hp}
/-- a thing of one's own, as it is seen while it is lent -/
structure View (p : PrO) (q : Hp → Pr) : Prop where
  v : ∀ {S H : Hp} {v : V} {F : Addr → Prop}, p.p S H v F → ∀ L : Hp, (∀ a o, F a → H a = some o → L a = some o) → (q L).p S v
def rLF (L : Hp) (R : Rel α) : Rel (List α) :=
  ⟨fun xs S v => ∃ a vs, v = .ref a ∧ L a = some (.lst vs) ∧ All2 (fun x v => R.is x S v) xs vs, fun s ⟨a, vs, e, h, q⟩ => ⟨a, vs, e, h, All2.rel s q⟩⟩
theorem view_L {R : Rel α} {xs : List α} : View (ownL R xs) (fun L => (rLF L R).pr xs) := ⟨fun ⟨l, vs, e, f, h, q⟩ L k => ⟨l, vs, e, k _ _ ((f l).mpr rfl) h, q⟩⟩
theorem rows_lent {R : Rel α} {L : Hp} {rs : List Addr} : ∀ {rs' : List Addr} {xss : List (List α)}, (∀ a o, a ∈ rs → H a = some o → L a = some o) → (∀ a, a ∈ rs' → a ∈ rs) → Rows R S H rs' xss → All2 (fun xs v => (rLF L R).is xs S v) xss (rs'.map V.ref)
  | [], [], _, _, _ => trivial
  | r :: rs', xs :: xss, k, hm, ⟨⟨vs, e, q⟩, h⟩ => ⟨⟨r, vs, rfl, k _ _ (hm r (by simp)) e, q⟩, rows_lent k (fun a ha => hm a (by simp [ha])) h⟩
  | [], _ :: _, _, _, h => h.elim
  | _ :: _, [], _, _, h => h.elim
theorem view_LL {R : Rel α} {rs : List Addr} {xss : List (List α)} : View (ownLL R rs xss) (fun L => (rLF L (rLF L R)).pr xss) :=
  ⟨fun ⟨l, e, n, d, f, h, q⟩ L k => ⟨l, _, e, k _ _ ((f l).mpr (.inl rfl)) h, rows_lent (rs := rs) (fun a o ha e => k a o ((f a).mpr (.inr ha)) e) (fun _ z => z) q⟩⟩
theorem view_any {p : PrO} : View p (fun _ => ⟨fun _ _ => True, fun _ h => h⟩) := ⟨fun _ _ _ => trivial⟩
inductive FrzX : Env → (Hp → Env) → Prop
  | nil : FrzX [] (fun _ => [])
  | no {l : Env} {l' : Hp → Env} : FrzX l l' → FrzX (.no :: l) (fun L => .no :: l' L)
  | st {p : Pr} {l : Env} {l' : Hp → Env} : FrzX l l' → FrzX (.st p :: l) (fun L => .st p :: l' L)
  | ow {p : PrO} {q : Hp → Pr} {l : Env} {l' : Hp → Env} : View p q → FrzX l l' → FrzX (.ow p :: l) (fun L => .st (q L) :: l' L)
theorem FrzX.get {L : Hp} : ∀ {l : Env} {l' : Hp → Env}, FrzX l l' → ∀ {i : Nat} {s : Sl}, (l' L)[i]? = some s → (s = .no ∧ l[i]? = some .no) ∨ (∃ p, s = .st p ∧ l[i]? = some (.st p)) ∨ ∃ p q, s = .st (q L) ∧ View p q ∧ l[i]? = some (.ow p)
  | _, _, .nil, i, s, h => by simp at h
  | _, _, .no f, 0, s, h => by simp at h; exact .inl ⟨h.symm, rfl⟩
  | _, _, .st f, 0, s, h => by simp at h; exact .inr (.inl ⟨_, h.symm, rfl⟩)
  | _, _, .ow v f, 0, s, h => by simp at h; exact .inr (.inr ⟨_, _, h.symm, v, rfl⟩)
  | _, _, .no f, i + 1, s, h => by simpa using f.get (i := i) (by simpa using h)
  | _, _, .st f, i + 1, s, h => by simpa using f.get (i := i) (by simpa using h)
  | _, _, .ow v f, i + 1, s, h => by simpa using f.get (i := i) (by simpa using h)
open Classical in
/-- all that is one's own is lent, then back -/
theorem Hold.lendX {Γ' : Hp → Env} (fz : FrzX Γ Γ') (h : Hold E B Γ b σ S H) : ∃ L, Hold (E.lent L) B (Γ' L) b σ S H ∧ ∀ b1 S2 H2, Same S S2 → Hold (E.lent L) B (Γ' L) b1 σ S2 H2 → Hold E B Γ b1 σ S2 H2 := by
  obtain ⟨Fs, hF, hs⟩ := h.sl
  let Ow : Addr → Prop := fun a => ∃ i p, Γ[i]? = some (.ow p) ∧ Fs i a
  have lOw : ∀ a o, (if Ow a then H a else none) = some o → Ow a ∧ H a = some o := fun a o e => by
    by_cases z : Ow a
    · rw [if_pos z] at e; exact ⟨z, e⟩
    · rw [if_neg z] at e; cases e
  refine ⟨fun a => if Ow a then H a else none, ⟨⟨h.same, h.kp.up, fun a o h1 h2 h3 => h.kp.kp a o h1 h2 fun z => h3 (.inl z)⟩, ⟨h.ef, fun a o e => ?_, fun a o e => ?_⟩, fun _ _ => False, ⟨fun _ _ z => z.elim, fun _ _ _ z => z.elim⟩, fun i s e => ?_⟩, fun b1 S2 H2 s2 h2 => ?_⟩
  · obtain ⟨⟨i, p, _, z⟩, e⟩ := lOw a o e
    exact ⟨(hF.at_ i a z).1, e⟩
  · obtain ⟨⟨i, p, _, z⟩, e⟩ := lOw a o e
    exact (hF.at_ i a z).2.2.1
  · rcases fz.get e with ⟨rfl, _⟩ | ⟨p, rfl, e'⟩ | ⟨p, q, rfl, vw, e'⟩
    · trivial
    · obtain ⟨x, e1, e2⟩ := hs i _ e'; exact ⟨x, e1, e2⟩
    · obtain ⟨x, e1, e2⟩ := hs i _ e'
      exact ⟨x, e1, vw.v e2 _ fun a o z e => by show (if Ow a then H a else none) = some o; rw [if_pos ⟨i, p, e', z⟩]; exact e⟩
  · have kk : ∀ a o, Ow a → H a = some o → S2 a = none ∧ H2 a = some o := fun a o z e => h2.ef.2.1 a o (by show (if Ow a then H a else none) = some o; rw [if_pos z]; exact e)
    refine ⟨⟨h2.same, h2.kp.up, fun a o e1 e2 e3 => h2.kp.kp a o e1 e2 fun z => z.elim e3 fun ⟨o', z⟩ => ?_⟩, h2.ef.1, fun i a => (∃ p, Γ[i]? = some (.ow p)) ∧ Fs i a, ⟨fun i a ⟨⟨p, ep⟩, e⟩ => ?_, fun i j a e1 e2 => hF.ds _ _ a e1.2 e2.2⟩, fun i s e => ?_⟩
    · obtain ⟨⟨i, p, _, z⟩, _⟩ := lOw a o' z
      rw [(hF.at_ i a z).2.1] at e2; cases e2
    · obtain ⟨r1, r2, r3, o, r4⟩ := hF.at_ i a e
      have := kk a o ⟨i, p, ep, e⟩ r4
      exact ⟨this.1, r2, r3, o, this.2⟩
    · have q := hs i s e
      cases s with
      | no => trivial
      | st p => obtain ⟨x, e1, e2⟩ := q; exact ⟨x, e1, p.mono s2 e2⟩
      | ow p =>
        obtain ⟨x, e1, e2⟩ := q
        refine ⟨x, e1, ?_⟩
        have ef : (fun a => (∃ p, Γ[i]? = some (.ow p)) ∧ Fs i a) = Fs i := funext fun a => propext ⟨fun z => z.2, fun z => ⟨⟨p, e⟩, z⟩⟩
        show p.p S2 H2 x (fun a => (∃ p, Γ[i]? = some (.ow p)) ∧ Fs i a)
        rw [ef]
        exact p.mono s2 (fun a o ha e' => (kk a o ⟨i, p, e, ha⟩ e').2) e2
theorem z_lendX {Γ' : Hp → Env} {e : Expr} {m : M τ α} {R : Rel α} (fz : FrzX Γ Γ') (h : ∀ L, ZE G c (E.lent L) W (Γ' L) e m R) : ZE G c E W Γ e m R := fun X C => pe_wk (pe_ex fun L => h L X C) fun σ H Q _ ⟨B, S, b, hh, q⟩ => by
  obtain ⟨L, hp, back⟩ := hh.lendX fz
  refine ⟨L, B, S, b, hp, ?_⟩
  cases e : m b with
  | stuck => rw [e] at q; exact q.elim
  | exc x b1 => rw [e] at q; exact fun c d S' H' s' h' xa => q c d S' H' s' (back b1 S' H' s' h') xa
  | ok a b1 => rw [e] at q; exact fun v S' H' s' h' r => q v S' H' s' (back b1 S' H' s' h') r
theorem zt_lendX {Γ' : Hp → Env} {e : Expr} {m : M τ Bool} (fz : FrzX Γ Γ') (h : ∀ L, ZT G c (E.lent L) W (Γ' L) e m) : ZT G c E W Γ e m := fun X C => pt_wk (pt_ex fun L => h L X C) fun σ H Q _ ⟨B, S, b, hh, q⟩ => by
  obtain ⟨L, hp, back⟩ := hh.lendX fz
  refine ⟨L, B, S, b, hp, ?_⟩
  cases e : m b with
  | stuck => rw [e] at q; exact q.elim
  | exc x b1 => rw [e] at q; exact fun c d S' H' s' h' xa => q c d S' H' s' (back b1 S' H' s' h') xa
  | ok a b1 => rw [e] at q; exact fun S' H' s' h' => q S' H' s' (back b1 S' H' s' h')

/-! reading what is lent -/
theorem rlf_at {R : Rel α} {xs : List α} {v : V} (hl : HasL E L) (hh : Hold E B Γ b σ S H) (h : (rLF L R).is xs S v) : ∃ a vs, v = .ref a ∧ L a = some (.lst vs) ∧ H a = some (.lst vs) ∧ All2 (fun x v => R.is x S v) xs vs :=
  let ⟨a, vs, e, h1, q⟩ := h; ⟨a, vs, e, h1, hl.h hh.ef _ _ h1, q⟩
section
variable {ea eb e : Expr} {p pos : Pos} {x : Str}
theorem z_ixF {R : Rel α} {ma : M τ (List α)} {mb : M τ Int} (hl : HasL E L) (ha : ZE G c E W Γ ea ma (rLF L R)) (hb : ZE G c E W Γ eb mb rInt) (hs : PIx eb := by intro _ _; rfl) : ZE G c E W Γ (.Subscript ea eb pos) (zop2 ixat ma mb) R := fun X C =>
  pe_wk (pe_ix ix_list (ha X C) (hb X C) hs) fun _ _ _ _ q => by
    rw [C.K]
    refine tz_op2 (fun B σ S H b xs i v w Q hh hx e4 q => ?_) q
    obtain ⟨a, vs, e1, _, e2, e3⟩ := rlf_at hl hh hx
    unfold ixat at q
    cases z : atI xs i with
    | none => rw [z] at q; exact q.elim
    | some x =>
      rw [z] at q
      obtain ⟨u, h1, h2⟩ := e3.atI z
      exact ⟨a, vs, i, u, e1, e4, .of e2, h1, aft_ret hh q h2⟩
theorem z_lenF {R : Rel α} {m : M τ (List α)} (hl : HasL E L) (bl : Blt G c x (.builtin "len")) (ha : ZE G c E W Γ e m (rLF L R)) (hs : Star e [] := by intro _; rfl) : ZE G c E W Γ (.Call (.Name x p) [e] [] pos) (zapp flen m) rInt :=
  z_b1 bl (R := rLF L R) (r := fun xs H Q => ∃ p ys, xs = [.ref p] ∧ (SqL G.K H p ys ∨ SqT G.K H p ys) ∧ Q (.int ys.length) H) (fun X C => by rw [← C.K]; exact call_len_seq) (fun B σ S H b x v Q hh hx q => by
    obtain ⟨a, vs, e1, _, e2, e3⟩ := rlf_at hl hh hx
    exact ⟨a, vs, by rw [e1], .inl (.of e2), by rw [← e3.length]; exact aft_ret hh q rfl⟩) ha hs
theorem z_tupF {R : Rel α} {m : M τ (List α)} (hl : HasL E L) (bl : Blt G c x (.type "tuple")) (ha : ZE G c E W Γ e m (rLF L R)) (hs : Star e [] := by intro _; rfl) : ZE G c E W Γ (.Call (.Name x p) [e] [] pos) (zapp ret m) (rVT R) :=
  z_ty1 bl (R := rLF L R) (r := fun xs H Q => ∃ p ys, xs = [.ref p] ∧ ((SqL G.K H p ys ∧ ∀ l, H l = none → Q (.ref l) (upd H l (.tup ys))) ∨ (SqT G.K H p ys ∧ Q (.ref p) H))) (fun X C => by rw [← C.K]; exact call_tuple_of) (fun B σ S H b x v Q hh hx q => by
    obtain ⟨a, vs, e1, _, e2, e3⟩ := rlf_at hl hh hx
    exact ⟨a, vs, by rw [e1], .inl ⟨.of e2, fun l hn => aft_new hh q hn (rVT_new (hh.same.free hn) e3)⟩⟩) ha hs
theorem z_listF {R : Rel α} {m : M τ (List α)} (hl : HasL E L) (bl : Blt G c x (.type "list")) (ha : ZE G c E W Γ e m (rLF L R)) (hs : Star e [] := by intro _; rfl) : ZE G c E W Γ (.Call (.Name x p) [e] [] pos) (zapp ret m) (rLst R) :=
  z_ty1 bl (R := rLF L R) (r := fun xs H Q => ∃ p ys, xs = [.ref p] ∧ (SqL G.K H p ys ∨ SqT G.K H p ys) ∧ ∀ l, H l = none → Q (.ref l) (upd H l (.lst ys))) (fun X C => by rw [← C.K]; exact call_list_of) (fun B σ S H b x v Q hh hx q => by
    obtain ⟨a, vs, e1, _, e2, e3⟩ := rlf_at hl hh hx
    exact ⟨a, vs, by rw [e1], .inl (.of e2), fun l hn => aft_new hh q hn (rLst_new (hh.same.free hn) e3)⟩) ha hs
theorem z_isiF {R : Rel α} {k : Bool} {y : Str} {p2 : Pos} {n : String} {m : M τ (List α)} (hl : HasL E L) (bl : Blt G c x (.builtin "isinstance")) (b2 : Blt G c y (.type n)) (hk : PySem.W.kitOne G.K (.type "list") (.type n) = some k) (ha : ZE G c E W Γ e m (rLF L R)) (hs : Star e [.Name y p2] := by intro _; rfl) :
    ZE G c E W Γ (.Call (.Name x p) [e, .Name y p2] [] pos) (zis k m) rBl := fun X C =>
  pe_wk (pe_callB (call_isi) (C.gl bl.g) (by rw [C.mg]; exact bl.m) bl.v (pa_cons (ha X C) (pa_cons (pe_bltn (v := .ty n) (C.gl b2.g) (by rw [C.mg]; exact b2.m) b2.v rfl b2.n b2.d) pa_nil (by rfl)) (hs X.env)) bl.n bl.d (hs X.env) (by rfl)) fun σ H Q _ ⟨B, S, b, hh, q⟩ => by
    refine tz_bnd hh q fun x b1 v S1 H1 s1 h1 r1 q1 => ?_
    obtain ⟨a, vs, e1, _, e2, e3⟩ := rlf_at hl h1 r1
    subst e1
    exact ⟨.ref a, .ty n, .type "list", .type n, k, rfl, .ty n, .base (.lst e2), by rw [C.K]; exact hk, aft_ret h1 q1 rfl⟩
theorem src_lent {K : PySem.W.Frag} {R : Rel β} {xs : List β} {a : Addr} {vs : List V} (hl : HasL E L) (ha : L a = some (.lst vs)) : Src (fun S H => ∃ b, E.is b S H) (Itl K a) xs R (fun S => All2 (fun x v => R.is x S v) xs vs) where
  mono := fun s q => All2.rel s q
  go := fun {i S H} s ⟨b, he⟩ q hi => ⟨vs, vs[i]'(by rw [← q.length]; exact hi), .of (hl.h he _ _ ha), by rw [List.getElem?_eq_getElem]⟩
  yl := fun {i S H H' x y} s ⟨b, he⟩ q hy ⟨e1, e2⟩ => .inl ⟨e1, by
    obtain ⟨v, h1, h2⟩ := q.get hy
    have := e2 vs (.of (hl.h he _ _ ha))
    rw [h1] at this; cases this; exact h2⟩
  st := fun s ⟨b, he⟩ q => ⟨vs, .of (hl.h he _ _ ha), by rw [q.length]; exact Nat.le_refl _⟩
theorem zi_listF {tg : Expr} {m : M τ (List β)} {R : Rel β} (hl : HasL E L) (h : ZE G c E W Γ e m (rLF L R)) : ZI G c E W Γ tg e m R := fun X C => pi_wk (pi_list (h X C)) fun σ H Q ⟨B, S, b, hh, q⟩ => by
  refine ⟨B, S, b, hh, ?_⟩
  cases e : m b with
  | stuck => rw [e] at q; exact q.elim
  | exc x b1 => rw [e] at q; exact q
  | ok xs b1 =>
    rw [e] at q
    intro v S' H' s h' hx
    obtain ⟨a, vs, e1, e2, e3, e4⟩ := rlf_at hl h' hx
    exact ⟨a, e1, ⟨vs, .of e3⟩, q _ _ S' H' s h' (src_lent hl e2) e4⟩
end

/-! calls where something is lent -/
theorem Hold.callL {E0 : Eff τ} (h : Hold (E0.lent L) B Γ b σ S H) (k : Keep (noE.lent L).own ⟨S, H⟩ S' H') (e : (noE.lent L).is () S' H') : Hold (E0.lent L) B Γ b σ S' H' := by
  refine h.call ⟨k.same, k.up, fun a o h1 h2 h3 => k.kp a o h1 h2 fun z => h3 (z.elim (fun z => z.elim) .inr)⟩ ⟨?_, e.2.1, h.ef.2.2⟩
  have nl : ∀ a, E0.own a → ¬ (noE.lent L).own a := fun a ha z => z.elim (fun z => z.elim) fun ⟨o, z⟩ => h.ef.2.2 a o z ha
  refine E0.mono k.up (fun a ha hn => ?_) (fun a o ha ho => ?_) h.ef.1
  · obtain ⟨_, o, ho⟩ := E0.th h.ef.1 ha
    exact (k.kp a o hn ho (nl a ha)).1
  · exact (k.kp a o (E0.th h.ef.1 ha).1 ho (nl a ha)).2
theorem Hold.callE {E0 : Eff τ} (h : Hold (E0.lent L) B Γ b σ S H) (k : Keep E0.own ⟨S, H⟩ S' H') (e : E0.is b' S' H') : Hold (E0.lent L) B Γ b' σ S' H' :=
  h.call ⟨k.same, k.up, fun a o h1 h2 h3 => k.kp a o h1 h2 fun z => h3 (.inl z)⟩ ⟨e, fun a o z => k.kp a o (h.ef.2.1 a o z).1 (h.ef.2.1 a o z).2 (h.ef.2.2 a o z), h.ef.2.2⟩
/-- of a def that only reads what is lent -/
theorem tz_spL {E0 : Eff τ} {A : Hp → α → List Pr} {m : α → M Unit ρ} {R : Rel ρ} {x : α} {vs : List V} {Q : VK} (h : Hold (E0.lent L) B Γ b σ S H) (r : All2 (fun (p : Pr) v => p.p S v) (A L x) vs) (a : aft G (E0.lent L) W B Γ σ S R Q (lft (m x) b)) : spZ G (fun L => noE.lent L) A m R vs H Q (WE W σ) := by
  refine ⟨L, x, S, (), r, h.same, ⟨trivial, h.ef.2.1, fun _ _ _ z => z⟩, ?_⟩
  unfold lft at a
  cases e : m x () with
  | stuck => rw [e] at a; exact a.elim
  | exc e b' => rw [e] at a; exact fun c d S' H' k he xa => a c d S' H' k.up (h.callL k he) xa
  | ok r b' => rw [e] at a; exact fun v S' H' k he rr => a v S' H' k.up (h.callL k he) rr
theorem z_callL {E0 : Eff τ} {g : Bool} {x : Str} {k : Nat} {ps : List Str} {A : Hp → α → List Pr} {f : α → M Unit ρ} {R : Rel ρ} {e : Expr} {es : List Expr} {m : M τ α} {p pos : Pos} (F : FnAt g G x k ps (spZ G (fun L => noE.lent L) A f R)) (hk : k ≤ c.k) (hg : g = true → c.gd = true) (gb : Gb c x) (ha : ZA G c (E0.lent L) W Γ (e :: es) m (A L))
    (hd : (x == ("__debug__" : Str)) = false := by decide) (he : Star e es := by intro _; rfl) (hpl : ∀ env : PySem.Env, (backTo pos (starEach es env)).any (·.1) = false := by intro _; rfl) : ZE G c (E0.lent L) W Γ (.Call (.Name x p) (e :: es) [] pos) (zapp (fun x => lft (f x)) m) R := fun X C => by
  obtain ⟨f0, fd, h1, h2, h3, h4⟩ := F.ex
  rw [← C.prog, ← C.w, ← C.K, ← C.mg, ← C.base] at h4
  rw [← C.mg] at h1
  rw [← C.K] at h2 h3
  exact pe_wk (pe_callG (Ex := WE W) h4 (C.room.mono hk) (fun z => C.gds (hg z)) (C.gl gb) h1 h2 h3 .nil (passAt C.takes) (ha X C) hd (he _) (hpl _)) fun σ H Q _ ⟨B, S, b, hh, qq⟩ =>
    tz_Abnd hh qq fun x b1 vs S1 H1 s1 hh1 r1 q1 => by rw [List.append_nil]; exact tz_spL hh1 r1 q1
/-- of a def of what else may change (the bag) -/
theorem tz_spE {E0 : Eff τ} {E' : θ → Eff τ} {A : θ → α → List Pr} {m : α → M τ ρ} {R : Rel ρ} {q : θ} {x : α} {vs : List V} {Q : VK} (hE : E' q = E0) (h : Hold (E0.lent L) B Γ b σ S H) (r : All2 (fun (p : Pr) v => p.p S v) (A q x) vs) (a : aft G (E0.lent L) W B Γ σ S R Q (m x b)) : spZ G E' A m R vs H Q (WE W σ) := by
  subst hE
  refine ⟨q, x, S, b, r, h.same, h.ef.1, ?_⟩
  cases e : m x b with
  | stuck => rw [e] at a; exact a.elim
  | exc e b' => rw [e] at a; exact fun c d S' H' k he xa => a c d S' H' k.up (h.callE k he) xa
  | ok r b' => rw [e] at a; exact fun v S' H' k he rr => a v S' H' k.up (h.callE k he) rr
theorem z_callU {E0 : Eff τ} {g : Bool} {x : Str} {k : Nat} {ps : List Str} {E' : θ → Eff τ} {A : θ → α → List Pr} {f : α → M τ ρ} {R : Rel ρ} {q : θ} {e : Expr} {es : List Expr} {m : M τ α} {p pos : Pos} (F : FnAt g G x k ps (spZ G E' A f R)) (hE : E' q = E0) (hk : k ≤ c.k) (hg : g = true → c.gd = true) (gb : Gb c x) (ha : ZA G c (E0.lent L) W Γ (e :: es) m (A q))
    (hd : (x == ("__debug__" : Str)) = false := by decide) (he : Star e es := by intro _; rfl) (hpl : ∀ env : PySem.Env, (backTo pos (starEach es env)).any (·.1) = false := by intro _; rfl) : ZE G c (E0.lent L) W Γ (.Call (.Name x p) (e :: es) [] pos) (zapp f m) R := fun X C => by
  obtain ⟨f0, fd, h1, h2, h3, h4⟩ := F.ex
  rw [← C.prog, ← C.w, ← C.K, ← C.mg, ← C.base] at h4
  rw [← C.mg] at h1
  rw [← C.K] at h2 h3
  exact pe_wk (pe_callG (Ex := WE W) h4 (C.room.mono hk) (fun z => C.gds (hg z)) (C.gl gb) h1 h2 h3 .nil (passAt C.takes) (ha X C) hd (he _) (hpl _)) fun σ H Q _ ⟨B, S, b, hh, qq⟩ =>
    tz_Abnd hh qq fun x b1 vs S1 H1 s1 hh1 r1 q1 => by rw [List.append_nil]; exact tz_spE hE hh1 r1 q1
end
end Zk

namespace Zk
open PySem L2

section
variable {τ α β γ δ κ ρ ι θ : Type} {G : Gx} {c : Sc} {E : Eff τ} {W : WX} {Γ : Env} {B : Bs} {σ : St} {S S1 S' H H' : Hp} {b b' : τ} {Ls : Ls κ ρ} {L : Hp}
/-! ### instances made of what is lent -/
def finIE (G : Gx) (C : Addr) (E : Eff Unit) (S H : Hp) (l : Addr) (fs : ρ → List (Str × Pr)) (Q : VK) (XE : XK) : Out Unit ρ → Prop
  | .ok r _ => ∀ S' H', Keep E.own ⟨S, del H l⟩ S' H' → E.is () S' H' → S' l = none → (ownO (fun _ => True) C (fs r)).p S' H' (.ref l) (fun x => x = l) → Q .non H'
  | .exc e _ => ∀ c d S' H', Keep E.own ⟨S, del H l⟩ S' H' → E.is () S' H' → XAt G e H' c d → XE c d H'
  | .stuck => False
/-- the promise of an __init__ that reads what is lent -/
def spIE (G : Gx) (C : Addr) (E : θ → Eff Unit) (A : θ → α → List Pr) (m : α → M Unit ρ) (fs : ρ → List (Str × Pr)) : Sp := fun vs H Q XE => ∃ q a l dx S us, vs = .ref l :: us ∧ All2 (fun (p : Pr) v => p.p S v) (A q a) us ∧ Same S H ∧ (E q).is () S H ∧ ¬ (E q).own l ∧ S l = none ∧ H l = some (.ins C dx []) ∧ finIE G C (E q) S H l fs Q XE (m a ())
theorem init_okE {g : Bool} {x qual : Str} {st : Stmt} {f : Addr} {fd : FuncData} {N ps : List Str} {k : Nat} {C : Addr} {E : θ → Eff Unit} {A : θ → α → List Pr} {fs : ρ → List (Str × Pr)} {mb : α → M Unit (Fl β Empty Empty)} {Γn : θ → Addr → α → β → Env} {n : α → β → ρ} {kws : List (Str × V)} (F : FunD G.K x qual (defArgs st) (defBody st) (defScope st) [] kws f fd) (sc : FnScope N ps (defScope st))
    (hA : ∀ q a, (A q a).length + 1 = ps.length) (hn : ∀ q l a y, (Γn q l a y)[0]? = some (.ow (ownO (fun x => x = l) C (fs (n a y)))))
    (hb : ∀ q l a (W : WX), ZB G ⟨N, defScope st, k, true, fun _ => true, g⟩ (E q) W ⟨fun e : Empty => e.elim, [], (⟨fun e => e.elim, fun {e} => e.elim⟩ : Rel Empty)⟩ (.ow (ownO (fun x => x = l) C []) :: ((A q a).map .st ++ List.replicate (N.length - ((A q a).length + 1)) .no)) (defBody st) (mb a) (Γn q l a)) :
    FnG g G.P G.w G.K G.mg G.base (k + 1) f fd ps (spIE G C E A (fun a => zini (n a) (mb a)) fs) := by
  refine fng_D F sc (fun vs H Q XE h => ?_) (fun cdv A0 outer s H vs Q XE hr hgd h => ?_)
  · obtain ⟨q, a, l, dx, S, us, rfl, r, _⟩ := h
    rw [List.length_cons, ← r.length, hA]
  · obtain ⟨q, a, l, dx, S, us, rfl, r, hs, he, hno, hl, hH, fz⟩ := h
    let W : WX := fun cls d _ H => XE cls d H
    have Cc : CtxOk G ⟨N, defScope st, k, true, fun _ => true, g⟩ W (cxOf (L2.CX G.P G.w) G.P G.w G.K G.mg G.base N qual (defScope st) f cdv A0 outer s H XE) :=
      ⟨rfl, rfl, rfl, rfl, rfl, rfl, sc.nd, rfl, rfl, hr, hgd, takes_of rfl rfl rfl rfl, passes_of rfl, rfl, fun _ => ⟨rfl, rfl⟩⟩
    have hh : Hold (E q) ⟨S, del H l⟩ (.ow (ownO (fun x => x = l) C []) :: ((A q a).map .st ++ List.replicate (N.length - ((A q a).length + 1)) .no)) () (L2.start N (.ref l :: us)) S H := by
      refine ⟨⟨hs, Same.refl _, fun x o h1 h2 _ => ⟨h1, ?_⟩⟩, he, fun i x => i = 0 ∧ x = l, ⟨fun i x ⟨e1, e2⟩ => ?_, fun i j x e1 e2 => e1.1.trans e2.1.symm⟩, fun i sl e => ?_⟩
      · have hx : x ≠ l := fun z => by rw [z] at h2; have h2 : del H l l = some o := h2; rw [del_same] at h2; cases h2
        have h2 : del H l x = some o := h2
        rw [del_ne hx] at h2; exact h2
      · subst e1 e2
        exact ⟨hl, del_same, hno, _, hH⟩
      · unfold L2.start
        cases i with
        | zero =>
          cases e
          exact ⟨.ref l, rfl, l, dx, [], rfl, rfl, fun x => ⟨fun z => z.2, fun z => ⟨rfl, z⟩⟩, hH, Nat.le_refl _, fun _ _ => rfl, fun f p z => nomatch z⟩
        | succ i =>
          simp only [List.getElem?_cons_succ] at e
          simp only [List.map_cons, List.cons_append, List.getElem?_cons_succ]
          by_cases hi : i < (A q a).length
          · rw [List.getElem?_append_left (by simpa using hi), List.getElem?_map] at e
            cases e2 : (A q a)[i]? with
            | none => rw [e2] at e; cases e
            | some p =>
              rw [e2] at e; cases e
              obtain ⟨v, h1, h2⟩ := r.get e2
              rw [List.getElem?_append_left (by rw [List.length_map, ← r.length]; exact hi), List.getElem?_map, h1]
              exact ⟨v, rfl, h2⟩
          · rw [List.getElem?_append_right (by simpa using hi), List.getElem?_replicate] at e
            split at e
            · cases e; trivial
            · cases e
    refine ⟨_, hb q l a W _ Cc, ⟨S, del H l⟩, S, (), hh, ?_⟩
    have fz : finIE G C (E q) S H l fs Q XE (zini (n a) (mb a) ()) := fz
    unfold zini at fz
    cases e : mb a () with
    | stuck => rw [e] at fz; exact fz.elim
    | exc e b' => rw [e] at fz; exact fun c d σ' S' H' h xa => fz c d S' H' h.kp h.ef xa
    | ok r b' =>
      rw [e] at fz
      cases r with
      | bk k => exact k.elim
      | ct k => exact k.elim
      | rt r => exact r.elim
      | nx y =>
        intro σ' S' H' _ h
        obtain ⟨Fs, hF, hsl⟩ := id h.sl
        obtain ⟨v, e1, l', dx', vs', rfl, e0, hf, hu, h2, h3, h4⟩ := hsl 0 _ (hn q l a y)
        have e0 : l' = l := e0
        subst e0
        obtain ⟨q1, _, _, _⟩ := hF.at_ 0 l' ((hf l').mpr rfl)
        exact fz S' H' h.kp h.ef q1 ⟨l', dx', vs', rfl, trivial, fun _ => Iff.rfl, hu, h2, h3, h4⟩
/-- behind the making of an instance -/
theorem Hold.made {E : Eff Unit} {b : Unit} {C0 l dx : Addr} (hh : Hold E B Γ b σ S H) (hl : H l = none) (hdx : H dx = none) (k : Keep E.own ⟨S, del (upd (upd H dx (.own l)) l (.ins C0 dx [])) l⟩ S' H') (he : E.is () S' H') (hS' : S' l = none) : Hold E B Γ () σ S' (del H' l) := by
  have old : ∀ a o, H a = some o → del (upd (upd H dx (.own l)) l (.ins C0 dx [])) l a = some o := fun a o e => by
    rw [del_ne (ne_of_none e hl), upd_ne (ne_of_none e hl), upd_ne (ne_of_none e hdx)]; exact e
  have nl := hh.fr hl
  refine hh.call ⟨fun a o e => ?_, k.up, fun a o e1 e2 e3 => ?_⟩ (E.mono (Same.refl _) (fun _ _ z => z) (fun a o ha e => ?_) he)
  · rw [del_ne (fun z => by rw [z, hS'] at e; cases e)]; exact k.same _ _ e
  · rw [del_ne (ne_of_none e2 hl)]; exact k.kp a o e1 (old a o e2) e3
  · rw [del_ne (fun z => nl (by rw [← z]; exact ha))]; exact e
theorem Hold.madeX {E : Eff Unit} {b : Unit} {C0 l dx : Addr} (hh : Hold E B Γ b σ S H) (hl : H l = none) (hdx : H dx = none) (k : Keep E.own ⟨S, del (upd (upd H dx (.own l)) l (.ins C0 dx [])) l⟩ S' H') (he : E.is () S' H') : Hold E B Γ () σ S' H' := by
  have old : ∀ a o, H a = some o → del (upd (upd H dx (.own l)) l (.ins C0 dx [])) l a = some o := fun a o e => by
    rw [del_ne (ne_of_none e hl), upd_ne (ne_of_none e hl), upd_ne (ne_of_none e hdx)]; exact e
  exact hh.call ⟨k.same, k.up, fun a o e1 e2 e3 => k.kp a o e1 (old a o e2) e3⟩ he
theorem tz_spIE {E : Eff Unit} {E' : θ → Eff Unit} {C0 l dx : Addr} {A : θ → α → List Pr} {f : α → M Unit ρ} {fs : ρ → List (Str × Pr)} {q : θ} {a : α} {ws : List V} {b : Unit} {Q : VK} (hE : E' q = E) (hh : Hold E B Γ b σ S H) (hl : H l = none) (hdx : H dx = none) (r : All2 (fun (p : Pr) v => p.p S v) (A q a) ws)
    (q2 : aftF G E W B Γ σ S (fun r => ownO (fun _ => True) C0 (fs r)) Q (lft (f a) b)) : spIE G C0 E' A f fs (.ref l :: ws) (upd (upd H dx (.own l)) l (.ins C0 dx [])) (fun z H' => z = .non ∧ Q (.ref l) H') (WE W σ) := by
  subst hE
  refine ⟨q, a, l, dx, S, ws, rfl, r, fun a o e => ?_, (E' q).mono (Same.refl _) (fun _ _ z => z) (fun a o ha e => ?_) hh.ef, hh.fr hl, hh.same.free hl, upd_same, ?_⟩
  · have e := hh.same _ _ e
    rw [upd_ne (ne_of_none e hl), upd_ne (ne_of_none e hdx)]; exact e
  · rw [upd_ne (ne_of_none e hl), upd_ne (ne_of_none e hdx)]; exact e
  unfold lft at q2
  cases e : f a () with
  | stuck => rw [e] at q2; exact q2.elim
  | exc e b' =>
    rw [e] at q2
    exact fun c d S' H' k he xa => q2 c d S' H' k.up (hh.madeX hl hdx k he) xa
  | ok r b' =>
    rw [e] at q2
    intro S' H' k he hS' hO
    refine ⟨rfl, q2 (.ref l) S' (del H' l) H' (fun x => x = l) k.up (hh.made hl hdx k he hS') (fun x e => ?_) (fun x n => (del_ne n).symm) hO⟩
    subst e
    obtain ⟨l', dx', vs', e', _, _, hu, _⟩ := hO
    cases e'
    exact ⟨del_same, _, hu⟩
theorem zf_makeKE {E : Eff Unit} {gd : Bool} {x kw : Str} {C0 : Addr} {k n : Nat} {ps : List Str} {E' : θ → Eff Unit} {A : θ → α → List Pr} {f : α → M Unit ρ} {fs : ρ → List (Str × Pr)} {Ad : β → List Pr} {Rk : Rel γ} {gV : List V → List V → List V} {g : β × γ → α} {q : θ} {e ek : Expr} {es : List Expr} {m : M Unit β} {mk : M Unit γ} {p pos kp : Pos} (F : MkAtK gd G C0 k n ps [kw] (spIE G C0 E' A f fs) gV) (hE : E' q = E) (hm : G.mg x = some (.ref C0)) (hk : k + 1 ≤ c.k) (hg : gd = true → c.gd = true) (gb : Gb c x)
    (hA : ∀ y, (Ad y).length = n) (hd : ∀ y (z : γ) S l us w, All2 (fun (p : Pr) v => p.p S v) (Ad y) us → Rk.is z S w → ∃ ws, gV (.ref l :: us) [w] = .ref l :: ws ∧ All2 (fun (p : Pr) v => p.p S v) (A q (g (y, z))) ws) (ha : ZA G c E W Γ (e :: es) m Ad) (hkw : ZE G c E W Γ ek mk Rk)
    (hdb : (x == ("__debug__" : Str)) = false := by decide) (he : Star e es := by intro _; rfl)
    (hall : ∀ env : PySem.Env, (backToKw pos (keywordEach [⟨some kw, ek, kp⟩] env)).all (·.1.isSome) = true := by intro _; rfl) (hks : ∀ env : PySem.Env, (backToKw pos (keywordEach [⟨some kw, ek, kp⟩] env)).filterMap (·.1) = [kw] := by intro _; rfl)
    (hpl : ∀ env : PySem.Env, ((backTo pos (starEach (e :: es) env)).any (·.1) || (backToKw pos (keywordEach [⟨some kw, ek, kp⟩] env)).any (·.1.isNone)) = false := by intro _; rfl) :
    ZF G c E W Γ (.Call (.Name x p) (e :: es) [⟨some kw, ek, kp⟩] pos) (bnd m fun y => bnd mk fun z => lft (f (g (y, z)))) (fun r => ownO (fun _ => True) C0 (fs r)) := fun X C => by
  obtain ⟨f0, fd, gg, h1, h2, h4⟩ := F.ex
  rw [← C.prog, ← C.w, ← C.K, ← C.mg, ← C.base] at h4
  rw [← C.K] at h1 h2
  rw [← C.mg] at hm
  refine pe_wk (pe_makeKS (Ex := WE W) h1 h4 (C.room.mono hk) (fun z => C.gds (hg z)) (C.gl gb) hm h2 (passAt C.takes) (ha X C) (pk_cons (hkw X C) pk_nil) (hall _) (hks _) hdb (he _) (hpl _)) fun σ H Q _ ⟨B, S, b, hh, qq⟩ => ?_
  refine tz_AbndF hh qq fun y b1 us S1 H1 s1 hh1 r1 q1 => ?_
  refine tz_bndF hh1 q1 fun z b2 w S2 H2 s2 hh2 r2 q2 => ?_
  refine ⟨by rw [← r1.length]; exact hA y, rfl, fun l dx hl hdx hne => ?_⟩
  obtain ⟨ws, e0, rw'⟩ := hd y z S2 l us w (r1.imp fun p v z => p.mono s2 z) r2
  rw [e0]
  exact tz_spIE hE hh2 hl hdx rw' q2
theorem zf_makeK0E {E : Eff Unit} {gd : Bool} {x : Str} {C0 : Addr} {k n : Nat} {ps : List Str} {E' : θ → Eff Unit} {A : θ → α → List Pr} {f : α → M Unit ρ} {fs : ρ → List (Str × Pr)} {Ad : β → List Pr} {gV : List V → List V → List V} {g : β → α} {q : θ} {e : Expr} {es : List Expr} {m : M Unit β} {p pos : Pos} (F : MkAtK gd G C0 k n ps [] (spIE G C0 E' A f fs) gV) (hE : E' q = E) (hm : G.mg x = some (.ref C0)) (hk : k + 1 ≤ c.k) (hg : gd = true → c.gd = true) (gb : Gb c x)
    (hA : ∀ y, (Ad y).length = n) (hd : ∀ y S l us, All2 (fun (p : Pr) v => p.p S v) (Ad y) us → ∃ ws, gV (.ref l :: us) [] = .ref l :: ws ∧ All2 (fun (p : Pr) v => p.p S v) (A q (g y)) ws) (ha : ZA G c E W Γ (e :: es) m Ad)
    (hdb : (x == ("__debug__" : Str)) = false := by decide) (he : Star e es := by intro _; rfl)
    (hpl : ∀ env : PySem.Env, ((backTo pos (starEach (e :: es) env)).any (·.1) || (backToKw pos (keywordEach [] env)).any (·.1.isNone)) = false := by intro _; rfl) :
    ZF G c E W Γ (.Call (.Name x p) (e :: es) [] pos) (bnd m fun y => lft (f (g y))) (fun r => ownO (fun _ => True) C0 (fs r)) := fun X C => by
  obtain ⟨f0, fd, gg, h1, h2, h4⟩ := F.ex
  rw [← C.prog, ← C.w, ← C.K, ← C.mg, ← C.base] at h4
  rw [← C.K] at h1 h2
  rw [← C.mg] at hm
  refine pe_wk (pe_makeKS (Ex := WE W) h1 h4 (C.room.mono hk) (fun z => C.gds (hg z)) (C.gl gb) hm h2 (passAt C.takes) (ha X C) pk_nil rfl rfl hdb (he _) (hpl _)) fun σ H Q _ ⟨B, S, b, hh, qq⟩ => ?_
  refine tz_AbndF hh qq fun y b2 us S2 H2 s2 hh2 r1 q2 => ?_
  refine ⟨by rw [← r1.length]; exact hA y, rfl, fun l dx hl hdx hne => ?_⟩
  obtain ⟨ws, e0, rw'⟩ := hd y S2 l us r1
  rw [e0]
  exact tz_spIE hE hh2 hl hdx rw' q2

/-! ### a loop over an own list of own lists, each changed in its turn; then it is gone -/
/-- the list at l, and of its lists those at rs -/
def ownRest (R : Rel α) (l : Addr) (rs0 rs : List Addr) (xss : List (List α)) : PrO := ⟨fun S H v F => v = .ref l ∧ l ∉ rs ∧ rs.Nodup ∧ (∀ a, F a ↔ a = l ∨ a ∈ rs) ∧ H l = some (.lst (rs0.map V.ref)) ∧ Rows R S H rs xss,
  fun s k ⟨e, n, d, f, h, q⟩ => ⟨e, n, d, f, k _ _ ((f l).mpr (.inl rfl)) h, Rows.mono s (fun a o ha e => k a o ((f a).mpr (.inr ha)) e) (fun _ z => z) q⟩⟩
theorem rest_at {R : Rel α} {l : Addr} {rs0 rs : List Addr} {xss : List (List α)} {i : Nat} (h : Hold E B Γ b σ S H) (hi : Γ[i]? = some (.ow (ownRest R l rs0 rs xss))) : σ[i]? = some (some (.ref l)) ∧ l ∉ rs ∧ rs.Nodup ∧ H l = some (.lst (rs0.map V.ref)) ∧ Rows R S H rs xss := by
  obtain ⟨Fs, hF, hs⟩ := h.sl
  obtain ⟨v, e1, rfl, n, d, f, hl, q⟩ := hs i _ hi
  exact ⟨slot_get e1, n, d, hl, q⟩
/-- one of the lists goes into a slot of its own -/
theorem Hold.split {R : Rel α} {l : Addr} {rs0 rs : List Addr} {r : Addr} {xs : List α} {xss : List (List α)} {i j : Nat} (h : Hold E B Γ b σ S H) (hi : Γ[i]? = some (.ow (ownRest R l rs0 (r :: rs) (xs :: xss)))) (hij : j ≠ i) (hj : j < σ.length) :
    Hold E B ((Γ.set i (.ow (ownRest R l rs0 rs xss))).set j (.ow (ownL R xs))) b (σ.set j (some (.ref r))) S H := by
  obtain ⟨Fs, hF, hs⟩ := h.sl
  obtain ⟨v, e1, rfl, n, d, f, hl, ⟨us, eu, hu⟩, q⟩ := hs i _ hi
  obtain ⟨nr, d⟩ := List.nodup_cons.mp d
  have nl : l ∉ rs := fun z => n (by simp [z])
  have hlr : l ≠ r := fun z => n (by simp [z])
  have fi : ∀ a, Fs i a ↔ a = l ∨ a = r ∨ a ∈ rs := fun a => (f a).trans (by simp)
  let Fn : Nat → Addr → Prop := fun k a => if k = j then a = r else if k = i then a = l ∨ a ∈ rs else Fs k a
  have sub : ∀ k a, Fn k a → ∃ k', Fs k' a ∧ (k' = k ∨ (k' = i ∧ (k = j ∨ k = i))) := fun k a e => by
    show ∃ k', Fs k' a ∧ _
    by_cases hk : k = j
    · have e : a = r := by have : (if k = j then a = r else if k = i then a = l ∨ a ∈ rs else Fs k a) := e; rwa [if_pos hk] at this
      exact ⟨i, (fi a).mpr (.inr (.inl e)), .inr ⟨rfl, .inl hk⟩⟩
    · have e : (if k = j then a = r else if k = i then a = l ∨ a ∈ rs else Fs k a) := e
      rw [if_neg hk] at e
      by_cases hk2 : k = i
      · rw [if_pos hk2] at e
        exact ⟨i, (fi a).mpr (e.elim .inl fun z => .inr (.inr z)), .inr ⟨rfl, .inr hk2⟩⟩
      · rw [if_neg hk2] at e
        exact ⟨k, e, .inl rfl⟩
  refine ⟨h.kp, h.ef, Fn, ⟨fun k a e => ?_, fun k m a e1 e2 => ?_⟩, fun k s e => ?_⟩
  · obtain ⟨k', e', _⟩ := sub k a e
    exact hF.at_ k' a e'
  · have g1 : ∀ k, Fn k a → k = j → a = r := fun k e hk => by have e : (if k = j then a = r else if k = i then a = l ∨ a ∈ rs else Fs k a) := e; rwa [if_pos hk] at e
    have g2 : ∀ k, Fn k a → k ≠ j → k = i → a = l ∨ a ∈ rs := fun k e hk hk2 => by have e : (if k = j then a = r else if k = i then a = l ∨ a ∈ rs else Fs k a) := e; rwa [if_neg hk, if_pos hk2] at e
    have g3 : ∀ k, Fn k a → k ≠ j → k ≠ i → Fs k a := fun k e hk hk2 => by have e : (if k = j then a = r else if k = i then a = l ∨ a ∈ rs else Fs k a) := e; rwa [if_neg hk, if_neg hk2] at e
    have nor : a = r → ¬ (a = l ∨ a ∈ rs) := fun z w => w.elim (fun w => hlr (w.symm.trans z)) fun w => nr (by rw [← z]; exact w)
    have inI : (a = r ∨ a = l ∨ a ∈ rs) → Fs i a := fun z => (fi a).mpr (by rcases z with z | z | z <;> simp [z])
    by_cases k1 : k = j <;> by_cases m1 : m = j
    · rw [k1, m1]
    · by_cases m2 : m = i
      · exact absurd (g2 m e2 m1 m2) (nor (g1 k e1 k1))
      · exact absurd (hF.ds _ _ a (g3 m e2 m1 m2) (inI (.inl (g1 k e1 k1)))) m2
    · by_cases k2 : k = i
      · exact absurd (g2 k e1 k1 k2) (nor (g1 m e2 m1))
      · exact absurd (hF.ds _ _ a (g3 k e1 k1 k2) (inI (.inl (g1 m e2 m1)))) k2
    · by_cases k2 : k = i <;> by_cases m2 : m = i
      · rw [k2, m2]
      · exact absurd (hF.ds _ _ a (g3 m e2 m1 m2) (inI (.inr (g2 k e1 k1 k2)))) m2
      · exact absurd (hF.ds _ _ a (g3 k e1 k1 k2) (inI (.inr (g2 m e2 m1 m2)))) k2
      · exact hF.ds _ _ a (g3 k e1 k1 k2) (g3 m e2 m1 m2)
  · rcases set_get e with ⟨rfl, rfl⟩ | ⟨nk, e⟩
    · rw [List.getElem?_set_self hj]
      refine ⟨.ref r, rfl, r, us, rfl, fun a => ?_, eu, hu⟩
      show (if k = k then a = r else _) ↔ a = r
      rw [if_pos rfl]
    · rw [List.getElem?_set_ne (Ne.symm nk)]
      rcases set_get e with ⟨rfl, rfl⟩ | ⟨ni, e⟩
      · refine ⟨.ref l, e1, rfl, nl, d, fun a => ?_, hl, q⟩
        show (if k = j then a = r else if k = k then a = l ∨ a ∈ rs else Fs k a) ↔ _
        rw [if_neg nk, if_pos rfl]
      · have hq := hs k s e
        have ef : Fn k = Fs k := funext fun a => by
          show (if k = j then a = r else if k = i then a = l ∨ a ∈ rs else Fs k a) = Fs k a
          rw [if_neg nk, if_neg ni]
        rw [ef]
        exact hq
theorem src_refs {K : PySem.W.Frag} {a : Addr} {rs : List Addr} : Src (fun _ H => H a = some (.lst (rs.map V.ref))) (Itl K a) rs (⟨fun r _ v => v = .ref r, fun _ h => h⟩ : Rel Addr) (fun _ => True) where
  mono := fun _ _ => trivial
  go := fun {i S H} _ e _ hi => ⟨_, .ref rs[i], .of e, by simp [hi]⟩
  yl := fun {i S H H' x y} _ e _ hy ⟨e1, e2⟩ => .inl ⟨e1, by
    have := e2 _ (.of e)
    rw [List.getElem?_map, hy] at this
    cases this; rfl⟩
  st := fun _ e _ => ⟨_, .of e, by simp⟩
theorem drop_cons {l : List β} {i : Nat} {y : β} (h : l[i]? = some y) : l.drop i = y :: l.drop (i + 1) := by
  obtain ⟨h1, h2⟩ := List.getElem?_eq_some_iff.mp h
  rw [List.drop_eq_getElem_cons h1, h2]
theorem zs_forLL {i j : Nat} {x y : Str} {R : Rel α} {rs : List Addr} {xss : List (List α)} {body : List Stmt} {f : List α → M τ (Fl Unit Unit ρ)} {p1 p2 pos : Pos} (n : Nm c i x) (hi : Γ[i]? = some (.ow (ownLL R rs xss))) (ny : Ns c j y) (hij : j ≠ i)
    (hb : ∀ (P : PrO) xs, ZB G c E W ⟨fun _ : Unit => (Γ.set i (.ow P)).set j .no, Ls.x, Ls.R⟩ ((Γ.set i (.ow P)).set j (.ow (ownL R xs))) body (f xs) (fun _ : Unit => (Γ.set i (.ow P)).set j .no))
    (hs : ∀ (env : PySem.Env) v, foldedSetIterable (.Name x p1) env v = pure v := by intro _ _; rfl) :
    ZS G c E W Ls Γ (.For (.Name y p2) (.Name x p1) body [] pos) (zforI (ret xss) () (fun _ xs => f xs)) (fun _ : Unit => (Γ.set i .no).set j .no) := fun X C => by
  let g : TG := fun v σ H Q => ∃ B l r xs rs' xss' S' b', v = .ref r ∧ Hold E B ((Γ.set i (.ow (ownRest R l rs (r :: rs') (xs :: xss')))).set j .no) b' σ S' H ∧ ∀ σ', Hold E B ((Γ.set i (.ow (ownRest R l rs rs' xss'))).set j (.ow (ownL R xs))) b' σ' S' H → Q σ' H
  have hiΓ : i < Γ.length := (List.getElem?_eq_some_iff.mp hi).1
  have gi : ∀ p, ((Γ.set i (.ow p)).set j .no)[i]? = some (.ow p) := fun p => by rw [List.getElem?_set_ne hij, List.getElem?_set_self hiΓ]
  have hg : PG X (.Name y p2) g := pg_wk (pg_name C.set_hN (C.hi ny.n) (by rw [C.sc]; exact ny.l) (C.hf ny)) fun v σ H Q hl ⟨B, l, r, xs, rs', xss', S', b', e, h, q⟩ => by
    subst e
    have sp := h.split (j := j) (gi _) hij (C.lt ny.n hl)
    have e1 : ∀ A B : Sl, ((Γ.set i A).set j .no).set i B = (Γ.set i B).set j .no := fun A B => by rw [List.set_comm _ _ hij, List.set_set]
    rw [e1, List.set_set] at sp
    exact q _ sp
  refine ps_wk (ps_for C.owns C.calm (pi_list (pe_var (C.hi n.n) (by rw [C.sc]; exact n.v) n.d n.cd)) hg (pss_ex fun (p : PrO × List α) => hb p.1 p.2 X C) (hs X.env)) fun D σ H hl ⟨B, S, b, hh, q⟩ => ?_
  obtain ⟨l, e1, nl, d, e2, hq⟩ := ll_at hh hi
  have hlen : rs.length = xss.length := hq.length.symm
  refine ⟨.ref l, e1, l, rfl, ⟨_, .of e2⟩, ?_⟩
  let Γk : Nat → Env := fun k => (Γ.set i (.ow (ownRest R l rs (rs.drop k) (xss.drop k)))).set j .no
  have h0 : Hold E B (Γk 0) b σ S H := by
    obtain ⟨Fs, hF, hs⟩ := hh.sl
    obtain ⟨v, z1, l', rfl, z2, z3, z4, z5, z6⟩ := hs i _ hi
    have : l' = l := by rw [e1] at z1; cases z1; rfl
    subst this
    refine ⟨hh.kp, hh.ef, Fs, hF, fun k s e => ?_⟩
    rcases set_get e with ⟨_, rfl⟩ | ⟨nj, e⟩
    · trivial
    · rcases set_get e with ⟨rfl, rfl⟩ | ⟨ni, e⟩
      · exact ⟨_, z1, rfl, z2, z3, z4, z5, z6⟩
      · exact hs k s e
  have fin : ∀ k b3 (σ3 : St) S3 H3, Hold E B (Γk k) b3 σ3 S3 H3 → Hold E B ((Γ.set i .no).set j .no) b3 σ3 S3 H3 := fun k b3 σ3 S3 H3 h3 => h3.wk fun m s e => by
    rcases set_get e with ⟨_, rfl⟩ | ⟨nj, e⟩
    · exact .inl rfl
    · rcases set_get e with ⟨_, rfl⟩ | ⟨ni, e⟩
      · exact .inl rfl
      · exact .inr (by show ((Γ.set i _).set j .no)[m]? = _; rw [List.getElem?_set_ne (Ne.symm nj), List.getElem?_set_ne (Ne.symm ni)]; exact e)
  refine for_src (g := g) (tb := fun D σ H => ∃ p : PrO × List α, tzS G E W ⟨fun _ : Unit => (Γ.set i (.ow p.1)).set j .no, Ls.x, Ls.R⟩ ((Γ.set i (.ow p.1)).set j (.ow (ownL R p.2))) (f p.2) (fun _ : Unit => (Γ.set i (.ow p.1)).set j .no) D σ H) (D := D) (src_refs (K := X.K) (a := l) (rs := rs))
    (fun k σ' H => ∃ S' b, Same S S' ∧ Hold E B (Γk k) b σ' S' H ∧ aftS G E W Ls B S' (fun _ : Unit => (Γ.set i .no).set j .no) D (zfor (fun _ xs => f xs) () (xss.drop k) b)) ⟨S, b, Same.refl _, h0, q⟩ (fun k σ H hk ⟨S', b, s, h, _⟩ => ⟨S', h.same, (rest_at h (gi _)).2.2.2.1, trivial⟩) ?_ ?_
  · rintro k r σ H hr ⟨S', b', s, h, q'⟩ v H' yl
    have hk : k < xss.length := by rw [← hlen]; exact (List.getElem?_eq_some_iff.mp hr).1
    have dr : rs.drop k = r :: rs.drop (k + 1) := drop_cons hr
    have dx : xss.drop k = xss[k] :: xss.drop (k + 1) := drop_cons (List.getElem?_eq_getElem hk)
    obtain ⟨rfl, hv⟩ : H' = H ∧ v = .ref r := by
      rcases (src_refs (K := X.K) (a := l) (rs := rs)).yl h.same (rest_at h (gi _)).2.2.2.1 trivial hr yl with z | ⟨p, o, hp, _, z⟩
      · exact z
      · exact ⟨yl.1, z⟩
    subst hv
    refine ⟨B, l, r, xss[k], rs.drop (k + 1), xss.drop (k + 1), S', b', rfl, by rw [← dr, ← dx]; exact h, fun σ' h' => ⟨(ownRest R l rs (rs.drop (k + 1)) (xss.drop (k + 1)), xss[k]), B, S', b', h', ?_⟩⟩
    rw [dx] at q'
    unfold zfor at q'
    dsimp only at q' ⊢
    cases e : f xss[k] b' with
    | stuck => rw [e] at q'; exact q'.elim
    | exc x b1 => rw [e] at q'; exact q'
    | ok o b2 =>
      rw [e] at q'
      cases o with
      | nx a => exact fun σ3 S3 H3 s3 h3 => ⟨S3, b2, s.trans s3, h3, q'.same s3⟩
      | ct a => exact fun σ3 S3 H3 s3 h3 => ⟨S3, b2, s.trans s3, h3, q'.same s3⟩
      | bk a => exact fun σ3 S3 H3 s3 h3 => q' σ3 S3 H3 s3 (fin (k + 1) _ _ _ _ h3)
      | rt r => exact q'
  · rintro σ H ⟨S', b', s, h, q'⟩
    rw [hlen, List.drop_length] at q'
    exact q' σ S' H (Same.refl _) (fin _ _ _ _ _ h)
end
end Zk

namespace Zk
open PySem L2

section
variable {τ α β γ δ κ ρ ι θ : Type} {G : Gx} {c : Sc} {E : Eff τ} {W : WX} {Γ : Env} {B : Bs} {σ : St} {S S1 S' H H' : Hp} {b b' : τ} {Ls : Ls κ ρ} {L : Hp}
theorem free_lent (h : Free E) : Free (E.lent L) := ⟨fun k ⟨h1, h2, h3⟩ => ⟨h.h (fun a ha => k a (.inl ha)) h1, fun a o e => ⟨k a (.inr ⟨o, e⟩), (h2 a o e).2⟩, h3⟩⟩
/-- xs[::-1] -/
theorem z_revL {R : Rel α} {e : Expr} {m : M τ (List α)} {j : Nat} {p1 p2 p3 pos : Pos} (h : ZE G c E W Γ e m (rLst R)) : ZE G c E W Γ (.Subscript e (.Slice none none (some (.UnaryOp .USub (.Constant (.int 1) j p1) p2)) p3) pos) (zapp frev m) (rLst R) := fun X C =>
  pe_wk (pe_revL (h X C)) fun σ H Q _ ⟨B, S, b, hh, q⟩ => by
    refine tz_bnd hh q fun x b1 v S1 H1 s1 h1 r1 q1 => ?_
    obtain ⟨a, vs, e1, e2, e3⟩ := r1
    exact ⟨a, vs, e1, by rw [C.K]; exact .of (h1.same _ _ e2), fun p hp => aft_new h1 q1 hp (rLst_new (h1.same.free hp) e3.reverse)⟩
end
end Zk

namespace Zk
open PySem L2

def top (i : Nat) : Stmt := PySem.Challenge.pw_aheadpays_k12_rungs_as_told.main.body.getD i (.Pass ⟨0, 0, 0, 0⟩)
abbrev t_w_take : Stmt := top 21
abbrev t_w_prices : Stmt := top 24
abbrev t_w_any_plan : Stmt := top 25
abbrev t_w_one_price : Stmt := top 30
abbrev t_is_whole : Stmt := top 6
abbrev t_is_between : Stmt := top 7
abbrev t_is_price : Stmt := top 8
abbrev t_are_prices : Stmt := top 14
abbrev t_sums_of : Stmt := top 15
abbrev t_Ladder_init : Stmt := inClass (top 17) 0
abbrev t_w_made : Stmt := top 29
abbrev t_w_places : Stmt := top 26
abbrev t_Ladder_price_at : Stmt := inClass (top 17) 2
abbrev t_Ladder_rung : Stmt := inClass (top 17) 3
abbrev t_w_rung : Stmt := top 22
abbrev t_w_alike : Stmt := top 23
abbrev t_Ladder_bears_up : Stmt := inClass (top 17) 7
abbrev t_Ladder_bears_down : Stmt := inClass (top 17) 8
abbrev t_Ladder_is_plain : Stmt := inClass (top 17) 9
abbrev t_repeated : Stmt := top 16
abbrev t_Ladder_height : Stmt := inClass (top 17) 4
abbrev t_Ladder_total : Stmt := inClass (top 17) 6
abbrev t_Ladder_repr : Stmt := inClass (top 17) 12
abbrev t_Ladder_eq : Stmt := inClass (top 17) 11
abbrev t_Ladder_moved_to : Stmt := inClass (top 17) 1
abbrev t_Ladder_turned : Stmt := inClass (top 17) 10
abbrev t_w_else_right : Stmt := top 28
abbrev t_w_right : Stmt := top 27
abbrev t_plain : Stmt := top 18
abbrev t_law : Stmt := top 31
abbrev t_Wrong_init : Stmt := inClass (top 3) 0
def c_ALL_ALIKE : Int := 12
def c_FARTHEST_AT : Int := 100
def c_MOST_PRICE : Int := 100000000000000000000
def c_MOST_REPEATED : Int := 4
def c_MOST_ROW : Int := 40
structure Cl where
  Ladder : Addr
  Wrong : Addr
  AheadError : Addr
structure XLadder where
  low_ : (List Int)
  middle_ : (List Int)
  high_ : (List Int)
  begin_ : Int
  low_sums_ : (List Int)
  middle_sums_ : (List Int)
  high_sums_ : (List Int)
  deriving DecidableEq
def fs_Ladder (D : Cl) (x : XLadder) : List (Str × Pr) := [("high_sums", (rLst rInt).pr x.high_sums_), ("middle_sums", (rLst rInt).pr x.middle_sums_), ("low_sums", (rLst rInt).pr x.low_sums_), ("begin", rInt.pr x.begin_), ("high", (rVT rInt).pr x.high_), ("middle", (rVT rInt).pr x.middle_), ("low", (rVT rInt).pr x.low_)]
def rLadder (D : Cl) : Rel XLadder := rObj D.Ladder (fs_Ladder D)
abbrev t_w_bag : Stmt := top 20
structure Txt (G : Gx) (D : Cl) : Prop where
  b_abs : G.mg "abs" = none
  b_all : G.mg "all" = none
  b_bool : G.mg "bool" = none
  b_divmod : G.mg "divmod" = none
  b_enumerate : G.mg "enumerate" = none
  b_int : G.mg "int" = none
  b_isinstance : G.mg "isinstance" = none
  b_len : G.mg "len" = none
  b_list : G.mg "list" = none
  b_max : G.mg "max" = none
  b_min : G.mg "min" = none
  b_range : G.mg "range" = none
  b_repr : G.mg "repr" = none
  b_reversed : G.mg "reversed" = none
  b_set : G.mg "set" = none
  b_str : G.mg "str" = none
  b_sum : G.mg "sum" = none
  b_tuple : G.mg "tuple" = none
  c_ALL_ALIKE : ∃ u, G.mg "ALL_ALIKE" = some u ∧ RelV (.int c_ALL_ALIKE) u
  c_FARTHEST_AT : ∃ u, G.mg "FARTHEST_AT" = some u ∧ RelV (.int c_FARTHEST_AT) u
  c_MOST_PRICE : ∃ u, G.mg "MOST_PRICE" = some u ∧ RelV (.int c_MOST_PRICE) u
  c_MOST_REPEATED : ∃ u, G.mg "MOST_REPEATED" = some u ∧ RelV (.int c_MOST_REPEATED) u
  c_MOST_ROW : ∃ u, G.mg "MOST_ROW" = some u ∧ RelV (.int c_MOST_ROW) u
  g_AheadError : G.mg "AheadError" = some (.ref D.AheadError)
  ain_AheadError : ∃ mc, AIn G.K D.AheadError mc
  g_Wrong : G.mg "Wrong" = some (.ref D.Wrong)
  ox_Wrong : OexC G.K D.Wrong
  xi_Wrong : ∃ f fd, PySem.W.findIn G.K (.ref D.Wrong) "__init__" = some (some (.ref f)) ∧ PySem.W.typeIn G.K (.ref f) = some (.type "function") ∧ Binds G.K fd ["self", "at"] [] ∧ Fun G.K "__init__" "Wrong.__init__" t_Wrong_init f fd
  xf_Wrong : PySem.W.findIn G.K (.ref D.Wrong) "at" = some none
  g_Ladder : G.mg "Ladder" = some (.ref D.Ladder)
  cl_Ladder : Cls G.K D.Ladder
  na_Ladder_low : NoAttr G.K D.Ladder "low"
  na_Ladder_middle : NoAttr G.K D.Ladder "middle"
  na_Ladder_high : NoAttr G.K D.Ladder "high"
  na_Ladder_begin : NoAttr G.K D.Ladder "begin"
  na_Ladder_low_sums : NoAttr G.K D.Ladder "low_sums"
  na_Ladder_middle_sums : NoAttr G.K D.Ladder "middle_sums"
  na_Ladder_high_sums : NoAttr G.K D.Ladder "high_sums"
  ic_Ladder : Ic G.K D.Ladder
  is_Ladder_Ladder : PySem.W.kitOne G.K (.ref D.Ladder) (.ref D.Ladder) = some true
  d_w_bag : ∃ f fd, G.mg "_law_bag" = some (.ref f) ∧ PySem.W.keepIn G.K (.ref f) = true ∧ Binds G.K fd ["_law_script"] [] ∧ Fun G.K "_law_bag" "_law_bag" t_w_bag f fd
  d_w_take : ∃ f fd, G.mg "_law_take" = some (.ref f) ∧ PySem.W.keepIn G.K (.ref f) = true ∧ Binds G.K fd ["_law_bag_here", "_law_many"] [] ∧ Fun G.K "_law_take" "_law_take" t_w_take f fd
  d_w_prices : ∃ f fd, G.mg "_law_prices" = some (.ref f) ∧ PySem.W.keepIn G.K (.ref f) = true ∧ Binds G.K fd ["_law_bag_here", "_law_many"] [] ∧ Fun G.K "_law_prices" "_law_prices" t_w_prices f fd
  d_w_any_plan : ∃ f fd, G.mg "_law_any_plan" = some (.ref f) ∧ PySem.W.keepIn G.K (.ref f) = true ∧ Binds G.K fd ["_law_bag_here"] [] ∧ Fun G.K "_law_any_plan" "_law_any_plan" t_w_any_plan f fd
  d_w_one_price : ∃ f fd, G.mg "_law_one_price" = some (.ref f) ∧ PySem.W.keepIn G.K (.ref f) = true ∧ Binds G.K fd ["_law_bag_here", "_law_plan"] [] ∧ Fun G.K "_law_one_price" "_law_one_price" t_w_one_price f fd
  d_is_whole : ∃ f fd, G.mg "is_whole" = some (.ref f) ∧ PySem.W.keepIn G.K (.ref f) = true ∧ Binds G.K fd ["thing"] [] ∧ Fun G.K "is_whole" "is_whole" t_is_whole f fd
  d_is_between : ∃ f fd, G.mg "is_between" = some (.ref f) ∧ PySem.W.keepIn G.K (.ref f) = true ∧ Binds G.K fd ["thing", "low", "high"] [] ∧ Fun G.K "is_between" "is_between" t_is_between f fd
  d_is_price : ∃ f fd, G.mg "is_price" = some (.ref f) ∧ PySem.W.keepIn G.K (.ref f) = true ∧ Binds G.K fd ["thing"] [] ∧ Fun G.K "is_price" "is_price" t_is_price f fd
  d_are_prices : ∃ f fd, G.mg "are_prices" = some (.ref f) ∧ PySem.W.keepIn G.K (.ref f) = true ∧ Binds G.K fd ["thing", "least", "most"] [] ∧ Fun G.K "are_prices" "are_prices" t_are_prices f fd
  d_sums_of : ∃ f fd, G.mg "sums_of" = some (.ref f) ∧ PySem.W.keepIn G.K (.ref f) = true ∧ Binds G.K fd ["prices"] [] ∧ Fun G.K "sums_of" "sums_of" t_sums_of f fd
  d_Ladder_init : ∃ f fd, Mk G.K D.Ladder f ∧ FunD G.K "__init__" "Ladder.__init__" (defArgs t_Ladder_init) (defBody t_Ladder_init) (defScope t_Ladder_init) [] [("at", .int 0)] f fd
  d_w_made : ∃ f fd, G.mg "_law_made" = some (.ref f) ∧ PySem.W.keepIn G.K (.ref f) = true ∧ Binds G.K fd ["_law_plan", "_law_handed"] [] ∧ Fun G.K "_law_made" "_law_made" t_w_made f fd
  d_w_places : ∃ f fd, G.mg "_law_places" = some (.ref f) ∧ PySem.W.keepIn G.K (.ref f) = true ∧ Binds G.K fd ["_law_bag_here", "_law_plan"] [] ∧ Fun G.K "_law_places" "_law_places" t_w_places f fd
  d_Ladder_price_at : ∃ f fd, Meth G.K D.Ladder "price_at" f ∧ Binds G.K fd ["self", "d"] [] ∧ Fun G.K "price_at" "Ladder.price_at" t_Ladder_price_at f fd
  d_Ladder_rung : ∃ f fd, Meth G.K D.Ladder "rung" f ∧ Binds G.K fd ["self", "d"] [] ∧ Fun G.K "rung" "Ladder.rung" t_Ladder_rung f fd
  d_w_rung : ∃ f fd, G.mg "_law_rung" = some (.ref f) ∧ PySem.W.keepIn G.K (.ref f) = true ∧ Binds G.K fd ["_law_plan", "_law_d"] [] ∧ Fun G.K "_law_rung" "_law_rung" t_w_rung f fd
  d_w_alike : ∃ f fd, G.mg "_law_alike" = some (.ref f) ∧ PySem.W.keepIn G.K (.ref f) = true ∧ Binds G.K fd ["_law_found", "_law_due"] [] ∧ Fun G.K "_law_alike" "_law_alike" t_w_alike f fd
  d_Ladder_bears_up : ∃ f fd, Meth G.K D.Ladder "bears_up" f ∧ Binds G.K fd ["self"] [] ∧ Fun G.K "bears_up" "Ladder.bears_up" t_Ladder_bears_up f fd
  d_Ladder_bears_down : ∃ f fd, Meth G.K D.Ladder "bears_down" f ∧ Binds G.K fd ["self"] [] ∧ Fun G.K "bears_down" "Ladder.bears_down" t_Ladder_bears_down f fd
  d_Ladder_is_plain : ∃ f fd, Meth G.K D.Ladder "is_plain" f ∧ Binds G.K fd ["self"] [] ∧ Fun G.K "is_plain" "Ladder.is_plain" t_Ladder_is_plain f fd
  d_repeated : ∃ f fd, G.mg "repeated" = some (.ref f) ∧ PySem.W.keepIn G.K (.ref f) = true ∧ Binds G.K fd ["sums", "many"] [] ∧ Fun G.K "repeated" "repeated" t_repeated f fd
  d_Ladder_height : ∃ f fd, Meth G.K D.Ladder "height" f ∧ Binds G.K fd ["self", "d"] [] ∧ Fun G.K "height" "Ladder.height" t_Ladder_height f fd
  d_Ladder_total : ∃ f fd, Meth G.K D.Ladder "total" f ∧ Binds G.K fd ["self", "low", "high"] [] ∧ Fun G.K "total" "Ladder.total" t_Ladder_total f fd
  d_Ladder_repr : ∃ f fd, Meth G.K D.Ladder "__repr__" f ∧ Binds G.K fd ["self"] [] ∧ Fun G.K "__repr__" "Ladder.__repr__" t_Ladder_repr f fd
  d_Ladder_eq : ∃ f fd, Meth G.K D.Ladder "__eq__" f ∧ Binds G.K fd ["self", "other"] [] ∧ Fun G.K "__eq__" "Ladder.__eq__" t_Ladder_eq f fd
  d_Ladder_moved_to : ∃ f fd, Meth G.K D.Ladder "moved_to" f ∧ Binds G.K fd ["self", "at"] [] ∧ Fun G.K "moved_to" "Ladder.moved_to" t_Ladder_moved_to f fd
  d_Ladder_turned : ∃ f fd, Meth G.K D.Ladder "turned" f ∧ Binds G.K fd ["self"] [] ∧ Fun G.K "turned" "Ladder.turned" t_Ladder_turned f fd
  d_w_else_right : ∃ f fd, G.mg "_law_else_right" = some (.ref f) ∧ PySem.W.keepIn G.K (.ref f) = true ∧ Binds G.K fd ["_law_bag_here", "_law_ladder", "_law_plan", "_law_places_here"] [] ∧ Fun G.K "_law_else_right" "_law_else_right" t_w_else_right f fd
  d_w_right : ∃ f fd, G.mg "_law_right" = some (.ref f) ∧ PySem.W.keepIn G.K (.ref f) = true ∧ Binds G.K fd ["_law_bag_here", "_law_ladder", "_law_plan"] [] ∧ Fun G.K "_law_right" "_law_right" t_w_right f fd
  d_plain : ∃ f fd, G.mg "plain" = some (.ref f) ∧ PySem.W.keepIn G.K (.ref f) = true ∧ Binds G.K fd ["price"] [] ∧ Fun G.K "plain" "plain" t_plain f fd
theorem x_Wrong {G : Gx} {D : Cl} (T : Txt G D) : XAtC G "Wrong" 1 ["self", "at"] (spX1 G.K "at") D.Wrong :=
  let ⟨mc, hA⟩ := T.ain_AheadError; let ⟨f, fd, h1, h2, h3, h4⟩ := T.xi_Wrong
  ⟨T.g_Wrong, T.ox_Wrong, f, fd, h1, h2, h3, xini1 h4 ⟨rfl, rfl, rfl, by decide +kernel, rfl, by decide +kernel, by decide +kernel⟩ rfl hA T.g_AheadError rfl (.inl rfl) (.inl rfl)⟩
def k_w_bag : Sc := ⟨["_law_script", "_law_cell"], defScope t_w_bag, 0, true, fun _ => true, false⟩
theorem sc_w_bag : FnScope ["_law_script", "_law_cell"] ["_law_script"] (defScope t_w_bag) := ⟨rfl, rfl, rfl, by decide +kernel, rfl, by decide +kernel, by decide +kernel⟩
theorem n_w_bag_0 : Nm k_w_bag 0 "_law_script" := nm_of (by decide +kernel)
noncomputable def w_cells (p : List Int) : M Unit (List Int) := (zlc (fun e1 => (ret true)) (fun e1 => (zapp fabs (ret e1))) (zsl (ret p) (ret none) (zsome (ret (63 : Int)))))
theorem f_w_bag {G : Gx} {D : Cl} (T : Txt G D) {f : Addr} {fd : FuncData} (F : Fun G.K "_law_bag" "_law_bag" t_w_bag f fd) : FnG false G.P G.w G.K G.mg G.base 1 f fd ["_law_script"] (spBag G.K w_cells) :=
  bag_ok F sc_w_bag rfl (fun p W => show ZF G k_w_bag _ W [.st ((rSc G.K rInt).pr p), .no] _ (w_cells p) _ from (zf_lc (Lc.mk (own := [("_law_cell", 1)]) (blk_of rfl (by decide +kernel)) (zi_list (z_slSc (z_var n_w_bag_0) zp_no (zp_so z_int))) (zg_name (ns_of (i := 1) (by decide +kernel)) (by decide)) (fun e1 => zts_nil) (fun e1 => (z_abs (blt_of (u := .builtin "abs") T.b_abs (by decide +kernel)) (z_var (nm_of (i := 1) (by decide +kernel))))) (lc_no ⟨rfl, trivial⟩) (fun _ _ => rfl))))
theorem at_w_bag {G : Gx} {D : Cl} (T : Txt G D) : FnAt false G "_law_bag" 1 ["_law_script"] (spBag G.K w_cells) :=
  let ⟨f, fd, h1, h2, h3, h4⟩ := T.d_w_bag; ⟨f, fd, h1, h2, h3, f_w_bag T h4⟩

def k_w_take : Sc := ⟨["_law_bag_here", "_law_many", "_law_first", "_law_second", "_law_cell", "_law_value"], defScope t_w_take, 0, true, fun _ => true, false⟩
theorem sc_w_take : FnScope ["_law_bag_here", "_law_many", "_law_first", "_law_second", "_law_cell", "_law_value"] ["_law_bag_here", "_law_many"] (defScope t_w_take) := ⟨rfl, rfl, rfl, by decide +kernel, rfl, by decide +kernel, by decide +kernel⟩
theorem n_w_take_0 : Nm k_w_take 0 "_law_bag_here" := nm_of (by decide +kernel)
theorem s_w_take_0 : Ns k_w_take 0 "_law_bag_here" := ns_of (by decide +kernel)
theorem n_w_take_1 : Nm k_w_take 1 "_law_many" := nm_of (by decide +kernel)
theorem s_w_take_1 : Ns k_w_take 1 "_law_many" := ns_of (by decide +kernel)
theorem n_w_take_2 : Nm k_w_take 2 "_law_first" := nm_of (by decide +kernel)
theorem s_w_take_2 : Ns k_w_take 2 "_law_first" := ns_of (by decide +kernel)
theorem n_w_take_3 : Nm k_w_take 3 "_law_second" := nm_of (by decide +kernel)
theorem s_w_take_3 : Ns k_w_take 3 "_law_second" := ns_of (by decide +kernel)
theorem n_w_take_4 : Nm k_w_take 4 "_law_cell" := nm_of (by decide +kernel)
theorem s_w_take_4 : Ns k_w_take 4 "_law_cell" := ns_of (by decide +kernel)
theorem n_w_take_5 : Nm k_w_take 5 "_law_value" := nm_of (by decide +kernel)
theorem s_w_take_5 : Ns k_w_take 5 "_law_value" := ns_of (by decide +kernel)
noncomputable def b_w_take (p : (Unit × Int)) : M Bag (Fl Unit Empty Int) :=
  (zseq (zifS (zop2 feq (bget Bag.big) (ret (0 : Int)))
    (zseq (zset (ret (0 : Int))) fun cell1 =>
    (zseq (zifS (zop2 ilt (bget Bag.pos) (zapp blen (ret ())))
      (zseq (zset (bcell (ret ()) (bget Bag.pos))) fun cell3 =>
      (znx cell3))
      (znx cell1)) fun j2 =>
    (zseq (bput (fun s v => { s with pos := v }) (zop2 iadd (bget Bag.pos) (ret (1 : Int)))) fun _ =>
    (zseq (zifS (zop2 ige (ret j2) (ret (1000000000000000000 : Int)))
      (zseq (bput (fun s v => { s with big := v }) (ret j2)) fun _ =>
      (znx ()))
      (znx ())) fun _ =>
    (zseq (bput (fun s v => { s with mix := v }) (zop2 imod (zop2 iadd (zop2 iadd (zop2 imul (bget Bag.mix) (ret (48271 : Int))) (zop2 imod (ret j2) (ret (2147483647 : Int)))) (zop2 imul (ret (7919 : Int)) (bget Bag.pos))) (ret (2147483647 : Int)))) fun _ =>
    (znx ()))))))
    (znx ())) fun _ =>
  (zseq (zifS (zop2 igt (bget Bag.big) (ret (0 : Int)))
    (zseq (zset (zop2 imod (bget Bag.big) (ret p.2))) fun value4 =>
    (zseq (bput (fun s v => { s with big := v }) (zop2 idiv (bget Bag.big) (ret p.2))) fun _ =>
    (zrt (ret value4))))
    (znx ())) fun _ =>
  (zseq (zset (zop2 imod (zop2 imul (zop2 iadd (bget Bag.mix) (ret (1 : Int))) (ret (39373 : Int))) (ret (1000000007 : Int)))) fun first5 =>
  (zseq (zset (zop2 imod (zop2 imul (zop2 imod (zop2 imul (ret first5) (ret first5)) (ret (998244353 : Int))) (ret (30011 : Int))) (ret (998244353 : Int)))) fun second6 =>
  (zseq (zifS (zop2 igt (ret p.2) (ret (1000000 : Int)))
    (zrt (zop2 imod (zop2 iadd (zop2 imul (ret second6) (ret (1000000007 : Int))) (ret first5)) (ret p.2)))
    (znx ())) fun _ =>
  (zrt (zop2 imod (zop2 idiv (ret second6) (ret (7 : Int))) (ret p.2))))))))
noncomputable def m_w_take (p : (Unit × Int)) : M Bag Int := zbody (b_w_take p)
theorem f_w_take {G : Gx} {D : Cl} (T : Txt G D) {f : Addr} {fd : FuncData} (F : Fun G.K "_law_take" "_law_take" t_w_take f fd) : FnG false G.P G.w G.K G.mg G.base 1 f fd ["_law_bag_here", "_law_many"] (spZ G (fun q : Addr × Addr => bagE q.1 q.2) (fun (q : Addr × Addr) (p : (Unit × Int)) => [(rRef q.1).pr p.1, rInt.pr p.2]) m_w_take rInt) :=
  fn_ok (g := false) (k := 0) (Γn := fun _ _ _ => []) F sc_w_take (fun _ _ => rfl) (fun _ => rfl) (.inl fun _ _ => rfl) fun q p W =>
  show ZB G k_w_take _ W _ [.st ((rRef q.1).pr p.1), .st (rInt.pr p.2), .no, .no, .no, .no] _ (b_w_take p) _ from
  (zb_cons (zs_if (Γn := fun _ : Unit => [.st ((rRef q.1).pr p.1), .st (rInt.pr p.2), .no, .no, .no, .no]) (zt_eq scI (z_bag n_w_take_0 rfl fun _ => rfl) z_int)
    (zb_cons (zs_set s_w_take_4 z_int sub_nil) fun cell1 =>
    (zb_cons (zs_if (Γn := fun j2 : Int => [.st ((rRef q.1).pr p.1), .st (rInt.pr p.2), .no, .no, .st (rInt.pr j2), .no]) (zt_lt (z_bag n_w_take_0 rfl fun _ => rfl) (z_blen (blt_of (u := .builtin "len") T.b_len (by decide +kernel)) (z_bag3 n_w_take_0 rfl)))
      (zb_cons (zs_set s_w_take_4 (z_bcell (z_bag3 n_w_take_0 rfl) (z_bag n_w_take_0 rfl fun _ => rfl)) sub_nil) fun cell3 =>
      (zb_nil (SubL.sub (.keep (.keep (.keep (.keep (.keep (.keep SubL.nil)))))))))
      (zb_nil (SubL.sub (.keep (.keep (.keep (.keep (.keep (.keep SubL.nil)))))))) sub_nil) fun j2 =>
    (zb_cons (zs_binc n_w_take_0 rfl (fun _ => rfl) rfl (fun _ _ => rfl) (fun _ _ => rfl) z_int sub_nil) fun _ =>
    (zb_cons (zs_if (Γn := fun _ : Unit => [.st ((rRef q.1).pr p.1), .st (rInt.pr p.2), .no, .no, .st (rInt.pr j2), .no]) (zt_ge (z_var n_w_take_4) z_int)
      (zb_cons (zs_bput n_w_take_0 rfl rfl (fun _ _ => rfl) (fun _ _ => rfl) (z_var n_w_take_4) sub_nil) fun _ =>
      (zb_nil (SubL.sub (.keep (.keep (.keep (.keep (.keep (.keep SubL.nil)))))))))
      (zb_nil (SubL.sub (.keep (.keep (.keep (.keep (.keep (.keep SubL.nil)))))))) sub_nil) fun _ =>
    (zb_cons (zs_bput n_w_take_0 rfl rfl (fun _ _ => rfl) (fun _ _ => rfl) (z_mod (z_add (z_add (z_mul (z_bag n_w_take_0 rfl fun _ => rfl) z_int) (z_mod (z_var n_w_take_4) z_int)) (z_mul z_int (z_bag n_w_take_0 rfl fun _ => rfl))) z_int) sub_nil) fun _ =>
    (zb_nil (SubL.sub (.keep (.keep (.keep (.keep (.drop (.keep SubL.nil)))))))))))))
    (zb_nil (SubL.sub (.keep (.keep (.keep (.keep (.keep (.keep SubL.nil)))))))) sub_nil) fun _ =>
  (zb_cons (zs_if (Γn := fun _ : Unit => [.st ((rRef q.1).pr p.1), .st (rInt.pr p.2), .no, .no, .no, .no]) (zt_gt (z_bag n_w_take_0 rfl fun _ => rfl) z_int)
    (zb_cons (zs_set s_w_take_5 (z_mod (z_bag n_w_take_0 rfl fun _ => rfl) (z_var n_w_take_1)) sub_nil) fun value4 =>
    (zb_cons (zs_bput n_w_take_0 rfl rfl (fun _ _ => rfl) (fun _ _ => rfl) (z_div (z_bag n_w_take_0 rfl fun _ => rfl) (z_var n_w_take_1)) sub_nil) fun _ =>
    (zb_one (zs_ret (z_var n_w_take_5) sub_nil))))
    (zb_nil (SubL.sub (.keep (.keep (.keep (.keep (.keep (.keep SubL.nil)))))))) sub_nil) fun _ =>
  (zb_cons (zs_set s_w_take_2 (z_mod (z_mul (z_add (z_bag n_w_take_0 rfl fun _ => rfl) z_int) z_int) z_int) sub_nil) fun first5 =>
  (zb_cons (zs_set s_w_take_3 (z_mod (z_mul (z_mod (z_mul (z_var n_w_take_2) (z_var n_w_take_2)) z_int) z_int) z_int) sub_nil) fun second6 =>
  (zb_cons (zs_if (Γn := fun _ : Unit => [.st ((rRef q.1).pr p.1), .st (rInt.pr p.2), .st (rInt.pr first5), .st (rInt.pr second6), .no, .no]) (zt_gt (z_var n_w_take_1) z_int)
    (zb_one (zs_ret (z_mod (z_add (z_mul (z_var n_w_take_3) z_int) (z_var n_w_take_2)) (z_var n_w_take_1)) sub_nil))
    (zb_nil (SubL.sub (.keep (.keep (.keep (.keep (.keep (.keep SubL.nil)))))))) sub_nil) fun _ =>
  (zb_one (zs_ret (z_mod (z_div (z_var n_w_take_3) z_int) (z_var n_w_take_1)) sub_nil)))))))
theorem at_w_take {G : Gx} {D : Cl} (T : Txt G D) : FnAt false G "_law_take" 1 ["_law_bag_here", "_law_many"] (spZ G (fun q : Addr × Addr => bagE q.1 q.2) (fun (q : Addr × Addr) (p : (Unit × Int)) => [(rRef q.1).pr p.1, rInt.pr p.2]) m_w_take rInt) :=
  let ⟨f, fd, h1, h2, h3, h4⟩ := T.d_w_take; ⟨f, fd, h1, h2, h3, f_w_take T h4⟩

def k_w_prices : Sc := ⟨["_law_bag_here", "_law_many", "_law_way", "_law_one", "_law_some", "_law_k"], defScope t_w_prices, 1, true, fun _ => true, false⟩
theorem sc_w_prices : FnScope ["_law_bag_here", "_law_many", "_law_way", "_law_one", "_law_some", "_law_k"] ["_law_bag_here", "_law_many"] (defScope t_w_prices) := ⟨rfl, rfl, rfl, by decide +kernel, rfl, by decide +kernel, by decide +kernel⟩
theorem n_w_prices_0 : Nm k_w_prices 0 "_law_bag_here" := nm_of (by decide +kernel)
theorem s_w_prices_0 : Ns k_w_prices 0 "_law_bag_here" := ns_of (by decide +kernel)
theorem n_w_prices_1 : Nm k_w_prices 1 "_law_many" := nm_of (by decide +kernel)
theorem s_w_prices_1 : Ns k_w_prices 1 "_law_many" := ns_of (by decide +kernel)
theorem n_w_prices_2 : Nm k_w_prices 2 "_law_way" := nm_of (by decide +kernel)
theorem s_w_prices_2 : Ns k_w_prices 2 "_law_way" := ns_of (by decide +kernel)
theorem n_w_prices_3 : Nm k_w_prices 3 "_law_one" := nm_of (by decide +kernel)
theorem s_w_prices_3 : Ns k_w_prices 3 "_law_one" := ns_of (by decide +kernel)
theorem n_w_prices_4 : Nm k_w_prices 4 "_law_some" := nm_of (by decide +kernel)
theorem s_w_prices_4 : Ns k_w_prices 4 "_law_some" := ns_of (by decide +kernel)
theorem n_w_prices_5 : Nm k_w_prices 5 "_law_k" := nm_of (by decide +kernel)
theorem s_w_prices_5 : Ns k_w_prices 5 "_law_k" := ns_of (by decide +kernel)
noncomputable def b_w_prices (p : (Unit × Int)) : M Bag (Fl Unit Empty (List Int)) :=
  (zseq (zset (zapp m_w_take (zpair (ret p.1) (ret (4 : Int))))) fun way1 =>
  (zseq (zset (zop2 ixat (zlist (zcons (ret (0 : Int)) (zcons (ret (1 : Int)) (zcons (zop2 ipow (ret (10 : Int)) (ret (20 : Int))) (zcons (zapp m_w_take (zpair (ret p.1) (zop2 iadd (zop2 ipow (ret (10 : Int)) (ret (20 : Int))) (ret (1 : Int))))) (ret [])))))) (zapp m_w_take (zpair (ret p.1) (ret (4 : Int)))))) fun one2 =>
  (zseq (zset (zlist ((ret []) : M _ (List Int)))) fun some3 =>
  (zseq (zforI (zapp frA1 (ret p.2)) some3 fun c4 x5 =>
    (zseq (bnd (zop2 ixat (zlist (zcons (ret one2) (zcons (zapp m_w_take (zpair (ret p.1) (ret (2 : Int)))) (zcons (zapp m_w_take (zpair (ret p.1) (ret (9 : Int)))) (zcons (zapp m_w_take (zpair (ret p.1) (zop2 iadd (zop2 ipow (ret (10 : Int)) (ret (20 : Int))) (ret (1 : Int))))) (ret [])))))) (ret way1)) fun v => chk (List.length c4 < sizeLine) (ret (.nx v))) fun a6 =>
    (znx (c4 ++ [a6])))) fun c4 =>
  (zrt (ret c4))))))
noncomputable def m_w_prices (p : (Unit × Int)) : M Bag (List Int) := zbody (b_w_prices p)
theorem f_w_prices {G : Gx} {D : Cl} (T : Txt G D) {f : Addr} {fd : FuncData} (F : Fun G.K "_law_prices" "_law_prices" t_w_prices f fd) : FnG false G.P G.w G.K G.mg G.base 2 f fd ["_law_bag_here", "_law_many"] (spZ G (fun q : Addr × Addr => bagE q.1 q.2) (fun (q : Addr × Addr) (p : (Unit × Int)) => [(rRef q.1).pr p.1, rInt.pr p.2]) m_w_prices (rLst rInt)) :=
  fn_ok (g := false) (k := 1) (Γn := fun _ _ _ => []) F sc_w_prices (fun _ _ => rfl) (fun _ => rfl) (.inl fun _ _ => rfl) fun q p W =>
  show ZB G k_w_prices _ W _ [.st ((rRef q.1).pr p.1), .st (rInt.pr p.2), .no, .no, .no, .no] _ (b_w_prices p) _ from
  (zb_cons (zs_set s_w_prices_2 (z_call (q := q) (at_w_take T) rfl (by decide) (by decide) (by exact rfl) (za_cons (z_var n_w_prices_0) (za_one z_int))) sub_nil) fun way1 =>
  (zb_cons (zs_set s_w_prices_3 (z_ixL (z_list (zl_cons z_int (zl_cons z_int (zl_cons (z_pow z_int z_int) (zl_cons (z_call (q := q) (at_w_take T) rfl (by decide) (by decide) (by exact rfl) (za_cons (z_var n_w_prices_0) (za_one (z_add (z_pow z_int z_int) z_int)))) zl_nil))))) (z_call (q := q) (at_w_take T) rfl (by decide) (by decide) (by exact rfl) (za_cons (z_var n_w_prices_0) (za_one z_int)))) sub_nil) fun one2 =>
  (zb_cons (zs_setF s_w_prices_4 (zf_list zl_nil) sub_nil) fun some3 =>
  (zb_cons (zs_for (vs := [5]) (Γh := fun c4 : (List Int) => [.st ((rRef q.1).pr p.1), .st (rInt.pr p.2), .st (rInt.pr way1), .st (rInt.pr one2), .ow (ownL rInt c4), .no]) (zi_r1 (blt_of (u := .type "range") T.b_range (by decide +kernel)) (z_var n_w_prices_1)) (SubL.sub (.keep (.keep (.keep (.keep (.keep (.keep SubL.nil))))))) (fun c4 => (zg_name s_w_prices_5 (by decide))) (fun c4 x5 =>
    (zb_cons (zs_app n_w_prices_4 rfl (z_ixL (z_list (zl_cons (z_var n_w_prices_3) (zl_cons (z_call (q := q) (at_w_take T) rfl (by decide) (by decide) (by exact rfl) (za_cons (z_var n_w_prices_0) (za_one z_int))) (zl_cons (z_call (q := q) (at_w_take T) rfl (by decide) (by decide) (by exact rfl) (za_cons (z_var n_w_prices_0) (za_one z_int))) (zl_cons (z_call (q := q) (at_w_take T) rfl (by decide) (by decide) (by exact rfl) (za_cons (z_var n_w_prices_0) (za_one (z_add (z_pow z_int z_int) z_int)))) zl_nil))))) (z_var n_w_prices_2)) sub_nil) fun a6 =>
    (zb_nil (SubL.sub (.keep (.keep (.keep (.keep (.keep (.drop SubL.nil)))))))))) sub_nil) fun c4 =>
  (zb_wk (sub_frz (i := 4) one_L) <| zb_one (zs_ret (z_var n_w_prices_4) sub_nil))))))
theorem at_w_prices {G : Gx} {D : Cl} (T : Txt G D) : FnAt false G "_law_prices" 2 ["_law_bag_here", "_law_many"] (spZ G (fun q : Addr × Addr => bagE q.1 q.2) (fun (q : Addr × Addr) (p : (Unit × Int)) => [(rRef q.1).pr p.1, rInt.pr p.2]) m_w_prices (rLst rInt)) :=
  let ⟨f, fd, h1, h2, h3, h4⟩ := T.d_w_prices; ⟨f, fd, h1, h2, h3, f_w_prices T h4⟩

def k_w_any_plan : Sc := ⟨["_law_bag_here", "_law_begin", "_law_row", "_law_below"], defScope t_w_any_plan, 2, true, fun _ => true, false⟩
theorem sc_w_any_plan : FnScope ["_law_bag_here", "_law_begin", "_law_row", "_law_below"] ["_law_bag_here"] (defScope t_w_any_plan) := ⟨rfl, rfl, rfl, by decide +kernel, rfl, by decide +kernel, by decide +kernel⟩
theorem n_w_any_plan_0 : Nm k_w_any_plan 0 "_law_bag_here" := nm_of (by decide +kernel)
theorem s_w_any_plan_0 : Ns k_w_any_plan 0 "_law_bag_here" := ns_of (by decide +kernel)
theorem n_w_any_plan_1 : Nm k_w_any_plan 1 "_law_begin" := nm_of (by decide +kernel)
theorem s_w_any_plan_1 : Ns k_w_any_plan 1 "_law_begin" := ns_of (by decide +kernel)
theorem n_w_any_plan_2 : Nm k_w_any_plan 2 "_law_row" := nm_of (by decide +kernel)
theorem s_w_any_plan_2 : Ns k_w_any_plan 2 "_law_row" := ns_of (by decide +kernel)
theorem n_w_any_plan_3 : Nm k_w_any_plan 3 "_law_below" := nm_of (by decide +kernel)
theorem s_w_any_plan_3 : Ns k_w_any_plan 3 "_law_below" := ns_of (by decide +kernel)
noncomputable def b_w_any_plan (p : Unit) : M Bag (Fl Unit Empty (Int × (List Int) × (List Int) × (List Int))) :=
  (zseq (zset (zop2 ixat (zlist (zcons (ret (0 : Int)) (zcons (ret (100 : Int)) (zcons (zop1 ineg (ret (100 : Int))) (zcons (zop2 isub (zapp m_w_take (zpair (ret p) (ret (201 : Int)))) (ret (100 : Int))) (zcons (zop2 isub (zapp m_w_take (zpair (ret p) (ret (7 : Int)))) (ret (3 : Int))) (ret []))))))) (zapp m_w_take (zpair (ret p) (ret (5 : Int)))))) fun begin1 =>
  (zseq (zset (zapp m_w_prices (zpair (ret p) (zop2 ixat (zlist (zcons (ret (0 : Int)) (zcons (zapp m_w_take (zpair (ret p) (ret (6 : Int)))) (zcons (ret (40 : Int)) (zcons (zapp m_w_take (zpair (ret p) (ret (41 : Int)))) (ret [])))))) (zapp m_w_take (zpair (ret p) (ret (4 : Int)))))))) fun row2 =>
  (zseq (zset (zapp m_w_prices (zpair (ret p) (zop2 iadd (ret (1 : Int)) (zapp m_w_take (zpair (ret p) (ret (4 : Int)))))))) fun below3 =>
  (zrt (zpair (ret begin1) (zpair (ret row2) (zpair (ret below3) (zapp m_w_prices (zpair (ret p) (zop2 iadd (ret (1 : Int)) (zapp m_w_take (zpair (ret p) (ret (4 : Int))))))))))))))
noncomputable def m_w_any_plan (p : Unit) : M Bag (Int × (List Int) × (List Int) × (List Int)) := zbody (b_w_any_plan p)
theorem f_w_any_plan {G : Gx} {D : Cl} (T : Txt G D) {f : Addr} {fd : FuncData} (F : Fun G.K "_law_any_plan" "_law_any_plan" t_w_any_plan f fd) : FnG false G.P G.w G.K G.mg G.base 3 f fd ["_law_bag_here"] (spZ G (fun q : Addr × Addr => bagE q.1 q.2) (fun (q : Addr × Addr) (p : Unit) => [(rRef q.1).pr p]) m_w_any_plan (rT4 rInt (rLst rInt) (rLst rInt) (rLst rInt))) :=
  fn_ok (g := false) (k := 2) (Γn := fun _ _ _ => []) F sc_w_any_plan (fun _ _ => rfl) (fun _ => rfl) (.inl fun _ _ => rfl) fun q p W =>
  show ZB G k_w_any_plan _ W _ [.st ((rRef q.1).pr p), .no, .no, .no] _ (b_w_any_plan p) _ from
  (zb_cons (zs_set s_w_any_plan_1 (z_ixL (z_list (zl_cons z_int (zl_cons z_int (zl_cons (z_neg z_int) (zl_cons (z_sub (z_call (q := q) (at_w_take T) rfl (by decide) (by decide) (by exact rfl) (za_cons (z_var n_w_any_plan_0) (za_one z_int))) z_int) (zl_cons (z_sub (z_call (q := q) (at_w_take T) rfl (by decide) (by decide) (by exact rfl) (za_cons (z_var n_w_any_plan_0) (za_one z_int))) z_int) zl_nil)))))) (z_call (q := q) (at_w_take T) rfl (by decide) (by decide) (by exact rfl) (za_cons (z_var n_w_any_plan_0) (za_one z_int)))) sub_nil) fun begin1 =>
  (zb_cons (zs_set s_w_any_plan_2 (z_call (q := q) (at_w_prices T) rfl (by decide) (by decide) (by exact rfl) (za_cons (z_var n_w_any_plan_0) (za_one (z_ixL (z_list (zl_cons z_int (zl_cons (z_call (q := q) (at_w_take T) rfl (by decide) (by decide) (by exact rfl) (za_cons (z_var n_w_any_plan_0) (za_one z_int))) (zl_cons z_int (zl_cons (z_call (q := q) (at_w_take T) rfl (by decide) (by decide) (by exact rfl) (za_cons (z_var n_w_any_plan_0) (za_one z_int))) zl_nil))))) (z_call (q := q) (at_w_take T) rfl (by decide) (by decide) (by exact rfl) (za_cons (z_var n_w_any_plan_0) (za_one z_int))))))) sub_nil) fun row2 =>
  (zb_cons (zs_set s_w_any_plan_3 (z_call (q := q) (at_w_prices T) rfl (by decide) (by decide) (by exact rfl) (za_cons (z_var n_w_any_plan_0) (za_one (z_add z_int (z_call (q := q) (at_w_take T) rfl (by decide) (by decide) (by exact rfl) (za_cons (z_var n_w_any_plan_0) (za_one z_int))))))) sub_nil) fun below3 =>
  (zb_one (zs_ret (z_tup4 (za_cons (z_var n_w_any_plan_1) (za_cons (z_var n_w_any_plan_2) (za_cons (z_var n_w_any_plan_3) (za_one (z_call (q := q) (at_w_prices T) rfl (by decide) (by decide) (by exact rfl) (za_cons (z_var n_w_any_plan_0) (za_one (z_add z_int (z_call (q := q) (at_w_take T) rfl (by decide) (by decide) (by exact rfl) (za_cons (z_var n_w_any_plan_0) (za_one z_int)))))))))))) sub_nil)))))
theorem at_w_any_plan {G : Gx} {D : Cl} (T : Txt G D) : FnAt false G "_law_any_plan" 3 ["_law_bag_here"] (spZ G (fun q : Addr × Addr => bagE q.1 q.2) (fun (q : Addr × Addr) (p : Unit) => [(rRef q.1).pr p]) m_w_any_plan (rT4 rInt (rLst rInt) (rLst rInt) (rLst rInt))) :=
  let ⟨f, fd, h1, h2, h3, h4⟩ := T.d_w_any_plan; ⟨f, fd, h1, h2, h3, f_w_any_plan T h4⟩

def k_w_one_price : Sc := ⟨["_law_bag_here", "_law_plan", "_law_price", "_law_found", "_law_which", "_law_spot"], defScope t_w_one_price, 2, true, fun _ => true, false⟩
theorem sc_w_one_price : FnScope ["_law_bag_here", "_law_plan", "_law_price", "_law_found", "_law_which", "_law_spot"] ["_law_bag_here", "_law_plan"] (defScope t_w_one_price) := ⟨rfl, rfl, rfl, by decide +kernel, rfl, by decide +kernel, by decide +kernel⟩
theorem n_w_one_price_0 : Nm k_w_one_price 0 "_law_bag_here" := nm_of (by decide +kernel)
theorem s_w_one_price_0 : Ns k_w_one_price 0 "_law_bag_here" := ns_of (by decide +kernel)
theorem n_w_one_price_1 : Nm k_w_one_price 1 "_law_plan" := nm_of (by decide +kernel)
theorem s_w_one_price_1 : Ns k_w_one_price 1 "_law_plan" := ns_of (by decide +kernel)
theorem n_w_one_price_2 : Nm k_w_one_price 2 "_law_price" := nm_of (by decide +kernel)
theorem s_w_one_price_2 : Ns k_w_one_price 2 "_law_price" := ns_of (by decide +kernel)
theorem n_w_one_price_3 : Nm k_w_one_price 3 "_law_found" := nm_of (by decide +kernel)
theorem s_w_one_price_3 : Ns k_w_one_price 3 "_law_found" := ns_of (by decide +kernel)
theorem n_w_one_price_4 : Nm k_w_one_price 4 "_law_which" := nm_of (by decide +kernel)
theorem s_w_one_price_4 : Ns k_w_one_price 4 "_law_which" := ns_of (by decide +kernel)
theorem n_w_one_price_5 : Nm k_w_one_price 5 "_law_spot" := nm_of (by decide +kernel)
theorem s_w_one_price_5 : Ns k_w_one_price 5 "_law_spot" := ns_of (by decide +kernel)
noncomputable def b_w_one_price (p : (Unit × (Int × (List Int) × (List Int) × (List Int)))) : M Bag (Fl Unit Empty (Int × (List Int) × (List Int) × (List Int))) :=
  (zseq (zset (zop2 ixat (zapp m_w_prices (zpair (ret p.1) (ret (1 : Int)))) (ret (0 : Int)))) fun price1 =>
  (zseq (zset (zlist (zcons (zop2 lrep (zlist (zcons (ret price1) (ret []))) (zapp flen (zget (fun x => x.2.1) (ret p.2)))) (zcons (zop2 lrep (zlist (zcons (ret price1) (ret []))) (zapp flen (zget (fun x => x.2.2.1) (ret p.2)))) (zcons (zop2 lrep (zlist (zcons (ret price1) (ret []))) (zapp flen (zget (fun x => x.2.2.2) (ret p.2)))) (ret [])))))) fun found2 =>
  (zseq (zset (zapp m_w_take (zpair (ret p.1) (ret (6 : Int))))) fun which4 =>
  (zseq (zifS (zand (zop2 ilt (ret which4) (ret (3 : Int))) (zop2 (dne (datL datI)) (zop2 ixat (ret found2) (ret which4)) (zlist ((ret []) : M _ (List Int)))))
    (zseq (zset (zapp m_w_take (zpair (ret p.1) (rowlen found2 (bnd (ret which4) (rowix (List.length found2))))))) fun spot6 =>
    (zseq (rowput found2 (zop2 ixat (zlist (zcons (ret (0 : Int)) (zcons (ret (1 : Int)) (zcons (zop2 idiv (ret price1) (ret (2 : Int))) (ret []))))) (zapp m_w_take (zpair (ret p.1) (ret (3 : Int))))) (bnd (ret which4) (rowix (List.length found2))) (ret spot6)) fun tb7 =>
    (znx tb7)))
    (znx found2)) fun j5 =>
  (zrt (zpair (zget Prod.fst (ret p.2)) (zpair (zop2 ixat (ret j5) (ret (0 : Int))) (zpair (zop2 ixat (ret j5) (ret (1 : Int))) (zop2 ixat (ret j5) (ret (2 : Int)))))))))))
noncomputable def m_w_one_price (p : (Unit × (Int × (List Int) × (List Int) × (List Int)))) : M Bag (Int × (List Int) × (List Int) × (List Int)) := zbody (b_w_one_price p)
theorem f_w_one_price {G : Gx} {D : Cl} (T : Txt G D) {f : Addr} {fd : FuncData} (F : Fun G.K "_law_one_price" "_law_one_price" t_w_one_price f fd) : FnG false G.P G.w G.K G.mg G.base 3 f fd ["_law_bag_here", "_law_plan"] (spZ G (fun q : Addr × Addr => bagE q.1 q.2) (fun (q : Addr × Addr) (p : (Unit × (Int × (List Int) × (List Int) × (List Int)))) => [(rRef q.1).pr p.1, (rT4 rInt (rLst rInt) (rLst rInt) (rLst rInt)).pr p.2]) m_w_one_price (rT4 rInt (rLst rInt) (rLst rInt) (rLst rInt))) :=
  fn_ok (g := false) (k := 2) (Γn := fun _ _ _ => []) F sc_w_one_price (fun _ _ => rfl) (fun _ => rfl) (.inl fun _ _ => rfl) fun q p W =>
  show ZB G k_w_one_price _ W _ [.st ((rRef q.1).pr p.1), .st ((rT4 rInt (rLst rInt) (rLst rInt) (rLst rInt)).pr p.2), .no, .no, .no, .no] _ (b_w_one_price p) _ from
  (zb_cons (zs_set s_w_one_price_2 (z_ixL (z_call (q := q) (at_w_prices T) rfl (by decide) (by decide) (by exact rfl) (za_cons (z_var n_w_one_price_0) (za_one z_int))) z_int) sub_nil) fun price1 =>
  (zb_cons (zs_setF s_w_one_price_3 (zf_LX (zal_cons (zf_rep (z_list (zl_cons (z_var n_w_one_price_2) zl_nil)) (z_lenL (blt_of (u := .builtin "len") T.b_len (by decide +kernel)) (z_at t4_1 (z_var n_w_one_price_1)))) (zal_cons (zf_rep (z_list (zl_cons (z_var n_w_one_price_2) zl_nil)) (z_lenL (blt_of (u := .builtin "len") T.b_len (by decide +kernel)) (z_at t4_2 (z_var n_w_one_price_1)))) (zal_cons (zf_rep (z_list (zl_cons (z_var n_w_one_price_2) zl_nil)) (z_lenL (blt_of (u := .builtin "len") T.b_len (by decide +kernel)) (z_at t4_3 (z_var n_w_one_price_1)))) zal_nil)))) sub_nil) fun found2 =>
  (zb_open (i := 3) rfl fun rs3 =>
  (zb_cons (zs_set s_w_one_price_4 (z_call (q := q) (at_w_take T) rfl (by decide) (by decide) (by exact rfl) (za_cons (z_var n_w_one_price_0) (za_one z_int))) sub_nil) fun which4 =>
  (zb_cons (zs_if (Γn := fun j5 : (List (List Int)) => [.st ((rRef q.1).pr p.1), .st ((rT4 rInt (rLst rInt) (rLst rInt) (rLst rInt)).pr p.2), .st (rInt.pr price1), .ow (ownLL rInt rs3 j5), .st (rInt.pr which4), .no]) (zt_lend (.st (.st (.st (.ow one_LL (.st (.no .nil)))))) free_bag (zw_t (zw_and (zt_lt (z_var n_w_one_price_4) z_int) (zw_and1 (zt_dne (datL datI) (z_ixL (z_var n_w_one_price_3) (z_var n_w_one_price_4)) (z_list zl_nil))))))
    (zb_cons (zs_set s_w_one_price_5 (z_call (q := q) (at_w_take T) rfl (by decide) (by decide) (by exact rfl) (za_cons (z_var n_w_one_price_0) (za_one (z_rowLen (i := 3) rfl (blt_of (u := .builtin "len") T.b_len (by decide +kernel)) (z_row (i := 3) n_w_one_price_3 rfl (z_var n_w_one_price_4)))))) sub_nil) fun spot6 =>
    (zb_cons (zs_rowPut (i := 3) rfl (z_row (i := 3) n_w_one_price_3 rfl (z_var n_w_one_price_4)) (z_var n_w_one_price_5) (z_ixL (z_list (zl_cons z_int (zl_cons z_int (zl_cons (z_div (z_var n_w_one_price_2) z_int) zl_nil)))) (z_call (q := q) (at_w_take T) rfl (by decide) (by decide) (by exact rfl) (za_cons (z_var n_w_one_price_0) (za_one z_int)))) sub_nil) fun tb7 =>
    (zb_nil (SubL.sub (.keep (.keep (.keep (.keep (.keep (.drop SubL.nil))))))))))
    (zb_nil (SubL.sub (.keep (.keep (.keep (.keep (.keep (.keep SubL.nil)))))))) sub_nil) fun j5 =>
  (zb_wk (sub_frz (i := 3) one_LL) <| zb_one (zs_ret (z_tup4 (za_cons (z_at t4_0 (z_var n_w_one_price_1)) (za_cons (z_ixL (z_var n_w_one_price_3) z_int) (za_cons (z_ixL (z_var n_w_one_price_3) z_int) (za_one (z_ixL (z_var n_w_one_price_3) z_int)))))) sub_nil)))))))
theorem at_w_one_price {G : Gx} {D : Cl} (T : Txt G D) : FnAt false G "_law_one_price" 3 ["_law_bag_here", "_law_plan"] (spZ G (fun q : Addr × Addr => bagE q.1 q.2) (fun (q : Addr × Addr) (p : (Unit × (Int × (List Int) × (List Int) × (List Int)))) => [(rRef q.1).pr p.1, (rT4 rInt (rLst rInt) (rLst rInt) (rLst rInt)).pr p.2]) m_w_one_price (rT4 rInt (rLst rInt) (rLst rInt) (rLst rInt))) :=
  let ⟨f, fd, h1, h2, h3, h4⟩ := T.d_w_one_price; ⟨f, fd, h1, h2, h3, f_w_one_price T h4⟩

def k_is_whole : Sc := ⟨["thing"], defScope t_is_whole, 0, true, fun _ => true, false⟩
theorem sc_is_whole : FnScope ["thing"] ["thing"] (defScope t_is_whole) := ⟨rfl, rfl, rfl, by decide +kernel, rfl, by decide +kernel, by decide +kernel⟩
theorem n_is_whole_0 : Nm k_is_whole 0 "thing" := nm_of (by decide +kernel)
theorem s_is_whole_0 : Ns k_is_whole 0 "thing" := ns_of (by decide +kernel)
noncomputable def b_is_whole (p : Int) : M Unit (Fl Unit Empty Bool) :=
  (zrt (zand (zis true (ret p)) (znot (zis false (ret p)))))
noncomputable def m_is_whole (p : Int) : M Unit Bool := zbody (b_is_whole p)
theorem f_is_whole {G : Gx} {D : Cl} (T : Txt G D) {f : Addr} {fd : FuncData} (F : Fun G.K "is_whole" "is_whole" t_is_whole f fd) : FnG false G.P G.w G.K G.mg G.base 1 f fd ["thing"] (spZ G (fun _ : Unit => noE) (fun (q : Unit) (p : Int) => [rInt.pr p]) m_is_whole rBl) :=
  fn_ok (g := false) (k := 0) (Γn := fun _ _ _ => []) F sc_is_whole (fun _ _ => rfl) (fun _ => rfl) (.inl fun _ _ => rfl) fun q p W =>
  show ZB G k_is_whole _ W _ [.st (rInt.pr p)] _ (b_is_whole p) _ from
  (zb_one (zs_ret (z_and (z_isi (blt_of (u := .builtin "isinstance") T.b_isinstance (by decide +kernel)) isI (blt_of (u := .type "int") T.b_int (by decide +kernel)) rfl (z_var n_is_whole_0)) (z_one (z_not (z_isi (blt_of (u := .builtin "isinstance") T.b_isinstance (by decide +kernel)) isI (blt_of (u := .type "bool") T.b_bool (by decide +kernel)) rfl (z_var n_is_whole_0))))) sub_nil))
theorem at_is_whole {G : Gx} {D : Cl} (T : Txt G D) : FnAt false G "is_whole" 1 ["thing"] (spZ G (fun _ : Unit => noE) (fun (q : Unit) (p : Int) => [rInt.pr p]) m_is_whole rBl) :=
  let ⟨f, fd, h1, h2, h3, h4⟩ := T.d_is_whole; ⟨f, fd, h1, h2, h3, f_is_whole T h4⟩

def k_is_between : Sc := ⟨["thing", "low", "high"], defScope t_is_between, 1, true, fun _ => true, false⟩
theorem sc_is_between : FnScope ["thing", "low", "high"] ["thing", "low", "high"] (defScope t_is_between) := ⟨rfl, rfl, rfl, by decide +kernel, rfl, by decide +kernel, by decide +kernel⟩
theorem n_is_between_0 : Nm k_is_between 0 "thing" := nm_of (by decide +kernel)
theorem s_is_between_0 : Ns k_is_between 0 "thing" := ns_of (by decide +kernel)
theorem n_is_between_1 : Nm k_is_between 1 "low" := nm_of (by decide +kernel)
theorem s_is_between_1 : Ns k_is_between 1 "low" := ns_of (by decide +kernel)
theorem n_is_between_2 : Nm k_is_between 2 "high" := nm_of (by decide +kernel)
theorem s_is_between_2 : Ns k_is_between 2 "high" := ns_of (by decide +kernel)
noncomputable def b_is_between (p : (Int × Int × Int)) : M Unit (Fl Unit Empty Bool) :=
  (zrt (zand (zapp (fun x => lft (m_is_whole x)) (ret p.1)) (zchain ile ile (ret p.2.1) (ret p.1) (ret p.2.2))))
noncomputable def m_is_between (p : (Int × Int × Int)) : M Unit Bool := zbody (b_is_between p)
theorem f_is_between {G : Gx} {D : Cl} (T : Txt G D) {f : Addr} {fd : FuncData} (F : Fun G.K "is_between" "is_between" t_is_between f fd) : FnG false G.P G.w G.K G.mg G.base 2 f fd ["thing", "low", "high"] (spZ G (fun _ : Unit => noE) (fun (q : Unit) (p : (Int × Int × Int)) => [rInt.pr p.1, rInt.pr p.2.1, rInt.pr p.2.2]) m_is_between rBl) :=
  fn_ok (g := false) (k := 1) (Γn := fun _ _ _ => []) F sc_is_between (fun _ _ => rfl) (fun _ => rfl) (.inl fun _ _ => rfl) fun q p W =>
  show ZB G k_is_between _ W _ [.st (rInt.pr p.1), .st (rInt.pr p.2.1), .st (rInt.pr p.2.2)] _ (b_is_between p) _ from
  (zb_one (zs_ret (z_and (z_callP (q := ()) (at_is_whole T) (by decide) (by decide) (by exact rfl) (za_one (z_var n_is_between_0))) (z_one (z_chI ci_le ci_le (z_var n_is_between_1) (z_var n_is_between_0) (z_var n_is_between_2)))) sub_nil))
theorem at_is_between {G : Gx} {D : Cl} (T : Txt G D) : FnAt false G "is_between" 2 ["thing", "low", "high"] (spZ G (fun _ : Unit => noE) (fun (q : Unit) (p : (Int × Int × Int)) => [rInt.pr p.1, rInt.pr p.2.1, rInt.pr p.2.2]) m_is_between rBl) :=
  let ⟨f, fd, h1, h2, h3, h4⟩ := T.d_is_between; ⟨f, fd, h1, h2, h3, f_is_between T h4⟩

def k_is_price : Sc := ⟨["thing"], defScope t_is_price, 2, true, fun _ => true, false⟩
theorem sc_is_price : FnScope ["thing"] ["thing"] (defScope t_is_price) := ⟨rfl, rfl, rfl, by decide +kernel, rfl, by decide +kernel, by decide +kernel⟩
theorem n_is_price_0 : Nm k_is_price 0 "thing" := nm_of (by decide +kernel)
theorem s_is_price_0 : Ns k_is_price 0 "thing" := ns_of (by decide +kernel)
noncomputable def b_is_price (p : Int) : M Unit (Fl Unit Empty Bool) :=
  (zrt (zapp (fun x => lft (m_is_between x)) (zpair (ret p) (zpair (ret (0 : Int)) (ret c_MOST_PRICE)))))
noncomputable def m_is_price (p : Int) : M Unit Bool := zbody (b_is_price p)
theorem f_is_price {G : Gx} {D : Cl} (T : Txt G D) {f : Addr} {fd : FuncData} (F : Fun G.K "is_price" "is_price" t_is_price f fd) : FnG false G.P G.w G.K G.mg G.base 3 f fd ["thing"] (spZ G (fun _ : Unit => noE) (fun (q : Unit) (p : Int) => [rInt.pr p]) m_is_price rBl) :=
  fn_ok (g := false) (k := 2) (Γn := fun _ _ _ => []) F sc_is_price (fun _ _ => rfl) (fun _ => rfl) (.inl fun _ _ => rfl) fun q p W =>
  show ZB G k_is_price _ W _ [.st (rInt.pr p)] _ (b_is_price p) _ from
  (zb_one (zs_ret (z_callP (q := ()) (at_is_between T) (by decide) (by decide) (by exact rfl) (za_cons (z_var n_is_price_0) (za_cons z_int (za_one (z_gintE (by exact rfl) T.c_MOST_PRICE))))) sub_nil))
theorem at_is_price {G : Gx} {D : Cl} (T : Txt G D) : FnAt false G "is_price" 3 ["thing"] (spZ G (fun _ : Unit => noE) (fun (q : Unit) (p : Int) => [rInt.pr p]) m_is_price rBl) :=
  let ⟨f, fd, h1, h2, h3, h4⟩ := T.d_is_price; ⟨f, fd, h1, h2, h3, f_is_price T h4⟩

def k_are_prices : Sc := ⟨["thing", "least", "most", "one"], defScope t_are_prices, 3, true, fun _ => true, false⟩
theorem sc_are_prices : FnScope ["thing", "least", "most", "one"] ["thing", "least", "most"] (defScope t_are_prices) := ⟨rfl, rfl, rfl, by decide +kernel, rfl, by decide +kernel, by decide +kernel⟩
theorem n_are_prices_0 : Nm k_are_prices 0 "thing" := nm_of (by decide +kernel)
theorem s_are_prices_0 : Ns k_are_prices 0 "thing" := ns_of (by decide +kernel)
theorem n_are_prices_1 : Nm k_are_prices 1 "least" := nm_of (by decide +kernel)
theorem s_are_prices_1 : Ns k_are_prices 1 "least" := ns_of (by decide +kernel)
theorem n_are_prices_2 : Nm k_are_prices 2 "most" := nm_of (by decide +kernel)
theorem s_are_prices_2 : Ns k_are_prices 2 "most" := ns_of (by decide +kernel)
noncomputable def b_are_prices (p : ((List Int) × Int × Int)) : M Unit (Fl Unit Empty Bool) :=
  (zseq (zifS (zor (znot (zis true (ret p.1))) (znot (zchain ile ile (ret p.2.1) (zapp flen (ret p.1)) (ret p.2.2))))
    (zrt (ret false))
    (znx ())) fun _ =>
  (zrt (zapp fall (zlc (fun e1 => (ret true)) (fun e1 => (zapp (fun x => lft (m_is_price x)) (ret e1))) (ret p.1)))))
noncomputable def m_are_prices (p : ((List Int) × Int × Int)) : M Unit Bool := zbody (b_are_prices p)
theorem f_are_prices {G : Gx} {D : Cl} (T : Txt G D) {f : Addr} {fd : FuncData} (F : Fun G.K "are_prices" "are_prices" t_are_prices f fd) : FnG false G.P G.w G.K G.mg G.base 4 f fd ["thing", "least", "most"] (spZ G (fun _ : Unit => noE) (fun (q : Unit) (p : ((List Int) × Int × Int)) => [(rLst rInt).pr p.1, rInt.pr p.2.1, rInt.pr p.2.2]) m_are_prices rBl) :=
  fn_ok (g := false) (k := 3) (Γn := fun _ _ _ => []) F sc_are_prices (fun _ _ => rfl) (fun _ => rfl) (.inl fun _ _ => rfl) fun q p W =>
  show ZB G k_are_prices _ W _ [.st ((rLst rInt).pr p.1), .st (rInt.pr p.2.1), .st (rInt.pr p.2.2), .no] _ (b_are_prices p) _ from
  (zb_cons (zs_if (Γn := fun _ : Unit => [.st ((rLst rInt).pr p.1), .st (rInt.pr p.2.1), .st (rInt.pr p.2.2), .no]) (zw_t (zw_or (zt_not (zt_val (z_isi (blt_of (u := .builtin "isinstance") T.b_isinstance (by decide +kernel)) isL (blt_of (u := .type "list") T.b_list (by decide +kernel)) rfl (z_var n_are_prices_0)))) (zw_or1 (zt_not (zt_chI ci_le ci_le (z_var n_are_prices_1) (z_lenL (blt_of (u := .builtin "len") T.b_len (by decide +kernel)) (z_var n_are_prices_0)) (z_var n_are_prices_2))))))
    (zb_one (zs_ret z_bl sub_nil))
    (zb_nil (SubL.sub (.keep (.keep (.keep (.keep SubL.nil)))))) sub_nil) fun _ =>
  (zb_one (zs_ret (z_all (blt_of (u := .builtin "all") T.b_all (by decide +kernel)) (z_lc (Lc.mk (own := [("one", 3)]) (blk_of rfl (by decide +kernel)) (zi_list (z_var n_are_prices_0)) (zg_name (ns_of (i := 3) (by decide +kernel)) (by decide)) (fun e1 => zts_nil) (fun e1 => (z_callP (q := ()) (at_is_price T) (by decide) (by decide) (by exact rfl) (za_one (z_var (nm_of (i := 3) (by decide +kernel)))))) (lc_no ⟨rfl, trivial⟩) (fun _ _ => rfl)))) sub_nil)))
theorem at_are_prices {G : Gx} {D : Cl} (T : Txt G D) : FnAt false G "are_prices" 4 ["thing", "least", "most"] (spZ G (fun _ : Unit => noE) (fun (q : Unit) (p : ((List Int) × Int × Int)) => [(rLst rInt).pr p.1, rInt.pr p.2.1, rInt.pr p.2.2]) m_are_prices rBl) :=
  let ⟨f, fd, h1, h2, h3, h4⟩ := T.d_are_prices; ⟨f, fd, h1, h2, h3, f_are_prices T h4⟩

def k_sums_of : Sc := ⟨["prices", "found", "price"], defScope t_sums_of, 0, true, fun _ => true, false⟩
theorem sc_sums_of : FnScope ["prices", "found", "price"] ["prices"] (defScope t_sums_of) := ⟨rfl, rfl, rfl, by decide +kernel, rfl, by decide +kernel, by decide +kernel⟩
theorem n_sums_of_0 : Nm k_sums_of 0 "prices" := nm_of (by decide +kernel)
theorem s_sums_of_0 : Ns k_sums_of 0 "prices" := ns_of (by decide +kernel)
theorem n_sums_of_1 : Nm k_sums_of 1 "found" := nm_of (by decide +kernel)
theorem s_sums_of_1 : Ns k_sums_of 1 "found" := ns_of (by decide +kernel)
theorem n_sums_of_2 : Nm k_sums_of 2 "price" := nm_of (by decide +kernel)
theorem s_sums_of_2 : Ns k_sums_of 2 "price" := ns_of (by decide +kernel)
noncomputable def b_sums_of (p : (List Int)) : M Unit (Fl Unit Empty (List Int)) :=
  (zseq (zset (zlist (zcons (ret (0 : Int)) (ret [])))) fun found1 =>
  (zseq (zforI (ret p) found1 fun c2 x3 =>
    (zseq (bnd (zop2 iadd (zop2 ixat (ret c2) (zop1 ineg (ret (1 : Int)))) (ret x3)) fun v => chk (List.length c2 < sizeLine) (ret (.nx v))) fun a4 =>
    (znx (c2 ++ [a4])))) fun c2 =>
  (zrt (ret c2))))
noncomputable def m_sums_of (p : (List Int)) : M Unit (List Int) := zbody (b_sums_of p)
theorem f_sums_of {G : Gx} {D : Cl} (T : Txt G D) {f : Addr} {fd : FuncData} (F : Fun G.K "sums_of" "sums_of" t_sums_of f fd) : FnG false G.P G.w G.K G.mg G.base 1 f fd ["prices"] (spZ G (fun _ : Unit => noE) (fun (q : Unit) (p : (List Int)) => [(rLst rInt).pr p]) m_sums_of (rLst rInt)) :=
  fn_ok (g := false) (k := 0) (Γn := fun _ _ _ => []) F sc_sums_of (fun _ _ => rfl) (fun _ => rfl) (.inl fun _ _ => rfl) fun q p W =>
  show ZB G k_sums_of _ W _ [.st ((rLst rInt).pr p), .no, .no] _ (b_sums_of p) _ from
  (zb_cons (zs_setF s_sums_of_1 (zf_list (zl_cons z_int zl_nil)) sub_nil) fun found1 =>
  (zb_cons (zs_for (vs := [2]) (Γh := fun c2 : (List Int) => [.st ((rLst rInt).pr p), .ow (ownL rInt c2), .no]) (zi_list (z_var n_sums_of_0)) (SubL.sub (.keep (.keep (.keep SubL.nil)))) (fun c2 => (zg_name s_sums_of_2 (by decide))) (fun c2 x3 =>
    (zb_cons (zs_app n_sums_of_1 rfl (z_lend (.st (.ow one_L (.st .nil))) free_no fl_int (z_add (z_ixL (z_var n_sums_of_1) (z_neg z_int)) (z_var n_sums_of_2))) sub_nil) fun a4 =>
    (zb_nil (SubL.sub (.keep (.keep (.drop SubL.nil))))))) sub_nil) fun c2 =>
  (zb_wk (sub_frz (i := 1) one_L) <| zb_one (zs_ret (z_var n_sums_of_1) sub_nil))))
theorem at_sums_of {G : Gx} {D : Cl} (T : Txt G D) : FnAt false G "sums_of" 1 ["prices"] (spZ G (fun _ : Unit => noE) (fun (q : Unit) (p : (List Int)) => [(rLst rInt).pr p]) m_sums_of (rLst rInt)) :=
  let ⟨f, fd, h1, h2, h3, h4⟩ := T.d_sums_of; ⟨f, fd, h1, h2, h3, f_sums_of T h4⟩

def k_Ladder_init : Sc := ⟨["self", "below", "row", "above", "at", "bounds", "place", "prices", "least", "most"], defScope t_Ladder_init, 4, true, fun _ => true, false⟩
theorem sc_Ladder_init : FnScope ["self", "below", "row", "above", "at", "bounds", "place", "prices", "least", "most"] ["self", "below", "row", "above", "at"] (defScope t_Ladder_init) := ⟨rfl, rfl, rfl, by decide +kernel, rfl, by decide +kernel, by decide +kernel⟩
theorem n_Ladder_init_0 : Nm k_Ladder_init 0 "self" := nm_of (by decide +kernel)
theorem s_Ladder_init_0 : Ns k_Ladder_init 0 "self" := ns_of (by decide +kernel)
theorem n_Ladder_init_1 : Nm k_Ladder_init 1 "below" := nm_of (by decide +kernel)
theorem s_Ladder_init_1 : Ns k_Ladder_init 1 "below" := ns_of (by decide +kernel)
theorem n_Ladder_init_2 : Nm k_Ladder_init 2 "row" := nm_of (by decide +kernel)
theorem s_Ladder_init_2 : Ns k_Ladder_init 2 "row" := ns_of (by decide +kernel)
theorem n_Ladder_init_3 : Nm k_Ladder_init 3 "above" := nm_of (by decide +kernel)
theorem s_Ladder_init_3 : Ns k_Ladder_init 3 "above" := ns_of (by decide +kernel)
theorem n_Ladder_init_4 : Nm k_Ladder_init 4 "at" := nm_of (by decide +kernel)
theorem s_Ladder_init_4 : Ns k_Ladder_init 4 "at" := ns_of (by decide +kernel)
theorem n_Ladder_init_5 : Nm k_Ladder_init 5 "bounds" := nm_of (by decide +kernel)
theorem s_Ladder_init_5 : Ns k_Ladder_init 5 "bounds" := ns_of (by decide +kernel)
theorem n_Ladder_init_6 : Nm k_Ladder_init 6 "place" := nm_of (by decide +kernel)
theorem s_Ladder_init_6 : Ns k_Ladder_init 6 "place" := ns_of (by decide +kernel)
theorem n_Ladder_init_7 : Nm k_Ladder_init 7 "prices" := nm_of (by decide +kernel)
theorem s_Ladder_init_7 : Ns k_Ladder_init 7 "prices" := ns_of (by decide +kernel)
theorem n_Ladder_init_8 : Nm k_Ladder_init 8 "least" := nm_of (by decide +kernel)
theorem s_Ladder_init_8 : Ns k_Ladder_init 8 "least" := ns_of (by decide +kernel)
theorem n_Ladder_init_9 : Nm k_Ladder_init 9 "most" := nm_of (by decide +kernel)
theorem s_Ladder_init_9 : Ns k_Ladder_init 9 "most" := ns_of (by decide +kernel)
noncomputable def b_Ladder_init (p : ((List Int) × (List Int) × (List Int) × Int)) : M Unit (Fl ((List Int) × (List Int) × (List Int) × Int × (List Int) × (List Int) × (List Int)) Empty Empty) :=
  (zseq (zset (zlist (zcons (zpair (ret p.1) (zpair (ret (1 : Int)) (ret c_MOST_REPEATED))) (zcons (zpair (ret p.2.1) (zpair (ret (0 : Int)) (ret c_MOST_ROW))) (zcons (zpair (ret p.2.2.1) (zpair (ret (1 : Int)) (ret c_MOST_REPEATED))) (ret [])))))) fun bounds1 =>
  (zseq (zforI (zenum (ret bounds1)) () fun _ x2 =>
    (zseq (zifS (znot (zapp (fun x => lft (m_are_prices x)) (zpair (ret x2.2.1) (zpair (ret x2.2.2.1) (ret x2.2.2.2)))))
      (zraise "Wrong" "at" V.int (ret x2.1))
      (znx ())) fun _ =>
    (znx ()))) fun _ =>
  (zseq (zifS (znot (zapp (fun x => lft (m_is_between x)) (zpair (ret p.2.2.2) (zpair (zop2 isub (ret (0 : Int)) (ret c_FARTHEST_AT)) (ret c_FARTHEST_AT)))))
    (zraise "Wrong" "at" V.int (ret (3 : Int)))
    (znx ())) fun _ =>
  (zseq (zset (zpair (zapp ret (ret p.1)) (zpair (zapp ret (ret p.2.1)) (zapp ret (ret p.2.2.1))))) fun w3 =>
  (zseq (zset (ret p.2.2.2)) fun begin4 =>
  (zseq (zset (zpair (zapp (fun x => lft (m_sums_of x)) (ret p.1)) (zpair (zapp (fun x => lft (m_sums_of x)) (ret p.2.1)) (zapp (fun x => lft (m_sums_of x)) (ret p.2.2.1))))) fun w5 =>
  (znx (w3.1, w3.2.1, w3.2.2, begin4, w5.1, w5.2.1, w5.2.2))))))))
def y_Ladder_init (_ : ((List Int) × (List Int) × (List Int) × Int)) (y : ((List Int) × (List Int) × (List Int) × Int × (List Int) × (List Int) × (List Int))) : XLadder := ⟨y.1, y.2.1, y.2.2.1, y.2.2.2.1, y.2.2.2.2.1, y.2.2.2.2.2.1, y.2.2.2.2.2.2⟩
noncomputable def m_Ladder_init (p : ((List Int) × (List Int) × (List Int) × Int)) : M Unit XLadder := zini (y_Ladder_init p) (b_Ladder_init p)
theorem f_Ladder_init {G : Gx} {D : Cl} (T : Txt G D) {f : Addr} {fd : FuncData} (F : FunD G.K "__init__" "Ladder.__init__" (defArgs t_Ladder_init) (defBody t_Ladder_init) (defScope t_Ladder_init) [] [("at", .int 0)] f fd) : FnG false G.P G.w G.K G.mg G.base 5 f fd ["self", "below", "row", "above", "at"] (spI G D.Ladder (fun (p : ((List Int) × (List Int) × (List Int) × Int)) => [(rLst rInt).pr p.1, (rLst rInt).pr p.2.1, (rLst rInt).pr p.2.2.1, rInt.pr p.2.2.2]) m_Ladder_init (fs_Ladder D)) :=
  init_ok (g := false) (k := 4) (C := D.Ladder) (Γn := fun l a y => .ow (ownO (fun x => x = l) D.Ladder (fs_Ladder D (y_Ladder_init a y))) :: [.no, .no, .no, .no, .no, .no, .no, .no, .no]) F sc_Ladder_init (fun _ => rfl) (fun _ _ _ => rfl) fun l p W =>
  show ZB G k_Ladder_init _ W _ [.ow (ownO (fun x => x = l) D.Ladder []), .st ((rLst rInt).pr p.1), .st ((rLst rInt).pr p.2.1), .st ((rLst rInt).pr p.2.2.1), .st (rInt.pr p.2.2.2), .no, .no, .no, .no, .no] _ (b_Ladder_init p) _ from
  (zb_cons (zs_set s_Ladder_init_5 (z_list (zl_cons (z_tup3 (za_cons (z_var n_Ladder_init_1) (za_cons z_int (za_one (z_gintE (by exact rfl) T.c_MOST_REPEATED))))) (zl_cons (z_tup3 (za_cons (z_var n_Ladder_init_2) (za_cons z_int (za_one (z_gintE (by exact rfl) T.c_MOST_ROW))))) (zl_cons (z_tup3 (za_cons (z_var n_Ladder_init_3) (za_cons z_int (za_one (z_gintE (by exact rfl) T.c_MOST_REPEATED))))) zl_nil)))) sub_nil) fun bounds1 =>
  (zb_cons (zs_for (vs := [6, 7, 8, 9]) (Γh := fun _ : Unit => [.ow (ownO (fun x => x = l) D.Ladder []), .st ((rLst rInt).pr p.1), .st ((rLst rInt).pr p.2.1), .st ((rLst rInt).pr p.2.2.1), .st (rInt.pr p.2.2.2), .st ((rLst (rT3 (rLst rInt) rInt rInt)).pr bounds1), .no, .no, .no, .no]) (zi_enum (by exact rfl) T.b_enumerate (z_var n_Ladder_init_5)) (SubL.sub (.keep (.keep (.keep (.keep (.keep (.keep (.keep (.keep (.keep (.keep SubL.nil))))))))))) (fun _ => (zg_tup to2 (zgs_cons (zg_name s_Ladder_init_6 (by decide)) fun _ => (zgs_one (zg_tup to3 (zgs_cons (zg_name s_Ladder_init_7 (by decide)) fun _ => (zgs_cons (zg_name s_Ladder_init_8 (by decide)) fun _ => (zgs_one (zg_name s_Ladder_init_9 (by decide)))))))))) (fun _ x2 =>
    (zb_cons (zs_if (Γn := fun _ : Unit => [.ow (ownO (fun x => x = l) D.Ladder []), .st ((rLst rInt).pr p.1), .st ((rLst rInt).pr p.2.1), .st ((rLst rInt).pr p.2.2.1), .st (rInt.pr p.2.2.2), .st ((rLst (rT3 (rLst rInt) rInt rInt)).pr bounds1), .st (rInt.pr x2.1), .st ((rLst rInt).pr x2.2.1), .st (rInt.pr x2.2.2.1), .st (rInt.pr x2.2.2.2)]) (zt_not (zt_val (z_callP (q := ()) (at_are_prices T) (by decide) (by decide) (by exact rfl) (za_cons (z_var n_Ladder_init_7) (za_cons (z_var n_Ladder_init_8) (za_one (z_var n_Ladder_init_9)))))))
      (zb_one (zs_raise1 (x_Wrong T) T.xf_Wrong (by decide) rfl scI (z_var n_Ladder_init_6) sub_nil))
      (zb_nil (SubL.sub (.keep (.keep (.keep (.keep (.keep (.keep (.keep (.keep (.keep (.keep SubL.nil)))))))))))) sub_nil) fun _ =>
    (zb_nil (SubL.sub (.keep (.keep (.keep (.keep (.keep (.keep (.drop (.drop (.drop (.drop SubL.nil)))))))))))))) sub_nil) fun _ =>
  (zb_cons (zs_if (Γn := fun _ : Unit => [.ow (ownO (fun x => x = l) D.Ladder []), .st ((rLst rInt).pr p.1), .st ((rLst rInt).pr p.2.1), .st ((rLst rInt).pr p.2.2.1), .st (rInt.pr p.2.2.2), .st ((rLst (rT3 (rLst rInt) rInt rInt)).pr bounds1), .no, .no, .no, .no]) (zt_not (zt_val (z_callP (q := ()) (at_is_between T) (by decide) (by decide) (by exact rfl) (za_cons (z_var n_Ladder_init_4) (za_cons (z_sub z_int (z_gintE (by exact rfl) T.c_FARTHEST_AT)) (za_one (z_gintE (by exact rfl) T.c_FARTHEST_AT)))))))
    (zb_one (zs_raise1 (x_Wrong T) T.xf_Wrong (by decide) rfl scI z_int sub_nil))
    (zb_nil (SubL.sub (.keep (.keep (.keep (.keep (.keep (.keep (.keep (.keep (.keep (.keep SubL.nil)))))))))))) sub_nil) fun _ =>
  (zb_cons (zs_fldT (n := 3) (.cons (.cons (.cons (.nil)))) n_Ladder_init_0 rfl T.cl_Ladder (nas_cons T.na_Ladder_low (nas_cons T.na_Ladder_middle (nas_cons T.na_Ladder_high nas_nil))) (by exact of_decide_eq_true rfl) rfl (by exact fun _ => rfl) (by decide) (za_cons (z_tupL (blt_of (u := .type "tuple") T.b_tuple (by decide +kernel)) (z_var n_Ladder_init_1)) (za_cons (z_tupL (blt_of (u := .type "tuple") T.b_tuple (by decide +kernel)) (z_var n_Ladder_init_2)) (za_one (z_tupL (blt_of (u := .type "tuple") T.b_tuple (by decide +kernel)) (z_var n_Ladder_init_3))))) sub_nil) fun w3 =>
  (zb_cons (zs_fld n_Ladder_init_0 rfl T.cl_Ladder T.na_Ladder_begin (by exact of_decide_eq_true rfl) (z_var n_Ladder_init_4) sub_nil) fun begin4 =>
  (zb_cons (zs_fldT (n := 3) (.cons (.cons (.cons (.nil)))) n_Ladder_init_0 rfl T.cl_Ladder (nas_cons T.na_Ladder_low_sums (nas_cons T.na_Ladder_middle_sums (nas_cons T.na_Ladder_high_sums nas_nil))) (by exact of_decide_eq_true rfl) rfl (by exact fun _ => rfl) (by decide) (za_cons (z_callP (q := ()) (at_sums_of T) (by decide) (by decide) (by exact rfl) (za_one (z_var n_Ladder_init_1))) (za_cons (z_callP (q := ()) (at_sums_of T) (by decide) (by decide) (by exact rfl) (za_one (z_var n_Ladder_init_2))) (za_one (z_callP (q := ()) (at_sums_of T) (by decide) (by decide) (by exact rfl) (za_one (z_var n_Ladder_init_3)))))) sub_nil) fun w5 =>
  (zb_nil (a := (w3.1, w3.2.1, w3.2.2, begin4, w5.1, w5.2.1, w5.2.2)) (SubL.sub (.keep (.drop (.drop (.drop (.drop (.drop (.keep (.keep (.keep (.keep SubL.nil))))))))))))))))))
theorem mk_Ladder_init_K {G : Gx} {D : Cl} (T : Txt G D) : MkAtK false G D.Ladder 5 3 ["self", "below", "row", "above", "at"] ["at"] (spI G D.Ladder (fun (p : ((List Int) × (List Int) × (List Int) × Int)) => [(rLst rInt).pr p.1, (rLst rInt).pr p.2.1, (rLst rInt).pr p.2.2.1, rInt.pr p.2.2.2]) m_Ladder_init (fs_Ladder D)) (fun vs zs => vs ++ zs) := by
  obtain ⟨f, fd, h1, h2⟩ := T.d_Ladder_init
  obtain ⟨mv, hb⟩ := h2.kbinds0 (ps := ["self", "below", "row", "above", "at"]) 4 ["at"] [] (fun us mv ws => us ++ ws) (by simp) (by simp) (fun r1 _ r3 => r1.append r3) (by
    intro D doc pm an cdv ct us mv ws l1 l2 l3
    match us, mv, ws, l1, l2, l3 with
    | [a0, a1, a2, a3], [], [w], _, _, _ => rfl)
  exact ⟨f, fd, _, h1, hb, f_Ladder_init T h2⟩
theorem mk_Ladder_init_0 {G : Gx} {D : Cl} (T : Txt G D) : MkAtK false G D.Ladder 5 3 ["self", "below", "row", "above", "at"] [] (spI G D.Ladder (fun (p : ((List Int) × (List Int) × (List Int) × Int)) => [(rLst rInt).pr p.1, (rLst rInt).pr p.2.1, (rLst rInt).pr p.2.2.1, rInt.pr p.2.2.2]) m_Ladder_init (fs_Ladder D)) (fun vs _ => vs ++ [.int 0]) := by
  obtain ⟨f, fd, h1, h2⟩ := T.d_Ladder_init
  obtain ⟨mv, hb⟩ := h2.kbinds0 (ps := ["self", "below", "row", "above", "at"]) 4 [] [("at", .int 0)] (fun us mv ws => us ++ mv) (by simp) (by simp) (fun r1 r2 _ => r1.append r2) (by
    intro D doc pm an cdv ct us mv ws l1 l2 l3
    match us, mv, ws, l1, l2, l3 with
    | [a0, a1, a2, a3], [w], [], _, _, _ => exact ⟨_, _, _, _, _, _, rfl, rfl, rfl⟩)
  exact ⟨f, fd, _, h1, hb, f_Ladder_init T h2⟩

def k_w_made : Sc := ⟨["_law_plan", "_law_handed"], defScope t_w_made, 6, true, fun _ => true, false⟩
theorem sc_w_made : FnScope ["_law_plan", "_law_handed"] ["_law_plan", "_law_handed"] (defScope t_w_made) := ⟨rfl, rfl, rfl, by decide +kernel, rfl, by decide +kernel, by decide +kernel⟩
theorem n_w_made_0 : Nm k_w_made 0 "_law_plan" := nm_of (by decide +kernel)
theorem s_w_made_0 : Ns k_w_made 0 "_law_plan" := ns_of (by decide +kernel)
theorem n_w_made_1 : Nm k_w_made 1 "_law_handed" := nm_of (by decide +kernel)
theorem s_w_made_1 : Ns k_w_made 1 "_law_handed" := ns_of (by decide +kernel)
noncomputable def b_w_made (p : ((Int × (List Int) × (List Int) × (List Int)) × (List (List Int)))) : M Unit (Fl Unit Empty XLadder) :=
  (zseq (zifS (zop2 feq (zget Prod.fst (ret p.1)) (ret (0 : Int)))
    (zrt (bnd (zpair (zop2 ixat (ret p.2) (ret (0 : Int))) (zpair (zop2 ixat (ret p.2) (ret (1 : Int))) (zop2 ixat (ret p.2) (ret (2 : Int))))) fun y => lft (m_Ladder_init (y.1, y.2.1, y.2.2, (0 : Int)))))
    (znx ())) fun _ =>
  (zrt (bnd (zpair (zop2 ixat (ret p.2) (ret (0 : Int))) (zpair (zop2 ixat (ret p.2) (ret (1 : Int))) (zop2 ixat (ret p.2) (ret (2 : Int))))) fun y => bnd (zget Prod.fst (ret p.1)) fun z => lft (m_Ladder_init (y.1, y.2.1, y.2.2, z)))))
noncomputable def m_w_made (p : ((Int × (List Int) × (List Int) × (List Int)) × (List (List Int)))) : M Unit XLadder := zbody (b_w_made p)
theorem f_w_made {G : Gx} {D : Cl} (T : Txt G D) {f : Addr} {fd : FuncData} (F : Fun G.K "_law_made" "_law_made" t_w_made f fd) : FnG false G.P G.w G.K G.mg G.base 7 f fd ["_law_plan", "_law_handed"] (spZ G (fun _ : Unit => noE) (fun (q : Unit) (p : ((Int × (List Int) × (List Int) × (List Int)) × (List (List Int)))) => [(rT4 rInt (rLst rInt) (rLst rInt) (rLst rInt)).pr p.1, (rLst (rLst rInt)).pr p.2]) m_w_made (rLadder D)) :=
  fn_ok (g := false) (k := 6) (Γn := fun _ _ _ => []) F sc_w_made (fun _ _ => rfl) (fun _ => rfl) (.inl fun _ _ => rfl) fun q p W =>
  show ZB G k_w_made _ W _ [.st ((rT4 rInt (rLst rInt) (rLst rInt) (rLst rInt)).pr p.1), .st ((rLst (rLst rInt)).pr p.2)] _ (b_w_made p) _ from
  (zb_cons (zs_if (Γn := fun _ : Unit => [.st ((rT4 rInt (rLst rInt) (rLst rInt) (rLst rInt)).pr p.1), .st ((rLst (rLst rInt)).pr p.2)]) (zt_eq scI (z_at t4_0 (z_var n_w_made_0)) z_int)
    (zb_one (zs_ret (z_obj (fs_Ladder D) (zf_makeK0 (f := m_Ladder_init) (g := fun (y : ((List Int) × (List Int) × (List Int))) => (y.1, y.2.1, y.2.2, (0 : Int))) (mk_Ladder_init_0 T) T.g_Ladder (by decide) (by decide) rfl (by exact fun _ => rfl) (by exact gw3) (za_cons (z_ixL (z_var n_w_made_1) z_int) (za_cons (z_ixL (z_var n_w_made_1) z_int) (za_one (z_ixL (z_var n_w_made_1) z_int)))))) sub_nil))
    (zb_nil (SubL.sub (.keep (.keep SubL.nil)))) sub_nil) fun _ =>
  (zb_one (zs_ret (z_obj (fs_Ladder D) (zf_makeK (f := m_Ladder_init) (g := fun (y : ((List Int) × (List Int) × (List Int)) × Int) => (y.1.1, y.1.2.1, y.1.2.2, y.2)) (mk_Ladder_init_K T) T.g_Ladder (by decide) (by decide) rfl (by exact fun _ => rfl) (by exact gv3) (za_cons (z_ixL (z_var n_w_made_1) z_int) (za_cons (z_ixL (z_var n_w_made_1) z_int) (za_one (z_ixL (z_var n_w_made_1) z_int)))) (z_at t4_0 (z_var n_w_made_0)))) sub_nil)))
theorem at_w_made {G : Gx} {D : Cl} (T : Txt G D) : FnAt false G "_law_made" 7 ["_law_plan", "_law_handed"] (spZ G (fun _ : Unit => noE) (fun (q : Unit) (p : ((Int × (List Int) × (List Int) × (List Int)) × (List (List Int)))) => [(rT4 rInt (rLst rInt) (rLst rInt) (rLst rInt)).pr p.1, (rLst (rLst rInt)).pr p.2]) m_w_made (rLadder D)) :=
  let ⟨f, fd, h1, h2, h3, h4⟩ := T.d_w_made; ⟨f, fd, h1, h2, h3, f_w_made T h4⟩

def k_are_prices_2 : Sc := ⟨["thing", "least", "most", "one"], defScope t_are_prices, 3, true, fun _ => true, false⟩
theorem sc_are_prices_2 : FnScope ["thing", "least", "most", "one"] ["thing", "least", "most"] (defScope t_are_prices) := ⟨rfl, rfl, rfl, by decide +kernel, rfl, by decide +kernel, by decide +kernel⟩
theorem n_are_prices_2_0 : Nm k_are_prices_2 0 "thing" := nm_of (by decide +kernel)
theorem s_are_prices_2_0 : Ns k_are_prices_2 0 "thing" := ns_of (by decide +kernel)
theorem n_are_prices_2_1 : Nm k_are_prices_2 1 "least" := nm_of (by decide +kernel)
theorem s_are_prices_2_1 : Ns k_are_prices_2 1 "least" := ns_of (by decide +kernel)
theorem n_are_prices_2_2 : Nm k_are_prices_2 2 "most" := nm_of (by decide +kernel)
theorem s_are_prices_2_2 : Ns k_are_prices_2 2 "most" := ns_of (by decide +kernel)
theorem f_are_prices_2 {G : Gx} {D : Cl} (T : Txt G D) {f : Addr} {fd : FuncData} (F : Fun G.K "are_prices" "are_prices" t_are_prices f fd) : FnG false G.P G.w G.K G.mg G.base 4 f fd ["thing", "least", "most"] (spZ G (fun L : Hp => noE.lent L) (fun (q : Hp) (p : ((List Int) × Int × Int)) => [(rLF q rInt).pr p.1, rInt.pr p.2.1, rInt.pr p.2.2]) m_are_prices rBl) :=
  fn_ok (g := false) (k := 3) (Γn := fun _ _ _ => []) F sc_are_prices_2 (fun _ _ => rfl) (fun _ => rfl) (.inl fun _ _ => rfl) fun q p W =>
  show ZB G k_are_prices_2 _ W _ [.st ((rLF q rInt).pr p.1), .st (rInt.pr p.2.1), .st (rInt.pr p.2.2), .no] _ (b_are_prices p) _ from
  (zb_cons (zs_if (Γn := fun _ : Unit => [.st ((rLF q rInt).pr p.1), .st (rInt.pr p.2.1), .st (rInt.pr p.2.2), .no]) (zw_t (zw_or (zt_not (zt_val (z_isiF hasL (blt_of (u := .builtin "isinstance") T.b_isinstance (by decide +kernel)) (blt_of (u := .type "list") T.b_list (by decide +kernel)) rfl (z_var n_are_prices_2_0)))) (zw_or1 (zt_not (zt_chI ci_le ci_le (z_var n_are_prices_2_1) (z_lenF hasL (blt_of (u := .builtin "len") T.b_len (by decide +kernel)) (z_var n_are_prices_2_0)) (z_var n_are_prices_2_2))))))
    (zb_one (zs_ret z_bl sub_nil))
    (zb_nil (SubL.sub (.keep (.keep (.keep (.keep SubL.nil)))))) sub_nil) fun _ =>
  (zb_one (zs_ret (z_all (blt_of (u := .builtin "all") T.b_all (by decide +kernel)) (z_lc (Lc.mk (own := [("one", 3)]) (blk_of rfl (by decide +kernel)) (zi_listF hasL (z_var n_are_prices_2_0)) (zg_name (ns_of (i := 3) (by decide +kernel)) (by decide)) (fun e1 => zts_nil) (fun e1 => (z_callP (q := ()) (at_is_price T) (by decide) (by decide) (by exact rfl) (za_one (z_var (nm_of (i := 3) (by decide +kernel)))))) (lc_no ⟨rfl, trivial⟩) (fun _ _ => rfl)))) sub_nil)))
theorem at_are_prices_2 {G : Gx} {D : Cl} (T : Txt G D) : FnAt false G "are_prices" 4 ["thing", "least", "most"] (spZ G (fun L : Hp => noE.lent L) (fun (q : Hp) (p : ((List Int) × Int × Int)) => [(rLF q rInt).pr p.1, rInt.pr p.2.1, rInt.pr p.2.2]) m_are_prices rBl) :=
  let ⟨f, fd, h1, h2, h3, h4⟩ := T.d_are_prices; ⟨f, fd, h1, h2, h3, f_are_prices_2 T h4⟩

def k_sums_of_2 : Sc := ⟨["prices", "found", "price"], defScope t_sums_of, 0, true, fun _ => true, false⟩
theorem sc_sums_of_2 : FnScope ["prices", "found", "price"] ["prices"] (defScope t_sums_of) := ⟨rfl, rfl, rfl, by decide +kernel, rfl, by decide +kernel, by decide +kernel⟩
theorem n_sums_of_2_0 : Nm k_sums_of_2 0 "prices" := nm_of (by decide +kernel)
theorem s_sums_of_2_0 : Ns k_sums_of_2 0 "prices" := ns_of (by decide +kernel)
theorem n_sums_of_2_1 : Nm k_sums_of_2 1 "found" := nm_of (by decide +kernel)
theorem s_sums_of_2_1 : Ns k_sums_of_2 1 "found" := ns_of (by decide +kernel)
theorem n_sums_of_2_2 : Nm k_sums_of_2 2 "price" := nm_of (by decide +kernel)
theorem s_sums_of_2_2 : Ns k_sums_of_2 2 "price" := ns_of (by decide +kernel)
theorem f_sums_of_2 {G : Gx} {D : Cl} (T : Txt G D) {f : Addr} {fd : FuncData} (F : Fun G.K "sums_of" "sums_of" t_sums_of f fd) : FnG false G.P G.w G.K G.mg G.base 1 f fd ["prices"] (spZ G (fun L : Hp => noE.lent L) (fun (q : Hp) (p : (List Int)) => [(rLF q rInt).pr p]) m_sums_of (rLst rInt)) :=
  fn_ok (g := false) (k := 0) (Γn := fun _ _ _ => []) F sc_sums_of_2 (fun _ _ => rfl) (fun _ => rfl) (.inl fun _ _ => rfl) fun q p W =>
  show ZB G k_sums_of_2 _ W _ [.st ((rLF q rInt).pr p), .no, .no] _ (b_sums_of p) _ from
  (zb_cons (zs_setF s_sums_of_2_1 (zf_list (zl_cons z_int zl_nil)) sub_nil) fun found1 =>
  (zb_cons (zs_for (vs := [2]) (Γh := fun c2 : (List Int) => [.st ((rLF q rInt).pr p), .ow (ownL rInt c2), .no]) (zi_listF hasL (z_var n_sums_of_2_0)) (SubL.sub (.keep (.keep (.keep SubL.nil)))) (fun c2 => (zg_name s_sums_of_2_2 (by decide))) (fun c2 x3 =>
    (zb_cons (zs_app n_sums_of_2_1 rfl (z_lend (.st (.ow one_L (.st .nil))) (free_lent free_no) fl_int (z_add (z_ixL (z_var n_sums_of_2_1) (z_neg z_int)) (z_var n_sums_of_2_2))) sub_nil) fun a4 =>
    (zb_nil (SubL.sub (.keep (.keep (.drop SubL.nil))))))) sub_nil) fun c2 =>
  (zb_wk (sub_frz (i := 1) one_L) <| zb_one (zs_ret (z_var n_sums_of_2_1) sub_nil))))
theorem at_sums_of_2 {G : Gx} {D : Cl} (T : Txt G D) : FnAt false G "sums_of" 1 ["prices"] (spZ G (fun L : Hp => noE.lent L) (fun (q : Hp) (p : (List Int)) => [(rLF q rInt).pr p]) m_sums_of (rLst rInt)) :=
  let ⟨f, fd, h1, h2, h3, h4⟩ := T.d_sums_of; ⟨f, fd, h1, h2, h3, f_sums_of_2 T h4⟩

def k_Ladder_init_2 : Sc := ⟨["self", "below", "row", "above", "at", "bounds", "place", "prices", "least", "most"], defScope t_Ladder_init, 4, true, fun _ => true, false⟩
theorem sc_Ladder_init_2 : FnScope ["self", "below", "row", "above", "at", "bounds", "place", "prices", "least", "most"] ["self", "below", "row", "above", "at"] (defScope t_Ladder_init) := ⟨rfl, rfl, rfl, by decide +kernel, rfl, by decide +kernel, by decide +kernel⟩
theorem n_Ladder_init_2_0 : Nm k_Ladder_init_2 0 "self" := nm_of (by decide +kernel)
theorem s_Ladder_init_2_0 : Ns k_Ladder_init_2 0 "self" := ns_of (by decide +kernel)
theorem n_Ladder_init_2_1 : Nm k_Ladder_init_2 1 "below" := nm_of (by decide +kernel)
theorem s_Ladder_init_2_1 : Ns k_Ladder_init_2 1 "below" := ns_of (by decide +kernel)
theorem n_Ladder_init_2_2 : Nm k_Ladder_init_2 2 "row" := nm_of (by decide +kernel)
theorem s_Ladder_init_2_2 : Ns k_Ladder_init_2 2 "row" := ns_of (by decide +kernel)
theorem n_Ladder_init_2_3 : Nm k_Ladder_init_2 3 "above" := nm_of (by decide +kernel)
theorem s_Ladder_init_2_3 : Ns k_Ladder_init_2 3 "above" := ns_of (by decide +kernel)
theorem n_Ladder_init_2_4 : Nm k_Ladder_init_2 4 "at" := nm_of (by decide +kernel)
theorem s_Ladder_init_2_4 : Ns k_Ladder_init_2 4 "at" := ns_of (by decide +kernel)
theorem n_Ladder_init_2_5 : Nm k_Ladder_init_2 5 "bounds" := nm_of (by decide +kernel)
theorem s_Ladder_init_2_5 : Ns k_Ladder_init_2 5 "bounds" := ns_of (by decide +kernel)
theorem n_Ladder_init_2_6 : Nm k_Ladder_init_2 6 "place" := nm_of (by decide +kernel)
theorem s_Ladder_init_2_6 : Ns k_Ladder_init_2 6 "place" := ns_of (by decide +kernel)
theorem n_Ladder_init_2_7 : Nm k_Ladder_init_2 7 "prices" := nm_of (by decide +kernel)
theorem s_Ladder_init_2_7 : Ns k_Ladder_init_2 7 "prices" := ns_of (by decide +kernel)
theorem n_Ladder_init_2_8 : Nm k_Ladder_init_2 8 "least" := nm_of (by decide +kernel)
theorem s_Ladder_init_2_8 : Ns k_Ladder_init_2 8 "least" := ns_of (by decide +kernel)
theorem n_Ladder_init_2_9 : Nm k_Ladder_init_2 9 "most" := nm_of (by decide +kernel)
theorem s_Ladder_init_2_9 : Ns k_Ladder_init_2 9 "most" := ns_of (by decide +kernel)
theorem f_Ladder_init_2 {G : Gx} {D : Cl} (T : Txt G D) {f : Addr} {fd : FuncData} (F : FunD G.K "__init__" "Ladder.__init__" (defArgs t_Ladder_init) (defBody t_Ladder_init) (defScope t_Ladder_init) [] [("at", .int 0)] f fd) : FnG false G.P G.w G.K G.mg G.base 5 f fd ["self", "below", "row", "above", "at"] (spIE G D.Ladder (fun L : Hp => noE.lent L) (fun (q : Hp) (p : ((List Int) × (List Int) × (List Int) × Int)) => [(rLF q rInt).pr p.1, (rLF q rInt).pr p.2.1, (rLF q rInt).pr p.2.2.1, rInt.pr p.2.2.2]) m_Ladder_init (fs_Ladder D)) :=
  init_okE (g := false) (k := 4) (C := D.Ladder) (Γn := fun q l a y => .ow (ownO (fun x => x = l) D.Ladder (fs_Ladder D (y_Ladder_init a y))) :: [.no, .no, .no, .no, .no, .no, .no, .no, .no]) F sc_Ladder_init_2 (fun _ _ => rfl) (fun _ _ _ _ => rfl) fun q l p W =>
  show ZB G k_Ladder_init_2 _ W _ [.ow (ownO (fun x => x = l) D.Ladder []), .st ((rLF q rInt).pr p.1), .st ((rLF q rInt).pr p.2.1), .st ((rLF q rInt).pr p.2.2.1), .st (rInt.pr p.2.2.2), .no, .no, .no, .no, .no] _ (b_Ladder_init p) _ from
  (zb_cons (zs_set s_Ladder_init_2_5 (z_list (zl_cons (z_tup3 (za_cons (z_var n_Ladder_init_2_1) (za_cons z_int (za_one (z_gintE (by exact rfl) T.c_MOST_REPEATED))))) (zl_cons (z_tup3 (za_cons (z_var n_Ladder_init_2_2) (za_cons z_int (za_one (z_gintE (by exact rfl) T.c_MOST_ROW))))) (zl_cons (z_tup3 (za_cons (z_var n_Ladder_init_2_3) (za_cons z_int (za_one (z_gintE (by exact rfl) T.c_MOST_REPEATED))))) zl_nil)))) sub_nil) fun bounds1 =>
  (zb_cons (zs_for (vs := [6, 7, 8, 9]) (Γh := fun _ : Unit => [.ow (ownO (fun x => x = l) D.Ladder []), .st ((rLF q rInt).pr p.1), .st ((rLF q rInt).pr p.2.1), .st ((rLF q rInt).pr p.2.2.1), .st (rInt.pr p.2.2.2), .st ((rLst (rT3 (rLF q rInt) rInt rInt)).pr bounds1), .no, .no, .no, .no]) (zi_enum (by exact rfl) T.b_enumerate (z_var n_Ladder_init_2_5)) (SubL.sub (.keep (.keep (.keep (.keep (.keep (.keep (.keep (.keep (.keep (.keep SubL.nil))))))))))) (fun _ => (zg_tup to2 (zgs_cons (zg_name s_Ladder_init_2_6 (by decide)) fun _ => (zgs_one (zg_tup to3 (zgs_cons (zg_name s_Ladder_init_2_7 (by decide)) fun _ => (zgs_cons (zg_name s_Ladder_init_2_8 (by decide)) fun _ => (zgs_one (zg_name s_Ladder_init_2_9 (by decide)))))))))) (fun _ x2 =>
    (zb_cons (zs_if (Γn := fun _ : Unit => [.ow (ownO (fun x => x = l) D.Ladder []), .st ((rLF q rInt).pr p.1), .st ((rLF q rInt).pr p.2.1), .st ((rLF q rInt).pr p.2.2.1), .st (rInt.pr p.2.2.2), .st ((rLst (rT3 (rLF q rInt) rInt rInt)).pr bounds1), .st (rInt.pr x2.1), .st ((rLF q rInt).pr x2.2.1), .st (rInt.pr x2.2.2.1), .st (rInt.pr x2.2.2.2)]) (zt_not (zt_val (z_callL (at_are_prices_2 T) (by decide) (by decide) (by exact rfl) (za_cons (z_var n_Ladder_init_2_7) (za_cons (z_var n_Ladder_init_2_8) (za_one (z_var n_Ladder_init_2_9)))))))
      (zb_one (zs_raise1 (x_Wrong T) T.xf_Wrong (by decide) rfl scI (z_var n_Ladder_init_2_6) sub_nil))
      (zb_nil (SubL.sub (.keep (.keep (.keep (.keep (.keep (.keep (.keep (.keep (.keep (.keep SubL.nil)))))))))))) sub_nil) fun _ =>
    (zb_nil (SubL.sub (.keep (.keep (.keep (.keep (.keep (.keep (.drop (.drop (.drop (.drop SubL.nil)))))))))))))) sub_nil) fun _ =>
  (zb_cons (zs_if (Γn := fun _ : Unit => [.ow (ownO (fun x => x = l) D.Ladder []), .st ((rLF q rInt).pr p.1), .st ((rLF q rInt).pr p.2.1), .st ((rLF q rInt).pr p.2.2.1), .st (rInt.pr p.2.2.2), .st ((rLst (rT3 (rLF q rInt) rInt rInt)).pr bounds1), .no, .no, .no, .no]) (zt_not (zt_val (z_callP (q := ()) (at_is_between T) (by decide) (by decide) (by exact rfl) (za_cons (z_var n_Ladder_init_2_4) (za_cons (z_sub z_int (z_gintE (by exact rfl) T.c_FARTHEST_AT)) (za_one (z_gintE (by exact rfl) T.c_FARTHEST_AT)))))))
    (zb_one (zs_raise1 (x_Wrong T) T.xf_Wrong (by decide) rfl scI z_int sub_nil))
    (zb_nil (SubL.sub (.keep (.keep (.keep (.keep (.keep (.keep (.keep (.keep (.keep (.keep SubL.nil)))))))))))) sub_nil) fun _ =>
  (zb_cons (zs_fldT (n := 3) (.cons (.cons (.cons (.nil)))) n_Ladder_init_2_0 rfl T.cl_Ladder (nas_cons T.na_Ladder_low (nas_cons T.na_Ladder_middle (nas_cons T.na_Ladder_high nas_nil))) (by exact of_decide_eq_true rfl) rfl (by exact fun _ => rfl) (by decide) (za_cons (z_tupF hasL (blt_of (u := .type "tuple") T.b_tuple (by decide +kernel)) (z_var n_Ladder_init_2_1)) (za_cons (z_tupF hasL (blt_of (u := .type "tuple") T.b_tuple (by decide +kernel)) (z_var n_Ladder_init_2_2)) (za_one (z_tupF hasL (blt_of (u := .type "tuple") T.b_tuple (by decide +kernel)) (z_var n_Ladder_init_2_3))))) sub_nil) fun w3 =>
  (zb_cons (zs_fld n_Ladder_init_2_0 rfl T.cl_Ladder T.na_Ladder_begin (by exact of_decide_eq_true rfl) (z_var n_Ladder_init_2_4) sub_nil) fun begin4 =>
  (zb_cons (zs_fldT (n := 3) (.cons (.cons (.cons (.nil)))) n_Ladder_init_2_0 rfl T.cl_Ladder (nas_cons T.na_Ladder_low_sums (nas_cons T.na_Ladder_middle_sums (nas_cons T.na_Ladder_high_sums nas_nil))) (by exact of_decide_eq_true rfl) rfl (by exact fun _ => rfl) (by decide) (za_cons (z_callL (at_sums_of_2 T) (by decide) (by decide) (by exact rfl) (za_one (z_var n_Ladder_init_2_1))) (za_cons (z_callL (at_sums_of_2 T) (by decide) (by decide) (by exact rfl) (za_one (z_var n_Ladder_init_2_2))) (za_one (z_callL (at_sums_of_2 T) (by decide) (by decide) (by exact rfl) (za_one (z_var n_Ladder_init_2_3)))))) sub_nil) fun w5 =>
  (zb_nil (a := (w3.1, w3.2.1, w3.2.2, begin4, w5.1, w5.2.1, w5.2.2)) (SubL.sub (.keep (.drop (.drop (.drop (.drop (.drop (.keep (.keep (.keep (.keep SubL.nil))))))))))))))))))
theorem mk_Ladder_init_2_K {G : Gx} {D : Cl} (T : Txt G D) : MkAtK false G D.Ladder 5 3 ["self", "below", "row", "above", "at"] ["at"] (spIE G D.Ladder (fun L : Hp => noE.lent L) (fun (q : Hp) (p : ((List Int) × (List Int) × (List Int) × Int)) => [(rLF q rInt).pr p.1, (rLF q rInt).pr p.2.1, (rLF q rInt).pr p.2.2.1, rInt.pr p.2.2.2]) m_Ladder_init (fs_Ladder D)) (fun vs zs => vs ++ zs) := by
  obtain ⟨f, fd, h1, h2⟩ := T.d_Ladder_init
  obtain ⟨mv, hb⟩ := h2.kbinds0 (ps := ["self", "below", "row", "above", "at"]) 4 ["at"] [] (fun us mv ws => us ++ ws) (by simp) (by simp) (fun r1 _ r3 => r1.append r3) (by
    intro D doc pm an cdv ct us mv ws l1 l2 l3
    match us, mv, ws, l1, l2, l3 with
    | [a0, a1, a2, a3], [], [w], _, _, _ => rfl)
  exact ⟨f, fd, _, h1, hb, f_Ladder_init_2 T h2⟩
theorem mk_Ladder_init_2_0 {G : Gx} {D : Cl} (T : Txt G D) : MkAtK false G D.Ladder 5 3 ["self", "below", "row", "above", "at"] [] (spIE G D.Ladder (fun L : Hp => noE.lent L) (fun (q : Hp) (p : ((List Int) × (List Int) × (List Int) × Int)) => [(rLF q rInt).pr p.1, (rLF q rInt).pr p.2.1, (rLF q rInt).pr p.2.2.1, rInt.pr p.2.2.2]) m_Ladder_init (fs_Ladder D)) (fun vs _ => vs ++ [.int 0]) := by
  obtain ⟨f, fd, h1, h2⟩ := T.d_Ladder_init
  obtain ⟨mv, hb⟩ := h2.kbinds0 (ps := ["self", "below", "row", "above", "at"]) 4 [] [("at", .int 0)] (fun us mv ws => us ++ mv) (by simp) (by simp) (fun r1 r2 _ => r1.append r2) (by
    intro D doc pm an cdv ct us mv ws l1 l2 l3
    match us, mv, ws, l1, l2, l3 with
    | [a0, a1, a2, a3], [w], [], _, _, _ => exact ⟨_, _, _, _, _, _, rfl, rfl, rfl⟩)
  exact ⟨f, fd, _, h1, hb, f_Ladder_init_2 T h2⟩

def k_w_made_2 : Sc := ⟨["_law_plan", "_law_handed"], defScope t_w_made, 6, true, fun _ => true, false⟩
theorem sc_w_made_2 : FnScope ["_law_plan", "_law_handed"] ["_law_plan", "_law_handed"] (defScope t_w_made) := ⟨rfl, rfl, rfl, by decide +kernel, rfl, by decide +kernel, by decide +kernel⟩
theorem n_w_made_2_0 : Nm k_w_made_2 0 "_law_plan" := nm_of (by decide +kernel)
theorem s_w_made_2_0 : Ns k_w_made_2 0 "_law_plan" := ns_of (by decide +kernel)
theorem n_w_made_2_1 : Nm k_w_made_2 1 "_law_handed" := nm_of (by decide +kernel)
theorem s_w_made_2_1 : Ns k_w_made_2 1 "_law_handed" := ns_of (by decide +kernel)
theorem f_w_made_2 {G : Gx} {D : Cl} (T : Txt G D) {f : Addr} {fd : FuncData} (F : Fun G.K "_law_made" "_law_made" t_w_made f fd) : FnG false G.P G.w G.K G.mg G.base 7 f fd ["_law_plan", "_law_handed"] (spZ G (fun L : Hp => noE.lent L) (fun (q : Hp) (p : ((Int × (List Int) × (List Int) × (List Int)) × (List (List Int)))) => [(rT4 rInt (rLst rInt) (rLst rInt) (rLst rInt)).pr p.1, (rLF q (rLF q rInt)).pr p.2]) m_w_made (rLadder D)) :=
  fn_ok (g := false) (k := 6) (Γn := fun _ _ _ => []) F sc_w_made_2 (fun _ _ => rfl) (fun _ => rfl) (.inl fun _ _ => rfl) fun q p W =>
  show ZB G k_w_made_2 _ W _ [.st ((rT4 rInt (rLst rInt) (rLst rInt) (rLst rInt)).pr p.1), .st ((rLF q (rLF q rInt)).pr p.2)] _ (b_w_made p) _ from
  (zb_cons (zs_if (Γn := fun _ : Unit => [.st ((rT4 rInt (rLst rInt) (rLst rInt) (rLst rInt)).pr p.1), .st ((rLF q (rLF q rInt)).pr p.2)]) (zt_eq scI (z_at t4_0 (z_var n_w_made_2_0)) z_int)
    (zb_one (zs_ret (z_obj (fs_Ladder D) (zf_makeK0E (q := q) (f := m_Ladder_init) (g := fun (y : ((List Int) × (List Int) × (List Int))) => (y.1, y.2.1, y.2.2, (0 : Int))) (mk_Ladder_init_2_0 T) rfl T.g_Ladder (by decide) (by decide) rfl (by exact fun _ => rfl) (by exact gw3) (za_cons (z_ixF hasL (z_var n_w_made_2_1) z_int) (za_cons (z_ixF hasL (z_var n_w_made_2_1) z_int) (za_one (z_ixF hasL (z_var n_w_made_2_1) z_int)))))) sub_nil))
    (zb_nil (SubL.sub (.keep (.keep SubL.nil)))) sub_nil) fun _ =>
  (zb_one (zs_ret (z_obj (fs_Ladder D) (zf_makeKE (q := q) (f := m_Ladder_init) (g := fun (y : ((List Int) × (List Int) × (List Int)) × Int) => (y.1.1, y.1.2.1, y.1.2.2, y.2)) (mk_Ladder_init_2_K T) rfl T.g_Ladder (by decide) (by decide) rfl (by exact fun _ => rfl) (by exact gv3) (za_cons (z_ixF hasL (z_var n_w_made_2_1) z_int) (za_cons (z_ixF hasL (z_var n_w_made_2_1) z_int) (za_one (z_ixF hasL (z_var n_w_made_2_1) z_int)))) (z_at t4_0 (z_var n_w_made_2_0)))) sub_nil)))
theorem at_w_made_2 {G : Gx} {D : Cl} (T : Txt G D) : FnAt false G "_law_made" 7 ["_law_plan", "_law_handed"] (spZ G (fun L : Hp => noE.lent L) (fun (q : Hp) (p : ((Int × (List Int) × (List Int) × (List Int)) × (List (List Int)))) => [(rT4 rInt (rLst rInt) (rLst rInt) (rLst rInt)).pr p.1, (rLF q (rLF q rInt)).pr p.2]) m_w_made (rLadder D)) :=
  let ⟨f, fd, h1, h2, h3, h4⟩ := T.d_w_made; ⟨f, fd, h1, h2, h3, f_w_made_2 T h4⟩

def k_w_places : Sc := ⟨["_law_bag_here", "_law_plan", "_law_edge", "_law_found", "_law_k", "_law_far"], defScope t_w_places, 1, true, fun _ => true, false⟩
theorem sc_w_places : FnScope ["_law_bag_here", "_law_plan", "_law_edge", "_law_found", "_law_k", "_law_far"] ["_law_bag_here", "_law_plan"] (defScope t_w_places) := ⟨rfl, rfl, rfl, by decide +kernel, rfl, by decide +kernel, by decide +kernel⟩
theorem n_w_places_0 : Nm k_w_places 0 "_law_bag_here" := nm_of (by decide +kernel)
theorem s_w_places_0 : Ns k_w_places 0 "_law_bag_here" := ns_of (by decide +kernel)
theorem n_w_places_1 : Nm k_w_places 1 "_law_plan" := nm_of (by decide +kernel)
theorem s_w_places_1 : Ns k_w_places 1 "_law_plan" := ns_of (by decide +kernel)
theorem n_w_places_2 : Nm k_w_places 2 "_law_edge" := nm_of (by decide +kernel)
theorem s_w_places_2 : Ns k_w_places 2 "_law_edge" := ns_of (by decide +kernel)
theorem n_w_places_3 : Nm k_w_places 3 "_law_found" := nm_of (by decide +kernel)
theorem s_w_places_3 : Ns k_w_places 3 "_law_found" := ns_of (by decide +kernel)
theorem n_w_places_4 : Nm k_w_places 4 "_law_k" := nm_of (by decide +kernel)
theorem s_w_places_4 : Ns k_w_places 4 "_law_k" := ns_of (by decide +kernel)
theorem n_w_places_5 : Nm k_w_places 5 "_law_far" := nm_of (by decide +kernel)
theorem s_w_places_5 : Ns k_w_places 5 "_law_far" := ns_of (by decide +kernel)
noncomputable def b_w_places (p : (Unit × (Int × (List Int) × (List Int) × (List Int)))) : M Bag (Fl Unit Empty (List Int)) :=
  (zseq (zset (zop2 iadd (zget Prod.fst (ret p.2)) (zapp flen (zget (fun x => x.2.1) (ret p.2))))) fun edge1 =>
  (zseq (zset (zop2 lcat (zlc (fun e3 => (ret true)) (fun e3 => (zop2 iadd (zop2 isub (zget Prod.fst (ret p.2)) (ret (5 : Int))) (ret e3))) (zapp frA1 (ret (10 : Int)))) (zlc (fun e4 => (ret true)) (fun e4 => (zop2 iadd (zop2 isub (ret edge1) (ret (5 : Int))) (ret e4))) (zapp frA1 (ret (10 : Int)))))) fun found2 =>
  (zseq (zforI (zapp frA1 (ret (6 : Int))) found2 fun c5 x6 =>
    (zseq (zset (zop2 ixat (zlist (zcons (zapp m_w_take (zpair (ret p.1) (ret (300 : Int)))) (zcons (zop2 ipow (ret (10 : Int)) (ret (12 : Int))) (zcons (zop2 ipow (ret (10 : Int)) (ret (30 : Int))) (zcons (zapp m_w_take (zpair (ret p.1) (zop2 ipow (ret (10 : Int)) (ret (30 : Int))))) (ret [])))))) (zapp m_w_take (zpair (ret p.1) (ret (4 : Int)))))) fun far7 =>
    (zseq (bnd (zop2 imul (zop2 iadd (ret far7) (zapp m_w_take (zpair (ret p.1) (ret (3 : Int))))) (zop2 ixat (zlist (zcons (ret (1 : Int)) (zcons (zop1 ineg (ret (1 : Int))) (ret [])))) (zapp m_w_take (zpair (ret p.1) (ret (2 : Int)))))) fun v => chk (List.length c5 < sizeLine) (ret (.nx v))) fun a8 =>
    (znx (c5 ++ [a8]))))) fun c5 =>
  (zrt (ret c5)))))
noncomputable def m_w_places (p : (Unit × (Int × (List Int) × (List Int) × (List Int)))) : M Bag (List Int) := zbody (b_w_places p)
theorem f_w_places {G : Gx} {D : Cl} (T : Txt G D) {f : Addr} {fd : FuncData} (F : Fun G.K "_law_places" "_law_places" t_w_places f fd) : FnG false G.P G.w G.K G.mg G.base 2 f fd ["_law_bag_here", "_law_plan"] (spZ G (fun q : Addr × Addr => bagE q.1 q.2) (fun (q : Addr × Addr) (p : (Unit × (Int × (List Int) × (List Int) × (List Int)))) => [(rRef q.1).pr p.1, (rT4 rInt (rLst rInt) (rLst rInt) (rLst rInt)).pr p.2]) m_w_places (rLst rInt)) :=
  fn_ok (g := false) (k := 1) (Γn := fun _ _ _ => []) F sc_w_places (fun _ _ => rfl) (fun _ => rfl) (.inl fun _ _ => rfl) fun q p W =>
  show ZB G k_w_places _ W _ [.st ((rRef q.1).pr p.1), .st ((rT4 rInt (rLst rInt) (rLst rInt) (rLst rInt)).pr p.2), .no, .no, .no, .no] _ (b_w_places p) _ from
  (zb_cons (zs_set s_w_places_2 (z_add (z_at t4_0 (z_var n_w_places_1)) (z_lenL (blt_of (u := .builtin "len") T.b_len (by decide +kernel)) (z_at t4_1 (z_var n_w_places_1)))) sub_nil) fun edge1 =>
  (zb_cons (zs_setF s_w_places_3 (zf_cat (z_lc (Lc.mk (own := [("_law_k", 4)]) (blk_of rfl (by decide +kernel)) (zi_r1 (blt_of (u := .type "range") T.b_range (by decide +kernel)) z_int) (zg_name (ns_of (i := 4) (by decide +kernel)) (by decide)) (fun e3 => zts_nil) (fun e3 => (z_add (z_sub (z_at t4_0 (z_var (nm_of (i := 1) (by decide +kernel)))) z_int) (z_var (nm_of (i := 4) (by decide +kernel))))) (lc_no ⟨rfl, trivial⟩) (fun _ _ => rfl))) (z_lc (Lc.mk (own := [("_law_k", 4)]) (blk_of rfl (by decide +kernel)) (zi_r1 (blt_of (u := .type "range") T.b_range (by decide +kernel)) z_int) (zg_name (ns_of (i := 4) (by decide +kernel)) (by decide)) (fun e4 => zts_nil) (fun e4 => (z_add (z_sub (z_var (nm_of (i := 2) (by decide +kernel))) z_int) (z_var (nm_of (i := 4) (by decide +kernel))))) (lc_no ⟨rfl, trivial⟩) (fun _ _ => rfl)))) sub_nil) fun found2 =>
  (zb_cons (zs_for (vs := [4]) (Γh := fun c5 : (List Int) => [.st ((rRef q.1).pr p.1), .st ((rT4 rInt (rLst rInt) (rLst rInt) (rLst rInt)).pr p.2), .st (rInt.pr edge1), .ow (ownL rInt c5), .no, .no]) (zi_r1 (blt_of (u := .type "range") T.b_range (by decide +kernel)) z_int) (SubL.sub (.keep (.keep (.keep (.keep (.keep (.keep SubL.nil))))))) (fun c5 => (zg_name s_w_places_4 (by decide))) (fun c5 x6 =>
    (zb_cons (zs_set s_w_places_5 (z_ixL (z_list (zl_cons (z_call (q := q) (at_w_take T) rfl (by decide) (by decide) (by exact rfl) (za_cons (z_var n_w_places_0) (za_one z_int))) (zl_cons (z_pow z_int z_int) (zl_cons (z_pow z_int z_int) (zl_cons (z_call (q := q) (at_w_take T) rfl (by decide) (by decide) (by exact rfl) (za_cons (z_var n_w_places_0) (za_one (z_pow z_int z_int)))) zl_nil))))) (z_call (q := q) (at_w_take T) rfl (by decide) (by decide) (by exact rfl) (za_cons (z_var n_w_places_0) (za_one z_int)))) sub_nil) fun far7 =>
    (zb_cons (zs_app n_w_places_3 rfl (z_mul (z_add (z_var n_w_places_5) (z_call (q := q) (at_w_take T) rfl (by decide) (by decide) (by exact rfl) (za_cons (z_var n_w_places_0) (za_one z_int)))) (z_ixL (z_list (zl_cons z_int (zl_cons (z_neg z_int) zl_nil))) (z_call (q := q) (at_w_take T) rfl (by decide) (by decide) (by exact rfl) (za_cons (z_var n_w_places_0) (za_one z_int))))) sub_nil) fun a8 =>
    (zb_nil (SubL.sub (.keep (.keep (.keep (.keep (.drop (.drop SubL.nil))))))))))) sub_nil) fun c5 =>
  (zb_wk (sub_frz (i := 3) one_L) <| zb_one (zs_ret (z_var n_w_places_3) sub_nil)))))
theorem at_w_places {G : Gx} {D : Cl} (T : Txt G D) : FnAt false G "_law_places" 2 ["_law_bag_here", "_law_plan"] (spZ G (fun q : Addr × Addr => bagE q.1 q.2) (fun (q : Addr × Addr) (p : (Unit × (Int × (List Int) × (List Int) × (List Int)))) => [(rRef q.1).pr p.1, (rT4 rInt (rLst rInt) (rLst rInt) (rLst rInt)).pr p.2]) m_w_places (rLst rInt)) :=
  let ⟨f, fd, h1, h2, h3, h4⟩ := T.d_w_places; ⟨f, fd, h1, h2, h3, f_w_places T h4⟩

def k_Ladder_price_at : Sc := ⟨["self", "d", "steps"], defScope t_Ladder_price_at, 0, true, fun _ => true, false⟩
theorem sc_Ladder_price_at : FnScope ["self", "d", "steps"] ["self", "d"] (defScope t_Ladder_price_at) := ⟨rfl, rfl, rfl, by decide +kernel, rfl, by decide +kernel, by decide +kernel⟩
theorem n_Ladder_price_at_0 : Nm k_Ladder_price_at 0 "self" := nm_of (by decide +kernel)
theorem s_Ladder_price_at_0 : Ns k_Ladder_price_at 0 "self" := ns_of (by decide +kernel)
theorem n_Ladder_price_at_1 : Nm k_Ladder_price_at 1 "d" := nm_of (by decide +kernel)
theorem s_Ladder_price_at_1 : Ns k_Ladder_price_at 1 "d" := ns_of (by decide +kernel)
theorem n_Ladder_price_at_2 : Nm k_Ladder_price_at 2 "steps" := nm_of (by decide +kernel)
theorem s_Ladder_price_at_2 : Ns k_Ladder_price_at 2 "steps" := ns_of (by decide +kernel)
noncomputable def b_Ladder_price_at (p : (XLadder × Int)) : M Unit (Fl Unit Empty Int) :=
  (zseq (zset (zop2 isub (ret p.2) (zget XLadder.begin_ (ret p.1)))) fun steps1 =>
  (zseq (zifS (zop2 ilt (ret steps1) (ret (0 : Int)))
    (zrt (zop2 ixat (zget XLadder.low_ (ret p.1)) (zop2 imod (zop2 isub (zop2 isub (ret (0 : Int)) (ret (1 : Int))) (ret steps1)) (zapp flen (zget XLadder.low_ (ret p.1))))))
    (znx ())) fun _ =>
  (zseq (zifS (zop2 ilt (ret steps1) (zapp flen (zget XLadder.middle_ (ret p.1))))
    (zrt (zop2 ixat (zget XLadder.middle_ (ret p.1)) (ret steps1)))
    (znx ())) fun _ =>
  (zrt (zop2 ixat (zget XLadder.high_ (ret p.1)) (zop2 imod (zop2 isub (ret steps1) (zapp flen (zget XLadder.middle_ (ret p.1)))) (zapp flen (zget XLadder.high_ (ret p.1)))))))))
noncomputable def m_Ladder_price_at (p : (XLadder × Int)) : M Unit Int := zbody (b_Ladder_price_at p)
theorem f_Ladder_price_at {G : Gx} {D : Cl} (T : Txt G D) {f : Addr} {fd : FuncData} (F : Fun G.K "price_at" "Ladder.price_at" t_Ladder_price_at f fd) : FnG false G.P G.w G.K G.mg G.base 1 f fd ["self", "d"] (spZ G (fun _ : Unit => noE) (fun (q : Unit) (p : (XLadder × Int)) => [(rLadder D).pr p.1, rInt.pr p.2]) m_Ladder_price_at rInt) :=
  fn_ok (g := false) (k := 0) (Γn := fun _ _ _ => []) F sc_Ladder_price_at (fun _ _ => rfl) (fun _ => rfl) (.inl fun _ _ => rfl) fun q p W =>
  show ZB G k_Ladder_price_at _ W _ [.st ((rLadder D).pr p.1), .st (rInt.pr p.2), .no] _ (b_Ladder_price_at p) _ from
  (zb_cons (zs_set s_Ladder_price_at_2 (z_sub (z_var n_Ladder_price_at_1) (z_attr (fld_at fun _ => rfl) T.cl_Ladder T.na_Ladder_begin (z_var n_Ladder_price_at_0))) sub_nil) fun steps1 =>
  (zb_cons (zs_if (Γn := fun _ : Unit => [.st ((rLadder D).pr p.1), .st (rInt.pr p.2), .st (rInt.pr steps1)]) (zt_lt (z_var n_Ladder_price_at_2) z_int)
    (zb_one (zs_ret (z_ixV (z_attr (fld_at fun _ => rfl) T.cl_Ladder T.na_Ladder_low (z_var n_Ladder_price_at_0)) (z_mod (z_sub (z_sub z_int z_int) (z_var n_Ladder_price_at_2)) (z_lenV (blt_of (u := .builtin "len") T.b_len (by decide +kernel)) (z_attr (fld_at fun _ => rfl) T.cl_Ladder T.na_Ladder_low (z_var n_Ladder_price_at_0))))) sub_nil))
    (zb_nil (SubL.sub (.keep (.keep (.keep SubL.nil))))) sub_nil) fun _ =>
  (zb_cons (zs_if (Γn := fun _ : Unit => [.st ((rLadder D).pr p.1), .st (rInt.pr p.2), .st (rInt.pr steps1)]) (zt_lt (z_var n_Ladder_price_at_2) (z_lenV (blt_of (u := .builtin "len") T.b_len (by decide +kernel)) (z_attr (fld_at fun _ => rfl) T.cl_Ladder T.na_Ladder_middle (z_var n_Ladder_price_at_0))))
    (zb_one (zs_ret (z_ixV (z_attr (fld_at fun _ => rfl) T.cl_Ladder T.na_Ladder_middle (z_var n_Ladder_price_at_0)) (z_var n_Ladder_price_at_2)) sub_nil))
    (zb_nil (SubL.sub (.keep (.keep (.keep SubL.nil))))) sub_nil) fun _ =>
  (zb_one (zs_ret (z_ixV (z_attr (fld_at fun _ => rfl) T.cl_Ladder T.na_Ladder_high (z_var n_Ladder_price_at_0)) (z_mod (z_sub (z_var n_Ladder_price_at_2) (z_lenV (blt_of (u := .builtin "len") T.b_len (by decide +kernel)) (z_attr (fld_at fun _ => rfl) T.cl_Ladder T.na_Ladder_middle (z_var n_Ladder_price_at_0)))) (z_lenV (blt_of (u := .builtin "len") T.b_len (by decide +kernel)) (z_attr (fld_at fun _ => rfl) T.cl_Ladder T.na_Ladder_high (z_var n_Ladder_price_at_0))))) sub_nil)))))
theorem at_Ladder_price_at {G : Gx} {D : Cl} (T : Txt G D) : MethAt false G D.Ladder "price_at" 1 ["self", "d"] (spZ G (fun _ : Unit => noE) (fun (q : Unit) (p : (XLadder × Int)) => [(rLadder D).pr p.1, rInt.pr p.2]) m_Ladder_price_at rInt) :=
  let ⟨f, fd, h1, h2, h3⟩ := T.d_Ladder_price_at; ⟨f, fd, h1, h2, f_Ladder_price_at T h3⟩

def k_Ladder_rung : Sc := ⟨["self", "d"], defScope t_Ladder_rung, 2, true, fun _ => true, false⟩
theorem sc_Ladder_rung : FnScope ["self", "d"] ["self", "d"] (defScope t_Ladder_rung) := ⟨rfl, rfl, rfl, by decide +kernel, rfl, by decide +kernel, by decide +kernel⟩
theorem n_Ladder_rung_0 : Nm k_Ladder_rung 0 "self" := nm_of (by decide +kernel)
theorem s_Ladder_rung_0 : Ns k_Ladder_rung 0 "self" := ns_of (by decide +kernel)
theorem n_Ladder_rung_1 : Nm k_Ladder_rung 1 "d" := nm_of (by decide +kernel)
theorem s_Ladder_rung_1 : Ns k_Ladder_rung 1 "d" := ns_of (by decide +kernel)
noncomputable def b_Ladder_rung (p : (XLadder × Int)) : M Unit (Fl Unit Empty Int) :=
  (zseq (zifS (znot (zapp (fun x => lft (m_is_whole x)) (ret p.2)))
    (zraise "Wrong" "at" V.int (ret (0 : Int)))
    (znx ())) fun _ =>
  (zrt (zmeth (fun x => lft (m_Ladder_price_at x)) (ret p.1) (ret p.2))))
noncomputable def m_Ladder_rung (p : (XLadder × Int)) : M Unit Int := zbody (b_Ladder_rung p)
theorem f_Ladder_rung {G : Gx} {D : Cl} (T : Txt G D) {f : Addr} {fd : FuncData} (F : Fun G.K "rung" "Ladder.rung" t_Ladder_rung f fd) : FnG false G.P G.w G.K G.mg G.base 3 f fd ["self", "d"] (spZ G (fun _ : Unit => noE) (fun (q : Unit) (p : (XLadder × Int)) => [(rLadder D).pr p.1, rInt.pr p.2]) m_Ladder_rung rInt) :=
  fn_ok (g := false) (k := 2) (Γn := fun _ _ _ => []) F sc_Ladder_rung (fun _ _ => rfl) (fun _ => rfl) (.inl fun _ _ => rfl) fun q p W =>
  show ZB G k_Ladder_rung _ W _ [.st ((rLadder D).pr p.1), .st (rInt.pr p.2)] _ (b_Ladder_rung p) _ from
  (zb_cons (zs_if (Γn := fun _ : Unit => [.st ((rLadder D).pr p.1), .st (rInt.pr p.2)]) (zt_not (zt_val (z_callP (q := ()) (at_is_whole T) (by decide) (by decide) (by exact rfl) (za_one (z_var n_Ladder_rung_1)))))
    (zb_one (zs_raise1 (x_Wrong T) T.xf_Wrong (by decide) rfl scI z_int sub_nil))
    (zb_nil (SubL.sub (.keep (.keep SubL.nil)))) sub_nil) fun _ =>
  (zb_one (zs_ret (z_methP (A := (fun y => [rInt.pr y])) (at_Ladder_price_at T) T.cl_Ladder (ins_at fun _ => rfl) (by decide) (by decide) (z_var n_Ladder_rung_0) (za_one (z_var n_Ladder_rung_1))) sub_nil)))
theorem at_Ladder_rung {G : Gx} {D : Cl} (T : Txt G D) : MethAt false G D.Ladder "rung" 3 ["self", "d"] (spZ G (fun _ : Unit => noE) (fun (q : Unit) (p : (XLadder × Int)) => [(rLadder D).pr p.1, rInt.pr p.2]) m_Ladder_rung rInt) :=
  let ⟨f, fd, h1, h2, h3⟩ := T.d_Ladder_rung; ⟨f, fd, h1, h2, f_Ladder_rung T h3⟩

def k_w_rung : Sc := ⟨["_law_plan", "_law_d", "_law_begin", "_law_row", "_law_below", "_law_above"], defScope t_w_rung, 0, true, fun _ => true, false⟩
theorem sc_w_rung : FnScope ["_law_plan", "_law_d", "_law_begin", "_law_row", "_law_below", "_law_above"] ["_law_plan", "_law_d"] (defScope t_w_rung) := ⟨rfl, rfl, rfl, by decide +kernel, rfl, by decide +kernel, by decide +kernel⟩
theorem n_w_rung_0 : Nm k_w_rung 0 "_law_plan" := nm_of (by decide +kernel)
theorem s_w_rung_0 : Ns k_w_rung 0 "_law_plan" := ns_of (by decide +kernel)
theorem n_w_rung_1 : Nm k_w_rung 1 "_law_d" := nm_of (by decide +kernel)
theorem s_w_rung_1 : Ns k_w_rung 1 "_law_d" := ns_of (by decide +kernel)
theorem n_w_rung_2 : Nm k_w_rung 2 "_law_begin" := nm_of (by decide +kernel)
theorem s_w_rung_2 : Ns k_w_rung 2 "_law_begin" := ns_of (by decide +kernel)
theorem n_w_rung_3 : Nm k_w_rung 3 "_law_row" := nm_of (by decide +kernel)
theorem s_w_rung_3 : Ns k_w_rung 3 "_law_row" := ns_of (by decide +kernel)
theorem n_w_rung_4 : Nm k_w_rung 4 "_law_below" := nm_of (by decide +kernel)
theorem s_w_rung_4 : Ns k_w_rung 4 "_law_below" := ns_of (by decide +kernel)
theorem n_w_rung_5 : Nm k_w_rung 5 "_law_above" := nm_of (by decide +kernel)
theorem s_w_rung_5 : Ns k_w_rung 5 "_law_above" := ns_of (by decide +kernel)
noncomputable def b_w_rung (p : ((Int × (List Int) × (List Int) × (List Int)) × Int)) : M Unit (Fl Unit Empty Int) :=
  (zseq (zset (ret p.1)) fun w1 =>
  (zseq (zifS (zop2 ilt (ret p.2) (ret w1.1))
    (zrt (zop2 ixat (ret w1.2.2.1) (zop2 imod (zop2 isub (zop2 isub (ret w1.1) (ret (1 : Int))) (ret p.2)) (zapp flen (ret w1.2.2.1)))))
    (znx ())) fun _ =>
  (zseq (zifS (zop2 ilt (ret p.2) (zop2 iadd (ret w1.1) (zapp flen (ret w1.2.1))))
    (zrt (zop2 ixat (ret w1.2.1) (zop2 isub (ret p.2) (ret w1.1))))
    (znx ())) fun _ =>
  (zrt (zop2 ixat (ret w1.2.2.2) (zop2 imod (zop2 isub (zop2 isub (ret p.2) (ret w1.1)) (zapp flen (ret w1.2.1))) (zapp flen (ret w1.2.2.2))))))))
noncomputable def m_w_rung (p : ((Int × (List Int) × (List Int) × (List Int)) × Int)) : M Unit Int := zbody (b_w_rung p)
theorem f_w_rung {G : Gx} {D : Cl} (T : Txt G D) {f : Addr} {fd : FuncData} (F : Fun G.K "_law_rung" "_law_rung" t_w_rung f fd) : FnG false G.P G.w G.K G.mg G.base 1 f fd ["_law_plan", "_law_d"] (spZ G (fun _ : Unit => noE) (fun (q : Unit) (p : ((Int × (List Int) × (List Int) × (List Int)) × Int)) => [(rT4 rInt (rLst rInt) (rLst rInt) (rLst rInt)).pr p.1, rInt.pr p.2]) m_w_rung rInt) :=
  fn_ok (g := false) (k := 0) (Γn := fun _ _ _ => []) F sc_w_rung (fun _ _ => rfl) (fun _ => rfl) (.inl fun _ _ => rfl) fun q p W =>
  show ZB G k_w_rung _ W _ [.st ((rT4 rInt (rLst rInt) (rLst rInt) (rLst rInt)).pr p.1), .st (rInt.pr p.2), .no, .no, .no, .no] _ (b_w_rung p) _ from
  (zb_cons (zs_asgS (vs := [2, 3, 4, 5]) (z_var n_w_rung_0) (zg_tup to4 (zgs_cons (zg_name s_w_rung_2 (by decide)) fun _ => (zgs_cons (zg_name s_w_rung_3 (by decide)) fun _ => (zgs_cons (zg_name s_w_rung_4 (by decide)) fun _ => (zgs_one (zg_name s_w_rung_5 (by decide))))))) sub_nil) fun w1 =>
  (zb_cons (zs_if (Γn := fun _ : Unit => [.st ((rT4 rInt (rLst rInt) (rLst rInt) (rLst rInt)).pr p.1), .st (rInt.pr p.2), .st (rInt.pr w1.1), .st ((rLst rInt).pr w1.2.1), .st ((rLst rInt).pr w1.2.2.1), .st ((rLst rInt).pr w1.2.2.2)]) (zt_lt (z_var n_w_rung_1) (z_var n_w_rung_2))
    (zb_one (zs_ret (z_ixL (z_var n_w_rung_4) (z_mod (z_sub (z_sub (z_var n_w_rung_2) z_int) (z_var n_w_rung_1)) (z_lenL (blt_of (u := .builtin "len") T.b_len (by decide +kernel)) (z_var n_w_rung_4)))) sub_nil))
    (zb_nil (SubL.sub (.keep (.keep (.keep (.keep (.keep (.keep SubL.nil)))))))) sub_nil) fun _ =>
  (zb_cons (zs_if (Γn := fun _ : Unit => [.st ((rT4 rInt (rLst rInt) (rLst rInt) (rLst rInt)).pr p.1), .st (rInt.pr p.2), .st (rInt.pr w1.1), .st ((rLst rInt).pr w1.2.1), .st ((rLst rInt).pr w1.2.2.1), .st ((rLst rInt).pr w1.2.2.2)]) (zt_lt (z_var n_w_rung_1) (z_add (z_var n_w_rung_2) (z_lenL (blt_of (u := .builtin "len") T.b_len (by decide +kernel)) (z_var n_w_rung_3))))
    (zb_one (zs_ret (z_ixL (z_var n_w_rung_3) (z_sub (z_var n_w_rung_1) (z_var n_w_rung_2))) sub_nil))
    (zb_nil (SubL.sub (.keep (.keep (.keep (.keep (.keep (.keep SubL.nil)))))))) sub_nil) fun _ =>
  (zb_one (zs_ret (z_ixL (z_var n_w_rung_5) (z_mod (z_sub (z_sub (z_var n_w_rung_1) (z_var n_w_rung_2)) (z_lenL (blt_of (u := .builtin "len") T.b_len (by decide +kernel)) (z_var n_w_rung_3))) (z_lenL (blt_of (u := .builtin "len") T.b_len (by decide +kernel)) (z_var n_w_rung_5)))) sub_nil)))))
theorem at_w_rung {G : Gx} {D : Cl} (T : Txt G D) : FnAt false G "_law_rung" 1 ["_law_plan", "_law_d"] (spZ G (fun _ : Unit => noE) (fun (q : Unit) (p : ((Int × (List Int) × (List Int) × (List Int)) × Int)) => [(rT4 rInt (rLst rInt) (rLst rInt) (rLst rInt)).pr p.1, rInt.pr p.2]) m_w_rung rInt) :=
  let ⟨f, fd, h1, h2, h3, h4⟩ := T.d_w_rung; ⟨f, fd, h1, h2, h3, f_w_rung T h4⟩

def k_w_alike : Sc := ⟨["_law_found", "_law_due"], defScope t_w_alike, 0, true, fun _ => true, true⟩
theorem sc_w_alike : FnScope ["_law_found", "_law_due"] ["_law_found", "_law_due"] (defScope t_w_alike) := ⟨rfl, rfl, rfl, by decide +kernel, rfl, by decide +kernel, by decide +kernel⟩
theorem n_w_alike_0 : Nm k_w_alike 0 "_law_found" := nm_of (by decide +kernel)
theorem s_w_alike_0 : Ns k_w_alike 0 "_law_found" := ns_of (by decide +kernel)
theorem n_w_alike_1 : Nm k_w_alike 1 "_law_due" := nm_of (by decide +kernel)
theorem s_w_alike_1 : Ns k_w_alike 1 "_law_due" := ns_of (by decide +kernel)
noncomputable def b_w_alike (p : ((List Int) × (List Int))) : M Unit (Fl Unit Empty Bool) :=
  (zrt (zand (zop2 (deq (datL datI)) (ret p.1) (ret p.2)) (zop2 feq (zapp (frepr (datL datI)) (ret p.1)) (zapp (frepr (datL datI)) (ret p.2)))))
noncomputable def m_w_alike (p : ((List Int) × (List Int))) : M Unit Bool := zbody (b_w_alike p)
theorem f_w_alike {G : Gx} {D : Cl} (T : Txt G D) {f : Addr} {fd : FuncData} (F : Fun G.K "_law_alike" "_law_alike" t_w_alike f fd) : FnG true G.P G.w G.K G.mg G.base 1 f fd ["_law_found", "_law_due"] (spZ G (fun _ : Unit => noE) (fun (q : Unit) (p : ((List Int) × (List Int))) => [(rLst rInt).pr p.1, (rLst rInt).pr p.2]) m_w_alike rBl) :=
  fn_ok (g := true) (k := 0) (Γn := fun _ _ _ => []) F sc_w_alike (fun _ _ => rfl) (fun _ => rfl) (.inl fun _ _ => rfl) fun q p W =>
  show ZB G k_w_alike _ W _ [.st ((rLst rInt).pr p.1), .st ((rLst rInt).pr p.2)] _ (b_w_alike p) _ from
  (zb_one (zs_ret (z_and (z_deq (datL datI) (z_var n_w_alike_0) (z_var n_w_alike_1)) (z_one (z_eq scS (z_repr (datL datI) rfL rfl (blt_of (u := .builtin "repr") T.b_repr (by decide +kernel)) (z_var n_w_alike_0)) (z_repr (datL datI) rfL rfl (blt_of (u := .builtin "repr") T.b_repr (by decide +kernel)) (z_var n_w_alike_1))))) sub_nil))
theorem at_w_alike {G : Gx} {D : Cl} (T : Txt G D) : FnAt true G "_law_alike" 1 ["_law_found", "_law_due"] (spZ G (fun _ : Unit => noE) (fun (q : Unit) (p : ((List Int) × (List Int))) => [(rLst rInt).pr p.1, (rLst rInt).pr p.2]) m_w_alike rBl) :=
  let ⟨f, fd, h1, h2, h3, h4⟩ := T.d_w_alike; ⟨f, fd, h1, h2, h3, f_w_alike T h4⟩

def k_Ladder_bears_up : Sc := ⟨["self"], defScope t_Ladder_bears_up, 0, true, fun _ => true, false⟩
theorem sc_Ladder_bears_up : FnScope ["self"] ["self"] (defScope t_Ladder_bears_up) := ⟨rfl, rfl, rfl, by decide +kernel, rfl, by decide +kernel, by decide +kernel⟩
theorem n_Ladder_bears_up_0 : Nm k_Ladder_bears_up 0 "self" := nm_of (by decide +kernel)
theorem s_Ladder_bears_up_0 : Ns k_Ladder_bears_up 0 "self" := ns_of (by decide +kernel)
noncomputable def b_Ladder_bears_up (p : XLadder) : M Unit (Fl Unit Empty Bool) :=
  (zrt (zop2 igt (zop2 ixat (zget XLadder.high_sums_ (ret p)) (zop1 ineg (ret (1 : Int)))) (ret (0 : Int))))
noncomputable def m_Ladder_bears_up (p : XLadder) : M Unit Bool := zbody (b_Ladder_bears_up p)
theorem f_Ladder_bears_up {G : Gx} {D : Cl} (T : Txt G D) {f : Addr} {fd : FuncData} (F : Fun G.K "bears_up" "Ladder.bears_up" t_Ladder_bears_up f fd) : FnG false G.P G.w G.K G.mg G.base 1 f fd ["self"] (spZ G (fun _ : Unit => noE) (fun (q : Unit) (p : XLadder) => [(rLadder D).pr p]) m_Ladder_bears_up rBl) :=
  fn_ok (g := false) (k := 0) (Γn := fun _ _ _ => []) F sc_Ladder_bears_up (fun _ _ => rfl) (fun _ => rfl) (.inl fun _ _ => rfl) fun q p W =>
  show ZB G k_Ladder_bears_up _ W _ [.st ((rLadder D).pr p)] _ (b_Ladder_bears_up p) _ from
  (zb_one (zs_ret (z_gt (z_ixL (z_attr (fld_at fun _ => rfl) T.cl_Ladder T.na_Ladder_high_sums (z_var n_Ladder_bears_up_0)) (z_neg z_int)) z_int) sub_nil))
theorem at_Ladder_bears_up {G : Gx} {D : Cl} (T : Txt G D) : MethAt false G D.Ladder "bears_up" 1 ["self"] (spZ G (fun _ : Unit => noE) (fun (q : Unit) (p : XLadder) => [(rLadder D).pr p]) m_Ladder_bears_up rBl) :=
  let ⟨f, fd, h1, h2, h3⟩ := T.d_Ladder_bears_up; ⟨f, fd, h1, h2, f_Ladder_bears_up T h3⟩

def k_Ladder_bears_down : Sc := ⟨["self"], defScope t_Ladder_bears_down, 0, true, fun _ => true, false⟩
theorem sc_Ladder_bears_down : FnScope ["self"] ["self"] (defScope t_Ladder_bears_down) := ⟨rfl, rfl, rfl, by decide +kernel, rfl, by decide +kernel, by decide +kernel⟩
theorem n_Ladder_bears_down_0 : Nm k_Ladder_bears_down 0 "self" := nm_of (by decide +kernel)
theorem s_Ladder_bears_down_0 : Ns k_Ladder_bears_down 0 "self" := ns_of (by decide +kernel)
noncomputable def b_Ladder_bears_down (p : XLadder) : M Unit (Fl Unit Empty Bool) :=
  (zrt (zop2 igt (zop2 ixat (zget XLadder.low_sums_ (ret p)) (zop1 ineg (ret (1 : Int)))) (ret (0 : Int))))
noncomputable def m_Ladder_bears_down (p : XLadder) : M Unit Bool := zbody (b_Ladder_bears_down p)
theorem f_Ladder_bears_down {G : Gx} {D : Cl} (T : Txt G D) {f : Addr} {fd : FuncData} (F : Fun G.K "bears_down" "Ladder.bears_down" t_Ladder_bears_down f fd) : FnG false G.P G.w G.K G.mg G.base 1 f fd ["self"] (spZ G (fun _ : Unit => noE) (fun (q : Unit) (p : XLadder) => [(rLadder D).pr p]) m_Ladder_bears_down rBl) :=
  fn_ok (g := false) (k := 0) (Γn := fun _ _ _ => []) F sc_Ladder_bears_down (fun _ _ => rfl) (fun _ => rfl) (.inl fun _ _ => rfl) fun q p W =>
  show ZB G k_Ladder_bears_down _ W _ [.st ((rLadder D).pr p)] _ (b_Ladder_bears_down p) _ from
  (zb_one (zs_ret (z_gt (z_ixL (z_attr (fld_at fun _ => rfl) T.cl_Ladder T.na_Ladder_low_sums (z_var n_Ladder_bears_down_0)) (z_neg z_int)) z_int) sub_nil))
theorem at_Ladder_bears_down {G : Gx} {D : Cl} (T : Txt G D) : MethAt false G D.Ladder "bears_down" 1 ["self"] (spZ G (fun _ : Unit => noE) (fun (q : Unit) (p : XLadder) => [(rLadder D).pr p]) m_Ladder_bears_down rBl) :=
  let ⟨f, fd, h1, h2, h3⟩ := T.d_Ladder_bears_down; ⟨f, fd, h1, h2, f_Ladder_bears_down T h3⟩

def k_Ladder_is_plain : Sc := ⟨["self"], defScope t_Ladder_is_plain, 0, true, fun _ => true, false⟩
theorem sc_Ladder_is_plain : FnScope ["self"] ["self"] (defScope t_Ladder_is_plain) := ⟨rfl, rfl, rfl, by decide +kernel, rfl, by decide +kernel, by decide +kernel⟩
theorem n_Ladder_is_plain_0 : Nm k_Ladder_is_plain 0 "self" := nm_of (by decide +kernel)
theorem s_Ladder_is_plain_0 : Ns k_Ladder_is_plain 0 "self" := ns_of (by decide +kernel)
noncomputable def b_Ladder_is_plain (p : XLadder) : M Unit (Fl Unit Empty Bool) :=
  (zrt (zop2 feq (zapp fnset (zop2 fcatV (zop2 fcatV (zget XLadder.low_ (ret p)) (zget XLadder.middle_ (ret p))) (zget XLadder.high_ (ret p)))) (ret (1 : Int))))
noncomputable def m_Ladder_is_plain (p : XLadder) : M Unit Bool := zbody (b_Ladder_is_plain p)
theorem f_Ladder_is_plain {G : Gx} {D : Cl} (T : Txt G D) {f : Addr} {fd : FuncData} (F : Fun G.K "is_plain" "Ladder.is_plain" t_Ladder_is_plain f fd) : FnG false G.P G.w G.K G.mg G.base 1 f fd ["self"] (spZ G (fun _ : Unit => noE) (fun (q : Unit) (p : XLadder) => [(rLadder D).pr p]) m_Ladder_is_plain rBl) :=
  fn_ok (g := false) (k := 0) (Γn := fun _ _ _ => []) F sc_Ladder_is_plain (fun _ _ => rfl) (fun _ => rfl) (.inl fun _ _ => rfl) fun q p W =>
  show ZB G k_Ladder_is_plain _ W _ [.st ((rLadder D).pr p)] _ (b_Ladder_is_plain p) _ from
  (zb_one (zs_ret (z_eq scI (z_lenSetT (by exact rfl) T.b_len (by exact rfl) T.b_set (z_catV (z_catV (z_attr (fld_at fun _ => rfl) T.cl_Ladder T.na_Ladder_low (z_var n_Ladder_is_plain_0)) (z_attr (fld_at fun _ => rfl) T.cl_Ladder T.na_Ladder_middle (z_var n_Ladder_is_plain_0))) (z_attr (fld_at fun _ => rfl) T.cl_Ladder T.na_Ladder_high (z_var n_Ladder_is_plain_0)))) z_int) sub_nil))
theorem at_Ladder_is_plain {G : Gx} {D : Cl} (T : Txt G D) : MethAt false G D.Ladder "is_plain" 1 ["self"] (spZ G (fun _ : Unit => noE) (fun (q : Unit) (p : XLadder) => [(rLadder D).pr p]) m_Ladder_is_plain rBl) :=
  let ⟨f, fd, h1, h2, h3⟩ := T.d_Ladder_is_plain; ⟨f, fd, h1, h2, f_Ladder_is_plain T h3⟩

def k_w_alike_2 : Sc := ⟨["_law_found", "_law_due"], defScope t_w_alike, 0, true, fun _ => true, true⟩
theorem sc_w_alike_2 : FnScope ["_law_found", "_law_due"] ["_law_found", "_law_due"] (defScope t_w_alike) := ⟨rfl, rfl, rfl, by decide +kernel, rfl, by decide +kernel, by decide +kernel⟩
theorem n_w_alike_2_0 : Nm k_w_alike_2 0 "_law_found" := nm_of (by decide +kernel)
theorem s_w_alike_2_0 : Ns k_w_alike_2 0 "_law_found" := ns_of (by decide +kernel)
theorem n_w_alike_2_1 : Nm k_w_alike_2 1 "_law_due" := nm_of (by decide +kernel)
theorem s_w_alike_2_1 : Ns k_w_alike_2 1 "_law_due" := ns_of (by decide +kernel)
noncomputable def b_w_alike_2 (p : ((List Bool) × (List Bool))) : M Unit (Fl Unit Empty Bool) :=
  (zrt (zand (zop2 (deq (datL datB)) (ret p.1) (ret p.2)) (zop2 feq (zapp (frepr (datL datB)) (ret p.1)) (zapp (frepr (datL datB)) (ret p.2)))))
noncomputable def m_w_alike_2 (p : ((List Bool) × (List Bool))) : M Unit Bool := zbody (b_w_alike_2 p)
theorem f_w_alike_2 {G : Gx} {D : Cl} (T : Txt G D) {f : Addr} {fd : FuncData} (F : Fun G.K "_law_alike" "_law_alike" t_w_alike f fd) : FnG true G.P G.w G.K G.mg G.base 1 f fd ["_law_found", "_law_due"] (spZ G (fun _ : Unit => noE) (fun (q : Unit) (p : ((List Bool) × (List Bool))) => [(rLst rBl).pr p.1, (rLst rBl).pr p.2]) m_w_alike_2 rBl) :=
  fn_ok (g := true) (k := 0) (Γn := fun _ _ _ => []) F sc_w_alike_2 (fun _ _ => rfl) (fun _ => rfl) (.inl fun _ _ => rfl) fun q p W =>
  show ZB G k_w_alike_2 _ W _ [.st ((rLst rBl).pr p.1), .st ((rLst rBl).pr p.2)] _ (b_w_alike_2 p) _ from
  (zb_one (zs_ret (z_and (z_deq (datL datB) (z_var n_w_alike_2_0) (z_var n_w_alike_2_1)) (z_one (z_eq scS (z_repr (datL datB) rfL rfl (blt_of (u := .builtin "repr") T.b_repr (by decide +kernel)) (z_var n_w_alike_2_0)) (z_repr (datL datB) rfL rfl (blt_of (u := .builtin "repr") T.b_repr (by decide +kernel)) (z_var n_w_alike_2_1))))) sub_nil))
theorem at_w_alike_2 {G : Gx} {D : Cl} (T : Txt G D) : FnAt true G "_law_alike" 1 ["_law_found", "_law_due"] (spZ G (fun _ : Unit => noE) (fun (q : Unit) (p : ((List Bool) × (List Bool))) => [(rLst rBl).pr p.1, (rLst rBl).pr p.2]) m_w_alike_2 rBl) :=
  let ⟨f, fd, h1, h2, h3, h4⟩ := T.d_w_alike; ⟨f, fd, h1, h2, h3, f_w_alike_2 T h4⟩

def k_repeated : Sc := ⟨["sums", "many", "rounds", "more"], defScope t_repeated, 0, true, fun _ => true, false⟩
theorem sc_repeated : FnScope ["sums", "many", "rounds", "more"] ["sums", "many"] (defScope t_repeated) := ⟨rfl, rfl, rfl, by decide +kernel, rfl, by decide +kernel, by decide +kernel⟩
theorem n_repeated_0 : Nm k_repeated 0 "sums" := nm_of (by decide +kernel)
theorem s_repeated_0 : Ns k_repeated 0 "sums" := ns_of (by decide +kernel)
theorem n_repeated_1 : Nm k_repeated 1 "many" := nm_of (by decide +kernel)
theorem s_repeated_1 : Ns k_repeated 1 "many" := ns_of (by decide +kernel)
theorem n_repeated_2 : Nm k_repeated 2 "rounds" := nm_of (by decide +kernel)
theorem s_repeated_2 : Ns k_repeated 2 "rounds" := ns_of (by decide +kernel)
theorem n_repeated_3 : Nm k_repeated 3 "more" := nm_of (by decide +kernel)
theorem s_repeated_3 : Ns k_repeated 3 "more" := ns_of (by decide +kernel)
noncomputable def b_repeated (p : ((List Int) × Int)) : M Unit (Fl Unit Empty Int) :=
  (zseq (zset (zapp (fun x : Int × Int => fdivmod x.1 x.2) (zpair (ret p.2) (zop2 isub (zapp flen (ret p.1)) (ret (1 : Int)))))) fun w1 =>
  (zrt (zop2 iadd (zop2 imul (ret w1.1) (zop2 ixat (ret p.1) (zop1 ineg (ret (1 : Int))))) (zop2 ixat (ret p.1) (ret w1.2)))))
noncomputable def m_repeated (p : ((List Int) × Int)) : M Unit Int := zbody (b_repeated p)
theorem f_repeated {G : Gx} {D : Cl} (T : Txt G D) {f : Addr} {fd : FuncData} (F : Fun G.K "repeated" "repeated" t_repeated f fd) : FnG false G.P G.w G.K G.mg G.base 1 f fd ["sums", "many"] (spZ G (fun _ : Unit => noE) (fun (q : Unit) (p : ((List Int) × Int)) => [(rLst rInt).pr p.1, rInt.pr p.2]) m_repeated rInt) :=
  fn_ok (g := false) (k := 0) (Γn := fun _ _ _ => []) F sc_repeated (fun _ _ => rfl) (fun _ => rfl) (.inl fun _ _ => rfl) fun q p W =>
  show ZB G k_repeated _ W _ [.st ((rLst rInt).pr p.1), .st (rInt.pr p.2), .no, .no] _ (b_repeated p) _ from
  (zb_cons (zs_asgS (vs := [2, 3]) (z_divmod (blt_of (u := .builtin "divmod") T.b_divmod (by decide +kernel)) (z_var n_repeated_1) (z_sub (z_lenL (blt_of (u := .builtin "len") T.b_len (by decide +kernel)) (z_var n_repeated_0)) z_int)) (zg_tup to2 (zgs_cons (zg_name s_repeated_2 (by decide)) fun _ => (zgs_one (zg_name s_repeated_3 (by decide))))) sub_nil) fun w1 =>
  (zb_one (zs_ret (z_add (z_mul (z_var n_repeated_2) (z_ixL (z_var n_repeated_0) (z_neg z_int))) (z_ixL (z_var n_repeated_0) (z_var n_repeated_3))) sub_nil)))
theorem at_repeated {G : Gx} {D : Cl} (T : Txt G D) : FnAt false G "repeated" 1 ["sums", "many"] (spZ G (fun _ : Unit => noE) (fun (q : Unit) (p : ((List Int) × Int)) => [(rLst rInt).pr p.1, rInt.pr p.2]) m_repeated rInt) :=
  let ⟨f, fd, h1, h2, h3, h4⟩ := T.d_repeated; ⟨f, fd, h1, h2, h3, f_repeated T h4⟩

def k_Ladder_height : Sc := ⟨["self", "d", "steps"], defScope t_Ladder_height, 1, true, fun _ => true, false⟩
theorem sc_Ladder_height : FnScope ["self", "d", "steps"] ["self", "d"] (defScope t_Ladder_height) := ⟨rfl, rfl, rfl, by decide +kernel, rfl, by decide +kernel, by decide +kernel⟩
theorem n_Ladder_height_0 : Nm k_Ladder_height 0 "self" := nm_of (by decide +kernel)
theorem s_Ladder_height_0 : Ns k_Ladder_height 0 "self" := ns_of (by decide +kernel)
theorem n_Ladder_height_1 : Nm k_Ladder_height 1 "d" := nm_of (by decide +kernel)
theorem s_Ladder_height_1 : Ns k_Ladder_height 1 "d" := ns_of (by decide +kernel)
theorem n_Ladder_height_2 : Nm k_Ladder_height 2 "steps" := nm_of (by decide +kernel)
theorem s_Ladder_height_2 : Ns k_Ladder_height 2 "steps" := ns_of (by decide +kernel)
noncomputable def b_Ladder_height (p : (XLadder × Int)) : M Unit (Fl Unit Empty Int) :=
  (zseq (zset (zop2 isub (ret p.2) (zget XLadder.begin_ (ret p.1)))) fun steps1 =>
  (zseq (zifS (zop2 ilt (ret steps1) (ret (0 : Int)))
    (zrt (zop2 isub (ret (0 : Int)) (zapp (fun x => lft (m_repeated x)) (zpair (zget XLadder.low_sums_ (ret p.1)) (zop2 isub (ret (0 : Int)) (ret steps1))))))
    (znx ())) fun _ =>
  (zseq (zifS (zop2 ile (ret steps1) (zapp flen (zget XLadder.middle_ (ret p.1))))
    (zrt (zop2 ixat (zget XLadder.middle_sums_ (ret p.1)) (ret steps1)))
    (znx ())) fun _ =>
  (zrt (zop2 iadd (zop2 ixat (zget XLadder.middle_sums_ (ret p.1)) (zop1 ineg (ret (1 : Int)))) (zapp (fun x => lft (m_repeated x)) (zpair (zget XLadder.high_sums_ (ret p.1)) (zop2 isub (ret steps1) (zapp flen (zget XLadder.middle_ (ret p.1)))))))))))
noncomputable def m_Ladder_height (p : (XLadder × Int)) : M Unit Int := zbody (b_Ladder_height p)
theorem f_Ladder_height {G : Gx} {D : Cl} (T : Txt G D) {f : Addr} {fd : FuncData} (F : Fun G.K "height" "Ladder.height" t_Ladder_height f fd) : FnG false G.P G.w G.K G.mg G.base 2 f fd ["self", "d"] (spZ G (fun _ : Unit => noE) (fun (q : Unit) (p : (XLadder × Int)) => [(rLadder D).pr p.1, rInt.pr p.2]) m_Ladder_height rInt) :=
  fn_ok (g := false) (k := 1) (Γn := fun _ _ _ => []) F sc_Ladder_height (fun _ _ => rfl) (fun _ => rfl) (.inl fun _ _ => rfl) fun q p W =>
  show ZB G k_Ladder_height _ W _ [.st ((rLadder D).pr p.1), .st (rInt.pr p.2), .no] _ (b_Ladder_height p) _ from
  (zb_cons (zs_set s_Ladder_height_2 (z_sub (z_var n_Ladder_height_1) (z_attr (fld_at fun _ => rfl) T.cl_Ladder T.na_Ladder_begin (z_var n_Ladder_height_0))) sub_nil) fun steps1 =>
  (zb_cons (zs_if (Γn := fun _ : Unit => [.st ((rLadder D).pr p.1), .st (rInt.pr p.2), .st (rInt.pr steps1)]) (zt_lt (z_var n_Ladder_height_2) z_int)
    (zb_one (zs_ret (z_sub z_int (z_callP (q := ()) (at_repeated T) (by decide) (by decide) (by exact rfl) (za_cons (z_attr (fld_at fun _ => rfl) T.cl_Ladder T.na_Ladder_low_sums (z_var n_Ladder_height_0)) (za_one (z_sub z_int (z_var n_Ladder_height_2)))))) sub_nil))
    (zb_nil (SubL.sub (.keep (.keep (.keep SubL.nil))))) sub_nil) fun _ =>
  (zb_cons (zs_if (Γn := fun _ : Unit => [.st ((rLadder D).pr p.1), .st (rInt.pr p.2), .st (rInt.pr steps1)]) (zt_le (z_var n_Ladder_height_2) (z_lenV (blt_of (u := .builtin "len") T.b_len (by decide +kernel)) (z_attr (fld_at fun _ => rfl) T.cl_Ladder T.na_Ladder_middle (z_var n_Ladder_height_0))))
    (zb_one (zs_ret (z_ixL (z_attr (fld_at fun _ => rfl) T.cl_Ladder T.na_Ladder_middle_sums (z_var n_Ladder_height_0)) (z_var n_Ladder_height_2)) sub_nil))
    (zb_nil (SubL.sub (.keep (.keep (.keep SubL.nil))))) sub_nil) fun _ =>
  (zb_one (zs_ret (z_add (z_ixL (z_attr (fld_at fun _ => rfl) T.cl_Ladder T.na_Ladder_middle_sums (z_var n_Ladder_height_0)) (z_neg z_int)) (z_callP (q := ()) (at_repeated T) (by decide) (by decide) (by exact rfl) (za_cons (z_attr (fld_at fun _ => rfl) T.cl_Ladder T.na_Ladder_high_sums (z_var n_Ladder_height_0)) (za_one (z_sub (z_var n_Ladder_height_2) (z_lenV (blt_of (u := .builtin "len") T.b_len (by decide +kernel)) (z_attr (fld_at fun _ => rfl) T.cl_Ladder T.na_Ladder_middle (z_var n_Ladder_height_0)))))))) sub_nil)))))
theorem at_Ladder_height {G : Gx} {D : Cl} (T : Txt G D) : MethAt false G D.Ladder "height" 2 ["self", "d"] (spZ G (fun _ : Unit => noE) (fun (q : Unit) (p : (XLadder × Int)) => [(rLadder D).pr p.1, rInt.pr p.2]) m_Ladder_height rInt) :=
  let ⟨f, fd, h1, h2, h3⟩ := T.d_Ladder_height; ⟨f, fd, h1, h2, f_Ladder_height T h3⟩

def k_Ladder_total : Sc := ⟨["self", "low", "high"], defScope t_Ladder_total, 2, true, fun _ => true, false⟩
theorem sc_Ladder_total : FnScope ["self", "low", "high"] ["self", "low", "high"] (defScope t_Ladder_total) := ⟨rfl, rfl, rfl, by decide +kernel, rfl, by decide +kernel, by decide +kernel⟩
theorem n_Ladder_total_0 : Nm k_Ladder_total 0 "self" := nm_of (by decide +kernel)
theorem s_Ladder_total_0 : Ns k_Ladder_total 0 "self" := ns_of (by decide +kernel)
theorem n_Ladder_total_1 : Nm k_Ladder_total 1 "low" := nm_of (by decide +kernel)
theorem s_Ladder_total_1 : Ns k_Ladder_total 1 "low" := ns_of (by decide +kernel)
theorem n_Ladder_total_2 : Nm k_Ladder_total 2 "high" := nm_of (by decide +kernel)
theorem s_Ladder_total_2 : Ns k_Ladder_total 2 "high" := ns_of (by decide +kernel)
noncomputable def b_Ladder_total (p : (XLadder × Int × Int)) : M Unit (Fl Unit Empty Int) :=
  (zseq (zifS (znot (zapp (fun x => lft (m_is_whole x)) (ret p.2.1)))
    (zraise "Wrong" "at" V.int (ret (0 : Int)))
    (znx ())) fun _ =>
  (zseq (zifS (zor (znot (zapp (fun x => lft (m_is_whole x)) (ret p.2.2))) (zop2 ilt (ret p.2.2) (ret p.2.1)))
    (zraise "Wrong" "at" V.int (ret (1 : Int)))
    (znx ())) fun _ =>
  (zrt (zop2 isub (zmeth (fun x => lft (m_Ladder_height x)) (ret p.1) (ret p.2.2)) (zmeth (fun x => lft (m_Ladder_height x)) (ret p.1) (ret p.2.1))))))
noncomputable def m_Ladder_total (p : (XLadder × Int × Int)) : M Unit Int := zbody (b_Ladder_total p)
theorem f_Ladder_total {G : Gx} {D : Cl} (T : Txt G D) {f : Addr} {fd : FuncData} (F : Fun G.K "total" "Ladder.total" t_Ladder_total f fd) : FnG false G.P G.w G.K G.mg G.base 3 f fd ["self", "low", "high"] (spZ G (fun _ : Unit => noE) (fun (q : Unit) (p : (XLadder × Int × Int)) => [(rLadder D).pr p.1, rInt.pr p.2.1, rInt.pr p.2.2]) m_Ladder_total rInt) :=
  fn_ok (g := false) (k := 2) (Γn := fun _ _ _ => []) F sc_Ladder_total (fun _ _ => rfl) (fun _ => rfl) (.inl fun _ _ => rfl) fun q p W =>
  show ZB G k_Ladder_total _ W _ [.st ((rLadder D).pr p.1), .st (rInt.pr p.2.1), .st (rInt.pr p.2.2)] _ (b_Ladder_total p) _ from
  (zb_cons (zs_if (Γn := fun _ : Unit => [.st ((rLadder D).pr p.1), .st (rInt.pr p.2.1), .st (rInt.pr p.2.2)]) (zt_not (zt_val (z_callP (q := ()) (at_is_whole T) (by decide) (by decide) (by exact rfl) (za_one (z_var n_Ladder_total_1)))))
    (zb_one (zs_raise1 (x_Wrong T) T.xf_Wrong (by decide) rfl scI z_int sub_nil))
    (zb_nil (SubL.sub (.keep (.keep (.keep SubL.nil))))) sub_nil) fun _ =>
  (zb_cons (zs_if (Γn := fun _ : Unit => [.st ((rLadder D).pr p.1), .st (rInt.pr p.2.1), .st (rInt.pr p.2.2)]) (zw_t (zw_or (zt_not (zt_val (z_callP (q := ()) (at_is_whole T) (by decide) (by decide) (by exact rfl) (za_one (z_var n_Ladder_total_2))))) (zw_or1 (zt_lt (z_var n_Ladder_total_2) (z_var n_Ladder_total_1)))))
    (zb_one (zs_raise1 (x_Wrong T) T.xf_Wrong (by decide) rfl scI z_int sub_nil))
    (zb_nil (SubL.sub (.keep (.keep (.keep SubL.nil))))) sub_nil) fun _ =>
  (zb_one (zs_ret (z_sub (z_methP (A := (fun y => [rInt.pr y])) (at_Ladder_height T) T.cl_Ladder (ins_at fun _ => rfl) (by decide) (by decide) (z_var n_Ladder_total_0) (za_one (z_var n_Ladder_total_2))) (z_methP (A := (fun y => [rInt.pr y])) (at_Ladder_height T) T.cl_Ladder (ins_at fun _ => rfl) (by decide) (by decide) (z_var n_Ladder_total_0) (za_one (z_var n_Ladder_total_1)))) sub_nil))))
theorem at_Ladder_total {G : Gx} {D : Cl} (T : Txt G D) : MethAt false G D.Ladder "total" 3 ["self", "low", "high"] (spZ G (fun _ : Unit => noE) (fun (q : Unit) (p : (XLadder × Int × Int)) => [(rLadder D).pr p.1, rInt.pr p.2.1, rInt.pr p.2.2]) m_Ladder_total rInt) :=
  let ⟨f, fd, h1, h2, h3⟩ := T.d_Ladder_total; ⟨f, fd, h1, h2, f_Ladder_total T h3⟩

def k_w_alike_3 : Sc := ⟨["_law_found", "_law_due"], defScope t_w_alike, 0, true, fun _ => true, false⟩
theorem sc_w_alike_3 : FnScope ["_law_found", "_law_due"] ["_law_found", "_law_due"] (defScope t_w_alike) := ⟨rfl, rfl, rfl, by decide +kernel, rfl, by decide +kernel, by decide +kernel⟩
theorem n_w_alike_3_0 : Nm k_w_alike_3 0 "_law_found" := nm_of (by decide +kernel)
theorem s_w_alike_3_0 : Ns k_w_alike_3 0 "_law_found" := ns_of (by decide +kernel)
theorem n_w_alike_3_1 : Nm k_w_alike_3 1 "_law_due" := nm_of (by decide +kernel)
theorem s_w_alike_3_1 : Ns k_w_alike_3 1 "_law_due" := ns_of (by decide +kernel)
noncomputable def b_w_alike_3 (p : (Int × Int)) : M Unit (Fl Unit Empty Bool) :=
  (zrt (zand (zop2 feq (ret p.1) (ret p.2)) (zop2 feq (zapp (frepr datI) (ret p.1)) (zapp (frepr datI) (ret p.2)))))
noncomputable def m_w_alike_3 (p : (Int × Int)) : M Unit Bool := zbody (b_w_alike_3 p)
theorem f_w_alike_3 {G : Gx} {D : Cl} (T : Txt G D) {f : Addr} {fd : FuncData} (F : Fun G.K "_law_alike" "_law_alike" t_w_alike f fd) : FnG false G.P G.w G.K G.mg G.base 1 f fd ["_law_found", "_law_due"] (spZ G (fun _ : Unit => noE) (fun (q : Unit) (p : (Int × Int)) => [rInt.pr p.1, rInt.pr p.2]) m_w_alike_3 rBl) :=
  fn_ok (g := false) (k := 0) (Γn := fun _ _ _ => []) F sc_w_alike_3 (fun _ _ => rfl) (fun _ => rfl) (.inl fun _ _ => rfl) fun q p W =>
  show ZB G k_w_alike_3 _ W _ [.st (rInt.pr p.1), .st (rInt.pr p.2)] _ (b_w_alike_3 p) _ from
  (zb_one (zs_ret (z_and (z_eq scI (z_var n_w_alike_3_0) (z_var n_w_alike_3_1)) (z_one (z_eq scS (z_reprI (blt_of (u := .builtin "repr") T.b_repr (by decide +kernel)) (z_var n_w_alike_3_0)) (z_reprI (blt_of (u := .builtin "repr") T.b_repr (by decide +kernel)) (z_var n_w_alike_3_1))))) sub_nil))
theorem at_w_alike_3 {G : Gx} {D : Cl} (T : Txt G D) : FnAt false G "_law_alike" 1 ["_law_found", "_law_due"] (spZ G (fun _ : Unit => noE) (fun (q : Unit) (p : (Int × Int)) => [rInt.pr p.1, rInt.pr p.2]) m_w_alike_3 rBl) :=
  let ⟨f, fd, h1, h2, h3, h4⟩ := T.d_w_alike; ⟨f, fd, h1, h2, h3, f_w_alike_3 T h4⟩

def k_Ladder_repr : Sc := ⟨["self"], defScope t_Ladder_repr, 3, true, fun _ => true, false⟩
theorem sc_Ladder_repr : FnScope ["self"] ["self"] (defScope t_Ladder_repr) := ⟨rfl, rfl, rfl, by decide +kernel, rfl, by decide +kernel, by decide +kernel⟩
theorem n_Ladder_repr_0 : Nm k_Ladder_repr 0 "self" := nm_of (by decide +kernel)
theorem s_Ladder_repr_0 : Ns k_Ladder_repr 0 "self" := ns_of (by decide +kernel)
noncomputable def b_Ladder_repr (p : XLadder) : M Unit (Fl Unit Empty Str) :=
  (zrt ((zjc (ret ("Ladder(" : Str)) (zjc (bnd (zmeth (fun x => lft (m_Ladder_total x)) (ret p) (zpair (zop1 ineg (ret (3 : Int))) (ret (3 : Int)))) ffmtI) (zjc (ret (")" : Str)) ret))) Str.empty))
noncomputable def m_Ladder_repr (p : XLadder) : M Unit Str := zbody (b_Ladder_repr p)
theorem f_Ladder_repr {G : Gx} {D : Cl} (T : Txt G D) {f : Addr} {fd : FuncData} (F : Fun G.K "__repr__" "Ladder.__repr__" t_Ladder_repr f fd) : FnG false G.P G.w G.K G.mg G.base 4 f fd ["self"] (spZ G (fun _ : Unit => noE) (fun (q : Unit) (p : XLadder) => [(rLadder D).pr p]) m_Ladder_repr rStr) :=
  fn_ok (g := false) (k := 3) (Γn := fun _ _ _ => []) F sc_Ladder_repr (fun _ _ => rfl) (fun _ => rfl) (.inl fun _ _ => rfl) fun q p W =>
  show ZB G k_Ladder_repr _ W _ [.st ((rLadder D).pr p)] _ (b_Ladder_repr p) _ from
  (zb_one (zs_ret (z_joined (zj_cons z_str (zj_cons (z_fmtI (z_methP (A := (fun y => [rInt.pr y.1, rInt.pr y.2])) (at_Ladder_total T) T.cl_Ladder (ins_at fun _ => rfl) (by decide) (by decide) (z_var n_Ladder_repr_0) (za_cons (z_neg z_int) (za_one z_int)))) (zj_cons z_str zj_nil)))) sub_nil))
theorem rp_Ladder_repr {G : Gx} {D : Cl} (T : Txt G D) : RpAt false G D.Ladder 4 ["self"] (spZ G (fun _ : Unit => noE) (fun (q : Unit) (p : XLadder) => [(rLadder D).pr p]) m_Ladder_repr rStr) :=
  let ⟨f, fd, h1, h2, h3⟩ := T.d_Ladder_repr; ⟨f, fd, h1.1, h1.2, h2, f_Ladder_repr T h3⟩

def k_Ladder_eq : Sc := ⟨["self", "other", "first", "behind", "d"], defScope t_Ladder_eq, 1, true, fun _ => true, false⟩
theorem sc_Ladder_eq : FnScope ["self", "other", "first", "behind", "d"] ["self", "other"] (defScope t_Ladder_eq) := ⟨rfl, rfl, rfl, by decide +kernel, rfl, by decide +kernel, by decide +kernel⟩
theorem n_Ladder_eq_0 : Nm k_Ladder_eq 0 "self" := nm_of (by decide +kernel)
theorem s_Ladder_eq_0 : Ns k_Ladder_eq 0 "self" := ns_of (by decide +kernel)
theorem n_Ladder_eq_1 : Nm k_Ladder_eq 1 "other" := nm_of (by decide +kernel)
theorem s_Ladder_eq_1 : Ns k_Ladder_eq 1 "other" := ns_of (by decide +kernel)
theorem n_Ladder_eq_2 : Nm k_Ladder_eq 2 "first" := nm_of (by decide +kernel)
theorem s_Ladder_eq_2 : Ns k_Ladder_eq 2 "first" := ns_of (by decide +kernel)
theorem n_Ladder_eq_3 : Nm k_Ladder_eq 3 "behind" := nm_of (by decide +kernel)
theorem s_Ladder_eq_3 : Ns k_Ladder_eq 3 "behind" := ns_of (by decide +kernel)
noncomputable def b_Ladder_eq (p : (XLadder × XLadder)) : M Unit (Fl Unit Empty Bool) :=
  (zseq (zifS (znot (zis true (ret p.2)))
    (zrt (ret false))
    (znx ())) fun _ =>
  (zseq (zset (zop2 isub (zapp (fun x : Int × Int => fmin2 x.1 x.2) (zpair (zget XLadder.begin_ (ret p.1)) (zget XLadder.begin_ (ret p.2)))) (ret c_ALL_ALIKE))) fun first1 =>
  (zseq (zset (zop2 iadd (zapp (fun x : Int × Int => fmax2 x.1 x.2) (zpair (zop2 iadd (zget XLadder.begin_ (ret p.1)) (zapp flen (zget XLadder.middle_ (ret p.1)))) (zop2 iadd (zget XLadder.begin_ (ret p.2)) (zapp flen (zget XLadder.middle_ (ret p.2)))))) (ret c_ALL_ALIKE))) fun behind2 =>
  (zrt (zapp fall (zlc (fun e3 => (ret true)) (fun e3 => (zop2 feq (zmeth (fun x => lft (m_Ladder_price_at x)) (ret p.1) (ret e3)) (zmeth (fun x => lft (m_Ladder_price_at x)) (ret p.2) (ret e3)))) (zapp frA2 (zpair (ret first1) (ret behind2)))))))))
noncomputable def m_Ladder_eq (p : (XLadder × XLadder)) : M Unit Bool := zbody (b_Ladder_eq p)
theorem f_Ladder_eq {G : Gx} {D : Cl} (T : Txt G D) {f : Addr} {fd : FuncData} (F : Fun G.K "__eq__" "Ladder.__eq__" t_Ladder_eq f fd) : FnG false G.P G.w G.K G.mg G.base 2 f fd ["self", "other"] (spZ G (fun _ : Unit => noE) (fun (q : Unit) (p : (XLadder × XLadder)) => [(rLadder D).pr p.1, (rLadder D).pr p.2]) m_Ladder_eq rBl) :=
  fn_ok (g := false) (k := 1) (Γn := fun _ _ _ => []) F sc_Ladder_eq (fun _ _ => rfl) (fun _ => rfl) (.inl fun _ _ => rfl) fun q p W =>
  show ZB G k_Ladder_eq _ W _ [.st ((rLadder D).pr p.1), .st ((rLadder D).pr p.2), .no, .no, .no] _ (b_Ladder_eq p) _ from
  (zb_cons (zs_if (Γn := fun _ : Unit => [.st ((rLadder D).pr p.1), .st ((rLadder D).pr p.2), .no, .no, .no]) (zt_not (zt_val (z_isiC (blt_of (u := .builtin "isinstance") T.b_isinstance (by decide +kernel)) (isO (C := D.Ladder) T.ic_Ladder) (by exact rfl) T.g_Ladder (by decide) T.is_Ladder_Ladder (z_var n_Ladder_eq_1))))
    (zb_one (zs_ret z_bl sub_nil))
    (zb_nil (SubL.sub (.keep (.keep (.keep (.keep (.keep SubL.nil))))))) sub_nil) fun _ =>
  (zb_cons (zs_set s_Ladder_eq_2 (z_sub (z_min2 (blt_of (u := .builtin "min") T.b_min (by decide +kernel)) (z_attr (fld_at fun _ => rfl) T.cl_Ladder T.na_Ladder_begin (z_var n_Ladder_eq_0)) (z_attr (fld_at fun _ => rfl) T.cl_Ladder T.na_Ladder_begin (z_var n_Ladder_eq_1))) (z_gintE (by exact rfl) T.c_ALL_ALIKE)) sub_nil) fun first1 =>
  (zb_cons (zs_set s_Ladder_eq_3 (z_add (z_max2 (blt_of (u := .builtin "max") T.b_max (by decide +kernel)) (z_add (z_attr (fld_at fun _ => rfl) T.cl_Ladder T.na_Ladder_begin (z_var n_Ladder_eq_0)) (z_lenV (blt_of (u := .builtin "len") T.b_len (by decide +kernel)) (z_attr (fld_at fun _ => rfl) T.cl_Ladder T.na_Ladder_middle (z_var n_Ladder_eq_0)))) (z_add (z_attr (fld_at fun _ => rfl) T.cl_Ladder T.na_Ladder_begin (z_var n_Ladder_eq_1)) (z_lenV (blt_of (u := .builtin "len") T.b_len (by decide +kernel)) (z_attr (fld_at fun _ => rfl) T.cl_Ladder T.na_Ladder_middle (z_var n_Ladder_eq_1))))) (z_gintE (by exact rfl) T.c_ALL_ALIKE)) sub_nil) fun behind2 =>
  (zb_one (zs_ret (z_all (blt_of (u := .builtin "all") T.b_all (by decide +kernel)) (z_lc (Lc.mk (own := [("d", 4)]) (blk_of rfl (by decide +kernel)) (zi_r2 (blt_of (u := .type "range") T.b_range (by decide +kernel)) (z_var n_Ladder_eq_2) (z_var n_Ladder_eq_3)) (zg_name (ns_of (i := 4) (by decide +kernel)) (by decide)) (fun e3 => zts_nil) (fun e3 => (z_eq scI (z_methP (A := (fun y => [rInt.pr y])) (at_Ladder_price_at T) T.cl_Ladder (ins_at fun _ => rfl) (by decide) (by decide) (z_var (nm_of (i := 0) (by decide +kernel))) (za_one (z_var (nm_of (i := 4) (by decide +kernel))))) (z_methP (A := (fun y => [rInt.pr y])) (at_Ladder_price_at T) T.cl_Ladder (ins_at fun _ => rfl) (by decide) (by decide) (z_var (nm_of (i := 1) (by decide +kernel))) (za_one (z_var (nm_of (i := 4) (by decide +kernel))))))) (lc_no ⟨rfl, trivial⟩) (fun _ _ => rfl)))) sub_nil)))))
theorem eq_Ladder_eq {G : Gx} {D : Cl} (T : Txt G D) : EqAt false G D.Ladder 2 ["self", "other"] (spZ G (fun _ : Unit => noE) (fun (q : Unit) (p : (XLadder × XLadder)) => [(rLadder D).pr p.1, (rLadder D).pr p.2]) m_Ladder_eq rBl) :=
  let ⟨f, fd, h1, h2, h3⟩ := T.d_Ladder_eq; ⟨f, fd, h1.1, h1.2, h2, f_Ladder_eq T h3⟩

def k_w_alike_4 : Sc := ⟨["_law_found", "_law_due"], defScope t_w_alike, 0, true, fun _ => true, true⟩
theorem sc_w_alike_4 : FnScope ["_law_found", "_law_due"] ["_law_found", "_law_due"] (defScope t_w_alike) := ⟨rfl, rfl, rfl, by decide +kernel, rfl, by decide +kernel, by decide +kernel⟩
theorem n_w_alike_4_0 : Nm k_w_alike_4 0 "_law_found" := nm_of (by decide +kernel)
theorem s_w_alike_4_0 : Ns k_w_alike_4 0 "_law_found" := ns_of (by decide +kernel)
theorem n_w_alike_4_1 : Nm k_w_alike_4 1 "_law_due" := nm_of (by decide +kernel)
theorem s_w_alike_4_1 : Ns k_w_alike_4 1 "_law_due" := ns_of (by decide +kernel)
noncomputable def b_w_alike_4 (p : ((Str × Bool × Bool) × (Str × Bool × Bool))) : M Unit (Fl Unit Empty Bool) :=
  (zrt (zand (zop2 (deq (datH (dhCons datS (dhCons datB (dhOne datB))))) (ret p.1) (ret p.2)) (zop2 feq (zapp (frepr (datH (dhCons datS (dhCons datB (dhOne datB))))) (ret p.1)) (zapp (frepr (datH (dhCons datS (dhCons datB (dhOne datB))))) (ret p.2)))))
noncomputable def m_w_alike_4 (p : ((Str × Bool × Bool) × (Str × Bool × Bool))) : M Unit Bool := zbody (b_w_alike_4 p)
theorem f_w_alike_4 {G : Gx} {D : Cl} (T : Txt G D) {f : Addr} {fd : FuncData} (F : Fun G.K "_law_alike" "_law_alike" t_w_alike f fd) : FnG true G.P G.w G.K G.mg G.base 1 f fd ["_law_found", "_law_due"] (spZ G (fun _ : Unit => noE) (fun (q : Unit) (p : ((Str × Bool × Bool) × (Str × Bool × Bool))) => [(rHet (fun (x : (Str × Bool × Bool)) => [rStr.pr x.1, rBl.pr x.2.1, rBl.pr x.2.2])).pr p.1, (rHet (fun (x : (Str × Bool × Bool)) => [rStr.pr x.1, rBl.pr x.2.1, rBl.pr x.2.2])).pr p.2]) m_w_alike_4 rBl) :=
  fn_ok (g := true) (k := 0) (Γn := fun _ _ _ => []) F sc_w_alike_4 (fun _ _ => rfl) (fun _ => rfl) (.inl fun _ _ => rfl) fun q p W =>
  show ZB G k_w_alike_4 _ W _ [.st ((rHet (fun (x : (Str × Bool × Bool)) => [rStr.pr x.1, rBl.pr x.2.1, rBl.pr x.2.2])).pr p.1), .st ((rHet (fun (x : (Str × Bool × Bool)) => [rStr.pr x.1, rBl.pr x.2.1, rBl.pr x.2.2])).pr p.2)] _ (b_w_alike_4 p) _ from
  (zb_one (zs_ret (z_and (z_deq (datH (dhCons datS (dhCons datB (dhOne datB)))) (z_var n_w_alike_4_0) (z_var n_w_alike_4_1)) (z_one (z_eq scS (z_repr (datH (dhCons datS (dhCons datB (dhOne datB)))) rfH rfl (blt_of (u := .builtin "repr") T.b_repr (by decide +kernel)) (z_var n_w_alike_4_0)) (z_repr (datH (dhCons datS (dhCons datB (dhOne datB)))) rfH rfl (blt_of (u := .builtin "repr") T.b_repr (by decide +kernel)) (z_var n_w_alike_4_1))))) sub_nil))
theorem at_w_alike_4 {G : Gx} {D : Cl} (T : Txt G D) : FnAt true G "_law_alike" 1 ["_law_found", "_law_due"] (spZ G (fun _ : Unit => noE) (fun (q : Unit) (p : ((Str × Bool × Bool) × (Str × Bool × Bool))) => [(rHet (fun (x : (Str × Bool × Bool)) => [rStr.pr x.1, rBl.pr x.2.1, rBl.pr x.2.2])).pr p.1, (rHet (fun (x : (Str × Bool × Bool)) => [rStr.pr x.1, rBl.pr x.2.1, rBl.pr x.2.2])).pr p.2]) m_w_alike_4 rBl) :=
  let ⟨f, fd, h1, h2, h3, h4⟩ := T.d_w_alike; ⟨f, fd, h1, h2, h3, f_w_alike_4 T h4⟩

def k_Ladder_moved_to : Sc := ⟨["self", "at", "found"], defScope t_Ladder_moved_to, 6, true, fun _ => true, false⟩
theorem sc_Ladder_moved_to : FnScope ["self", "at", "found"] ["self", "at"] (defScope t_Ladder_moved_to) := ⟨rfl, rfl, rfl, by decide +kernel, rfl, by decide +kernel, by decide +kernel⟩
theorem n_Ladder_moved_to_0 : Nm k_Ladder_moved_to 0 "self" := nm_of (by decide +kernel)
theorem s_Ladder_moved_to_0 : Ns k_Ladder_moved_to 0 "self" := ns_of (by decide +kernel)
theorem n_Ladder_moved_to_1 : Nm k_Ladder_moved_to 1 "at" := nm_of (by decide +kernel)
theorem s_Ladder_moved_to_1 : Ns k_Ladder_moved_to 1 "at" := ns_of (by decide +kernel)
theorem n_Ladder_moved_to_2 : Nm k_Ladder_moved_to 2 "found" := nm_of (by decide +kernel)
theorem s_Ladder_moved_to_2 : Ns k_Ladder_moved_to 2 "found" := ns_of (by decide +kernel)
noncomputable def b_Ladder_moved_to (p : (XLadder × Int)) : M Unit (Fl Unit Empty XLadder) :=
  (zseq (zset (bnd (zpair (zapp ret (zget XLadder.low_ (ret p.1))) (zpair (zapp ret (zget XLadder.middle_ (ret p.1))) (zapp ret (zget XLadder.high_ (ret p.1))))) fun y => lft (m_Ladder_init (y.1, y.2.1, y.2.2, (0 : Int))))) fun found1 =>
  (zseq (zset (ret p.2)) fun begin2 =>
  (zrt (ret { found1 with begin_ := begin2 }))))
noncomputable def m_Ladder_moved_to (p : (XLadder × Int)) : M Unit XLadder := zbody (b_Ladder_moved_to p)
theorem f_Ladder_moved_to {G : Gx} {D : Cl} (T : Txt G D) {f : Addr} {fd : FuncData} (F : Fun G.K "moved_to" "Ladder.moved_to" t_Ladder_moved_to f fd) : FnG false G.P G.w G.K G.mg G.base 7 f fd ["self", "at"] (spZ G (fun _ : Unit => noE) (fun (q : Unit) (p : (XLadder × Int)) => [(rLadder D).pr p.1, rInt.pr p.2]) m_Ladder_moved_to (rLadder D)) :=
  fn_ok (g := false) (k := 6) (Γn := fun _ _ _ => []) F sc_Ladder_moved_to (fun _ _ => rfl) (fun _ => rfl) (.inl fun _ _ => rfl) fun q p W =>
  show ZB G k_Ladder_moved_to _ W _ [.st ((rLadder D).pr p.1), .st (rInt.pr p.2), .no] _ (b_Ladder_moved_to p) _ from
  (zb_cons (zs_setF s_Ladder_moved_to_2 (zf_makeK0 (f := m_Ladder_init) (g := fun (y : ((List Int) × (List Int) × (List Int))) => (y.1, y.2.1, y.2.2, (0 : Int))) (mk_Ladder_init_0 T) T.g_Ladder (by decide) (by decide) rfl (by exact fun _ => rfl) (by exact gw3) (za_cons (z_listV (blt_of (u := .type "list") T.b_list (by decide +kernel)) (z_attr (fld_at fun _ => rfl) T.cl_Ladder T.na_Ladder_low (z_var n_Ladder_moved_to_0))) (za_cons (z_listV (blt_of (u := .type "list") T.b_list (by decide +kernel)) (z_attr (fld_at fun _ => rfl) T.cl_Ladder T.na_Ladder_middle (z_var n_Ladder_moved_to_0))) (za_one (z_listV (blt_of (u := .type "list") T.b_list (by decide +kernel)) (z_attr (fld_at fun _ => rfl) T.cl_Ladder T.na_Ladder_high (z_var n_Ladder_moved_to_0))))))) sub_nil) fun found1 =>
  (zb_cons (zs_fld n_Ladder_moved_to_2 rfl T.cl_Ladder T.na_Ladder_begin (by exact of_decide_eq_true rfl) (z_var n_Ladder_moved_to_1) sub_nil) fun begin2 =>
  (zb_wk (sub_frz (i := 2) (q := (rLadder D).pr { found1 with begin_ := begin2 }) ((one_O (fs := fs_Ladder D) (x := { found1 with begin_ := begin2 }) (gs := ("begin", rInt.pr begin2) :: fs_Ladder D found1) fun k => lookup_updF (l := fs_Ladder D found1) (f := "begin") (p := rInt.pr begin2) rfl k))) <| zb_one (zs_ret (z_var n_Ladder_moved_to_2) sub_nil))))
theorem at_Ladder_moved_to {G : Gx} {D : Cl} (T : Txt G D) : MethAt false G D.Ladder "moved_to" 7 ["self", "at"] (spZ G (fun _ : Unit => noE) (fun (q : Unit) (p : (XLadder × Int)) => [(rLadder D).pr p.1, rInt.pr p.2]) m_Ladder_moved_to (rLadder D)) :=
  let ⟨f, fd, h1, h2, h3⟩ := T.d_Ladder_moved_to; ⟨f, fd, h1, h2, f_Ladder_moved_to T h3⟩

def k_Ladder_turned : Sc := ⟨["self", "found"], defScope t_Ladder_turned, 7, true, fun _ => true, false⟩
theorem sc_Ladder_turned : FnScope ["self", "found"] ["self"] (defScope t_Ladder_turned) := ⟨rfl, rfl, rfl, by decide +kernel, rfl, by decide +kernel, by decide +kernel⟩
theorem n_Ladder_turned_0 : Nm k_Ladder_turned 0 "self" := nm_of (by decide +kernel)
theorem s_Ladder_turned_0 : Ns k_Ladder_turned 0 "self" := ns_of (by decide +kernel)
theorem n_Ladder_turned_1 : Nm k_Ladder_turned 1 "found" := nm_of (by decide +kernel)
theorem s_Ladder_turned_1 : Ns k_Ladder_turned 1 "found" := ns_of (by decide +kernel)
noncomputable def b_Ladder_turned (p : XLadder) : M Unit (Fl Unit Empty XLadder) :=
  (zseq (zset (bnd (zpair (zapp ret (zget XLadder.high_ (ret p))) (zpair (zapp frev (zget XLadder.middle_ (ret p))) (zapp ret (zget XLadder.low_ (ret p))))) fun y => lft (m_Ladder_init (y.1, y.2.1, y.2.2, (0 : Int))))) fun found1 =>
  (zrt (zmeth (fun x => lft (m_Ladder_moved_to x)) (ret found1) (zop2 isub (zop2 isub (ret (0 : Int)) (zget XLadder.begin_ (ret p))) (zapp flen (zget XLadder.middle_ (ret p)))))))
noncomputable def m_Ladder_turned (p : XLadder) : M Unit XLadder := zbody (b_Ladder_turned p)
theorem f_Ladder_turned {G : Gx} {D : Cl} (T : Txt G D) {f : Addr} {fd : FuncData} (F : Fun G.K "turned" "Ladder.turned" t_Ladder_turned f fd) : FnG false G.P G.w G.K G.mg G.base 8 f fd ["self"] (spZ G (fun _ : Unit => noE) (fun (q : Unit) (p : XLadder) => [(rLadder D).pr p]) m_Ladder_turned (rLadder D)) :=
  fn_ok (g := false) (k := 7) (Γn := fun _ _ _ => []) F sc_Ladder_turned (fun _ _ => rfl) (fun _ => rfl) (.inl fun _ _ => rfl) fun q p W =>
  show ZB G k_Ladder_turned _ W _ [.st ((rLadder D).pr p), .no] _ (b_Ladder_turned p) _ from
  (zb_cons (zs_set s_Ladder_turned_1 (z_obj (fs_Ladder D) (zf_makeK0 (f := m_Ladder_init) (g := fun (y : ((List Int) × (List Int) × (List Int))) => (y.1, y.2.1, y.2.2, (0 : Int))) (mk_Ladder_init_0 T) T.g_Ladder (by decide) (by decide) rfl (by exact fun _ => rfl) (by exact gw3) (za_cons (z_listV (blt_of (u := .type "list") T.b_list (by decide +kernel)) (z_attr (fld_at fun _ => rfl) T.cl_Ladder T.na_Ladder_high (z_var n_Ladder_turned_0))) (za_cons (z_listRev (by exact rfl) T.b_list (by exact rfl) T.b_reversed (z_attr (fld_at fun _ => rfl) T.cl_Ladder T.na_Ladder_middle (z_var n_Ladder_turned_0))) (za_one (z_listV (blt_of (u := .type "list") T.b_list (by decide +kernel)) (z_attr (fld_at fun _ => rfl) T.cl_Ladder T.na_Ladder_low (z_var n_Ladder_turned_0)))))))) sub_nil) fun found1 =>
  (zb_one (zs_ret (z_methP (A := (fun y => [rInt.pr y])) (at_Ladder_moved_to T) T.cl_Ladder (ins_at fun _ => rfl) (by decide) (by decide) (z_var n_Ladder_turned_1) (za_one (z_sub (z_sub z_int (z_attr (fld_at fun _ => rfl) T.cl_Ladder T.na_Ladder_begin (z_var n_Ladder_turned_0))) (z_lenV (blt_of (u := .builtin "len") T.b_len (by decide +kernel)) (z_attr (fld_at fun _ => rfl) T.cl_Ladder T.na_Ladder_middle (z_var n_Ladder_turned_0)))))) sub_nil)))
theorem at_Ladder_turned {G : Gx} {D : Cl} (T : Txt G D) : MethAt false G D.Ladder "turned" 8 ["self"] (spZ G (fun _ : Unit => noE) (fun (q : Unit) (p : XLadder) => [(rLadder D).pr p]) m_Ladder_turned (rLadder D)) :=
  let ⟨f, fd, h1, h2, h3⟩ := T.d_Ladder_turned; ⟨f, fd, h1, h2, f_Ladder_turned T h3⟩

def k_w_else_right : Sc := ⟨["_law_bag_here", "_law_ladder", "_law_plan", "_law_places_here", "_law_low", "_law_high", "_law_near", "_law_other", "_law_turned", "_law_d"], defScope t_w_else_right, 8, true, fun _ => true, true⟩
theorem sc_w_else_right : FnScope ["_law_bag_here", "_law_ladder", "_law_plan", "_law_places_here", "_law_low", "_law_high", "_law_near", "_law_other", "_law_turned", "_law_d"] ["_law_bag_here", "_law_ladder", "_law_plan", "_law_places_here"] (defScope t_w_else_right) := ⟨rfl, rfl, rfl, by decide +kernel, rfl, by decide +kernel, by decide +kernel⟩
theorem n_w_else_right_0 : Nm k_w_else_right 0 "_law_bag_here" := nm_of (by decide +kernel)
theorem s_w_else_right_0 : Ns k_w_else_right 0 "_law_bag_here" := ns_of (by decide +kernel)
theorem n_w_else_right_1 : Nm k_w_else_right 1 "_law_ladder" := nm_of (by decide +kernel)
theorem s_w_else_right_1 : Ns k_w_else_right 1 "_law_ladder" := ns_of (by decide +kernel)
theorem n_w_else_right_2 : Nm k_w_else_right 2 "_law_plan" := nm_of (by decide +kernel)
theorem s_w_else_right_2 : Ns k_w_else_right 2 "_law_plan" := ns_of (by decide +kernel)
theorem n_w_else_right_3 : Nm k_w_else_right 3 "_law_places_here" := nm_of (by decide +kernel)
theorem s_w_else_right_3 : Ns k_w_else_right 3 "_law_places_here" := ns_of (by decide +kernel)
theorem n_w_else_right_4 : Nm k_w_else_right 4 "_law_low" := nm_of (by decide +kernel)
theorem s_w_else_right_4 : Ns k_w_else_right 4 "_law_low" := ns_of (by decide +kernel)
theorem n_w_else_right_5 : Nm k_w_else_right 5 "_law_high" := nm_of (by decide +kernel)
theorem s_w_else_right_5 : Ns k_w_else_right 5 "_law_high" := ns_of (by decide +kernel)
theorem n_w_else_right_6 : Nm k_w_else_right 6 "_law_near" := nm_of (by decide +kernel)
theorem s_w_else_right_6 : Ns k_w_else_right 6 "_law_near" := ns_of (by decide +kernel)
theorem n_w_else_right_7 : Nm k_w_else_right 7 "_law_other" := nm_of (by decide +kernel)
theorem s_w_else_right_7 : Ns k_w_else_right 7 "_law_other" := ns_of (by decide +kernel)
theorem n_w_else_right_8 : Nm k_w_else_right 8 "_law_turned" := nm_of (by decide +kernel)
theorem s_w_else_right_8 : Ns k_w_else_right 8 "_law_turned" := ns_of (by decide +kernel)
noncomputable def b_w_else_right (p : (Unit × XLadder × (Int × (List Int) × (List Int) × (List Int)) × (List Int))) : M Bag (Fl Unit Empty Bool) :=
  (zseq (zset (zop2 ixat (ret p.2.2.2) (zapp m_w_take (zpair (ret p.1) (zapp flen (ret p.2.2.2)))))) fun low1 =>
  (zseq (zset (zop2 iadd (ret low1) (zapp m_w_take (zpair (ret p.1) (ret (61 : Int)))))) fun high2 =>
  (zseq (zifS (znot (zapp (fun x => lft (m_w_alike_3 x)) (zpair (zmeth (fun x => lft (m_Ladder_total x)) (ret p.2.1) (zpair (ret low1) (ret high2))) (zapp fsum (zlc (fun e3 => (ret true)) (fun e3 => (zapp (fun x => lft (m_w_rung x)) (zpair (ret p.2.2.1) (ret e3)))) (zapp frA2 (zpair (ret low1) (ret high2))))))))
    (zrt (ret false))
    (znx ())) fun _ =>
  (zseq (zset (zapp fsum (zlc (fun e5 => (ret true)) (fun e5 => (zapp (fun x => lft (m_w_rung x)) (zpair (ret p.2.2.1) (ret e5)))) (zapp frA2 (zpair (zop1 ineg (ret (3 : Int))) (ret (3 : Int))))))) fun near4 =>
  (zseq (zset (bnd (zpair (zapp ret (zget (fun x => x.2.2.1) (ret p.2.2.1))) (zpair (zapp ret (zget (fun x => x.2.1) (ret p.2.2.1))) (zapp ret (zget (fun x => x.2.2.2) (ret p.2.2.1))))) fun y => bnd (zget Prod.fst (ret p.2.2.1)) fun z => lft (m_Ladder_init (y.1, y.2.1, y.2.2, z)))) fun other6 =>
  (zseq (zifS (znot (zapp (fun x => lft (m_w_alike_4 x)) (zpair (zpair (zapp (fun x => nox (lft (m_Ladder_repr x))) (ret p.2.1)) (zpair (zop2 (fown m_Ladder_eq) (ret p.2.1) (ret other6)) (zop2 (fown m_Ladder_eq) (ret other6) (ret p.2.1)))) (zpair (zop2 scat (zop2 scat (ret ("Ladder(" : Str)) (zapp fstr (ret near4))) (ret (")" : Str))) (zpair (ret true) (ret true))))))
    (zrt (ret false))
    (znx ())) fun _ =>
  (zseq (zset (zapp (fun x => lft (m_Ladder_turned x)) (ret p.2.1))) fun turned7 =>
  (zrt (zapp (fun x => lft (m_w_alike x)) (zpair (zlc (fun e8 => (ret true)) (fun e8 => (zmeth (fun x => lft (m_Ladder_rung x)) (ret turned7) (zop2 isub (zop1 ineg (ret (1 : Int))) (ret e8)))) (ret p.2.2.2)) (zlc (fun e9 => (ret true)) (fun e9 => (zapp (fun x => lft (m_w_rung x)) (zpair (ret p.2.2.1) (ret e9)))) (ret p.2.2.2))))))))))))
noncomputable def m_w_else_right (p : (Unit × XLadder × (Int × (List Int) × (List Int) × (List Int)) × (List Int))) : M Bag Bool := zbody (b_w_else_right p)
theorem f_w_else_right {G : Gx} {D : Cl} (T : Txt G D) {f : Addr} {fd : FuncData} (F : Fun G.K "_law_else_right" "_law_else_right" t_w_else_right f fd) : FnG true G.P G.w G.K G.mg G.base 9 f fd ["_law_bag_here", "_law_ladder", "_law_plan", "_law_places_here"] (spZ G (fun q : Addr × Addr => bagE q.1 q.2) (fun (q : Addr × Addr) (p : (Unit × XLadder × (Int × (List Int) × (List Int) × (List Int)) × (List Int))) => [(rRef q.1).pr p.1, (rLadder D).pr p.2.1, (rT4 rInt (rLst rInt) (rLst rInt) (rLst rInt)).pr p.2.2.1, (rLst rInt).pr p.2.2.2]) m_w_else_right rBl) :=
  fn_ok (g := true) (k := 8) (Γn := fun _ _ _ => []) F sc_w_else_right (fun _ _ => rfl) (fun _ => rfl) (.inl fun _ _ => rfl) fun q p W =>
  show ZB G k_w_else_right _ W _ [.st ((rRef q.1).pr p.1), .st ((rLadder D).pr p.2.1), .st ((rT4 rInt (rLst rInt) (rLst rInt) (rLst rInt)).pr p.2.2.1), .st ((rLst rInt).pr p.2.2.2), .no, .no, .no, .no, .no, .no] _ (b_w_else_right p) _ from
  (zb_cons (zs_set s_w_else_right_4 (z_ixL (z_var n_w_else_right_3) (z_call (q := q) (at_w_take T) rfl (by decide) (by decide) (by exact rfl) (za_cons (z_var n_w_else_right_0) (za_one (z_lenL (blt_of (u := .builtin "len") T.b_len (by decide +kernel)) (z_var n_w_else_right_3)))))) sub_nil) fun low1 =>
  (zb_cons (zs_set s_w_else_right_5 (z_add (z_var n_w_else_right_4) (z_call (q := q) (at_w_take T) rfl (by decide) (by decide) (by exact rfl) (za_cons (z_var n_w_else_right_0) (za_one z_int)))) sub_nil) fun high2 =>
  (zb_cons (zs_if (Γn := fun _ : Unit => [.st ((rRef q.1).pr p.1), .st ((rLadder D).pr p.2.1), .st ((rT4 rInt (rLst rInt) (rLst rInt) (rLst rInt)).pr p.2.2.1), .st ((rLst rInt).pr p.2.2.2), .st (rInt.pr low1), .st (rInt.pr high2), .no, .no, .no, .no]) (zt_not (zt_val (z_callP (q := ()) (at_w_alike_3 T) (by decide) (by decide) (by exact rfl) (za_cons (z_methP (A := (fun y => [rInt.pr y.1, rInt.pr y.2])) (at_Ladder_total T) T.cl_Ladder (ins_at fun _ => rfl) (by decide) (by decide) (z_var n_w_else_right_1) (za_cons (z_var n_w_else_right_4) (za_one (z_var n_w_else_right_5)))) (za_one (z_sum (blt_of (u := .builtin "sum") T.b_sum (by decide +kernel)) (z_lc (Lc.mk (own := [("_law_d", 9)]) (blk_of rfl (by decide +kernel)) (zi_r2 (blt_of (u := .type "range") T.b_range (by decide +kernel)) (z_var n_w_else_right_4) (z_var n_w_else_right_5)) (zg_name (ns_of (i := 9) (by decide +kernel)) (by decide)) (fun e3 => zts_nil) (fun e3 => (z_callP (q := ()) (at_w_rung T) (by decide) (by decide) (by exact rfl) (za_cons (z_var (nm_of (i := 2) (by decide +kernel))) (za_one (z_var (nm_of (i := 9) (by decide +kernel))))))) (lc_no ⟨rfl, trivial⟩) (fun _ _ => rfl)))))))))
    (zb_one (zs_ret z_bl sub_nil))
    (zb_nil (SubL.sub (.keep (.keep (.keep (.keep (.keep (.keep (.keep (.keep (.keep (.keep SubL.nil)))))))))))) sub_nil) fun _ =>
  (zb_cons (zs_set s_w_else_right_6 (z_sum (blt_of (u := .builtin "sum") T.b_sum (by decide +kernel)) (z_lc (Lc.mk (own := [("_law_d", 9)]) (blk_of rfl (by decide +kernel)) (zi_r2 (blt_of (u := .type "range") T.b_range (by decide +kernel)) (z_neg z_int) z_int) (zg_name (ns_of (i := 9) (by decide +kernel)) (by decide)) (fun e5 => zts_nil) (fun e5 => (z_callP (q := ()) (at_w_rung T) (by decide) (by decide) (by exact rfl) (za_cons (z_var (nm_of (i := 2) (by decide +kernel))) (za_one (z_var (nm_of (i := 9) (by decide +kernel))))))) (lc_no ⟨rfl, trivial⟩) (fun _ _ => rfl)))) sub_nil) fun near4 =>
  (zb_cons (zs_set s_w_else_right_7 (z_obj (fs_Ladder D) (zf_makeK (f := m_Ladder_init) (g := fun (y : ((List Int) × (List Int) × (List Int)) × Int) => (y.1.1, y.1.2.1, y.1.2.2, y.2)) (mk_Ladder_init_K T) T.g_Ladder (by decide) (by decide) rfl (by exact fun _ => rfl) (by exact gv3) (za_cons (z_listL (blt_of (u := .type "list") T.b_list (by decide +kernel)) (z_at t4_2 (z_var n_w_else_right_2))) (za_cons (z_listL (blt_of (u := .type "list") T.b_list (by decide +kernel)) (z_at t4_1 (z_var n_w_else_right_2))) (za_one (z_listL (blt_of (u := .type "list") T.b_list (by decide +kernel)) (z_at t4_3 (z_var n_w_else_right_2)))))) (z_at t4_0 (z_var n_w_else_right_2)))) sub_nil) fun other6 =>
  (zb_cons (zs_if (Γn := fun _ : Unit => [.st ((rRef q.1).pr p.1), .st ((rLadder D).pr p.2.1), .st ((rT4 rInt (rLst rInt) (rLst rInt) (rLst rInt)).pr p.2.2.1), .st ((rLst rInt).pr p.2.2.2), .st (rInt.pr low1), .st (rInt.pr high2), .st (rInt.pr near4), .st ((rLadder D).pr other6), .no, .no]) (zt_not (zt_val (z_callP (q := ()) (at_w_alike_4 T) (by decide) (by decide) (by exact rfl) (za_cons (z_het (za_cons (z_reprO (rp_Ladder_repr T) (by decide) (by decide) (blt_of (u := .builtin "repr") T.b_repr (by decide +kernel)) (z_var n_w_else_right_1)) (za_cons (z_ownEq (eq_Ladder_eq T) (by decide) (by decide) (z_var n_w_else_right_1) (z_var n_w_else_right_7)) (za_one (z_ownEq (eq_Ladder_eq T) (by decide) (by decide) (z_var n_w_else_right_7) (z_var n_w_else_right_1))))) (by exact fun _ => (by decide : 3 ≤ sizeLine))) (za_one (z_het (za_cons (z_catS (z_catS z_str (z_strI (blt_of (u := .type "str") T.b_str (by decide +kernel)) (z_var n_w_else_right_6))) z_str) (za_cons z_bl (za_one z_bl))) (by exact fun _ => (by decide : 3 ≤ sizeLine))))))))
    (zb_one (zs_ret z_bl sub_nil))
    (zb_nil (SubL.sub (.keep (.keep (.keep (.keep (.keep (.keep (.keep (.keep (.keep (.keep SubL.nil)))))))))))) sub_nil) fun _ =>
  (zb_cons (zs_set s_w_else_right_8 (z_methP0 (at_Ladder_turned T) T.cl_Ladder (ins_at fun _ => rfl) (by decide) (by decide) (z_var n_w_else_right_1)) sub_nil) fun turned7 =>
  (zb_one (zs_ret (z_callP (q := ()) (at_w_alike T) (by decide) (by decide) (by exact rfl) (za_cons (z_lc (Lc.mk (own := [("_law_d", 9)]) (blk_of rfl (by decide +kernel)) (zi_list (z_var n_w_else_right_3)) (zg_name (ns_of (i := 9) (by decide +kernel)) (by decide)) (fun e8 => zts_nil) (fun e8 => (z_methP (A := (fun y => [rInt.pr y])) (at_Ladder_rung T) T.cl_Ladder (ins_at fun _ => rfl) (by decide) (by decide) (z_var (nm_of (i := 8) (by decide +kernel))) (za_one (z_sub (z_neg z_int) (z_var (nm_of (i := 9) (by decide +kernel))))))) (lc_no ⟨rfl, trivial⟩) (fun _ _ => rfl))) (za_one (z_lc (Lc.mk (own := [("_law_d", 9)]) (blk_of rfl (by decide +kernel)) (zi_list (z_var n_w_else_right_3)) (zg_name (ns_of (i := 9) (by decide +kernel)) (by decide)) (fun e9 => zts_nil) (fun e9 => (z_callP (q := ()) (at_w_rung T) (by decide) (by decide) (by exact rfl) (za_cons (z_var (nm_of (i := 2) (by decide +kernel))) (za_one (z_var (nm_of (i := 9) (by decide +kernel))))))) (lc_no ⟨rfl, trivial⟩) (fun _ _ => rfl)))))) sub_nil)))))))))
theorem at_w_else_right {G : Gx} {D : Cl} (T : Txt G D) : FnAt true G "_law_else_right" 9 ["_law_bag_here", "_law_ladder", "_law_plan", "_law_places_here"] (spZ G (fun q : Addr × Addr => bagE q.1 q.2) (fun (q : Addr × Addr) (p : (Unit × XLadder × (Int × (List Int) × (List Int) × (List Int)) × (List Int))) => [(rRef q.1).pr p.1, (rLadder D).pr p.2.1, (rT4 rInt (rLst rInt) (rLst rInt) (rLst rInt)).pr p.2.2.1, (rLst rInt).pr p.2.2.2]) m_w_else_right rBl) :=
  let ⟨f, fd, h1, h2, h3, h4⟩ := T.d_w_else_right; ⟨f, fd, h1, h2, h3, f_w_else_right T h4⟩

def k_w_right : Sc := ⟨["_law_bag_here", "_law_ladder", "_law_plan", "_law_places_here", "_law_prices_here", "_law_due", "_law_d"], defScope t_w_right, 9, true, fun _ => true, true⟩
theorem sc_w_right : FnScope ["_law_bag_here", "_law_ladder", "_law_plan", "_law_places_here", "_law_prices_here", "_law_due", "_law_d"] ["_law_bag_here", "_law_ladder", "_law_plan"] (defScope t_w_right) := ⟨rfl, rfl, rfl, by decide +kernel, rfl, by decide +kernel, by decide +kernel⟩
theorem n_w_right_0 : Nm k_w_right 0 "_law_bag_here" := nm_of (by decide +kernel)
theorem s_w_right_0 : Ns k_w_right 0 "_law_bag_here" := ns_of (by decide +kernel)
theorem n_w_right_1 : Nm k_w_right 1 "_law_ladder" := nm_of (by decide +kernel)
theorem s_w_right_1 : Ns k_w_right 1 "_law_ladder" := ns_of (by decide +kernel)
theorem n_w_right_2 : Nm k_w_right 2 "_law_plan" := nm_of (by decide +kernel)
theorem s_w_right_2 : Ns k_w_right 2 "_law_plan" := ns_of (by decide +kernel)
theorem n_w_right_3 : Nm k_w_right 3 "_law_places_here" := nm_of (by decide +kernel)
theorem s_w_right_3 : Ns k_w_right 3 "_law_places_here" := ns_of (by decide +kernel)
theorem n_w_right_4 : Nm k_w_right 4 "_law_prices_here" := nm_of (by decide +kernel)
theorem s_w_right_4 : Ns k_w_right 4 "_law_prices_here" := ns_of (by decide +kernel)
theorem n_w_right_5 : Nm k_w_right 5 "_law_due" := nm_of (by decide +kernel)
theorem s_w_right_5 : Ns k_w_right 5 "_law_due" := ns_of (by decide +kernel)
noncomputable def b_w_right (p : (Unit × XLadder × (Int × (List Int) × (List Int) × (List Int)))) : M Bag (Fl Unit Empty Bool) :=
  (zseq (zset (zapp m_w_places (zpair (ret p.1) (ret p.2.2)))) fun placeshere1 =>
  (zseq (zifS (znot (zapp (fun x => lft (m_w_alike x)) (zpair (zlc (fun e2 => (ret true)) (fun e2 => (zmeth (fun x => lft (m_Ladder_rung x)) (ret p.2.1) (ret e2))) (ret placeshere1)) (zlc (fun e3 => (ret true)) (fun e3 => (zapp (fun x => lft (m_w_rung x)) (zpair (ret p.2.2) (ret e3)))) (ret placeshere1)))))
    (zrt (ret false))
    (znx ())) fun _ =>
  (zseq (zset (zop2 lcat (zop2 lcat (zget (fun x => x.2.1) (ret p.2.2)) (zget (fun x => x.2.2.1) (ret p.2.2))) (zget (fun x => x.2.2.2) (ret p.2.2)))) fun priceshere4 =>
  (zseq (zset (zlist (zcons (zop2 igt (zapp fmaxL (zget (fun x => x.2.2.2) (ret p.2.2))) (ret (0 : Int))) (zcons (zop2 igt (zapp fmaxL (zget (fun x => x.2.2.1) (ret p.2.2))) (ret (0 : Int))) (zcons (zop2 feq (zapp fminL (ret priceshere4)) (zapp fmaxL (ret priceshere4))) (ret [])))))) fun due5 =>
  (zseq (zifS (znot (zapp (fun x => lft (m_w_alike_2 x)) (zpair (zlist (zcons (zapp (fun x => lft (m_Ladder_bears_up x)) (ret p.2.1)) (zcons (zapp (fun x => lft (m_Ladder_bears_down x)) (ret p.2.1)) (zcons (zapp (fun x => lft (m_Ladder_is_plain x)) (ret p.2.1)) (ret []))))) (ret due5))))
    (zrt (ret false))
    (znx ())) fun _ =>
  (zrt (zapp m_w_else_right (zpair (ret p.1) (zpair (ret p.2.1) (zpair (ret p.2.2) (ret placeshere1)))))))))))
noncomputable def m_w_right (p : (Unit × XLadder × (Int × (List Int) × (List Int) × (List Int)))) : M Bag Bool := zbody (b_w_right p)
theorem f_w_right {G : Gx} {D : Cl} (T : Txt G D) {f : Addr} {fd : FuncData} (F : Fun G.K "_law_right" "_law_right" t_w_right f fd) : FnG true G.P G.w G.K G.mg G.base 10 f fd ["_law_bag_here", "_law_ladder", "_law_plan"] (spZ G (fun q : Addr × Addr => bagE q.1 q.2) (fun (q : Addr × Addr) (p : (Unit × XLadder × (Int × (List Int) × (List Int) × (List Int)))) => [(rRef q.1).pr p.1, (rLadder D).pr p.2.1, (rT4 rInt (rLst rInt) (rLst rInt) (rLst rInt)).pr p.2.2]) m_w_right rBl) :=
  fn_ok (g := true) (k := 9) (Γn := fun _ _ _ => []) F sc_w_right (fun _ _ => rfl) (fun _ => rfl) (.inl fun _ _ => rfl) fun q p W =>
  show ZB G k_w_right _ W _ [.st ((rRef q.1).pr p.1), .st ((rLadder D).pr p.2.1), .st ((rT4 rInt (rLst rInt) (rLst rInt) (rLst rInt)).pr p.2.2), .no, .no, .no, .no] _ (b_w_right p) _ from
  (zb_cons (zs_set s_w_right_3 (z_call (q := q) (at_w_places T) rfl (by decide) (by decide) (by exact rfl) (za_cons (z_var n_w_right_0) (za_one (z_var n_w_right_2)))) sub_nil) fun placeshere1 =>
  (zb_cons (zs_if (Γn := fun _ : Unit => [.st ((rRef q.1).pr p.1), .st ((rLadder D).pr p.2.1), .st ((rT4 rInt (rLst rInt) (rLst rInt) (rLst rInt)).pr p.2.2), .st ((rLst rInt).pr placeshere1), .no, .no, .no]) (zt_not (zt_val (z_callP (q := ()) (at_w_alike T) (by decide) (by decide) (by exact rfl) (za_cons (z_lc (Lc.mk (own := [("_law_d", 6)]) (blk_of rfl (by decide +kernel)) (zi_list (z_var n_w_right_3)) (zg_name (ns_of (i := 6) (by decide +kernel)) (by decide)) (fun e2 => zts_nil) (fun e2 => (z_methP (A := (fun y => [rInt.pr y])) (at_Ladder_rung T) T.cl_Ladder (ins_at fun _ => rfl) (by decide) (by decide) (z_var (nm_of (i := 1) (by decide +kernel))) (za_one (z_var (nm_of (i := 6) (by decide +kernel)))))) (lc_no ⟨rfl, trivial⟩) (fun _ _ => rfl))) (za_one (z_lc (Lc.mk (own := [("_law_d", 6)]) (blk_of rfl (by decide +kernel)) (zi_list (z_var n_w_right_3)) (zg_name (ns_of (i := 6) (by decide +kernel)) (by decide)) (fun e3 => zts_nil) (fun e3 => (z_callP (q := ()) (at_w_rung T) (by decide) (by decide) (by exact rfl) (za_cons (z_var (nm_of (i := 2) (by decide +kernel))) (za_one (z_var (nm_of (i := 6) (by decide +kernel))))))) (lc_no ⟨rfl, trivial⟩) (fun _ _ => rfl))))))))
    (zb_one (zs_ret z_bl sub_nil))
    (zb_nil (SubL.sub (.keep (.keep (.keep (.keep (.keep (.keep (.keep SubL.nil))))))))) sub_nil) fun _ =>
  (zb_cons (zs_set s_w_right_4 (z_catL (z_catL (z_at t4_1 (z_var n_w_right_2)) (z_at t4_2 (z_var n_w_right_2))) (z_at t4_3 (z_var n_w_right_2))) sub_nil) fun priceshere4 =>
  (zb_cons (zs_set s_w_right_5 (z_list (zl_cons (z_gt (z_maxL (blt_of (u := .builtin "max") T.b_max (by decide +kernel)) (z_at t4_3 (z_var n_w_right_2))) z_int) (zl_cons (z_gt (z_maxL (blt_of (u := .builtin "max") T.b_max (by decide +kernel)) (z_at t4_2 (z_var n_w_right_2))) z_int) (zl_cons (z_eq scI (z_minL (blt_of (u := .builtin "min") T.b_min (by decide +kernel)) (z_var n_w_right_4)) (z_maxL (blt_of (u := .builtin "max") T.b_max (by decide +kernel)) (z_var n_w_right_4))) zl_nil)))) sub_nil) fun due5 =>
  (zb_cons (zs_if (Γn := fun _ : Unit => [.st ((rRef q.1).pr p.1), .st ((rLadder D).pr p.2.1), .st ((rT4 rInt (rLst rInt) (rLst rInt) (rLst rInt)).pr p.2.2), .st ((rLst rInt).pr placeshere1), .st ((rLst rInt).pr priceshere4), .st ((rLst rBl).pr due5), .no]) (zt_not (zt_val (z_callP (q := ()) (at_w_alike_2 T) (by decide) (by decide) (by exact rfl) (za_cons (z_list (zl_cons (z_methP0 (at_Ladder_bears_up T) T.cl_Ladder (ins_at fun _ => rfl) (by decide) (by decide) (z_var n_w_right_1)) (zl_cons (z_methP0 (at_Ladder_bears_down T) T.cl_Ladder (ins_at fun _ => rfl) (by decide) (by decide) (z_var n_w_right_1)) (zl_cons (z_methP0 (at_Ladder_is_plain T) T.cl_Ladder (ins_at fun _ => rfl) (by decide) (by decide) (z_var n_w_right_1)) zl_nil)))) (za_one (z_var n_w_right_5))))))
    (zb_one (zs_ret z_bl sub_nil))
    (zb_nil (SubL.sub (.keep (.keep (.keep (.keep (.keep (.keep (.keep SubL.nil))))))))) sub_nil) fun _ =>
  (zb_one (zs_ret (z_call (q := q) (at_w_else_right T) rfl (by decide) (by decide) (by exact rfl) (za_cons (z_var n_w_right_0) (za_cons (z_var n_w_right_1) (za_cons (z_var n_w_right_2) (za_one (z_var n_w_right_3)))))) sub_nil)))))))
theorem at_w_right {G : Gx} {D : Cl} (T : Txt G D) : FnAt true G "_law_right" 10 ["_law_bag_here", "_law_ladder", "_law_plan"] (spZ G (fun q : Addr × Addr => bagE q.1 q.2) (fun (q : Addr × Addr) (p : (Unit × XLadder × (Int × (List Int) × (List Int) × (List Int)))) => [(rRef q.1).pr p.1, (rLadder D).pr p.2.1, (rT4 rInt (rLst rInt) (rLst rInt) (rLst rInt)).pr p.2.2]) m_w_right rBl) :=
  let ⟨f, fd, h1, h2, h3, h4⟩ := T.d_w_right; ⟨f, fd, h1, h2, h3, f_w_right T h4⟩

def k_plain : Sc := ⟨["price"], defScope t_plain, 6, true, fun _ => true, false⟩
theorem sc_plain : FnScope ["price"] ["price"] (defScope t_plain) := ⟨rfl, rfl, rfl, by decide +kernel, rfl, by decide +kernel, by decide +kernel⟩
theorem n_plain_0 : Nm k_plain 0 "price" := nm_of (by decide +kernel)
theorem s_plain_0 : Ns k_plain 0 "price" := ns_of (by decide +kernel)
noncomputable def b_plain (p : Int) : M Unit (Fl Unit Empty XLadder) :=
  (zseq (zifS (znot (zapp (fun x => lft (m_is_price x)) (ret p)))
    (zraise "Wrong" "at" V.int (ret (0 : Int)))
    (znx ())) fun _ =>
  (zrt (bnd (zpair (zlist (zcons (ret p) (ret []))) (zpair (zlist ((ret []) : M _ (List Int))) (zlist (zcons (ret p) (ret []))))) fun y => lft (m_Ladder_init (y.1, y.2.1, y.2.2, (0 : Int))))))
noncomputable def m_plain (p : Int) : M Unit XLadder := zbody (b_plain p)
theorem f_plain {G : Gx} {D : Cl} (T : Txt G D) {f : Addr} {fd : FuncData} (F : Fun G.K "plain" "plain" t_plain f fd) : FnG false G.P G.w G.K G.mg G.base 7 f fd ["price"] (spZ G (fun _ : Unit => noE) (fun (q : Unit) (p : Int) => [rInt.pr p]) m_plain (rLadder D)) :=
  fn_ok (g := false) (k := 6) (Γn := fun _ _ _ => []) F sc_plain (fun _ _ => rfl) (fun _ => rfl) (.inl fun _ _ => rfl) fun q p W =>
  show ZB G k_plain _ W _ [.st (rInt.pr p)] _ (b_plain p) _ from
  (zb_cons (zs_if (Γn := fun _ : Unit => [.st (rInt.pr p)]) (zt_not (zt_val (z_callP (q := ()) (at_is_price T) (by decide) (by decide) (by exact rfl) (za_one (z_var n_plain_0)))))
    (zb_one (zs_raise1 (x_Wrong T) T.xf_Wrong (by decide) rfl scI z_int sub_nil))
    (zb_nil (SubL.sub (.keep SubL.nil))) sub_nil) fun _ =>
  (zb_one (zs_ret (z_obj (fs_Ladder D) (zf_makeK0 (f := m_Ladder_init) (g := fun (y : ((List Int) × (List Int) × (List Int))) => (y.1, y.2.1, y.2.2, (0 : Int))) (mk_Ladder_init_0 T) T.g_Ladder (by decide) (by decide) rfl (by exact fun _ => rfl) (by exact gw3) (za_cons (z_list (zl_cons (z_var n_plain_0) zl_nil)) (za_cons (z_list zl_nil) (za_one (z_list (zl_cons (z_var n_plain_0) zl_nil))))))) sub_nil)))
theorem at_plain {G : Gx} {D : Cl} (T : Txt G D) : FnAt false G "plain" 7 ["price"] (spZ G (fun _ : Unit => noE) (fun (q : Unit) (p : Int) => [rInt.pr p]) m_plain (rLadder D)) :=
  let ⟨f, fd, h1, h2, h3, h4⟩ := T.d_plain; ⟨f, fd, h1, h2, h3, f_plain T h4⟩

def k_law : Sc := ⟨["_law_script", "_law_bag_here", "_law_made_here", "_law_k", "_law_price", "_law_plan", "_law_handed", "_law_ladder", "_law_one"], defScope t_law, 10, true, fun _ => true, true⟩
theorem sc_law : FnScope ["_law_script", "_law_bag_here", "_law_made_here", "_law_k", "_law_price", "_law_plan", "_law_handed", "_law_ladder", "_law_one"] ["_law_script"] (defScope t_law) := ⟨rfl, rfl, rfl, by decide +kernel, rfl, by decide +kernel, by decide +kernel⟩
theorem n_law_0 : Nm k_law 0 "_law_script" := nm_of (by decide +kernel)
theorem s_law_0 : Ns k_law 0 "_law_script" := ns_of (by decide +kernel)
theorem n_law_1 : Nm k_law 1 "_law_bag_here" := nm_of (by decide +kernel)
theorem s_law_1 : Ns k_law 1 "_law_bag_here" := ns_of (by decide +kernel)
theorem n_law_2 : Nm k_law 2 "_law_made_here" := nm_of (by decide +kernel)
theorem s_law_2 : Ns k_law 2 "_law_made_here" := ns_of (by decide +kernel)
theorem n_law_3 : Nm k_law 3 "_law_k" := nm_of (by decide +kernel)
theorem s_law_3 : Ns k_law 3 "_law_k" := ns_of (by decide +kernel)
theorem n_law_4 : Nm k_law 4 "_law_price" := nm_of (by decide +kernel)
theorem s_law_4 : Ns k_law 4 "_law_price" := ns_of (by decide +kernel)
theorem n_law_5 : Nm k_law 5 "_law_plan" := nm_of (by decide +kernel)
theorem s_law_5 : Ns k_law 5 "_law_plan" := ns_of (by decide +kernel)
theorem n_law_6 : Nm k_law 6 "_law_handed" := nm_of (by decide +kernel)
theorem s_law_6 : Ns k_law 6 "_law_handed" := ns_of (by decide +kernel)
theorem n_law_7 : Nm k_law 7 "_law_ladder" := nm_of (by decide +kernel)
theorem s_law_7 : Ns k_law 7 "_law_ladder" := ns_of (by decide +kernel)
theorem n_law_8 : Nm k_law 8 "_law_one" := nm_of (by decide +kernel)
theorem s_law_8 : Ns k_law 8 "_law_one" := ns_of (by decide +kernel)
noncomputable def r_law (p : List Int) : M Bag (Fl Unit Empty Bool) :=
  (zseq (zset (zlist ((ret []) : M _ (List (XLadder × (Int × (List Int) × (List Int) × (List Int))))))) fun madehere1 =>
  (zseq (zforI (zapp frA1 (ret (3 : Int))) madehere1 fun c2 x3 =>
    (zseq (zset (zapp m_w_any_plan (ret ()))) fun plan4 =>
    (zseq (zifS (zop2 feq (zapp m_w_take (zpair (ret ()) (ret (4 : Int)))) (ret (0 : Int)))
      (zseq (zset (zapp m_w_one_price (zpair (ret ()) (ret plan4)))) fun plan6 =>
      (znx plan6))
      (znx plan4)) fun j5 =>
    (zseq (zset (zlist (zcons (zapp ret (zget (fun x => x.2.2.1) (ret j5))) (zcons (zapp ret (zget (fun x => x.2.1) (ret j5))) (zcons (zapp ret (zget (fun x => x.2.2.2) (ret j5))) (ret [])))))) fun handed7 =>
    (zseq (zset (zapp (fun x => lft (m_w_made x)) (zpair (ret j5) (ret handed7)))) fun ladder9 =>
    (zseq (zifS (zop2 (dne (datL (datL datI))) (ret handed7) (zlist (zcons (zget (fun x => x.2.2.1) (ret j5)) (zcons (zget (fun x => x.2.1) (ret j5)) (zcons (zget (fun x => x.2.2.2) (ret j5)) (ret []))))))
      (zrt (ret false))
      (znx ())) fun _ =>
    (zseq (zforI (ret handed7) () fun _ xs11 =>
      (zseq (bnd (ret (7 : Int)) fun v => chk (List.length xs11 < sizeLine) (ret (.nx v))) fun a13 =>
      (zseq (znx ()) fun _ =>
      (znx ())))) fun _ =>
    (zseq (bnd (zpair (ret ladder9) (ret j5)) fun v => chk (List.length c2 < sizeLine) (ret (.nx v))) fun a14 =>
    (znx (c2 ++ [a14])))))))))) fun c2 =>
  (zseq (zforI (zop2 lcat (ret c2) (zapp frev (ret c2))) () fun _ x15 =>
    (zseq (zifS (znot (zapp m_w_right (zpair (ret ()) (zpair (ret x15.1) (ret x15.2)))))
      (zrt (ret false))
      (znx ())) fun _ =>
    (znx ()))) fun _ =>
  (zseq (zset (zop2 ixat (zapp m_w_prices (zpair (ret ()) (ret (1 : Int)))) (ret (0 : Int)))) fun price16 =>
  (zrt (zapp m_w_right (zpair (ret ()) (zpair (zapp (fun x => lft (m_plain x)) (ret price16)) (zpair (ret (0 : Int)) (zpair (zlist ((ret []) : M _ (List Int))) (zpair (zlist (zcons (ret price16) (ret []))) (zlist (zcons (ret price16) (ret []))))))))))))))
noncomputable def m_law (p : List Int) : M Unit Bool := zbody (zbag w_cells p (r_law p))
theorem f_law {G : Gx} {D : Cl} (T : Txt G D) {f : Addr} {fd : FuncData} (F : Fun G.K "law" "law" t_law f fd) : FnG true G.P G.w G.K G.mg G.base 11 f fd ["_law_script"] (spZ G (fun _ : Unit => noE) (fun (q : Unit) (p : List Int) => [(rSc G.K rInt).pr p]) m_law rBl) :=
  fn_ok (g := true) (k := 10) (mb := fun p => zbag w_cells p (r_law p)) (Γn := fun _ _ _ => []) F sc_law (fun _ _ => rfl) (fun _ => rfl) (.inl fun _ _ => rfl) fun q p W =>
  zb_bag (c := k_law) (at_w_bag T) (by decide) (by decide) rfl n_law_0 rfl s_law_1 fun q1 q2 =>
  show ZB G k_law _ W _ [.st ((rSc G.K rInt).pr p), .st ((rRef q1).pr ()), .no, .no, .no, .no, .no, .no, .no] _ (r_law p) _ from
  (zb_cons (zs_setF s_law_2 (zf_list zl_nil) sub_nil) fun madehere1 =>
  (zb_cons (zs_for (vs := [3]) (Γh := fun c2 : (List (XLadder × (Int × (List Int) × (List Int) × (List Int)))) => [.st ((rSc G.K rInt).pr p), .st ((rRef q1).pr ()), .ow (ownL (rT2 (rLadder D) (rT4 rInt (rLst rInt) (rLst rInt) (rLst rInt))) c2), .no, .no, .no, .no, .no, .no]) (zi_r1 (blt_of (u := .type "range") T.b_range (by decide +kernel)) z_int) (SubL.sub (.keep (.keep (.keep (.keep (.keep (.keep (.keep (.keep (.keep SubL.nil)))))))))) (fun c2 => (zg_name s_law_3 (by decide))) (fun c2 x3 =>
    (zb_cons (zs_set s_law_5 (z_call (q := (q1, q2)) (at_w_any_plan T) rfl (by decide) (by decide) (by exact rfl) (za_one (z_var n_law_1))) sub_nil) fun plan4 =>
    (zb_cons (zs_if (Γn := fun j5 : (Int × (List Int) × (List Int) × (List Int)) => [.st ((rSc G.K rInt).pr p), .st ((rRef q1).pr ()), .ow (ownL (rT2 (rLadder D) (rT4 rInt (rLst rInt) (rLst rInt) (rLst rInt))) c2), .st (rInt.pr x3), .no, .st ((rT4 rInt (rLst rInt) (rLst rInt) (rLst rInt)).pr j5), .no, .no, .no]) (zt_eq scI (z_call (q := (q1, q2)) (at_w_take T) rfl (by decide) (by decide) (by exact rfl) (za_cons (z_var n_law_1) (za_one z_int))) z_int)
      (zb_cons (zs_set s_law_5 (z_call (q := (q1, q2)) (at_w_one_price T) rfl (by decide) (by decide) (by exact rfl) (za_cons (z_var n_law_1) (za_one (z_var n_law_5)))) sub_nil) fun plan6 =>
      (zb_nil (SubL.sub (.keep (.keep (.keep (.keep (.keep (.keep (.keep (.keep (.keep SubL.nil))))))))))))
      (zb_nil (SubL.sub (.keep (.keep (.keep (.keep (.keep (.keep (.keep (.keep (.keep SubL.nil))))))))))) sub_nil) fun j5 =>
    (zb_cons (zs_setF s_law_6 (zf_LX (zal_cons (zf_listL (blt_of (u := .type "list") T.b_list (by decide +kernel)) (z_at t4_2 (z_var n_law_5))) (zal_cons (zf_listL (blt_of (u := .type "list") T.b_list (by decide +kernel)) (z_at t4_1 (z_var n_law_5))) (zal_cons (zf_listL (blt_of (u := .type "list") T.b_list (by decide +kernel)) (z_at t4_3 (z_var n_law_5))) zal_nil)))) sub_nil) fun handed7 =>
    (zb_open (i := 6) rfl fun rs8 =>
    (zb_cons (zs_set s_law_7 (z_lendX (.st (.st (.ow view_L (.st (.no (.st (.ow view_LL (.no (.no .nil))))))))) fun L10 => (z_callL (at_w_made_2 T) (by decide) (by decide) (by exact rfl) (za_cons (z_var n_law_5) (za_one (z_var n_law_6))))) sub_nil) fun ladder9 =>
    (zb_cons (zs_if (Γn := fun _ : Unit => [.st ((rSc G.K rInt).pr p), .st ((rRef q1).pr ()), .ow (ownL (rT2 (rLadder D) (rT4 rInt (rLst rInt) (rLst rInt) (rLst rInt))) c2), .st (rInt.pr x3), .no, .st ((rT4 rInt (rLst rInt) (rLst rInt) (rLst rInt)).pr j5), .ow (ownLL rInt rs8 handed7), .st ((rLadder D).pr ladder9), .no]) (zt_lend (.st (.st (.ow one_L (.st (.no (.st (.ow one_LL (.st (.no .nil))))))))) free_bag (zt_dne (datL (datL datI)) (z_var n_law_6) (z_list (zl_cons (z_at t4_2 (z_var n_law_5)) (zl_cons (z_at t4_1 (z_var n_law_5)) (zl_cons (z_at t4_3 (z_var n_law_5)) zl_nil))))))
      (zb_one (zs_ret z_bl sub_nil))
      (zb_nil (SubL.sub (.keep (.keep (.keep (.keep (.keep (.keep (.keep (.keep (.keep SubL.nil))))))))))) sub_nil) fun _ =>
    (zb_cons (zs_forLL (i := 6) (j := 8) (xss := handed7) (f := fun xs11 => (zseq (bnd (ret (7 : Int)) fun v => chk (List.length xs11 < sizeLine) (ret (.nx v))) fun a13 =>
      (zseq (znx ()) fun _ =>
      (znx ())))) n_law_6 rfl s_law_8 (by decide) (fun P12 xs11 =>
      (zb_cons (zs_app n_law_8 rfl z_int sub_nil) fun a13 =>
      (zb_cons (zs_rev n_law_8 rfl) fun _ =>
      (zb_nil (SubL.sub (.keep (.keep (.keep (.keep (.keep (.keep (.keep (.keep (.drop SubL.nil))))))))))))))) fun _ =>
    (zb_cons (zs_app n_law_2 rfl (z_tup2 (za_cons (z_var n_law_7) (za_one (z_var n_law_5)))) sub_nil) fun a14 =>
    (zb_nil (SubL.sub (.keep (.keep (.keep (.drop (.keep (.drop (.keep (.drop (.keep SubL.nil)))))))))))))))))))) sub_nil) fun c2 =>
  (zb_wk (sub_frz (i := 2) one_L) <| zb_cons (zs_for (vs := [7, 5]) (Γh := fun _ : Unit => [.st ((rSc G.K rInt).pr p), .st ((rRef q1).pr ()), .st ((rLst (rT2 (rLadder D) (rT4 rInt (rLst rInt) (rLst rInt) (rLst rInt)))).pr c2), .no, .no, .no, .no, .no, .no]) (zi_list (z_catL (z_var n_law_2) (z_revL (z_var n_law_2)))) (SubL.sub (.keep (.keep (.keep (.keep (.keep (.keep (.keep (.keep (.keep SubL.nil)))))))))) (fun _ => (zg_tup to2 (zgs_cons (zg_name s_law_7 (by decide)) fun _ => (zgs_one (zg_name s_law_5 (by decide)))))) (fun _ x15 =>
    (zb_cons (zs_if (Γn := fun _ : Unit => [.st ((rSc G.K rInt).pr p), .st ((rRef q1).pr ()), .st ((rLst (rT2 (rLadder D) (rT4 rInt (rLst rInt) (rLst rInt) (rLst rInt)))).pr c2), .no, .no, .st ((rT4 rInt (rLst rInt) (rLst rInt) (rLst rInt)).pr x15.2), .no, .st ((rLadder D).pr x15.1), .no]) (zt_not (zt_val (z_call (q := (q1, q2)) (at_w_right T) rfl (by decide) (by decide) (by exact rfl) (za_cons (z_var n_law_1) (za_cons (z_var n_law_7) (za_one (z_var n_law_5)))))))
      (zb_one (zs_ret z_bl sub_nil))
      (zb_nil (SubL.sub (.keep (.keep (.keep (.keep (.keep (.keep (.keep (.keep (.keep SubL.nil))))))))))) sub_nil) fun _ =>
    (zb_nil (SubL.sub (.keep (.keep (.keep (.keep (.keep (.drop (.keep (.drop (.keep SubL.nil))))))))))))) sub_nil) fun _ =>
  (zb_cons (zs_set s_law_4 (z_ixL (z_call (q := (q1, q2)) (at_w_prices T) rfl (by decide) (by decide) (by exact rfl) (za_cons (z_var n_law_1) (za_one z_int))) z_int) sub_nil) fun price16 =>
  (zb_one (zs_ret (z_call (q := (q1, q2)) (at_w_right T) rfl (by decide) (by decide) (by exact rfl) (za_cons (z_var n_law_1) (za_cons (z_callP (q := ()) (at_plain T) (by decide) (by decide) (by exact rfl) (za_one (z_var n_law_4))) (za_one (z_tup4 (za_cons z_int (za_cons (z_list zl_nil) (za_cons (z_list (zl_cons (z_var n_law_4) zl_nil)) (za_one (z_list (zl_cons (z_var n_law_4) zl_nil))))))))))) sub_nil))))))
end Zk

namespace Zk
open PySem L2
theorem ok_cellat {n : M Bag Int} : Ok Bok (zifS (zop2 ilt (bget Bag.pos) (zapp blen (ret ()))) (zseq (zset (bcell (ret ()) (bget Bag.pos))) fun c => znx c) (znx (0 : Int)) : M Bag (Fl Int Empty Int)) (fun o => match o with | .nx v => 0 ≤ v | _ => False) := fun s hs => by
  obtain ⟨h1, h2, h3, h4⟩ := id hs
  by_cases hp : s.pos < s.cells.length
  · have e : atI s.cells s.pos = some (s.cells[s.pos.toNat]'(by omega)) := atI_nat h3 (by omega)
    refine ⟨.nx _, s, ?_, hs, h4 _ (List.getElem_mem (by omega : s.pos.toNat < s.cells.length))⟩
    simp only [zifS, zop2, bnd, bget, zapp, ret, blen, ilt, hp, decide_true, if_true, zseq, zset, bcell, e, znx]
  · refine ⟨.nx 0, s, ?_, hs, Int.le_refl 0⟩
    simp only [zifS, zop2, bnd, bget, zapp, ret, blen, ilt, hp, decide_false, znx]
    rfl
theorem ok_take {n : Int} (h1 : 1 ≤ n) (h2 : n < 2 ^ 9000) : Ok Bok (m_w_take ((), n)) (fun v => 0 ≤ v ∧ v < n) := by
  unfold m_w_take b_w_take
  refine ok_body ?_
  refine oks_seq (N := fun _ => True) (oks_if (P := fun _ => True) (ok_op2 (P1 := fun _ => True) (P2 := fun _ => True) (ok_bget fun _ _ => trivial) (ok_ret trivial) fun a b _ _ => ok_ret trivial) (fun _ => ?_) (fun _ => oks_nx trivial)) fun _ _ => ?_
  · refine oks_seq (N := fun v => v = 0) (oks_set (ok_ret rfl)) fun c hc => ?_
    subst hc
    refine oks_seq (N := fun v => 0 ≤ v) (fun s hs => ?_) fun j hj => ?_
    · obtain ⟨o, s', e, i, p⟩ := ok_cellat (n := ret 0) s hs
      cases o with
      | nx a => exact ⟨_, _, e, i, p⟩
      | rt a => exact p.elim
      | bk a => exact p.elim
      | ct a => exact p.elim
    refine oks_seq (oks_bput (P := fun v => 0 ≤ v) (ok_op2 (P1 := fun v => 0 ≤ v) (P2 := fun v => v = 1) (ok_bget fun s hs => hs.2.2.1) (ok_ret rfl) fun a b ha hb => ok_ret (by omega)) fun s v hs hv => ⟨hs.1, hs.2.1, hv, hs.2.2.2⟩) fun _ _ => ?_
    refine oks_seq (N := fun _ => True) (oks_if (P := fun _ => True) (ok_ret trivial) (fun _ => ?_) (fun _ => oks_nx trivial)) fun _ _ => ?_
    · exact oks_seq (oks_bput (P := fun v => 0 ≤ v) (ok_ret hj) fun s v hs hv => ⟨hv, hs.2.1, hs.2.2.1, hs.2.2.2⟩) fun _ _ => oks_nx trivial
    refine oks_seq (oks_bput (P := fun v => 0 ≤ v) ?_ fun s v hs hv => ⟨hs.1, hv, hs.2.2.1, hs.2.2.2⟩) fun _ _ => oks_nx trivial
    refine ok_op2 (P1 := fun v => 0 ≤ v) (P2 := fun v => v = 2147483647) ?_ (ok_ret rfl) fun a b ha hb => ?_
    · refine ok_op2 (P1 := fun v => 0 ≤ v) (P2 := fun v => 0 ≤ v) (ok_op2 (P1 := fun v => 0 ≤ v) (P2 := fun v => 0 ≤ v) ?_ ?_ fun a b ha hb => ok_ret (by omega)) ?_ fun a b ha hb => ok_ret (by omega)
      · refine ok_op2 (P1 := fun v => 0 ≤ v) (P2 := fun v => v = 48271) (ok_bget fun s hs => hs.2.1) (ok_ret rfl) fun a b ha hb => ?_
        subst hb; rw [imul_eq (mul_small (by omega))]; exact ok_ret (by omega)
      · rw [zop2_ret, imod_eq (by omega)]; exact ok_ret (by omega)
      · refine ok_op2 (P1 := fun v => v = 7919) (P2 := fun v => 0 ≤ v) (ok_ret rfl) (ok_bget fun s hs => hs.2.2.1) fun a b ha hb => ?_
        subst ha; rw [imul_eq (mul_smallL (by omega))]; exact ok_ret (by omega)
    · subst hb; rw [imod_eq (by omega)]; exact ok_ret (by omega)
  refine oks_seq (N := fun _ => True) (oks_if (P := fun _ => True) (ok_op2 (P1 := fun _ => True) (P2 := fun _ => True) (ok_bget fun _ _ => trivial) (ok_ret trivial) fun a b _ _ => ok_ret trivial) (fun _ => ?_) (fun _ => oks_nx trivial)) fun _ _ => ?_
  · refine oks_seq (N := fun v => 0 ≤ v ∧ v < n) (oks_set (ok_op2 (P1 := fun v => 0 ≤ v) (P2 := fun v => v = n) (ok_bget fun s hs => hs.1) (ok_ret rfl) fun a b ha hb => ?_)) fun v hv => ?_
    · subst hb; rw [imod_eq (by omega)]; exact ok_ret ⟨Int.emod_nonneg _ (by omega), Int.emod_lt_of_pos _ (by omega)⟩
    · refine oks_seq (oks_bput (P := fun v => 0 ≤ v) (ok_op2 (P1 := fun v => 0 ≤ v) (P2 := fun v => v = n) (ok_bget fun s hs => hs.1) (ok_ret rfl) fun a b ha hb => ?_) fun s v hs hv => ⟨hv, hs.2.1, hs.2.2.1, hs.2.2.2⟩) fun _ _ => oks_rt (ok_ret hv)
      subst hb; rw [idiv_eq (div_ok (by omega) h2)]; exact ok_ret (Int.ediv_nonneg ha (by omega))
  refine oks_seq (N := fun v => 0 ≤ v ∧ v < 1000000007) (oks_set (ok_op2 (P1 := fun v => 0 ≤ v) (P2 := fun v => v = 1000000007) ?_ (ok_ret rfl) fun a b ha hb => ?_)) fun f hf => ?_
  · refine ok_op2 (P1 := fun v => 0 ≤ v) (P2 := fun v => v = 39373) (ok_op2 (P1 := fun v => 0 ≤ v) (P2 := fun v => v = 1) (ok_bget fun s hs => hs.2.1) (ok_ret rfl) fun a b ha hb => ok_ret (by omega)) (ok_ret rfl) fun a b ha hb => ?_
    subst hb; rw [imul_eq (mul_small (by omega))]; exact ok_ret (by omega)
  · subst hb; rw [imod_eq (by omega)]; exact ok_ret (by omega)
  have e1 : (zop2 imod (zop2 imul (zop2 imod (zop2 imul (ret f) (ret f)) (ret (998244353 : Int))) (ret (30011 : Int))) (ret (998244353 : Int)) : M Bag Int) = ret (f * f % 998244353 * 30011 % 998244353) := by
    rw [zop2_ret, imul_eq (mul_small (by omega)), zop2_ret, imod_eq (by omega), zop2_ret, imul_eq (mul_small (by omega)), zop2_ret, imod_eq (by omega)]
  rw [e1, zset_ret, zseq_nx]
  have hs : 0 ≤ f * f % 998244353 * 30011 % 998244353 ∧ f * f % 998244353 * 30011 % 998244353 < 998244353 := by omega
  generalize f * f % 998244353 * 30011 % 998244353 = g at hs
  rw [zop2_ret, igt_eq, zifS_ret]
  split
  · rw [zop2_ret, imul_eq (mul_small (by omega)), zop2_ret, iadd_eq, zop2_ret, imod_eq (by omega), zrt_ret, zseq_rt]
    exact oks_rt (ok_ret ⟨Int.emod_nonneg _ (by omega), Int.emod_lt_of_pos _ (by omega)⟩)
  · rw [znx_ret, zseq_nx, zop2_ret, idiv_eq (div_ok (by omega) (by omega)), zop2_ret, imod_eq (by omega), zrt_ret]
    exact oks_rt (ok_ret ⟨Int.emod_nonneg _ (by omega), Int.emod_lt_of_pos _ (by omega)⟩)
theorem ok_tk {u : Unit} {n : Int} (h1 : 1 ≤ n) (h2 : n < 2 ^ 9000) : Ok Bok (m_w_take (u, n)) (fun v => 0 ≤ v ∧ v < n) := ok_take h1 h2
end Zk

namespace Zk
open PySem L2
/-! ### ladders, plainly -/
abbrev Plan := Int × List Int × List Int × List Int
def PriceOk (x : Int) : Prop := 0 ≤ x ∧ x ≤ 100000000000000000000
structure Valid (p : Plan) : Prop where
  b : -100 ≤ p.1 ∧ p.1 ≤ 100
  r : p.2.1.length ≤ 40
  l : 1 ≤ p.2.2.1.length ∧ p.2.2.1.length ≤ 4
  h : 1 ≤ p.2.2.2.length ∧ p.2.2.2.length ≤ 4
  rp : ∀ x ∈ p.2.1, PriceOk x
  lp : ∀ x ∈ p.2.2.1, PriceOk x
  hp : ∀ x ∈ p.2.2.2, PriceOk x
/-- a plan as it may be turned -/
structure Wd (p : Plan) : Prop where
  b : -200 ≤ p.1 ∧ p.1 + p.2.1.length ≤ 200
  r : p.2.1.length ≤ 40
  l : 1 ≤ p.2.2.1.length ∧ p.2.2.1.length ≤ 4
  h : 1 ≤ p.2.2.2.length ∧ p.2.2.2.length ≤ 4
  rp : ∀ x ∈ p.2.1, PriceOk x
  lp : ∀ x ∈ p.2.2.1, PriceOk x
  hp : ∀ x ∈ p.2.2.2, PriceOk x
theorem Valid.w {p : Plan} (v : Valid p) : Wd p := ⟨by have := v.b; have := v.r; omega, v.r, v.l, v.h, v.rp, v.lp, v.hp⟩
def at0 (xs : List Int) (i : Int) : Int := xs.getD i.toNat 0
theorem at0_ok {xs : List Int} {i : Int} (h0 : 0 ≤ i) (h : i < xs.length) : (ixat xs i : M Unit Int) = ret (at0 xs i) := by
  rw [ixat_nat h0 (by omega)]
  unfold at0
  rw [List.getD_eq_getElem?_getD, List.getElem?_eq_getElem (by omega)]; rfl
theorem at0_price {xs : List Int} {i : Int} (hp : ∀ x ∈ xs, PriceOk x) : PriceOk (at0 xs i) := by
  unfold at0
  rw [List.getD_eq_getElem?_getD]
  cases e : xs[i.toNat]? with
  | none => exact ⟨Int.le_refl 0, by decide⟩
  | some x => exact hp x (List.mem_of_getElem? e)
def rungF (p : Plan) (d : Int) : Int :=
  if d < p.1 then at0 p.2.2.1 ((p.1 - 1 - d) % p.2.2.1.length)
  else if d < p.1 + p.2.1.length then at0 p.2.1 (d - p.1)
  else at0 p.2.2.2 ((d - p.1 - p.2.1.length) % p.2.2.2.length)
theorem rung_priceW {p : Plan} (v : Wd p) (d : Int) : PriceOk (rungF p d) := by
  unfold rungF
  split
  · exact at0_price v.lp
  · split
    · exact at0_price v.rp
    · exact at0_price v.hp
theorem rung_price {p : Plan} (v : Valid p) (d : Int) : PriceOk (rungF p d) := rung_priceW v.w d
theorem rung_eqW {p : Plan} (v : Wd p) (d : Int) : m_w_rung (p, d) = ret (rungF p d) := by
  obtain ⟨hl, _⟩ := v.l
  obtain ⟨hh, _⟩ := v.h
  unfold m_w_rung b_w_rung rungF
  simp only [zset_ret, zseq_nx, zop2_ret, ilt_eq, zifS_ret, decide_eq_true_eq, zapp_ret, flen_eq, iadd_eq, isub_eq]
  by_cases h1 : d < p.1
  · rw [if_pos h1, if_pos h1, imod_eq (by omega), zop2_ret, at0_ok (Int.emod_nonneg _ (by omega)) (Int.emod_lt_of_pos _ (by omega))]; rfl
  · rw [if_neg h1, if_neg h1, znx_ret, zseq_nx]
    by_cases h2 : d < p.1 + p.2.1.length
    · rw [if_pos h2, if_pos h2, at0_ok (by omega) (by omega)]; rfl
    · rw [if_neg h2, if_neg h2, zseq_nx, imod_eq (by omega), zop2_ret, at0_ok (Int.emod_nonneg _ (by omega)) (Int.emod_lt_of_pos _ (by omega))]; rfl
theorem rung_eq {p : Plan} (v : Valid p) (d : Int) : m_w_rung (p, d) = ret (rungF p d) := rung_eqW v.w d
/-- the sums of a list's beginnings -/
def sumsF (xs : List Int) : List Int := (List.range (xs.length + 1)).map fun i => (xs.take i).sum
theorem sumsF_length (xs : List Int) : (sumsF xs).length = xs.length + 1 := by simp [sumsF]
theorem sumsF_get {xs : List Int} {i : Nat} (h : i ≤ xs.length) : (sumsF xs)[i]? = some (xs.take i).sum := by
  unfold sumsF
  rw [List.getElem?_map, List.getElem?_range (by omega)]; rfl
theorem sumsF_snoc (xs : List Int) (x : Int) : sumsF (xs ++ [x]) = sumsF xs ++ [xs.sum + x] := by
  unfold sumsF
  rw [List.length_append, List.length_singleton, List.range_succ, List.map_append, List.map_singleton]
  congr 1
  · refine List.map_congr_left fun i hi => ?_
    have : i ≤ xs.length := by simp at hi; omega
    rw [List.take_append_of_le_length this]
  · rw [List.take_of_length_le (by simp), List.sum_append]; simp
theorem sumsF_ne (xs : List Int) : sumsF xs ≠ [] := by
  intro e
  have := sumsF_length xs
  rw [e] at this; simp at this
theorem sumsF_last (xs : List Int) : (sumsF xs).getLast (sumsF_ne xs) = xs.sum := by
  have h := sumsF_get (xs := xs) (i := xs.length) (Nat.le_refl _)
  rw [List.take_length] at h
  rw [List.getLast_eq_getElem]
  have e : (sumsF xs).length - 1 = xs.length := by rw [sumsF_length]; omega
  have h2 := (List.getElem?_eq_some_iff.mp h).2
  rw [← h2]
  congr 1
theorem sums_loop {f : List Int → Int → M Unit (Fl (List Int) (List Int) (List Int))} (hf : ∀ pre x, pre.length < 1000 → f (sumsF pre) x = ret (.nx (sumsF (pre ++ [x])))) : ∀ (xs pre : List Int), pre.length + xs.length < 1000 → (zfor f (sumsF pre) xs : M Unit (Fl (List Int) Empty (List Int))) = ret (.nx (sumsF (pre ++ xs)))
  | [], pre, _ => by rw [List.append_nil]; rfl
  | x :: xs, pre, h => by
    simp only [List.length_cons] at h
    rw [zfor_cons_nx (hf pre x (by omega)), sums_loop hf xs (pre ++ [x]) (by simp; omega)]
    simp
theorem sums_eq {xs : List Int} (h : xs.length < 900) : m_sums_of xs = ret (sumsF xs) := by
  unfold m_sums_of b_sums_of
  rw [show zcons (ret 0) (ret []) = (ret [0] : M Unit (List Int)) from rfl, zlist_ret (by decide), zset_ret, zseq_nx, zforI_ret, show [(0 : Int)] = sumsF [] from rfl]
  rw [sums_loop (fun pre x hp => ?_) xs [] (by simp; omega)]
  · rfl
  · rw [show zop1 ineg (ret 1) = (ret (-1) : M Unit Int) from rfl, zop2_ret, ixat_last (sumsF_ne pre), sumsF_last, zop2_ret, iadd_eq, bnd_ret, chk_pos (by rw [sumsF_length]; exact Nat.lt_of_lt_of_le (by omega : pre.length + 1 < 1001) (by decide)), zseq_nx, znx_ret, sumsF_snoc]
/-- rungs that are repeated, k of them -/
def repF (xs : List Int) (k : Int) : Int := k / xs.length * xs.sum + (xs.take (k % xs.length).toNat).sum
theorem repF_zero (xs : List Int) : repF xs 0 = 0 := by simp [repF]
theorem take_step {xs : List Int} {r : Nat} (h : r < xs.length) : (xs.take (r + 1)).sum = (xs.take r).sum + at0 xs r := by
  rw [List.take_add_one, List.sum_append, List.getElem?_eq_getElem h]
  simp [at0, List.getD_eq_getElem?_getD, h]
theorem repF_step {xs : List Int} (hx : 1 ≤ xs.length) {k : Int} (hk : 0 ≤ k) : repF xs (k + 1) = repF xs k + at0 xs (k % xs.length) := by
  have hn : (0 : Int) < xs.length := by omega
  have m0 := Int.emod_nonneg k (Int.ne_of_gt hn)
  have m1 := Int.emod_lt_of_pos k hn
  have dm := Int.mul_ediv_add_emod k xs.length
  obtain ⟨r, hr⟩ := Int.eq_ofNat_of_zero_le m0
  unfold repF
  rw [hr] at m1 dm ⊢
  by_cases h : r + 1 < xs.length
  · have e1 : (k + 1) % (xs.length : Int) = ((r + 1 : Nat) : Int) := by
      rw [← dm, show (xs.length : Int) * (k / xs.length) + (r : Int) + 1 = ((r + 1 : Nat) : Int) + (xs.length : Int) * (k / xs.length) by push_cast; omega, Int.add_mul_emod_self_left, Int.emod_eq_of_lt (by omega) (by omega)]
    have e2 : (k + 1) / (xs.length : Int) = k / xs.length := by
      have := Int.mul_ediv_add_emod (k + 1) xs.length
      rw [e1] at this
      have h3 : (xs.length : Int) * ((k + 1) / xs.length) = (xs.length : Int) * (k / xs.length) := by push_cast at this; omega
      exact Int.eq_of_mul_eq_mul_left (Int.ne_of_gt hn) h3
    rw [e1, e2, show (((r + 1 : Nat) : Int)).toNat = r + 1 from rfl, show ((r : Nat) : Int).toNat = r from rfl, take_step (by omega)]; omega
  · have hr1 : r + 1 = xs.length := by omega
    have e1 : (k + 1) % (xs.length : Int) = 0 := by
      rw [← dm, show (xs.length : Int) * (k / xs.length) + (r : Int) + 1 = 0 + (xs.length : Int) * (k / xs.length + 1) by rw [Int.mul_add]; omega, Int.add_mul_emod_self_left]; rfl
    have e2 : (k + 1) / (xs.length : Int) = k / xs.length + 1 := by
      have := Int.mul_ediv_add_emod (k + 1) xs.length
      rw [e1] at this
      have h3 : (xs.length : Int) * ((k + 1) / xs.length) = (xs.length : Int) * (k / xs.length + 1) := by rw [Int.mul_add]; omega
      exact Int.eq_of_mul_eq_mul_left (Int.ne_of_gt hn) h3
    have e3 := take_step (xs := xs) (r := r) (by omega)
    rw [hr1, List.take_length] at e3
    rw [e1, e2, show ((r : Nat) : Int).toNat = r from rfl, Int.add_mul]
    simp only [Int.toNat_zero, List.take_zero, List.sum_nil]
    omega
def heightF (p : Plan) (d : Int) : Int :=
  if d - p.1 < 0 then 0 - repF p.2.2.1 (0 - (d - p.1))
  else if d - p.1 ≤ p.2.1.length then (p.2.1.take (d - p.1).toNat).sum
  else p.2.1.sum + repF p.2.2.2 (d - p.1 - p.2.1.length)
theorem height_stepW {p : Plan} (v : Wd p) (d : Int) : heightF p (d + 1) = heightF p d + rungF p d := by
  obtain ⟨hl, _⟩ := v.l
  obtain ⟨hh, _⟩ := v.h
  unfold heightF rungF
  by_cases h1 : d < p.1
  · rw [if_pos (by omega : d - p.1 < 0), if_pos h1]
    have st := repF_step (xs := p.2.2.1) hl (k := p.1 - 1 - d) (by omega)
    rw [show 0 - (d - p.1) = p.1 - 1 - d + 1 by omega, st]
    by_cases h2 : d + 1 < p.1
    · rw [if_pos (by omega), show 0 - (d + 1 - p.1) = p.1 - 1 - d by omega]; omega
    · rw [if_neg (by omega), if_pos (by omega), show d + 1 - p.1 = 0 by omega, show p.1 - 1 - d = 0 by omega, repF_zero]; simp; omega
  · rw [if_neg (by omega : ¬ d - p.1 < 0), if_neg h1, if_neg (by omega : ¬ d + 1 - p.1 < 0)]
    by_cases h2 : d < p.1 + p.2.1.length
    · rw [if_pos (by omega), if_pos (by omega), if_pos h2, show (d + 1 - p.1).toNat = (d - p.1).toNat + 1 by omega, take_step (by omega), show (((d - p.1).toNat : Nat) : Int) = d - p.1 by omega]
    · rw [if_neg (by omega : ¬ d + 1 - p.1 ≤ p.2.1.length), if_neg h2]
      have st := repF_step (xs := p.2.2.2) hh (k := d - p.1 - p.2.1.length) (by omega)
      rw [show d + 1 - p.1 - (p.2.1.length : Int) = d - p.1 - p.2.1.length + 1 by omega, st]
      by_cases h3 : d - p.1 ≤ p.2.1.length
      · rw [if_pos h3, show (d - p.1).toNat = p.2.1.length by omega, List.take_length, show d - p.1 - (p.2.1.length : Int) = 0 by omega, repF_zero]; simp
      · rw [if_neg h3]; omega
theorem height_step {p : Plan} (v : Valid p) (d : Int) : heightF p (d + 1) = heightF p d + rungF p d := height_stepW v.w d
theorem rng_succ (lo : Int) (n : Nat) : rng lo (n + 1) = rng lo n ++ [lo + n] := by
  unfold rng; rw [List.range_succ, List.map_append]; rfl
theorem height_sumW {p : Plan} (v : Wd p) (lo : Int) : ∀ n : Nat, ((rng lo n).map (rungF p)).sum = heightF p (lo + n) - heightF p lo
  | 0 => by simp [rng]
  | n + 1 => by
    rw [rng_succ, List.map_append, List.sum_append, height_sumW v lo n]
    have := height_stepW v (lo + n)
    simp only [List.map_singleton, List.sum_singleton]
    rw [show lo + ((n + 1 : Nat) : Int) = lo + n + 1 by push_cast; omega, this]; omega
theorem height_sum {p : Plan} (v : Valid p) (lo : Int) : ∀ n : Nat, ((rng lo n).map (rungF p)).sum = heightF p (lo + n) - heightF p lo := height_sumW v.w lo
theorem height_monoW {p : Plan} (v : Wd p) (lo : Int) : ∀ n : Nat, heightF p lo ≤ heightF p (lo + n)
  | 0 => by simp
  | n + 1 => by
    have := height_monoW v lo n
    have h := height_stepW v (lo + n)
    have := (rung_priceW v (lo + n)).1
    rw [show lo + ((n + 1 : Nat) : Int) = lo + n + 1 by push_cast; omega]; omega
theorem height_mono {p : Plan} (v : Valid p) (lo : Int) : ∀ n : Nat, heightF p lo ≤ heightF p (lo + n) := height_monoW v.w lo
theorem height_leW {p : Plan} (v : Wd p) {lo hi : Int} (h : lo ≤ hi) : heightF p lo ≤ heightF p hi := by
  have := height_monoW v lo (hi - lo).toNat
  rwa [show lo + ((hi - lo).toNat : Int) = hi by omega] at this

theorem height_le {p : Plan} (v : Valid p) {lo hi : Int} (h : lo ≤ hi) : heightF p lo ≤ heightF p hi := height_leW v.w h
/-! ### the ladder made of a plan -/
theorem is_whole_eq (x : Int) : m_is_whole x = ret true := rfl
theorem is_between_eq (x lo hi : Int) : m_is_between (x, lo, hi) = ret (decide (lo ≤ x) && decide (x ≤ hi)) := by
  unfold m_is_between b_is_between
  simp [is_whole_eq]
theorem is_price_eq (x : Int) : m_is_price x = ret (decide (0 ≤ x) && decide (x ≤ 100000000000000000000)) := by
  unfold m_is_price b_is_price
  simp [is_between_eq, c_MOST_PRICE]
theorem are_prices_eq {xs : List Int} {lo hi : Int} (hl : xs.length ≤ 1000) : m_are_prices (xs, lo, hi) = ret (decide (lo ≤ xs.length) && decide ((xs.length : Int) ≤ hi) && xs.all fun x => decide (0 ≤ x) && decide (x ≤ 100000000000000000000)) := by
  unfold m_are_prices b_are_prices
  rw [zlc_map (g := fun x => decide (0 ≤ x) && decide (x ≤ 100000000000000000000)) (fun x _ => by simp [is_price_eq]) (Nat.le_trans hl (by decide))]
  simp only [zis_ret, znot_ret, Bool.not_true, zor_f, zapp_ret, flen_eq, zchain_ll, zifS_ret, fall_eq, zrt_ret, znx_ret]
  by_cases h : (decide (lo ≤ (xs.length : Int)) && decide ((xs.length : Int) ≤ hi)) = true
  · rw [h]; simp [List.all_map]
  · rw [Bool.eq_false_iff.mpr h]; rfl
theorem prices_true {xs : List Int} {lo hi : Int} (h1 : lo ≤ xs.length) (h2 : (xs.length : Int) ≤ hi) (h3 : ∀ x ∈ xs, PriceOk x) (hl : xs.length ≤ 1000) : m_are_prices (xs, lo, hi) = ret true := by
  rw [are_prices_eq hl, decide_eq_true h1, decide_eq_true h2]
  have : (xs.all fun x => decide (0 ≤ x) && decide (x ≤ 100000000000000000000)) = true := by
    rw [List.all_eq_true]
    intro x hx
    have := h3 x hx
    rw [decide_eq_true this.1, decide_eq_true this.2]; rfl
  rw [this]; rfl
def ladF (p : Plan) : XLadder := ⟨p.2.2.1, p.2.1, p.2.2.2, p.1, sumsF p.2.2.1, sumsF p.2.1, sumsF p.2.2.2⟩
theorem init_eq {p : Plan} (v : Valid p) : m_Ladder_init (p.2.2.1, p.2.1, p.2.2.2, p.1) = ret (ladF p) := by
  obtain ⟨hl1, hl2⟩ := v.l
  obtain ⟨hh1, hh2⟩ := v.h
  obtain ⟨hb1, hb2⟩ := v.b
  have hr := v.r
  unfold m_Ladder_init b_Ladder_init
  simp only [zpair_ret, zcons_ret]
  rw [zlist_ret (by show 3 ≤ sizeLine; decide), zset_ret, zseq_nx, zenum_ret, zforI_ret]
  have e : fenum [(p.2.2.1, (1 : Int), c_MOST_REPEATED), (p.2.1, 0, c_MOST_ROW), (p.2.2.2, 1, c_MOST_REPEATED)] = [(0, p.2.2.1, 1, 4), (1, p.2.1, 0, 40), (2, p.2.2.2, 1, 4)] := rfl
  rw [e, zfor_cons_nx (a' := ()), zfor_cons_nx (a' := ()), zfor_cons_nx (a' := ()), zfor_nil, zseq_nx]
  · rw [show (zop2 isub (ret 0) (ret c_FARTHEST_AT) : M Unit Int) = ret (-100) from rfl]
    simp only [zpair_ret, zapp_ret, lft_ret, is_between_eq, c_FARTHEST_AT, sums_eq (show p.2.2.1.length < 900 by omega), sums_eq (show p.2.1.length < 900 by omega), sums_eq (show p.2.2.2.length < 900 by omega)]
    rw [decide_eq_true hb1, decide_eq_true hb2]
    rfl
  all_goals
    simp only [zpair_ret, zapp_ret, lft_ret]
    rw [prices_true (by omega) (by omega) (by first | exact v.lp | exact v.rp | exact v.hp) (by omega)]
    rfl
theorem sum_bound {xs : List Int} (h : ∀ x ∈ xs, PriceOk x) : 0 ≤ xs.sum ∧ xs.sum ≤ xs.length * 100000000000000000000 := by
  induction xs with
  | nil => simp
  | cons x xs ih =>
    have := ih fun y hy => h y (by simp [hy])
    have := h x (by simp)
    unfold PriceOk at this
    simp only [List.sum_cons, List.length_cons]
    push_cast
    omega
theorem repeated_eq {xs : List Int} {k : Int} (h1 : 1 ≤ xs.length) (h2 : xs.length ≤ 1000) (h3 : ∀ x ∈ xs, PriceOk x) (hk : 0 ≤ k ∧ k < 2 ^ 1000) : m_repeated (sumsF xs, k) = ret (repF xs k) := by
  have hn : (0 : Int) < xs.length := by omega
  have m0 := Int.emod_nonneg k (Int.ne_of_gt hn)
  have m1 := Int.emod_lt_of_pos k hn
  have sb := sum_bound h3
  have d0 := Int.ediv_nonneg hk.1 (Int.le_of_lt hn)
  have d1 : k / xs.length ≤ k := Int.ediv_le_self _ hk.1
  unfold m_repeated b_repeated repF
  simp only [zapp_ret, flen_eq, sumsF_length, zop2_ret, isub_eq, zpair_ret]
  rw [show ((xs.length + 1 : Nat) : Int) - 1 = xs.length by push_cast; omega, fdivmod_eq (by omega), zset_ret, zseq_nx, show zop1 ineg (ret 1) = (ret (-1) : M Unit Int) from rfl, zop2_ret, ixat_last (sumsF_ne xs), sumsF_last]
  rw [zop2_ret, imul_eq (mul_wide (by omega) (by omega)), ixat_eq (x := (xs.take (k % xs.length).toNat).sum) (by
    rw [atI_nat m0 (by rw [sumsF_length]; omega)]
    have := sumsF_get (xs := xs) (i := (k % xs.length).toNat) (by omega)
    rw [List.getElem?_eq_getElem (by rw [sumsF_length]; omega)] at this
    exact this), zop2_ret, iadd_eq, zrt_ret, zbody_rt]
theorem height_eqW {p : Plan} (v : Wd p) {d : Int} (hd : d.natAbs < 2 ^ 900) : m_Ladder_height (ladF p, d) = ret (heightF p d) := by
  obtain ⟨hl1, hl2⟩ := v.l
  obtain ⟨hh1, hh2⟩ := v.h
  obtain ⟨hb1, hb2⟩ := v.b
  have hr := v.r
  unfold m_Ladder_height b_Ladder_height heightF
  simp only [zget_ret, ladF, zop2_ret, isub_eq, zset_ret, zseq_nx, ilt_eq, zifS_ret, decide_eq_true_eq, zpair_ret, zapp_ret, flen_eq, ile_eq]
  by_cases h1 : d - p.1 < 0
  · rw [if_pos h1, if_pos h1, repeated_eq hl1 (by omega) v.lp (by omega)]; rfl
  · rw [if_neg h1, if_neg h1, znx_ret, zseq_nx]
    by_cases h2 : d - p.1 ≤ p.2.1.length
    · rw [if_pos h2, if_pos h2, ixat_eq (x := (p.2.1.take (d - p.1).toNat).sum) (by
        rw [atI_nat (by omega) (by rw [sumsF_length]; omega)]
        have := sumsF_get (xs := p.2.1) (i := (d - p.1).toNat) (by omega)
        rw [List.getElem?_eq_getElem (by rw [sumsF_length]; omega)] at this
        exact this)]
      rfl
    · rw [if_neg h2, if_neg h2, zseq_nx, show zop1 ineg (ret 1) = (ret (-1) : M Unit Int) from rfl, zop2_ret, ixat_last (sumsF_ne _), sumsF_last, repeated_eq hh1 (by omega) v.hp (by omega)]; rfl
theorem height_eq {p : Plan} (v : Valid p) {d : Int} (hd : d.natAbs < 2 ^ 900) : m_Ladder_height (ladF p, d) = ret (heightF p d) := height_eqW v.w hd
theorem total_eqW {p : Plan} (v : Wd p) {lo hi : Int} (h1 : lo.natAbs < 2 ^ 900) (h2 : hi.natAbs < 2 ^ 900) (h : lo ≤ hi) : m_Ladder_total (ladF p, lo, hi) = ret (heightF p hi - heightF p lo) := by
  unfold m_Ladder_total b_Ladder_total
  simp only [zapp_ret, is_whole_eq, lft_ret, znot_ret, zifS_ret, Bool.not_true, zor_f, zop2_ret, ilt_eq, znx_ret, zseq_nx, zmeth_ret, height_eqW v h1, height_eqW v h2, isub_eq]
  rw [if_neg (by decide), zseq_nx, if_neg (by simp; omega)]; rfl
theorem total_eq {p : Plan} (v : Valid p) {lo hi : Int} (h1 : lo.natAbs < 2 ^ 900) (h2 : hi.natAbs < 2 ^ 900) (h : lo ≤ hi) : m_Ladder_total (ladF p, lo, hi) = ret (heightF p hi - heightF p lo) := total_eqW v.w h1 h2 h
end Zk

namespace Zk
open PySem L2
theorem pow_ok {k : Nat} {a b : Int} (h : powOk a b) : (ipow a b : M Bag Int) = ret (a ^ b.toNat) := chk_pos h
theorem p20 : (zop2 ipow (ret (10 : Int)) (ret (20 : Int)) : M Bag Int) = ret 100000000000000000000 := by
  rw [zop2_ret, pow_ok (k := 0) (by unfold powOk CPow; decide)]; rfl
theorem p30 : (zop2 ipow (ret (10 : Int)) (ret (30 : Int)) : M Bag Int) = ret 1000000000000000000000000000000 := by
  rw [zop2_ret, pow_ok (k := 0) (by unfold powOk CPow; decide)]; rfl
theorem p18 : (zop2 ipow (ret (10 : Int)) (ret (18 : Int)) : M Bag Int) = ret 1000000000000000000 := by
  rw [zop2_ret, pow_ok (k := 0) (by unfold powOk CPow; decide)]; rfl
theorem ip20 : (ipow (10 : Int) (20 : Int) : M Bag Int) = ret 100000000000000000000 := p20
theorem ip30 : (ipow (10 : Int) (30 : Int) : M Bag Int) = ret 1000000000000000000000000000000 := p30
theorem ip18 : (ipow (10 : Int) (18 : Int) : M Bag Int) = ret 1000000000000000000 := p18
theorem ok_takeU {u : Unit} {n : Int} (h1 : 1 ≤ n) (h2 : n < 2 ^ 9000) : Ok Bok (zapp m_w_take (zpair (ret u) (ret n))) (fun v => 0 ≤ v ∧ v < n) := ok_take h1 h2
theorem ok_prices {n : Int} (h : 0 ≤ n ∧ n ≤ 1000) : Ok Bok (m_w_prices ((), n)) (fun xs => xs.length = n.toNat ∧ ∀ x ∈ xs, PriceOk x) := by
  unfold m_w_prices b_w_prices
  rw [p20, zop2_ret, iadd_eq]
  refine ok_body ?_
  refine oks_seq (oks_set (ok_takeU (by omega) (by omega))) fun way hw => ?_
  refine oks_seq (N := PriceOk) (oks_set (ok_ix (k := 4) (Q := PriceOk) (ok_listN (ok_cons (ok_ret (by unfold PriceOk; omega)) (ok_cons (ok_ret (by unfold PriceOk; omega)) (ok_cons (ok_ret (by unfold PriceOk; omega)) (ok_cons ((ok_takeU (by omega) (by omega)).mono fun v hv => by unfold PriceOk; omega) ok_nil)))) (by omega)) (ok_takeU (by omega) (by omega)))) fun one ho => ?_
  rw [zlist_ret (by decide), zset_ret, zseq_nx, zapp_ret, frA1_eq]
  refine oks_seq (N := fun xs => xs.length = n.toNat ∧ ∀ x ∈ xs, PriceOk x) (oks_for (J := fun r xs => xs.length + r.length = n.toNat ∧ ∀ x ∈ xs, PriceOk x) (by simp [rng]) (fun x r a hj => ?_) fun a h => by simpa using h) fun xs hx => oks_rt (ok_ret hx)
  refine oks_seq (N := PriceOk) (oks_app (ok_ix (k := 4) (Q := PriceOk) (ok_listN (ok_cons (ok_ret ho) (ok_cons ((ok_takeU (by omega) (by omega)).mono fun v hv => by unfold PriceOk; omega) (ok_cons ((ok_takeU (by omega) (by omega)).mono fun v hv => by unfold PriceOk; omega) (ok_cons ((ok_takeU (by omega) (by omega)).mono fun v hv => by unfold PriceOk; omega) ok_nil)))) (by omega)) (ok_ret hw)) (by
    have := hj.1
    have : sizeLine = 16777216 := by decide
    simp only [List.length_cons] at *
    omega) fun a h => h) fun v hv => oks_nx ⟨by have := hj.1; simp only [List.length_append, List.length_cons, List.length_nil] at *; omega, fun x hx => by
    rcases List.mem_append.mp hx with q | q
    · exact hj.2 x q
    · simp at q; rw [q]; exact hv⟩
theorem ok_pricesU {u : Unit} {n : Int} (h : 0 ≤ n ∧ n ≤ 1000) : Ok Bok (zapp m_w_prices (zpair (ret u) (ret n))) (fun xs => xs.length = n.toNat ∧ ∀ x ∈ xs, PriceOk x) := ok_prices h
theorem ok_any_plan : Ok Bok (m_w_any_plan ()) Valid := by
  unfold m_w_any_plan b_w_any_plan
  refine ok_body ?_
  refine oks_seq (N := fun b => -100 ≤ b ∧ b ≤ 100) (oks_set (ok_ix (k := 5) (Q := fun b => -100 ≤ b ∧ b ≤ 100) (ok_listN (ok_cons (ok_ret (by omega)) (ok_cons (ok_ret (by omega)) (ok_cons (ok_ret (by omega)) (ok_cons (ok_op2 (ok_takeU (by omega) (by omega)) (P2 := fun v => v = 100) (ok_ret rfl) fun a b ha hb => ok_ret (by omega)) (ok_cons (ok_op2 (ok_takeU (by omega) (by omega)) (P2 := fun v => v = 3) (ok_ret rfl) fun a b ha hb => ok_ret (by omega)) ok_nil))))) (by omega)) (ok_takeU (by omega) (by omega)))) fun b hb => ?_
  refine oks_seq (N := fun xs => xs.length ≤ 40 ∧ ∀ x ∈ xs, PriceOk x) (oks_set (ok_app (ok_pair (P1 := fun _ => True) (ok_ret trivial) (ok_ix (k := 4) (Q := fun v => 0 ≤ v ∧ v ≤ 40) (ok_listN (ok_cons (ok_ret (by omega)) (ok_cons ((ok_takeU (by omega) (by omega)).mono fun v hv => by omega) (ok_cons (ok_ret (by omega)) (ok_cons ((ok_takeU (by omega) (by omega)).mono fun v hv => by omega) ok_nil)))) (by omega)) (ok_takeU (by omega) (by omega)))) fun a ha => (ok_prices (by omega)).mono fun xs hx => ⟨by omega, hx.2⟩)) fun row hr => ?_
  refine oks_seq (N := fun xs => (1 ≤ xs.length ∧ xs.length ≤ 4) ∧ ∀ x ∈ xs, PriceOk x) (oks_set (ok_app (ok_pair (P1 := fun _ => True) (P2 := fun v => 1 ≤ v ∧ v ≤ 4) (ok_ret trivial) (ok_op2 (P1 := fun v => v = 1) (ok_ret rfl) (ok_takeU (by omega) (by omega)) fun a b ha hb => ok_ret (by omega))) fun a ha => (ok_prices (by omega)).mono fun xs hx => ⟨by omega, hx.2⟩)) fun below hl => ?_
  refine oks_rt ((ok_pair (P1 := fun v => v = b) (ok_ret rfl) (ok_pair (P1 := fun v => v = row) (ok_ret rfl) (ok_pair (P1 := fun v => v = below) (P2 := fun xs => (1 ≤ xs.length ∧ xs.length ≤ 4) ∧ ∀ x ∈ xs, PriceOk x) (ok_ret rfl) (ok_app (ok_pair (P1 := fun _ => True) (P2 := fun v => 1 ≤ v ∧ v ≤ 4) (ok_ret trivial) (ok_op2 (P1 := fun v => v = 1) (ok_ret rfl) (ok_takeU (by omega) (by omega)) fun a b ha hb => ok_ret (by omega))) fun a ha => (ok_prices (by omega)).mono fun xs hx => ⟨by omega, hx.2⟩)))).mono fun p hp => ?_)
  obtain ⟨h1, h2, h3, h4, h5⟩ := hp
  exact ⟨by omega, by rw [h2]; exact hr.1, by rw [h3]; exact hl.1, h4, by rw [h2]; exact hr.2, by rw [h3]; exact hl.2, h5⟩
end Zk

namespace Zk
open PySem L2
/-! ### rungs of a made ladder; when two ladders are equal -/
theorem price_at_eq {p : Plan} (v : Wd p) (d : Int) : m_Ladder_price_at (ladF p, d) = ret (rungF p d) := by
  obtain ⟨hl, _⟩ := v.l
  obtain ⟨hh, _⟩ := v.h
  unfold m_Ladder_price_at b_Ladder_price_at rungF
  simp only [zget_ret, ladF, zop2_ret, isub_eq, zset_ret, zseq_nx, ilt_eq, zifS_ret, decide_eq_true_eq, zapp_ret, flen_eq]
  by_cases h1 : d < p.1
  · rw [if_pos (by omega : d - p.1 < 0), if_pos h1, imod_eq (by omega), zop2_ret, show 0 - 1 - (d - p.1) = p.1 - 1 - d by omega, at0_ok (Int.emod_nonneg _ (by omega)) (Int.emod_lt_of_pos _ (by omega))]; rfl
  · rw [if_neg (by omega : ¬ d - p.1 < 0), if_neg h1, znx_ret, zseq_nx]
    by_cases h2 : d < p.1 + p.2.1.length
    · rw [if_pos (by omega), if_pos h2, at0_ok (by omega) (by omega)]; rfl
    · rw [if_neg (by omega), if_neg h2, zseq_nx, imod_eq (by omega), zop2_ret, at0_ok (Int.emod_nonneg _ (by omega)) (Int.emod_lt_of_pos _ (by omega))]; rfl
theorem rungm_eq {p : Plan} (v : Wd p) (d : Int) : m_Ladder_rung (ladF p, d) = ret (rungF p d) := by
  unfold m_Ladder_rung b_Ladder_rung
  simp only [zapp_ret, is_whole_eq, lft_ret, znot_ret, zifS_ret, Bool.not_true, znx_ret, zmeth_ret, price_at_eq v]
  rfl
theorem dvd12 {n : Nat} (h1 : 1 ≤ n) (h2 : n ≤ 4) : ∃ k : Int, (12 : Int) = n * k := by
  match n, h1, h2 with
  | 1, _, _ => exact ⟨12, rfl⟩
  | 2, _, _ => exact ⟨6, rfl⟩
  | 3, _, _ => exact ⟨4, rfl⟩
  | 4, _, _ => exact ⟨3, rfl⟩
theorem rung_upW {p : Plan} (v : Wd p) {d : Int} (h : p.1 + p.2.1.length ≤ d) : rungF p (d + 12) = rungF p d := by
  obtain ⟨k, hk⟩ := dvd12 v.h.1 v.h.2
  unfold rungF
  rw [if_neg (by omega), if_neg (by omega), if_neg (by omega), if_neg (by omega), show d + 12 - p.1 - (p.2.1.length : Int) = d - p.1 - p.2.1.length + p.2.2.2.length * k by omega, Int.add_mul_emod_self_left]
theorem rung_downW {p : Plan} (v : Wd p) {d : Int} (h : d + 12 < p.1) : rungF p (d + 12) = rungF p d := by
  obtain ⟨k, hk⟩ := dvd12 v.l.1 v.l.2
  unfold rungF
  rw [if_pos (by omega), if_pos (by omega), show p.1 - 1 - d = p.1 - 1 - (d + 12) + p.2.2.1.length * k by omega, Int.add_mul_emod_self_left]
/-- from twelve below both rows to twelve above -/
def winLo (p q : Plan) : Int := (if q.1 < p.1 then q.1 else p.1) - 12
def winHi (p q : Plan) : Int := (if q.1 + q.2.1.length > p.1 + p.2.1.length then q.1 + q.2.1.length else p.1 + p.2.1.length) + 12
def alikeF (p q : Plan) : Bool := (rng (winLo p q) (winHi p q - winLo p q).toNat).all fun d => decide (rungF p d = rungF q d)
theorem win_all {p q : Plan} (v : Wd p) (w : Wd q) {lo hi : Int} (h1 : lo ≤ winLo p q) (h2 : winHi p q ≤ hi) (h : ∀ d, lo ≤ d → d < hi → rungF p d = rungF q d) (d : Int) : rungF p d = rungF q d := by
  have a1 : winLo p q + 12 ≤ p.1 ∧ winLo p q + 12 ≤ q.1 := by unfold winLo; split <;> omega
  have a2 : p.1 + p.2.1.length + 12 ≤ winHi p q ∧ q.1 + q.2.1.length + 12 ≤ winHi p q := by unfold winHi; split <;> omega
  have down : ∀ (n : Nat) (d : Int), (lo - d).toNat ≤ n → d < hi → rungF p d = rungF q d := by
    intro n
    induction n using Nat.strongRecOn with
    | _ n ih =>
      intro d hn hd
      by_cases hlo : lo ≤ d
      · exact h d hlo hd
      · rw [← rung_downW v (by omega), ← rung_downW w (by omega)]
        by_cases h12 : lo ≤ d + 12
        · exact h _ h12 (by omega)
        · exact ih (lo - (d + 12)).toNat (by omega) _ (Nat.le_refl _) (by omega)
  have up : ∀ (n : Nat) (d : Int), (d - hi).toNat ≤ n → rungF p d = rungF q d := by
    intro n
    induction n using Nat.strongRecOn with
    | _ n ih =>
      intro d hn
      by_cases hhi : d < hi
      · exact down _ d (Nat.le_refl _) hhi
      · have u1 := rung_upW v (d := d - 12) (by omega)
        have u2 := rung_upW w (d := d - 12) (by omega)
        rw [show d - 12 + 12 = d by omega] at u1 u2
        rw [u1, u2]
        by_cases h12 : d - 12 < hi
        · exact down _ _ (Nat.le_refl _) h12
        · exact ih (d - 12 - hi).toNat (by omega) _ (Nat.le_refl _)
  exact up _ d (Nat.le_refl _)
theorem alikeF_iff {p q : Plan} (v : Wd p) (w : Wd q) : alikeF p q = true ↔ ∀ d, rungF p d = rungF q d := by
  unfold alikeF
  rw [List.all_eq_true]
  constructor
  · intro h
    refine win_all v w (Int.le_refl _) (Int.le_refl _) fun d h1 h2 => ?_
    have := h d (mem_rng.mpr ⟨h1, by omega⟩)
    exact of_decide_eq_true this
  · intro h d _
    exact decide_eq_true (h d)
theorem win_bound {p q : Plan} (v : Wd p) (w : Wd q) : -212 ≤ winLo p q ∧ winHi p q ≤ 212 := by
  have := v.b
  have := w.b
  unfold winLo winHi
  constructor
  · split <;> omega
  · split <;> omega
theorem eq_eq {p q : Plan} (v : Wd p) (w : Wd q) : m_Ladder_eq (ladF p, ladF q) = ret (alikeF p q) := by
  have hb := win_bound v w
  unfold m_Ladder_eq b_Ladder_eq
  simp only [zis_ret, znot_ret, Bool.not_true, zifS_ret, znx_ret, zget_ret, zpair_ret, zapp_ret (f := flen), flen_eq, zop2_ret (f := iadd), iadd_eq]
  rw [if_neg (by decide), zseq_nx]
  have e1 : (zop2 isub (zapp (fun x : Int × Int => fmin2 x.1 x.2) (ret ((ladF p).begin_, (ladF q).begin_))) (ret c_ALL_ALIKE) : M Unit Int) = ret (winLo p q) := rfl
  have e2 : (zop2 iadd (zapp (fun x : Int × Int => fmax2 x.1 x.2) (ret ((ladF p).begin_ + ((ladF p).middle_.length : Int), (ladF q).begin_ + ((ladF q).middle_.length : Int)))) (ret c_ALL_ALIKE) : M Unit Int) = ret (winHi p q) := rfl
  rw [e1, zset_ret, zseq_nx, e2, zset_ret, zseq_nx, zapp_ret (f := frA2), frA2_eq, zlc_map (g := fun d => decide (rungF p d = rungF q d)) (fun d _ => ?_) ?_, zapp_ret, fall_eq, zrt_ret, zbody_rt]
  · unfold alikeF; rw [List.all_map]; rfl
  · have : sizeLine = 16777216 := by decide
    unfold rng; rw [List.length_map, List.length_range]
    show (winHi p q - winLo p q).toNat ≤ sizeLine
    omega
  · rw [zmeth_ret, zmeth_ret, price_at_eq v, price_at_eq w]; rfl
theorem alikeF_refl {p : Plan} (v : Wd p) : alikeF p p = true := (alikeF_iff v v).mpr fun _ => rfl
theorem alikeF_comm {p q : Plan} (v : Wd p) (w : Wd q) : alikeF p q = alikeF q p := by
  rw [Bool.eq_iff_iff, alikeF_iff v w, alikeF_iff w v]
  exact ⟨fun h d => (h d).symm, fun h d => (h d).symm⟩
end Zk

namespace Zk
open PySem L2
/-! ### turned ladders -/
def turnF (p : Plan) : Plan := (0 - p.1 - p.2.1.length, p.2.1.reverse, p.2.2.2, p.2.2.1)
theorem turn_wd {p : Plan} (v : Wd p) : Wd (turnF p) := by
  have hb := v.b
  refine ⟨?_, by simpa [turnF] using v.r, v.h, v.l, fun x hx => v.rp x (by simpa [turnF] using hx), v.hp, v.lp⟩
  simp only [turnF, List.length_reverse]; omega
theorem turn_turn (p : Plan) : turnF (turnF p) = p := by
  obtain ⟨b, r, l, h⟩ := p
  simp only [turnF, List.length_reverse, List.reverse_reverse, Prod.mk.injEq, and_true]
  omega
theorem moved_eq {p : Plan} (v : Wd p) (a : Int) : m_Ladder_moved_to (ladF p, a) = ret (ladF (a, p.2)) := by
  have h := init_eq (p := (0, p.2)) ⟨by show -100 ≤ (0 : Int) ∧ (0 : Int) ≤ 100; omega, v.r, v.l, v.h, v.rp, v.lp, v.hp⟩
  unfold m_Ladder_moved_to b_Ladder_moved_to
  simp only [zget_ret, zapp_ret, zpair_ret, bnd_ret]
  have e : m_Ladder_init ((ladF p).low_, (ladF p).middle_, (ladF p).high_, 0) = ret (ladF (0, p.2)) := h
  rw [e, lft_ret, zset_ret, zseq_nx, zset_ret, zseq_nx, zrt_ret, zbody_rt]
  rfl
theorem turned_eq {p : Plan} (v : Wd p) : m_Ladder_turned (ladF p) = ret (ladF (turnF p)) := by
  have h := init_eq (p := (0, p.2.1.reverse, p.2.2.2, p.2.2.1)) ⟨by show -100 ≤ (0 : Int) ∧ (0 : Int) ≤ 100; omega, by simpa using v.r, v.h, v.l, fun x hx => v.rp x (by simpa using hx), v.hp, v.lp⟩
  unfold m_Ladder_turned b_Ladder_turned
  simp only [zget_ret, zapp_ret, zpair_ret, bnd_ret, frev]
  have e : m_Ladder_init ((ladF p).high_, (ladF p).middle_.reverse, (ladF p).low_, 0) = ret (ladF (0, p.2.1.reverse, p.2.2.2, p.2.2.1)) := h
  rw [e, lft_ret, zset_ret, zseq_nx]
  simp only [zop2_ret, isub_eq, flen_eq, zmeth_ret]
  have w : Wd (0, p.2.1.reverse, p.2.2.2, p.2.2.1) := ⟨by have := v.r; simp only [List.length_reverse]; omega, by simpa using v.r, v.h, v.l, fun x hx => v.rp x (by simpa using hx), v.hp, v.lp⟩
  rw [moved_eq w, lft_ret, zrt_ret, zbody_rt]
  rfl
theorem rung_turn {p : Plan} (v : Wd p) (d : Int) : rungF (turnF p) d = rungF p (-1 - d) := by
  unfold rungF turnF
  simp only [List.length_reverse]
  by_cases h1 : d < 0 - p.1 - p.2.1.length
  · rw [if_pos h1, if_neg (by omega), if_neg (by omega), show 0 - p.1 - (p.2.1.length : Int) - 1 - d = -1 - d - p.1 - p.2.1.length by omega]
  · rw [if_neg h1]
    by_cases h2 : d < 0 - p.1
    · rw [if_pos (by omega), if_neg (by omega), if_pos (by omega)]
      unfold at0
      rw [List.getD_eq_getElem?_getD, List.getD_eq_getElem?_getD]
      congr 1
      have e : (d - (0 - p.1 - (p.2.1.length : Int))).toNat < p.2.1.length := by omega
      rw [List.getElem?_reverse e]
      congr 1
      omega
    · rw [if_neg (by omega), if_pos (by omega), show d - (0 - p.1 - (p.2.1.length : Int)) - (p.2.1.length : Int) = p.1 - 1 - (-1 - d) by omega]
theorem alike_turn {p q : Plan} (v : Wd p) (w : Wd q) : alikeF (turnF p) (turnF q) = alikeF p q := by
  rw [Bool.eq_iff_iff, alikeF_iff (turn_wd v) (turn_wd w), alikeF_iff v w]
  constructor
  · intro h d
    have := h (-1 - d)
    rw [rung_turn v, rung_turn w, show -1 - (-1 - d) = d by omega] at this
    exact this
  · intro h d
    rw [rung_turn v, rung_turn w]; exact h _
end Zk

namespace Zk
open PySem L2
/-! ### bearing, plain ladders -/
theorem sum_pos_iff {xs : List Int} (h : ∀ x ∈ xs, PriceOk x) : 0 < xs.sum ↔ ∃ x ∈ xs, 0 < x := by
  induction xs with
  | nil => simp
  | cons y ys ih =>
    have hy := h y (by simp)
    have ih := ih fun x hx => h x (by simp [hx])
    have sb := sum_bound (xs := ys) fun x hx => h x (by simp [hx])
    unfold PriceOk at hy
    rw [List.sum_cons]
    constructor
    · intro hs
      by_cases h0 : 0 < y
      · exact ⟨y, by simp, h0⟩
      · obtain ⟨x, hx, hp⟩ := ih.mp (by omega)
        exact ⟨x, by simp [hx], hp⟩
    · rintro ⟨x, hx, hp⟩
      rcases List.mem_cons.mp hx with rfl | hx
      · omega
      · have := ih.mpr ⟨x, hx, hp⟩
        omega
theorem max_pos {xs : List Int} (hn : xs ≠ []) (h : ∀ x ∈ xs, PriceOk x) : decide (0 < xs.sum) = decide (0 < maxF xs) := by
  apply decide_eq_decide.mpr
  rw [sum_pos_iff h]
  constructor
  · rintro ⟨x, hx, hp⟩
    have := maxF_ge x hx
    omega
  · intro hp
    exact ⟨_, maxF_mem hn, hp⟩
theorem bears_up_eq (p : Plan) : m_Ladder_bears_up (ladF p) = ret (decide (0 < p.2.2.2.sum)) := by
  unfold m_Ladder_bears_up b_Ladder_bears_up
  simp only [zget_ret]
  rw [show (ladF p).high_sums_ = sumsF p.2.2.2 from rfl, show zop1 ineg (ret 1) = (ret (-1) : M Unit Int) from rfl, zop2_ret, ixat_last (sumsF_ne _), sumsF_last]
  simp only [zop2_ret, igt_eq, zrt_ret, zbody_rt]
theorem bears_down_eq (p : Plan) : m_Ladder_bears_down (ladF p) = ret (decide (0 < p.2.2.1.sum)) := by
  unfold m_Ladder_bears_down b_Ladder_bears_down
  simp only [zget_ret]
  rw [show (ladF p).low_sums_ = sumsF p.2.2.1 from rfl, show zop1 ineg (ret 1) = (ret (-1) : M Unit Int) from rfl, zop2_ret, ixat_last (sumsF_ne _), sumsF_last]
  simp only [zop2_ret, igt_eq, zrt_ret, zbody_rt]
/-- all of a list are alike -/
theorem ddp_one {xs : List Int} (h : xs ≠ []) : (ddp xs).length = 1 ↔ ∀ x ∈ xs, ∀ y ∈ xs, x = y := by
  constructor
  · intro hl x hx y hy
    match hd : ddp xs, hl with
    | [z], _ =>
      have hx := mem_ddp.mpr hx
      have hy := mem_ddp.mpr hy
      rw [hd] at hx hy
      simp at hx hy
      rw [hx, hy]
  · intro he
    have nd := nodup_ddp xs
    match hd : ddp xs with
    | [] =>
      obtain ⟨x, hx⟩ := List.exists_mem_of_ne_nil xs h
      have := mem_ddp.mpr hx
      rw [hd] at this; simp at this
    | [z] => rfl
    | a :: b :: r =>
      rw [hd] at nd
      have ha : a ∈ xs := mem_ddp.mp (by rw [hd]; simp)
      have hb : b ∈ xs := mem_ddp.mp (by rw [hd]; simp)
      rw [he a ha b hb] at nd
      simp at nd
theorem plain_iff {xs ys : List Int} (h : xs ≠ []) (hy : ∀ x, x ∈ xs ↔ x ∈ ys) : decide (((ddp xs).length : Int) = 1) = decide (minF ys = maxF ys) := by
  have hn : ys ≠ [] := by
    obtain ⟨x, hx⟩ := List.exists_mem_of_ne_nil xs h
    exact List.ne_nil_of_mem ((hy x).mp hx)
  apply decide_eq_decide.mpr
  rw [show ((ddp xs).length : Int) = 1 ↔ (ddp xs).length = 1 by omega, ddp_one h]
  constructor
  · intro he
    exact he _ ((hy _).mpr (minF_mem hn)) _ ((hy _).mpr (maxF_mem hn))
  · intro he x hx y hy'
    have a1 := minF_le x ((hy x).mp hx)
    have a2 := maxF_ge x ((hy x).mp hx)
    have b1 := minF_le y ((hy y).mp hy')
    have b2 := maxF_ge y ((hy y).mp hy')
    omega
theorem is_plain_eq {p : Plan} (v : Wd p) : m_Ladder_is_plain (ladF p) = ret (decide (((ddp (p.2.2.1 ++ p.2.1 ++ p.2.2.2)).length : Int) = 1)) := by
  have h1 := v.r
  have h2 := v.l
  have h3 := v.h
  have hs : sizeLine = 16777216 := by decide
  unfold m_Ladder_is_plain b_Ladder_is_plain
  simp only [zget_ret, zop2_ret]
  unfold fcatV fnset
  rw [chk_pos (show (ladF p).low_.length + (ladF p).middle_.length ≤ sizeLine by show p.2.2.1.length + p.2.1.length ≤ _; omega), zop2_ret, chk_pos (show ((ladF p).low_ ++ (ladF p).middle_).length + (ladF p).high_.length ≤ sizeLine by
    rw [List.length_append]; show p.2.2.1.length + p.2.1.length + p.2.2.2.length ≤ _; omega), zapp_ret, chk_pos (by
    rw [List.length_append, List.length_append]; show p.2.2.1.length + p.2.1.length + p.2.2.2.length ≤ _; omega), zop2_ret]
  rfl
end Zk

namespace Zk
open PySem L2
/-! ### what is shown of a ladder -/
def nearF (p : Plan) : Int := heightF p 3 - heightF p (-3)
def showF (p : Plan) : Str := ("Ladder(" : Str) ++ ((toString (nearF p) : String) : Str) ++ (")" : Str)
theorem near_sum {p : Plan} (v : Wd p) : nearF p = ((rng (-3) 6).map (rungF p)).sum := by
  rw [height_sumW v]; rfl
theorem near_bound {p : Plan} (v : Wd p) : 0 ≤ nearF p ∧ nearF p ≤ 600000000000000000000 := by
  rw [near_sum v]
  have := sum_bound (xs := (rng (-3) 6).map (rungF p)) fun x hx => by
    obtain ⟨d, _, rfl⟩ := List.mem_map.mp hx
    exact rung_priceW v d
  simpa [rng] using this
theorem near_log {p : Plan} (v : Wd p) : (nearF p).natAbs.log2 < 1920 := by
  have := near_bound v
  exact int_small (Nat.lt_of_le_of_lt (by omega : (nearF p).natAbs ≤ 600000000000000000000) (by decide))
theorem text_le {p : Plan} (v : Wd p) : ((toString (nearF p) : String) : Str).length ≤ 1921 := PyProof.Rows.int_text_len_1921 (near_log v)
theorem repr_eq {p : Plan} (v : Wd p) : m_Ladder_repr (ladF p) = ret (showF p) := by
  have hs : sizeLine = 16777216 := by decide
  have ht := text_le v
  unfold m_Ladder_repr b_Ladder_repr zjc ffmtI
  simp only [bnd_ret]
  have l1 : (Str.empty ++ ("Ladder(" : Str)).length = 7 := by rw [empty_app]; rfl
  have e : (zop1 ineg (ret (3 : Int)) : M Unit Int) = ret (-3) := rfl
  rw [chk_pos (by rw [l1, hs]; decide), e, zpair_ret, zmeth_ret, total_eqW v (by decide) (by decide) (by decide), lft_ret, bnd_ret]
  rw [show heightF p 3 - heightF p (-3) = nearF p from rfl, chk_pos (near_log v), bnd_ret]
  have l2 : ((Str.empty ++ ("Ladder(" : Str)) ++ ((toString (nearF p) : String) : Str)).length ≤ 2000 := by rw [strLen_append, l1]; omega
  rw [chk_pos (by omega), chk_pos (by rw [strLen_append]; have : ((")" : Str)).length = 1 := rfl; omega), zrt_ret, zbody_rt, empty_app]
  rfl
theorem show_ok (p : Plan) : PyData.strOk (showF p) = true := strOk_app (strOk_app (strOk_of _) (strOk_of _)) (strOk_of _)
end Zk

namespace Zk
open PySem L2
theorem p12 : (zop2 ipow (ret (10 : Int)) (ret (12 : Int)) : M Bag Int) = ret 1000000000000 := by
  rw [zop2_ret, pow_ok (k := 0) (by unfold powOk CPow; decide)]; rfl
theorem ip12 : (ipow (10 : Int) (12 : Int) : M Bag Int) = ret 1000000000000 := p12
theorem valid_set {xs : List Int} {k : Nat} {x : Int} (h : ∀ y ∈ xs, PriceOk y) (hx : PriceOk x) : ∀ y ∈ xs.set k x, PriceOk y := fun y hy => by
  rcases List.mem_or_eq_of_mem_set hy with z | z
  · exact h y z
  · rw [z]; exact hx
theorem lrep_one {τ : Type} {x : Int} {n : Nat} (h : n ≤ 1000) : (lrep [x] (n : Int) : M τ (List Int)) = ret (List.replicate n x) := by
  have hs : sizeLine = 16777216 := by decide
  unfold lrep
  rw [chk_pos ⟨by omega, by omega, by rw [List.length_singleton, Int.toNat_natCast, hs]; omega⟩, Int.toNat_natCast, List.flatten_replicate_singleton]
theorem rep_price {x : Int} {n : Nat} (h : PriceOk x) : ∀ y ∈ List.replicate n x, PriceOk y := fun y hy => by rw [List.eq_of_mem_replicate hy]; exact h
theorem ok_one_price {u : Unit} {p : Plan} (v : Valid p) : Ok Bok (m_w_one_price (u, p)) Valid := by
  have hr := v.r
  obtain ⟨hl1, hl2⟩ := v.l
  obtain ⟨hh1, hh2⟩ := v.h
  unfold m_w_one_price b_w_one_price
  refine ok_body ?_
  refine oks_seq (oks_set (ok_ix (k := 1) (Q := PriceOk) (ok_pricesU (by omega)) (ok_ret (by omega)))) fun x hx => ?_
  simp only [zget_ret, zapp_ret, flen_eq, zcons_ret, zpair_ret]
  rw [zlist_eq (xs := [x]) (by simp), zop2_ret, zop2_ret, zop2_ret, lrep_one (by omega), lrep_one (by omega), lrep_one (by omega)]
  simp only [zcons_ret]
  rw [zlist_eq (by simp), zset_ret, zseq_nx]
  have va : Valid (p.1, List.replicate p.2.1.length x, List.replicate p.2.2.1.length x, List.replicate p.2.2.2.length x) := ⟨v.b, by simpa using v.r, by simpa using v.l, by simpa using v.h, rep_price hx, rep_price hx, rep_price hx⟩
  generalize e1 : List.replicate p.2.1.length x = a at va
  generalize e2 : List.replicate p.2.2.1.length x = b at va
  generalize e3 : List.replicate p.2.2.2.length x = d at va
  clear e1 e2 e3
  refine oks_seq (oks_set (ok_tk (by omega) (by omega))) fun which hw => ?_
  rw [zlist_eq (xs := ([] : List Int)) (by simp)]
  refine oks_seq (N := fun tb => ∃ a b d, tb = [a, b, d] ∧ Valid (p.1, a, b, d)) ?_ fun tb ht => ?_
  · by_cases h3 : which < 3
    · obtain ⟨j, rfl⟩ := Int.eq_ofNat_of_zero_le hw.1
      have hj3 : j < 3 := by omega
      obtain ⟨xs, hxs⟩ : ∃ xs, [a, b, d][j]? = some xs := ⟨_, List.getElem?_eq_getElem (by simp; omega)⟩
      have ei : (ixat [a, b, d] (j : Int) : M Bag _) = ret xs := by
        obtain ⟨hl, he⟩ := List.getElem?_eq_some_iff.mp hxs
        rw [ixat_nat (by omega) (by simpa using hl)]
        rw [← he]; rfl
      rw [zop2_ret, ilt_eq, decide_eq_true h3, zand_t, zop2_ret, ei, zop2_ret, dne_eq deq_ints, zifS_ret]
      split
      · next hne =>
        have hne : xs ≠ [] := by simpa using hne
        have hlen : 0 < xs.length := List.length_pos_iff.mpr hne
        have hmem : xs = a ∨ xs = b ∨ xs = d := by
          have := List.mem_of_getElem? hxs
          simpa using this
        have := va.r; have := va.l; have := va.h
        simp only at *
        have hx1 : xs.length ≤ 40 := by rcases hmem with rfl | rfl | rfl <;> omega
        have hxp : ∀ x ∈ xs, PriceOk x := by
          rcases hmem with rfl | rfl | rfl
          · exact va.rp
          · exact va.lp
          · exact va.hp
        have e3 : (bnd (ret (j : Int)) (rowix [a, b, d].length) : M Bag Nat) = ret j := by
          rw [bnd_ret]
          unfold rowix
          rw [ixN_nat (by omega) (by simp; omega)]; rfl
        rw [e3]
        have el : (rowlen [a, b, d] (ret j) : M Bag Int) = ret (xs.length : Int) := by
          unfold rowlen; rw [bnd_ret, hxs]
        rw [el, zpair_ret, zapp_ret]
        refine oks_seq (oks_set (ok_tk (by omega) (by omega))) fun spot hsp => ?_
        rw [zop2_ret, idiv_eq (div_ok (by omega) (by omega)), zcons_ret, zcons_ret, zcons_ret, zlist_eq (by simp)]
        refine oks_seq (N := fun tb => ∃ y, PriceOk y ∧ tb = [a, b, d].set j (xs.set spot.toNat y)) (fun s hs => ?_) fun tb htb => ?_
        · have hv : Ok Bok (zop2 ixat (ret [0, 1, x / 2]) (m_w_take (u, 3)) : M Bag Int) PriceOk := ok_ix (k := 3) (ok_ret ⟨rfl, fun z hz => by
            unfold PriceOk at *
            simp only [List.mem_cons, List.not_mem_nil, or_false] at hz
            rcases hz with rfl | rfl | rfl <;> omega⟩) (ok_tk (by omega) (by omega))
          obtain ⟨y, s', e, i, py⟩ := hv s hs
          refine ⟨.nx ([a, b, d].set j (xs.set spot.toNat y)), s', ?_, i, y, py, rfl⟩
          unfold rowput bnd
          rw [e]
          simp only [ret_at]
          unfold rowputF putI
          rw [hxs]
          simp only [Option.bind_some]
          rw [ixN_nat hsp.1 (by omega)]
          rfl
        obtain ⟨y, py, rfl⟩ := htb
        match j, hxs with
        | 0, hxs =>
          cases hxs
          exact oks_nx ⟨_, _, _, rfl, va.b, by simpa using va.r, va.l, va.h, valid_set va.rp py, va.lp, va.hp⟩
        | 1, hxs =>
          cases hxs
          exact oks_nx ⟨_, _, _, rfl, va.b, va.r, by simpa using va.l, va.h, va.rp, valid_set va.lp py, va.hp⟩
        | 2, hxs =>
          cases hxs
          exact oks_nx ⟨_, _, _, rfl, va.b, va.r, va.l, by simpa using va.h, va.rp, va.lp, valid_set va.hp py⟩
        | n + 3, hxs => simp at hxs
      · exact oks_nx ⟨_, _, _, rfl, va⟩
    · rw [zop2_ret, ilt_eq, decide_eq_false h3, zand_f, zifS_ret, if_neg (by decide)]
      exact oks_nx ⟨_, _, _, rfl, va⟩
  · obtain ⟨a, b, d, rfl, w⟩ := ht
    exact oks_rt (ok_ret w)
theorem made_eq {p : Plan} (v : Valid p) : m_w_made (p, [p.2.2.1, p.2.1, p.2.2.2]) = ret (ladF p) := by
  have hinit := init_eq v
  unfold m_w_made b_w_made
  have i0 : ∀ xs ys zs : List Int, (ixat [xs, ys, zs] 0 : M Unit _) = ret xs := fun _ _ _ => rfl
  have i1 : ∀ xs ys zs : List Int, (ixat [xs, ys, zs] 1 : M Unit _) = ret ys := fun _ _ _ => rfl
  have i2 : ∀ xs ys zs : List Int, (ixat [xs, ys, zs] 2 : M Unit _) = ret zs := fun _ _ _ => rfl
  simp only [zget_ret, zop2_ret, feq_eq, zifS_ret, zpair_ret, i0, i1, i2, bnd_ret, znx_ret]
  by_cases h0 : p.1 = 0
  · rw [decide_eq_true h0, if_pos rfl]
    rw [h0] at hinit
    rw [hinit, lft_ret, zrt_ret, zseq_rt, zbody_rt]
  · rw [decide_eq_false h0, if_neg (by decide), zseq_nx, hinit, lft_ret, zrt_ret, zbody_rt]
def Far (d : Int) : Prop := d.natAbs ≤ 2000000000000000000000000000000
theorem far_lt {d : Int} (h : Far d) : d.natAbs < 2 ^ 200 := by
  unfold Far at h
  exact Nat.lt_of_le_of_lt h (by decide)
theorem ok_rngmap {Q : Int → Prop} {g : Int → Int} (n : Nat) (h : ∀ i : Int, 0 ≤ i → i < n → Q (g i)) (hn : n ≤ 1000) : Ok Bok (zlc (fun _ => ret true) (fun e => (ret (g e))) (ret (rng 0 n)) : M Bag (List Int)) (LOf n Q) := by
  have := ok_lc (I := Bok) (f := fun e => (ret (g e) : M Bag Int)) (xs := rng 0 n) (Q := Q) (fun x hx => ok_ret (by have := mem_rng.mp hx; exact h x this.1 (by omega))) (by rw [rng_length]; exact Nat.le_trans hn (by decide))
  rwa [rng_length] at this
theorem ok_places {u : Unit} {p : Plan} (v : Valid p) : Ok Bok (m_w_places (u, p)) (LOf 26 Far) := by
  obtain ⟨hb1, hb2⟩ := v.b
  have hr := v.r
  have hs : sizeLine = 16777216 := by decide
  unfold m_w_places b_w_places
  simp only [ip12, ip30, zget_ret, zapp_ret, flen_eq, zop2_ret, zop1_ret, iadd_eq, isub_eq, ineg_eq, frA1_eq, zset_ret (a := p.1 + (p.2.1.length : Int)), zseq_nx, zcons_ret, zpair_ret]
  refine ok_body ?_
  refine oks_seq (N := LOf 20 Far) (oks_set (ok_catL (j := 10) (k := 10) (ok_rngmap 10 (fun i _ _ => by unfold Far; omega) (by omega)) (ok_rngmap 10 (fun i _ _ => by unfold Far; omega) (by omega)) (by omega))) fun f1 h1 => ?_
  refine oks_seq (N := LOf 26 Far) (oks_for (J := fun r xs => xs.length + r.length = 26 ∧ ∀ x ∈ xs, Far x) (by rw [h1.1]; exact ⟨rfl, h1.2⟩) (fun x r a hj => ?_) fun a h => by simpa [LOf] using h) fun xs hx => oks_rt (ok_ret hx)
  refine oks_seq (N := fun f => 0 ≤ f ∧ f ≤ 1000000000000000000000000000000) (oks_set (ok_ix (k := 4) (Q := fun f => 0 ≤ f ∧ f ≤ 1000000000000000000000000000000) (ok_listN (ok_cons ((ok_tk (by omega) (by omega)).mono fun v hv => by omega) (ok_cons (ok_ret (by omega)) (ok_cons (ok_ret (by omega)) (ok_cons ((ok_tk (by omega) (by omega)).mono fun v hv => by omega) ok_nil)))) (by omega)) (ok_tk (by omega) (by omega)))) fun far hf => ?_
  refine oks_seq (N := Far) (oks_app (P := Far) ?_ (by have := hj.1; simp only [List.length_cons] at this; omega) fun a h => h) fun v hv => oks_nx ⟨by have := hj.1; simp only [List.length_append, List.length_cons, List.length_nil] at *; omega, fun x hx => by
    rcases List.mem_append.mp hx with q | q
    · exact hj.2 x q
    · simp at q; rw [q]; exact hv⟩
  refine ok_op2 (P1 := fun v => 0 ≤ v ∧ v ≤ 1000000000000000000000000000002) (P2 := fun v => v = 1 ∨ v = -1) (ok_op2 (P1 := fun v => v = far) (ok_ret rfl) (ok_tk (by omega) (by omega)) fun a b ha hb => by subst ha; exact ok_ret (by omega)) ?_ fun a b ha hb => ?_
  · rw [zlist_ret (by rw [hs]; decide)]
    exact ok_ix (k := 2) (Q := fun v => v = 1 ∨ v = -1) (ok_ret ⟨rfl, fun x hx => by simpa using hx⟩) (ok_tk (by omega) (by omega))
  · rw [imul_eq (mul_small (by rcases hb with rfl | rfl <;> decide))]
    exact ok_ret (by unfold Far; rcases hb with rfl | rfl <;> omega)
theorem alike_ints {xs : List Int} (h : ∀ x ∈ xs, x.natAbs < 2 ^ 1900) (hl : xs.length ≤ 5000) : m_w_alike (xs, xs) = ret true := by
  unfold m_w_alike b_w_alike
  simp only [zop2_ret, zapp_ret]
  rw [deq_eq deq_ints, frepr_eq (frepr_ints h hl)]
  simp
theorem alike_bls {xs : List Bool} (hl : xs.length ≤ 5000) : m_w_alike_2 (xs, xs) = ret true := by
  unfold m_w_alike_2 b_w_alike_2
  simp only [zop2_ret, zapp_ret]
  rw [deq_eq deq_bls, frepr_eq (frepr_bls hl)]
  simp
theorem alike_int {x : Int} (h : x.natAbs.log2 < 1920) : m_w_alike_3 (x, x) = ret true := by
  have hs : sizeLine = 16777216 := by decide
  unfold m_w_alike_3 b_w_alike_3
  simp only [zop2_ret, zapp_ret]
  rw [frepr_eq ⟨by show (PyData.int x).showable = true; simp only [PyData.showable]; exact decide_eq_true h, by show (PyData.int x).canLay0 = true; simp [PyData.canLay0], by decide, by
    show (PyData.int x).shown.length ≤ sizeLine
    simp only [PyData.shown]
    have := PyProof.Rows.int_text_len_1921 h
    omega⟩]
  simp
theorem frepr_found {t : Str} {a b : Bool} (h : PyData.strOk t = true) (hl : t.length ≤ 100000) : ((datH (dhCons datS (dhCons datB (dhOne datB)))).d (t, a, b)).showable = true ∧ ((datH (dhCons datS (dhCons datB (dhOne datB)))).d (t, a, b)).canLay0 = true ∧ (datH (dhCons datS (dhCons datB (dhOne datB)))).n ≤ 60 ∧ ((datH (dhCons datS (dhCons datB (dhOne datB)))).d (t, a, b)).shown.length ≤ sizeLine := by
  refine ⟨?_, ?_, by decide, ?_⟩
  · show (PyData.list [.str t, .bool a, .bool b]).showable = true
    simp [PyData.showable, PyData.showableAll]
  · show (PyData.list [.str t, .bool a, .bool b]).canLay0 = true
    simp [PyData.canLay0, PyData.canLayAll0, h]
  · show (PyData.list [.str t, .bool a, .bool b]).shown.length ≤ sizeLine
    simp only [PyData.shown, PyData.shownAll]
    have hs : sizeLine = 16777216 := by decide
    have h1 := listText_le [reprText t, (if a = true then ("True" : Str) else "False"), if b = true then ("True" : Str) else "False"]
    have h2 := PySem.StrLaws.reprText_len t fun c hc => by
      unfold PyData.strOk at h
      have := Array.all_eq_true'.mp h c (by simpa using hc)
      have := of_decide_eq_true this
      omega
    have h3 : ∀ b : Bool, (if b = true then ("True" : Str) else "False").length ≤ 5 := by decide
    have h4 := h3 a
    have h5 := h3 b
    simp only [List.map_cons, List.map_nil, List.sum_cons, List.sum_nil] at h1
    omega
theorem alike_found {t : Str} {a b : Bool} (h : PyData.strOk t = true) (hl : t.length ≤ 100000) : m_w_alike_4 ((t, a, b), (t, a, b)) = ret true := by
  have hf := frepr_found (a := a) (b := b) h hl
  unfold m_w_alike_4 b_w_alike_4
  simp only [zop2_ret, zapp_ret]
  rw [deq_eq ⟨hf.2.1, hf.2.1, by decide⟩, frepr_eq hf]
  simp
theorem show_len {p : Plan} (v : Wd p) : (showF p).length ≤ 2000 := by
  have := text_le v
  have l1 : (("Ladder(" : Str)).length = 7 := rfl
  have l2 : ((")" : Str)).length = 1 := rfl
  unfold showF
  rw [strLen_append, strLen_append]
  omega
theorem rung_ltW {p : Plan} (v : Wd p) (d : Int) : (rungF p d).natAbs < 2 ^ 1900 := by
  have := rung_priceW v d
  unfold PriceOk at this
  exact Nat.lt_of_le_of_lt (by omega : (rungF p d).natAbs ≤ 100000000000000000000) (by decide)
theorem alike_rungs {p : Plan} (v : Wd p) {ds : List Int} (hl : ds.length ≤ 5000) : m_w_alike (ds.map (rungF p), ds.map (rungF p)) = ret true :=
  alike_ints (fun x hx => by obtain ⟨d, _, rfl⟩ := List.mem_map.mp hx; exact rung_ltW v d) (by simpa using hl)
theorem ok_else_right {u : Unit} {p : Plan} {ds : List Int} (v : Valid p) (hd : LOf 26 Far ds) : Ok Bok (m_w_else_right (u, ladF p, p, ds)) (fun b => b = true) := by
  have hs : sizeLine = 16777216 := by decide
  unfold m_w_else_right b_w_else_right
  simp only [zapp_ret (f := flen), zpair_ret, zop1_ret, ineg_eq, frA2_eq, zget_ret, flen_eq]
  refine ok_body ?_
  refine oks_seq (N := Far) (oks_set (ok_ix (k := 26) (Q := Far) (ok_ret hd) (by rw [hd.1]; exact ok_tk (by decide) (by decide)))) fun low hlo => ?_
  refine oks_seq (N := fun hi => low ≤ hi ∧ hi ≤ low + 60) (oks_set (ok_op2 (P1 := fun a => a = low) (ok_ret rfl) (ok_tk (by omega) (by omega)) fun a b ha hb => ok_ret (by omega))) fun high hhi => ?_
  have nl := far_lt hlo
  have n1 : low.natAbs < 2 ^ 900 := Nat.lt_of_lt_of_le nl (Nat.pow_le_pow_right (by decide) (by decide))
  have n2 : high.natAbs < 2 ^ 900 := by
    have : high.natAbs < 2 ^ 201 := by omega
    exact Nat.lt_of_lt_of_le this (Nat.pow_le_pow_right (by decide) (by decide))
  obtain ⟨n, hn⟩ := Int.eq_ofNat_of_zero_le (show 0 ≤ high - low by omega)
  have hh : high = low + n := by omega
  have hn60 : n ≤ 60 := by omega
  subst hh
  have hsm := height_sumW v.w low n
  have hbd := sum_bound (xs := (rng low n).map (rungF p)) fun x hx => by
    obtain ⟨d, _, rfl⟩ := List.mem_map.mp hx
    exact rung_price v d
  rw [List.length_map, rng_length] at hbd
  have hlg : (heightF p (low + n) - heightF p low).natAbs.log2 < 1920 := by
    rw [← hsm]
    refine int_small (Nat.lt_of_le_of_lt (m := 6000000000000000000000) ?_ (by decide))
    have : (n : Int) * 100000000000000000000 ≤ 60 * 100000000000000000000 := Int.mul_le_mul_of_nonneg_right (by omega) (by decide)
    omega
  simp only [zpair_ret, zmeth_ret, zapp_ret, frA2_eq]
  rw [total_eqW v.w n1 n2 hhi.1, lft_ret, show (low + (n : Int) - low).toNat = n by omega, zlc_map (g := rungF p) (fun d _ => by rw [rung_eq v, lft_ret]) (by rw [rng_length, hs]; omega), zapp_ret, fsum_eq, hsm, zpair_ret, zapp_ret, alike_int hlg, lft_ret, znot_ret, zifS_ret, if_neg (by decide), znx_ret, zseq_nx]
  rw [show ((3 : Int) - -3).toNat = 6 from rfl, zlc_map (g := rungF p) (fun d _ => by rw [rung_eq v, lft_ret]) (by rw [rng_length, hs]; decide), zapp_ret, fsum_eq, ← near_sum v.w, zset_ret, zseq_nx]
  simp only [bnd_ret, init_eq v, lft_ret, zset_ret, zseq_nx, repr_eq v.w, zop2_ret, fown_eq (eq_eq v.w v.w), alikeF_refl v.w, zpair_ret, show (nox (ret (showF p)) : M Bag Str) = ret (showF p) from rfl]
  have hlog := near_log v.w
  have htx := text_le v.w
  have l1 : (("Ladder(" : Str)).length = 7 := rfl
  have l2 : ((")" : Str)).length = 1 := rfl
  unfold fstr
  rw [chk_pos hlog, zop2_ret]
  unfold scat
  rw [chk_pos (by rw [l1]; omega), zop2_ret, chk_pos (by rw [strLen_append, l1, l2]; omega)]
  rw [show (("Ladder(" : Str) ++ ((toString (nearF p) : String) : Str) ++ (")" : Str)) = showF p from rfl]
  simp only [zpair_ret, zapp_ret]
  rw [alike_found (show_ok p) (Nat.le_trans (show_len v.w) (by decide)), lft_ret, znot_ret, zifS_ret, if_neg (by decide), zseq_nx]
  rw [turned_eq v.w, lft_ret, zset_ret, zseq_nx]
  have hlen : ds.length ≤ sizeLine := by rw [hd.1, hs]; decide
  rw [zlc_map (g := rungF p) (fun d _ => by rw [isub_eq, zmeth_ret, rungm_eq (turn_wd v.w), lft_ret, rung_turn v.w, show -1 - (-1 - d) = d by omega]) hlen, zlc_map (g := rungF p) (fun d _ => by rw [rung_eq v, lft_ret]) hlen, zpair_ret, zapp_ret, alike_rungs v.w (by rw [hd.1]; decide), lft_ret]
  exact oks_rt (ok_ret rfl)
theorem ok_right {u : Unit} {p : Plan} (v : Valid p) : Ok Bok (m_w_right (u, ladF p, p)) (fun b => b = true) := by
  have hs : sizeLine = 16777216 := by decide
  have hr := v.r
  obtain ⟨hl1, hl2⟩ := v.l
  obtain ⟨hh1, hh2⟩ := v.h
  unfold m_w_right b_w_right
  simp only [zpair_ret, zapp_ret, zget_ret, zmeth_ret, rungm_eq v.w, rung_eq v, lft_ret]
  refine ok_body ?_
  refine oks_seq (oks_set (ok_places v)) fun ds hd => ?_
  have hlen : ds.length ≤ sizeLine := by rw [hd.1, hs]; decide
  rw [zlc_map (g := rungF p) (fun _ _ => rfl) hlen, zpair_ret, zapp_ret, alike_rungs v.w (by rw [hd.1]; decide), lft_ret, znot_ret, zifS_ret, if_neg (by decide), znx_ret, zseq_nx]
  rw [zop2_ret, lcat_eq (by omega), zop2_ret, lcat_eq (by simp only [List.length_append]; omega), zset_ret, zseq_nx]
  have hb : p.2.2.1 ≠ [] := List.ne_nil_of_length_pos hl1
  have ha : p.2.2.2 ≠ [] := List.ne_nil_of_length_pos hh1
  have hall : p.2.1 ++ p.2.2.1 ++ p.2.2.2 ≠ [] := by simp [hb]
  rw [bears_up_eq, bears_down_eq, is_plain_eq v.w]
  simp only [zapp_ret, fmaxL_eq hb, fmaxL_eq ha, fminL_eq hall, fmaxL_eq hall, lft_ret, zop2_ret, igt_eq, feq_eq, zcons_ret]
  rw [zlist_eq (by simp), zset_ret, zseq_nx, zlist_eq (by simp), zpair_ret, zapp_ret]
  have f1 := max_pos hb v.lp
  have f2 := max_pos ha v.hp
  have f3 := plain_iff (xs := p.2.2.1 ++ p.2.1 ++ p.2.2.2) (ys := p.2.1 ++ p.2.2.1 ++ p.2.2.2) (by simp [hb]) (fun x => by simp only [List.mem_append]; constructor <;> intro h <;> rcases h with (h | h) | h <;> simp [h])
  rw [show ([decide (0 < p.2.2.2.sum), decide (0 < p.2.2.1.sum), decide (((ddp (p.2.2.1 ++ p.2.1 ++ p.2.2.2)).length : Int) = 1)] : List Bool) = [decide (maxF p.2.2.2 > 0), decide (maxF p.2.2.1 > 0), decide (minF (p.2.1 ++ p.2.2.1 ++ p.2.2.2) = maxF (p.2.1 ++ p.2.2.1 ++ p.2.2.2))] by rw [f1, f2, f3]]
  rw [alike_bls (by simp), lft_ret, znot_ret, zifS_ret, if_neg (by decide), zseq_nx]
  exact oks_rt (ok_else_right v hd)
theorem plain_valid {x : Int} (h : PriceOk x) : Valid (0, [], [x], [x]) := ⟨by show -100 ≤ (0 : Int) ∧ (0 : Int) ≤ 100; omega, by simp, by simp, by simp, by simp, by simpa using h, by simpa using h⟩
theorem plain_eq {x : Int} (h : PriceOk x) : m_plain x = ret (ladF (0, [], [x], [x])) := by
  have hinit := init_eq (plain_valid h)
  unfold m_plain b_plain
  rw [zapp_ret, is_price_eq, decide_eq_true h.1, decide_eq_true h.2, lft_ret, Bool.and_self, znot_ret, zifS_ret, if_neg (by decide), znx_ret, zseq_nx]
  simp only [zcons_ret]
  rw [zlist_eq (xs := [x]) (by simp), zlist_eq (xs := ([] : List Int)) (by simp)]
  simp only [zpair_ret, bnd_ret]
  rw [hinit, lft_ret, zrt_ret, zbody_rt]
theorem deq_llints {xs ys : List (List Int)} : deqOk (datL (datL datI)) xs ys := by
  have all : ∀ xs : List (List Int), PyData.canLayAll0 (xs.map (datL datI).d) = true := by
    intro xs
    induction xs with
    | nil => simp [PyData.canLayAll0]
    | cons x xs ih =>
      have : ((datL datI).d x).canLay0 = true := (deq_ints (xs := x) (ys := x)).1
      simp [PyData.canLayAll0, this, ih]
  refine ⟨?_, ?_, by decide⟩
  · show (PyData.list (xs.map (datL datI).d)).canLay0 = true
    simp only [PyData.canLay0]; exact all xs
  · show (PyData.list (ys.map (datL datI).d)).canLay0 = true
    simp only [PyData.canLay0]; exact all ys
theorem cells_eq {ns : List Int} (h : ns.length ≤ 63) : w_cells ns = ret ((cut ns none (some 63)).map fun x => if x < 0 then -x else x) := by
  unfold w_cells
  rw [zsome_ret, zsl_ret]
  refine zlc_map (fun x _ => by rw [zapp_ret, fabs_eq]) ?_
  unfold cut
  rw [List.length_take, List.length_drop]
  have : sizeLine = 16777216 := by decide
  omega
def Made (x : XLadder × Plan) : Prop := x.1 = ladF x.2 ∧ Valid x.2
theorem law_true : ∀ ns : List Int, ns.length ≤ 63 → m_law ns () = .ok true () := fun ns h => by
  have hs : sizeLine = 16777216 := by decide
  unfold m_law
  refine law_end (I := Bok) (cells_eq h) ⟨Int.le_refl 0, (by decide : (0 : Int) ≤ 1234567891), Int.le_refl 0, fun x hx => ?_⟩ ?_
  · obtain ⟨y, _, rfl⟩ := List.mem_map.mp hx
    split <;> omega
  unfold r_law
  rw [zlist_eq (by simp), zset_ret, zseq_nx, zapp_ret, frA1_eq]
  refine oks_seq (N := fun xs => xs.length = 3 ∧ ∀ x ∈ xs, Made x) (oks_for (J := fun r xs => xs.length + r.length = 3 ∧ ∀ x ∈ xs, Made x) ⟨rfl, by simp⟩ (fun x r a hj => ?_) fun a h => by simpa using h) fun made hm => ?_
  · simp only [zapp_ret (f := m_w_any_plan), zpair_ret]
    refine oks_seq (oks_set ok_any_plan) fun p v => ?_
    refine oks_seq (N := Valid) (oks_if (P := fun _ => True) (ok_eqk (ok_any (ok_tk (by omega) (by omega)))) (fun _ => oks_seq (oks_set (ok_one_price v)) fun q w => oks_nx w) fun _ => oks_nx v) fun p v => ?_
    simp only [zget_ret, zapp_ret, zcons_ret]
    rw [zlist_eq (by simp), zset_ret, zseq_nx, made_eq v, lft_ret, zset_ret, zseq_nx, zop2_ret, dne_eq deq_llints, decide_eq_true rfl, Bool.not_true, zifS_ret, if_neg (by decide), znx_ret, zseq_nx]
    have hr := v.r
    obtain ⟨hl1, hl2⟩ := v.l
    obtain ⟨hh1, hh2⟩ := v.h
    rw [zforI_ret, zfor_same (fun xs hx => ?_), zseq_nx]
    · refine oks_seq (oks_app (P := Made) (ok_ret ⟨rfl, v⟩) (by have := hj.1; simp only [List.length_cons] at this; omega) fun a h => h) fun y hy => oks_nx ⟨by have := hj.1; simp only [List.length_append, List.length_cons, List.length_nil] at *; omega, fun x hx => by
        rcases List.mem_append.mp hx with q | q
        · exact hj.2 x q
        · simp at q; rw [q]; exact hy⟩
    · have : xs.length ≤ 40 := by
        simp only [List.mem_cons, List.not_mem_nil, or_false] at hx
        rcases hx with rfl | rfl | rfl <;> omega
      rw [bnd_ret, chk_pos (by omega), zseq_nx]; rfl
  have er : (zapp frev (ret made) : M Bag _) = ret made.reverse := rfl
  rw [er, zop2_ret, lcat_eq (by rw [List.length_reverse, hm.1]; decide)]
  refine oks_seq (N := fun _ => True) (oks_for (J := fun xs _ => ∀ x ∈ xs, Made x) (fun x hx => hm.2 x (by simpa using hx)) (fun x xs _ hj => ?_) fun _ _ => trivial) fun _ _ => ?_
  · obtain ⟨h1, h2⟩ := hj x (by simp)
    simp only [zpair_ret, zapp_ret]
    rw [h1]
    refine oks_seq (N := fun _ => True) (oks_if (P := fun b => b = false) ((ok_not (P := fun b => b = true) (ok_right h2)).mono fun b hb => by simpa using hb) (fun h => by cases h) fun _ => oks_nx trivial) fun _ _ => oks_nx fun y hy => hj y (by simp [hy])
  simp only [zpair_ret]
  refine oks_seq (oks_set (ok_ix (k := 1) (Q := PriceOk) (ok_prices (by omega)) (ok_ret (by omega)))) fun x hx => ?_
  simp only [zapp_ret]
  rw [plain_eq hx, lft_ret]
  simp only [zcons_ret]
  rw [zlist_eq (xs := [x]) (by simp), zlist_eq (xs := ([] : List Int)) (by simp)]
  simp only [zpair_ret, zapp_ret]
  exact oks_rt (ok_right (plain_valid hx))
end Zk

namespace Zk
open PySem L2

theorem all_mk {P : Program} {w : World} {K : PySem.W.Frag} {h : Heap} {mg : Str → Option Value} {fa C_AheadError C_Wrong f_Wrong_init C_Ladder f_w_bag f_w_take f_w_prices f_w_any_plan f_w_one_price f_is_whole f_is_between f_is_price f_are_prices f_sums_of f_Ladder_init D_Ladder_init f_w_made f_w_places f_Ladder_price_at f_Ladder_rung f_w_rung f_w_alike f_Ladder_bears_up f_Ladder_bears_down f_Ladder_is_plain f_repeated f_Ladder_height f_Ladder_total f_Ladder_repr f_Ladder_eq f_Ladder_moved_to f_Ladder_turned f_w_else_right f_w_right f_plain f_law : Addr} (X : K.In h) (G : h.Ns mainGlobals mg) (hfa : mg "law" = some (.ref fa))
    {u_ALL_ALIKE : Value}
    {u_FARTHEST_AT : Value}
    {u_MOST_PRICE : Value}
    {u_MOST_REPEATED : Value}
    {u_MOST_ROW : Value}
    {nm_Wrong q_Wrong : Str} {N_Wrong : Addr} {bs_Wrong bm_Wrong : List Value} {sn_Wrong : List Str} {sub_Wrong : List Value} {ab_Wrong : Bool} {col_Wrong : Option Bool} {dd_Wrong : Option Addr} {m0_Wrong m1_Wrong m2_Wrong m3_Wrong m5_Wrong : Option Value}
    {od_Wrong_init an_Wrong_init : Option Addr} {sl_Wrong_init : Array (Option Value)} {oc_Wrong_init kV_Wrong_init dc_Wrong_init pm_Wrong_init cd_Wrong_init ct_Wrong_init : Value}
    {od_w_bag an_w_bag : Option Addr} {sl_w_bag : Array (Option Value)} {oc_w_bag kV_w_bag dc_w_bag pm_w_bag cd_w_bag ct_w_bag : Value}
    {od_w_take an_w_take : Option Addr} {sl_w_take : Array (Option Value)} {oc_w_take kV_w_take dc_w_take pm_w_take cd_w_take ct_w_take : Value}
    {od_w_prices an_w_prices : Option Addr} {sl_w_prices : Array (Option Value)} {oc_w_prices kV_w_prices dc_w_prices pm_w_prices cd_w_prices ct_w_prices : Value}
    {od_w_any_plan an_w_any_plan : Option Addr} {sl_w_any_plan : Array (Option Value)} {oc_w_any_plan kV_w_any_plan dc_w_any_plan pm_w_any_plan cd_w_any_plan ct_w_any_plan : Value}
    {od_w_one_price an_w_one_price : Option Addr} {sl_w_one_price : Array (Option Value)} {oc_w_one_price kV_w_one_price dc_w_one_price pm_w_one_price cd_w_one_price ct_w_one_price : Value}
    {od_is_whole an_is_whole : Option Addr} {sl_is_whole : Array (Option Value)} {oc_is_whole kV_is_whole dc_is_whole pm_is_whole cd_is_whole ct_is_whole : Value}
    {od_is_between an_is_between : Option Addr} {sl_is_between : Array (Option Value)} {oc_is_between kV_is_between dc_is_between pm_is_between cd_is_between ct_is_between : Value}
    {od_is_price an_is_price : Option Addr} {sl_is_price : Array (Option Value)} {oc_is_price kV_is_price dc_is_price pm_is_price cd_is_price ct_is_price : Value}
    {od_are_prices an_are_prices : Option Addr} {sl_are_prices : Array (Option Value)} {oc_are_prices kV_are_prices dc_are_prices pm_are_prices cd_are_prices ct_are_prices : Value}
    {od_sums_of an_sums_of : Option Addr} {sl_sums_of : Array (Option Value)} {oc_sums_of kV_sums_of dc_sums_of pm_sums_of cd_sums_of ct_sums_of : Value}
    {od_Ladder_init an_Ladder_init : Option Addr} {sl_Ladder_init : Array (Option Value)} {oc_Ladder_init dc_Ladder_init pm_Ladder_init cd_Ladder_init ct_Ladder_init : Value}
    {w_Ladder_init_at : Tok}
    {od_w_made an_w_made : Option Addr} {sl_w_made : Array (Option Value)} {oc_w_made kV_w_made dc_w_made pm_w_made cd_w_made ct_w_made : Value}
    {od_w_places an_w_places : Option Addr} {sl_w_places : Array (Option Value)} {oc_w_places kV_w_places dc_w_places pm_w_places cd_w_places ct_w_places : Value}
    {od_Ladder_price_at an_Ladder_price_at : Option Addr} {sl_Ladder_price_at : Array (Option Value)} {oc_Ladder_price_at kV_Ladder_price_at dc_Ladder_price_at pm_Ladder_price_at cd_Ladder_price_at ct_Ladder_price_at : Value}
    {od_Ladder_rung an_Ladder_rung : Option Addr} {sl_Ladder_rung : Array (Option Value)} {oc_Ladder_rung kV_Ladder_rung dc_Ladder_rung pm_Ladder_rung cd_Ladder_rung ct_Ladder_rung : Value}
    {od_w_rung an_w_rung : Option Addr} {sl_w_rung : Array (Option Value)} {oc_w_rung kV_w_rung dc_w_rung pm_w_rung cd_w_rung ct_w_rung : Value}
    {od_w_alike an_w_alike : Option Addr} {sl_w_alike : Array (Option Value)} {oc_w_alike kV_w_alike dc_w_alike pm_w_alike cd_w_alike ct_w_alike : Value}
    {od_Ladder_bears_up an_Ladder_bears_up : Option Addr} {sl_Ladder_bears_up : Array (Option Value)} {oc_Ladder_bears_up kV_Ladder_bears_up dc_Ladder_bears_up pm_Ladder_bears_up cd_Ladder_bears_up ct_Ladder_bears_up : Value}
    {od_Ladder_bears_down an_Ladder_bears_down : Option Addr} {sl_Ladder_bears_down : Array (Option Value)} {oc_Ladder_bears_down kV_Ladder_bears_down dc_Ladder_bears_down pm_Ladder_bears_down cd_Ladder_bears_down ct_Ladder_bears_down : Value}
    {od_Ladder_is_plain an_Ladder_is_plain : Option Addr} {sl_Ladder_is_plain : Array (Option Value)} {oc_Ladder_is_plain kV_Ladder_is_plain dc_Ladder_is_plain pm_Ladder_is_plain cd_Ladder_is_plain ct_Ladder_is_plain : Value}
    {od_repeated an_repeated : Option Addr} {sl_repeated : Array (Option Value)} {oc_repeated kV_repeated dc_repeated pm_repeated cd_repeated ct_repeated : Value}
    {od_Ladder_height an_Ladder_height : Option Addr} {sl_Ladder_height : Array (Option Value)} {oc_Ladder_height kV_Ladder_height dc_Ladder_height pm_Ladder_height cd_Ladder_height ct_Ladder_height : Value}
    {od_Ladder_total an_Ladder_total : Option Addr} {sl_Ladder_total : Array (Option Value)} {oc_Ladder_total kV_Ladder_total dc_Ladder_total pm_Ladder_total cd_Ladder_total ct_Ladder_total : Value}
    {od_Ladder_repr an_Ladder_repr : Option Addr} {sl_Ladder_repr : Array (Option Value)} {oc_Ladder_repr kV_Ladder_repr dc_Ladder_repr pm_Ladder_repr cd_Ladder_repr ct_Ladder_repr : Value}
    {od_Ladder_eq an_Ladder_eq : Option Addr} {sl_Ladder_eq : Array (Option Value)} {oc_Ladder_eq kV_Ladder_eq dc_Ladder_eq pm_Ladder_eq cd_Ladder_eq ct_Ladder_eq : Value}
    {od_Ladder_moved_to an_Ladder_moved_to : Option Addr} {sl_Ladder_moved_to : Array (Option Value)} {oc_Ladder_moved_to kV_Ladder_moved_to dc_Ladder_moved_to pm_Ladder_moved_to cd_Ladder_moved_to ct_Ladder_moved_to : Value}
    {od_Ladder_turned an_Ladder_turned : Option Addr} {sl_Ladder_turned : Array (Option Value)} {oc_Ladder_turned kV_Ladder_turned dc_Ladder_turned pm_Ladder_turned cd_Ladder_turned ct_Ladder_turned : Value}
    {od_w_else_right an_w_else_right : Option Addr} {sl_w_else_right : Array (Option Value)} {oc_w_else_right kV_w_else_right dc_w_else_right pm_w_else_right cd_w_else_right ct_w_else_right : Value}
    {od_w_right an_w_right : Option Addr} {sl_w_right : Array (Option Value)} {oc_w_right kV_w_right dc_w_right pm_w_right cd_w_right ct_w_right : Value}
    {od_plain an_plain : Option Addr} {sl_plain : Array (Option Value)} {oc_plain kV_plain dc_plain pm_plain cd_plain ct_plain : Value}
    {od_law an_law : Option Addr} {sl_law : Array (Option Value)} {oc_law kV_law dc_law pm_law cd_law ct_law : Value}
    (z_abs : PySem.W.nsIn K mainGlobals "abs" = some none)
    (z_all : PySem.W.nsIn K mainGlobals "all" = some none)
    (z_bool : PySem.W.nsIn K mainGlobals "bool" = some none)
    (z_divmod : PySem.W.nsIn K mainGlobals "divmod" = some none)
    (z_enumerate : PySem.W.nsIn K mainGlobals "enumerate" = some none)
    (z_int : PySem.W.nsIn K mainGlobals "int" = some none)
    (z_isinstance : PySem.W.nsIn K mainGlobals "isinstance" = some none)
    (z_len : PySem.W.nsIn K mainGlobals "len" = some none)
    (z_list : PySem.W.nsIn K mainGlobals "list" = some none)
    (z_max : PySem.W.nsIn K mainGlobals "max" = some none)
    (z_min : PySem.W.nsIn K mainGlobals "min" = some none)
    (z_range : PySem.W.nsIn K mainGlobals "range" = some none)
    (z_repr : PySem.W.nsIn K mainGlobals "repr" = some none)
    (z_reversed : PySem.W.nsIn K mainGlobals "reversed" = some none)
    (z_set : PySem.W.nsIn K mainGlobals "set" = some none)
    (z_str : PySem.W.nsIn K mainGlobals "str" = some none)
    (z_sum : PySem.W.nsIn K mainGlobals "sum" = some none)
    (z_tuple : PySem.W.nsIn K mainGlobals "tuple" = some none)
    (m_ALL_ALIKE : PySem.W.nsIn K mainGlobals "ALL_ALIKE" = some (some u_ALL_ALIKE))
    (r_ALL_ALIKE : RelV (.int c_ALL_ALIKE) u_ALL_ALIKE)
    (m_FARTHEST_AT : PySem.W.nsIn K mainGlobals "FARTHEST_AT" = some (some u_FARTHEST_AT))
    (r_FARTHEST_AT : RelV (.int c_FARTHEST_AT) u_FARTHEST_AT)
    (m_MOST_PRICE : PySem.W.nsIn K mainGlobals "MOST_PRICE" = some (some u_MOST_PRICE))
    (r_MOST_PRICE : RelV (.int c_MOST_PRICE) u_MOST_PRICE)
    (m_MOST_REPEATED : PySem.W.nsIn K mainGlobals "MOST_REPEATED" = some (some u_MOST_REPEATED))
    (r_MOST_REPEATED : RelV (.int c_MOST_REPEATED) u_MOST_REPEATED)
    (m_MOST_ROW : PySem.W.nsIn K mainGlobals "MOST_ROW" = some (some u_MOST_ROW))
    (r_MOST_ROW : RelV (.int c_MOST_ROW) u_MOST_ROW)
    (g_AheadError : PySem.W.nsIn K mainGlobals "AheadError" = some (some (.ref C_AheadError)))
    (rd_AheadError : PySem.W.readsIn K C_AheadError (.type "type") = true)
    (ga_AheadError : PySem.W.specialIn K (.ref C_AheadError) "__getattribute__" = some (some (.builtin "type.__getattribute__")))
    (at_AheadError : PySem.W.findCls K (.ref C_AheadError) (.type "type") "__init__" = some (.val (.builtin "ValueError.__init__")))
    (g_Wrong : PySem.W.nsIn K mainGlobals "Wrong" = some (some (.ref C_Wrong)))
    (xl_Wrong : K.lookup C_Wrong = some (excClassObj nm_Wrong q_Wrong C_Wrong N_Wrong bs_Wrong bm_Wrong true sn_Wrong sub_Wrong ab_Wrong col_Wrong dd_Wrong m0_Wrong m1_Wrong m2_Wrong m3_Wrong m5_Wrong "ValueError.__new__"))
    (bm_Wrong : PySem.HandSPX.refsVE bm_Wrong = true)
    (sa_Wrong : PySem.W.findIn K (.ref C_Wrong) "__setattr__" = some (some (.builtin "object.__setattr__")))
    (ex_Wrong : PySem.W.subIn K (.ref C_Wrong) (.type "BaseException") = some true)
    (ty_Wrong : PySem.W.typeIn K (.ref C_Wrong) = some (.type "type"))
    (kc_Wrong : PySem.W.keepIn K (.ref C_Wrong) = true)
    (xf_Wrong : PySem.W.findIn K (.ref C_Wrong) "at" = some none)
    (a_Wrong_init : PySem.W.findIn K (.ref C_Wrong) "__init__" = some (some (.ref f_Wrong_init)))
    (t_Wrong_init_ : PySem.W.typeIn K (.ref f_Wrong_init) = some (.type "function"))
    (l_Wrong_init : K.lookup f_Wrong_init = some ⟨oc_Wrong_init, od_Wrong_init, .func (PySem.W.fnOf "__init__" "Wrong.__init__" (defArgs t_Wrong_init) (defBody t_Wrong_init) (defScope t_Wrong_init) .none kV_Wrong_init dc_Wrong_init pm_Wrong_init an_Wrong_init cd_Wrong_init ct_Wrong_init), sl_Wrong_init⟩)
    (c_Wrong_init : PySem.W.codeIn K cd_Wrong_init "Wrong.__init__" = true)
    (k_Wrong_init : PySem.W.keepIn K (.ref f_Wrong_init) = true)
    (g_Ladder : PySem.W.nsIn K mainGlobals "Ladder" = some (some (.ref C_Ladder)))
    (pg_Ladder : PySem.W.plainGet K C_Ladder Str.empty = true)
    (hd_Ladder : PySem.W.hasDictIn K C_Ladder = true)
    (po_Ladder : PySem.W.plainOver K C_Ladder = true)
    (sa_Ladder : PySem.W.findIn K (.ref C_Ladder) "__setattr__" = some (some (.builtin "object.__setattr__")))
    (mk_Ladder_ : PySem.W.makesIn K C_Ladder = true)
    (kc_Ladder : PySem.W.keepIn K (.ref C_Ladder) = true)
    (na_Ladder_low : PySem.W.findIn K (.ref C_Ladder) "low" = some none)
    (na_Ladder_middle : PySem.W.findIn K (.ref C_Ladder) "middle" = some none)
    (na_Ladder_high : PySem.W.findIn K (.ref C_Ladder) "high" = some none)
    (na_Ladder_begin : PySem.W.findIn K (.ref C_Ladder) "begin" = some none)
    (na_Ladder_low_sums : PySem.W.findIn K (.ref C_Ladder) "low_sums" = some none)
    (na_Ladder_middle_sums : PySem.W.findIn K (.ref C_Ladder) "middle_sums" = some none)
    (na_Ladder_high_sums : PySem.W.findIn K (.ref C_Ladder) "high_sums" = some none)
    (ica_Ladder : PySem.W.findIn K (.ref C_Ladder) "__class__" = some (some (.builtin "object.__class__")))
    (icn_Ladder : PySem.W.specialIn K (.builtin "object.__class__") "__get__" = some (some (.builtin "getset_descriptor.__get__")))
    (ict_Ladder : PySem.W.takesIn K (.builtin "object.__class__") = some true)
    (icm_Ladder : PySem.W.mroIn K C_Ladder (.type "object") = some true)
    (a_w_bag : PySem.W.nsIn K mainGlobals "_law_bag" = some (some (.ref f_w_bag)))
    (l_w_bag : K.lookup f_w_bag = some ⟨oc_w_bag, od_w_bag, .func (PySem.W.fnOf "_law_bag" "_law_bag" (defArgs t_w_bag) (defBody t_w_bag) (defScope t_w_bag) .none kV_w_bag dc_w_bag pm_w_bag an_w_bag cd_w_bag ct_w_bag), sl_w_bag⟩)
    (c_w_bag : PySem.W.codeIn K cd_w_bag "_law_bag" = true)
    (k_w_bag : PySem.W.keepIn K (.ref f_w_bag) = true)
    (a_w_take : PySem.W.nsIn K mainGlobals "_law_take" = some (some (.ref f_w_take)))
    (l_w_take : K.lookup f_w_take = some ⟨oc_w_take, od_w_take, .func (PySem.W.fnOf "_law_take" "_law_take" (defArgs t_w_take) (defBody t_w_take) (defScope t_w_take) .none kV_w_take dc_w_take pm_w_take an_w_take cd_w_take ct_w_take), sl_w_take⟩)
    (c_w_take : PySem.W.codeIn K cd_w_take "_law_take" = true)
    (k_w_take : PySem.W.keepIn K (.ref f_w_take) = true)
    (a_w_prices : PySem.W.nsIn K mainGlobals "_law_prices" = some (some (.ref f_w_prices)))
    (l_w_prices : K.lookup f_w_prices = some ⟨oc_w_prices, od_w_prices, .func (PySem.W.fnOf "_law_prices" "_law_prices" (defArgs t_w_prices) (defBody t_w_prices) (defScope t_w_prices) .none kV_w_prices dc_w_prices pm_w_prices an_w_prices cd_w_prices ct_w_prices), sl_w_prices⟩)
    (c_w_prices : PySem.W.codeIn K cd_w_prices "_law_prices" = true)
    (k_w_prices : PySem.W.keepIn K (.ref f_w_prices) = true)
    (a_w_any_plan : PySem.W.nsIn K mainGlobals "_law_any_plan" = some (some (.ref f_w_any_plan)))
    (l_w_any_plan : K.lookup f_w_any_plan = some ⟨oc_w_any_plan, od_w_any_plan, .func (PySem.W.fnOf "_law_any_plan" "_law_any_plan" (defArgs t_w_any_plan) (defBody t_w_any_plan) (defScope t_w_any_plan) .none kV_w_any_plan dc_w_any_plan pm_w_any_plan an_w_any_plan cd_w_any_plan ct_w_any_plan), sl_w_any_plan⟩)
    (c_w_any_plan : PySem.W.codeIn K cd_w_any_plan "_law_any_plan" = true)
    (k_w_any_plan : PySem.W.keepIn K (.ref f_w_any_plan) = true)
    (a_w_one_price : PySem.W.nsIn K mainGlobals "_law_one_price" = some (some (.ref f_w_one_price)))
    (l_w_one_price : K.lookup f_w_one_price = some ⟨oc_w_one_price, od_w_one_price, .func (PySem.W.fnOf "_law_one_price" "_law_one_price" (defArgs t_w_one_price) (defBody t_w_one_price) (defScope t_w_one_price) .none kV_w_one_price dc_w_one_price pm_w_one_price an_w_one_price cd_w_one_price ct_w_one_price), sl_w_one_price⟩)
    (c_w_one_price : PySem.W.codeIn K cd_w_one_price "_law_one_price" = true)
    (k_w_one_price : PySem.W.keepIn K (.ref f_w_one_price) = true)
    (a_is_whole : PySem.W.nsIn K mainGlobals "is_whole" = some (some (.ref f_is_whole)))
    (l_is_whole : K.lookup f_is_whole = some ⟨oc_is_whole, od_is_whole, .func (PySem.W.fnOf "is_whole" "is_whole" (defArgs t_is_whole) (defBody t_is_whole) (defScope t_is_whole) .none kV_is_whole dc_is_whole pm_is_whole an_is_whole cd_is_whole ct_is_whole), sl_is_whole⟩)
    (c_is_whole : PySem.W.codeIn K cd_is_whole "is_whole" = true)
    (k_is_whole : PySem.W.keepIn K (.ref f_is_whole) = true)
    (a_is_between : PySem.W.nsIn K mainGlobals "is_between" = some (some (.ref f_is_between)))
    (l_is_between : K.lookup f_is_between = some ⟨oc_is_between, od_is_between, .func (PySem.W.fnOf "is_between" "is_between" (defArgs t_is_between) (defBody t_is_between) (defScope t_is_between) .none kV_is_between dc_is_between pm_is_between an_is_between cd_is_between ct_is_between), sl_is_between⟩)
    (c_is_between : PySem.W.codeIn K cd_is_between "is_between" = true)
    (k_is_between : PySem.W.keepIn K (.ref f_is_between) = true)
    (a_is_price : PySem.W.nsIn K mainGlobals "is_price" = some (some (.ref f_is_price)))
    (l_is_price : K.lookup f_is_price = some ⟨oc_is_price, od_is_price, .func (PySem.W.fnOf "is_price" "is_price" (defArgs t_is_price) (defBody t_is_price) (defScope t_is_price) .none kV_is_price dc_is_price pm_is_price an_is_price cd_is_price ct_is_price), sl_is_price⟩)
    (c_is_price : PySem.W.codeIn K cd_is_price "is_price" = true)
    (k_is_price : PySem.W.keepIn K (.ref f_is_price) = true)
    (a_are_prices : PySem.W.nsIn K mainGlobals "are_prices" = some (some (.ref f_are_prices)))
    (l_are_prices : K.lookup f_are_prices = some ⟨oc_are_prices, od_are_prices, .func (PySem.W.fnOf "are_prices" "are_prices" (defArgs t_are_prices) (defBody t_are_prices) (defScope t_are_prices) .none kV_are_prices dc_are_prices pm_are_prices an_are_prices cd_are_prices ct_are_prices), sl_are_prices⟩)
    (c_are_prices : PySem.W.codeIn K cd_are_prices "are_prices" = true)
    (k_are_prices : PySem.W.keepIn K (.ref f_are_prices) = true)
    (a_sums_of : PySem.W.nsIn K mainGlobals "sums_of" = some (some (.ref f_sums_of)))
    (l_sums_of : K.lookup f_sums_of = some ⟨oc_sums_of, od_sums_of, .func (PySem.W.fnOf "sums_of" "sums_of" (defArgs t_sums_of) (defBody t_sums_of) (defScope t_sums_of) .none kV_sums_of dc_sums_of pm_sums_of an_sums_of cd_sums_of ct_sums_of), sl_sums_of⟩)
    (c_sums_of : PySem.W.codeIn K cd_sums_of "sums_of" = true)
    (k_sums_of : PySem.W.keepIn K (.ref f_sums_of) = true)
    (a_Ladder_init : PySem.W.findIn K (.ref C_Ladder) "__init__" = some (some (.ref f_Ladder_init)))
    (i_Ladder_init : PySem.W.isFn K (.ref f_Ladder_init) = true)
    (l_Ladder_init : K.lookup f_Ladder_init = some ⟨oc_Ladder_init, od_Ladder_init, .func (PySem.W.fnOf "__init__" "Ladder.__init__" (defArgs t_Ladder_init) (defBody t_Ladder_init) (defScope t_Ladder_init) .none (.ref D_Ladder_init) dc_Ladder_init pm_Ladder_init an_Ladder_init cd_Ladder_init ct_Ladder_init), sl_Ladder_init⟩)
    (c_Ladder_init : PySem.W.codeIn K cd_Ladder_init "Ladder.__init__" = true)
    (k_Ladder_init : PySem.W.keepIn K (.ref f_Ladder_init) = true)
    (d_Ladder_init_at : PySem.W.nsIn K D_Ladder_init "at" = some (some (.int 0 w_Ladder_init_at)))
    (a_w_made : PySem.W.nsIn K mainGlobals "_law_made" = some (some (.ref f_w_made)))
    (l_w_made : K.lookup f_w_made = some ⟨oc_w_made, od_w_made, .func (PySem.W.fnOf "_law_made" "_law_made" (defArgs t_w_made) (defBody t_w_made) (defScope t_w_made) .none kV_w_made dc_w_made pm_w_made an_w_made cd_w_made ct_w_made), sl_w_made⟩)
    (c_w_made : PySem.W.codeIn K cd_w_made "_law_made" = true)
    (k_w_made : PySem.W.keepIn K (.ref f_w_made) = true)
    (a_w_places : PySem.W.nsIn K mainGlobals "_law_places" = some (some (.ref f_w_places)))
    (l_w_places : K.lookup f_w_places = some ⟨oc_w_places, od_w_places, .func (PySem.W.fnOf "_law_places" "_law_places" (defArgs t_w_places) (defBody t_w_places) (defScope t_w_places) .none kV_w_places dc_w_places pm_w_places an_w_places cd_w_places ct_w_places), sl_w_places⟩)
    (c_w_places : PySem.W.codeIn K cd_w_places "_law_places" = true)
    (k_w_places : PySem.W.keepIn K (.ref f_w_places) = true)
    (a_Ladder_price_at : PySem.W.findIn K (.ref C_Ladder) "price_at" = some (some (.ref f_Ladder_price_at)))
    (i_Ladder_price_at : PySem.W.isFn K (.ref f_Ladder_price_at) = true)
    (l_Ladder_price_at : K.lookup f_Ladder_price_at = some ⟨oc_Ladder_price_at, od_Ladder_price_at, .func (PySem.W.fnOf "price_at" "Ladder.price_at" (defArgs t_Ladder_price_at) (defBody t_Ladder_price_at) (defScope t_Ladder_price_at) .none kV_Ladder_price_at dc_Ladder_price_at pm_Ladder_price_at an_Ladder_price_at cd_Ladder_price_at ct_Ladder_price_at), sl_Ladder_price_at⟩)
    (c_Ladder_price_at : PySem.W.codeIn K cd_Ladder_price_at "Ladder.price_at" = true)
    (k_Ladder_price_at : PySem.W.keepIn K (.ref f_Ladder_price_at) = true)
    (a_Ladder_rung : PySem.W.findIn K (.ref C_Ladder) "rung" = some (some (.ref f_Ladder_rung)))
    (i_Ladder_rung : PySem.W.isFn K (.ref f_Ladder_rung) = true)
    (l_Ladder_rung : K.lookup f_Ladder_rung = some ⟨oc_Ladder_rung, od_Ladder_rung, .func (PySem.W.fnOf "rung" "Ladder.rung" (defArgs t_Ladder_rung) (defBody t_Ladder_rung) (defScope t_Ladder_rung) .none kV_Ladder_rung dc_Ladder_rung pm_Ladder_rung an_Ladder_rung cd_Ladder_rung ct_Ladder_rung), sl_Ladder_rung⟩)
    (c_Ladder_rung : PySem.W.codeIn K cd_Ladder_rung "Ladder.rung" = true)
    (k_Ladder_rung : PySem.W.keepIn K (.ref f_Ladder_rung) = true)
    (a_w_rung : PySem.W.nsIn K mainGlobals "_law_rung" = some (some (.ref f_w_rung)))
    (l_w_rung : K.lookup f_w_rung = some ⟨oc_w_rung, od_w_rung, .func (PySem.W.fnOf "_law_rung" "_law_rung" (defArgs t_w_rung) (defBody t_w_rung) (defScope t_w_rung) .none kV_w_rung dc_w_rung pm_w_rung an_w_rung cd_w_rung ct_w_rung), sl_w_rung⟩)
    (c_w_rung : PySem.W.codeIn K cd_w_rung "_law_rung" = true)
    (k_w_rung : PySem.W.keepIn K (.ref f_w_rung) = true)
    (a_w_alike : PySem.W.nsIn K mainGlobals "_law_alike" = some (some (.ref f_w_alike)))
    (l_w_alike : K.lookup f_w_alike = some ⟨oc_w_alike, od_w_alike, .func (PySem.W.fnOf "_law_alike" "_law_alike" (defArgs t_w_alike) (defBody t_w_alike) (defScope t_w_alike) .none kV_w_alike dc_w_alike pm_w_alike an_w_alike cd_w_alike ct_w_alike), sl_w_alike⟩)
    (c_w_alike : PySem.W.codeIn K cd_w_alike "_law_alike" = true)
    (k_w_alike : PySem.W.keepIn K (.ref f_w_alike) = true)
    (a_Ladder_bears_up : PySem.W.findIn K (.ref C_Ladder) "bears_up" = some (some (.ref f_Ladder_bears_up)))
    (i_Ladder_bears_up : PySem.W.isFn K (.ref f_Ladder_bears_up) = true)
    (l_Ladder_bears_up : K.lookup f_Ladder_bears_up = some ⟨oc_Ladder_bears_up, od_Ladder_bears_up, .func (PySem.W.fnOf "bears_up" "Ladder.bears_up" (defArgs t_Ladder_bears_up) (defBody t_Ladder_bears_up) (defScope t_Ladder_bears_up) .none kV_Ladder_bears_up dc_Ladder_bears_up pm_Ladder_bears_up an_Ladder_bears_up cd_Ladder_bears_up ct_Ladder_bears_up), sl_Ladder_bears_up⟩)
    (c_Ladder_bears_up : PySem.W.codeIn K cd_Ladder_bears_up "Ladder.bears_up" = true)
    (k_Ladder_bears_up : PySem.W.keepIn K (.ref f_Ladder_bears_up) = true)
    (a_Ladder_bears_down : PySem.W.findIn K (.ref C_Ladder) "bears_down" = some (some (.ref f_Ladder_bears_down)))
    (i_Ladder_bears_down : PySem.W.isFn K (.ref f_Ladder_bears_down) = true)
    (l_Ladder_bears_down : K.lookup f_Ladder_bears_down = some ⟨oc_Ladder_bears_down, od_Ladder_bears_down, .func (PySem.W.fnOf "bears_down" "Ladder.bears_down" (defArgs t_Ladder_bears_down) (defBody t_Ladder_bears_down) (defScope t_Ladder_bears_down) .none kV_Ladder_bears_down dc_Ladder_bears_down pm_Ladder_bears_down an_Ladder_bears_down cd_Ladder_bears_down ct_Ladder_bears_down), sl_Ladder_bears_down⟩)
    (c_Ladder_bears_down : PySem.W.codeIn K cd_Ladder_bears_down "Ladder.bears_down" = true)
    (k_Ladder_bears_down : PySem.W.keepIn K (.ref f_Ladder_bears_down) = true)
    (a_Ladder_is_plain : PySem.W.findIn K (.ref C_Ladder) "is_plain" = some (some (.ref f_Ladder_is_plain)))
    (i_Ladder_is_plain : PySem.W.isFn K (.ref f_Ladder_is_plain) = true)
    (l_Ladder_is_plain : K.lookup f_Ladder_is_plain = some ⟨oc_Ladder_is_plain, od_Ladder_is_plain, .func (PySem.W.fnOf "is_plain" "Ladder.is_plain" (defArgs t_Ladder_is_plain) (defBody t_Ladder_is_plain) (defScope t_Ladder_is_plain) .none kV_Ladder_is_plain dc_Ladder_is_plain pm_Ladder_is_plain an_Ladder_is_plain cd_Ladder_is_plain ct_Ladder_is_plain), sl_Ladder_is_plain⟩)
    (c_Ladder_is_plain : PySem.W.codeIn K cd_Ladder_is_plain "Ladder.is_plain" = true)
    (k_Ladder_is_plain : PySem.W.keepIn K (.ref f_Ladder_is_plain) = true)
    (a_repeated : PySem.W.nsIn K mainGlobals "repeated" = some (some (.ref f_repeated)))
    (l_repeated : K.lookup f_repeated = some ⟨oc_repeated, od_repeated, .func (PySem.W.fnOf "repeated" "repeated" (defArgs t_repeated) (defBody t_repeated) (defScope t_repeated) .none kV_repeated dc_repeated pm_repeated an_repeated cd_repeated ct_repeated), sl_repeated⟩)
    (c_repeated : PySem.W.codeIn K cd_repeated "repeated" = true)
    (k_repeated : PySem.W.keepIn K (.ref f_repeated) = true)
    (a_Ladder_height : PySem.W.findIn K (.ref C_Ladder) "height" = some (some (.ref f_Ladder_height)))
    (i_Ladder_height : PySem.W.isFn K (.ref f_Ladder_height) = true)
    (l_Ladder_height : K.lookup f_Ladder_height = some ⟨oc_Ladder_height, od_Ladder_height, .func (PySem.W.fnOf "height" "Ladder.height" (defArgs t_Ladder_height) (defBody t_Ladder_height) (defScope t_Ladder_height) .none kV_Ladder_height dc_Ladder_height pm_Ladder_height an_Ladder_height cd_Ladder_height ct_Ladder_height), sl_Ladder_height⟩)
    (c_Ladder_height : PySem.W.codeIn K cd_Ladder_height "Ladder.height" = true)
    (k_Ladder_height : PySem.W.keepIn K (.ref f_Ladder_height) = true)
    (a_Ladder_total : PySem.W.findIn K (.ref C_Ladder) "total" = some (some (.ref f_Ladder_total)))
    (i_Ladder_total : PySem.W.isFn K (.ref f_Ladder_total) = true)
    (l_Ladder_total : K.lookup f_Ladder_total = some ⟨oc_Ladder_total, od_Ladder_total, .func (PySem.W.fnOf "total" "Ladder.total" (defArgs t_Ladder_total) (defBody t_Ladder_total) (defScope t_Ladder_total) .none kV_Ladder_total dc_Ladder_total pm_Ladder_total an_Ladder_total cd_Ladder_total ct_Ladder_total), sl_Ladder_total⟩)
    (c_Ladder_total : PySem.W.codeIn K cd_Ladder_total "Ladder.total" = true)
    (k_Ladder_total : PySem.W.keepIn K (.ref f_Ladder_total) = true)
    (a_Ladder_repr : PySem.W.findIn K (.ref C_Ladder) "__repr__" = some (some (.ref f_Ladder_repr)))
    (i_Ladder_repr : PySem.W.isFn K (.ref f_Ladder_repr) = true)
    (l_Ladder_repr : K.lookup f_Ladder_repr = some ⟨oc_Ladder_repr, od_Ladder_repr, .func (PySem.W.fnOf "__repr__" "Ladder.__repr__" (defArgs t_Ladder_repr) (defBody t_Ladder_repr) (defScope t_Ladder_repr) .none kV_Ladder_repr dc_Ladder_repr pm_Ladder_repr an_Ladder_repr cd_Ladder_repr ct_Ladder_repr), sl_Ladder_repr⟩)
    (c_Ladder_repr : PySem.W.codeIn K cd_Ladder_repr "Ladder.__repr__" = true)
    (k_Ladder_repr : PySem.W.keepIn K (.ref f_Ladder_repr) = true)
    (a_Ladder_eq : PySem.W.findIn K (.ref C_Ladder) "__eq__" = some (some (.ref f_Ladder_eq)))
    (i_Ladder_eq : PySem.W.isFn K (.ref f_Ladder_eq) = true)
    (l_Ladder_eq : K.lookup f_Ladder_eq = some ⟨oc_Ladder_eq, od_Ladder_eq, .func (PySem.W.fnOf "__eq__" "Ladder.__eq__" (defArgs t_Ladder_eq) (defBody t_Ladder_eq) (defScope t_Ladder_eq) .none kV_Ladder_eq dc_Ladder_eq pm_Ladder_eq an_Ladder_eq cd_Ladder_eq ct_Ladder_eq), sl_Ladder_eq⟩)
    (c_Ladder_eq : PySem.W.codeIn K cd_Ladder_eq "Ladder.__eq__" = true)
    (k_Ladder_eq : PySem.W.keepIn K (.ref f_Ladder_eq) = true)
    (a_Ladder_moved_to : PySem.W.findIn K (.ref C_Ladder) "moved_to" = some (some (.ref f_Ladder_moved_to)))
    (i_Ladder_moved_to : PySem.W.isFn K (.ref f_Ladder_moved_to) = true)
    (l_Ladder_moved_to : K.lookup f_Ladder_moved_to = some ⟨oc_Ladder_moved_to, od_Ladder_moved_to, .func (PySem.W.fnOf "moved_to" "Ladder.moved_to" (defArgs t_Ladder_moved_to) (defBody t_Ladder_moved_to) (defScope t_Ladder_moved_to) .none kV_Ladder_moved_to dc_Ladder_moved_to pm_Ladder_moved_to an_Ladder_moved_to cd_Ladder_moved_to ct_Ladder_moved_to), sl_Ladder_moved_to⟩)
    (c_Ladder_moved_to : PySem.W.codeIn K cd_Ladder_moved_to "Ladder.moved_to" = true)
    (k_Ladder_moved_to : PySem.W.keepIn K (.ref f_Ladder_moved_to) = true)
    (a_Ladder_turned : PySem.W.findIn K (.ref C_Ladder) "turned" = some (some (.ref f_Ladder_turned)))
    (i_Ladder_turned : PySem.W.isFn K (.ref f_Ladder_turned) = true)
    (l_Ladder_turned : K.lookup f_Ladder_turned = some ⟨oc_Ladder_turned, od_Ladder_turned, .func (PySem.W.fnOf "turned" "Ladder.turned" (defArgs t_Ladder_turned) (defBody t_Ladder_turned) (defScope t_Ladder_turned) .none kV_Ladder_turned dc_Ladder_turned pm_Ladder_turned an_Ladder_turned cd_Ladder_turned ct_Ladder_turned), sl_Ladder_turned⟩)
    (c_Ladder_turned : PySem.W.codeIn K cd_Ladder_turned "Ladder.turned" = true)
    (k_Ladder_turned : PySem.W.keepIn K (.ref f_Ladder_turned) = true)
    (a_w_else_right : PySem.W.nsIn K mainGlobals "_law_else_right" = some (some (.ref f_w_else_right)))
    (l_w_else_right : K.lookup f_w_else_right = some ⟨oc_w_else_right, od_w_else_right, .func (PySem.W.fnOf "_law_else_right" "_law_else_right" (defArgs t_w_else_right) (defBody t_w_else_right) (defScope t_w_else_right) .none kV_w_else_right dc_w_else_right pm_w_else_right an_w_else_right cd_w_else_right ct_w_else_right), sl_w_else_right⟩)
    (c_w_else_right : PySem.W.codeIn K cd_w_else_right "_law_else_right" = true)
    (k_w_else_right : PySem.W.keepIn K (.ref f_w_else_right) = true)
    (a_w_right : PySem.W.nsIn K mainGlobals "_law_right" = some (some (.ref f_w_right)))
    (l_w_right : K.lookup f_w_right = some ⟨oc_w_right, od_w_right, .func (PySem.W.fnOf "_law_right" "_law_right" (defArgs t_w_right) (defBody t_w_right) (defScope t_w_right) .none kV_w_right dc_w_right pm_w_right an_w_right cd_w_right ct_w_right), sl_w_right⟩)
    (c_w_right : PySem.W.codeIn K cd_w_right "_law_right" = true)
    (k_w_right : PySem.W.keepIn K (.ref f_w_right) = true)
    (a_plain : PySem.W.nsIn K mainGlobals "plain" = some (some (.ref f_plain)))
    (l_plain : K.lookup f_plain = some ⟨oc_plain, od_plain, .func (PySem.W.fnOf "plain" "plain" (defArgs t_plain) (defBody t_plain) (defScope t_plain) .none kV_plain dc_plain pm_plain an_plain cd_plain ct_plain), sl_plain⟩)
    (c_plain : PySem.W.codeIn K cd_plain "plain" = true)
    (k_plain : PySem.W.keepIn K (.ref f_plain) = true)
    (a_law : PySem.W.nsIn K mainGlobals "law" = some (some (.ref f_law)))
    (l_law : K.lookup f_law = some ⟨oc_law, od_law, .func (PySem.W.fnOf "law" "law" (defArgs t_law) (defBody t_law) (defScope t_law) .none kV_law dc_law pm_law an_law cd_law ct_law), sl_law⟩)
    (c_law : PySem.W.codeIn K cd_law "law" = true)
    (k_law : PySem.W.keepIn K (.ref f_law) = true) :
    ∃ fd : FuncData, (∀ (s : Shared) (v : Value), BindsTo s fd ⟨[v], []⟩ [("_law_script", v)]) ∧ ∀ base : Heap, K.In base → base.Ns mainGlobals mg → FnG true P w K mg base 11 fa fd ["_law_script"] (spZ ⟨P, w, K, mg, base⟩ (fun _ : Unit => noE) (fun (_ : Unit) (p : List Int) => [(rSc K rInt).pr p]) m_law rBl) := by
  have e := hfa.symm.trans (PySem.W.mg_of X G a_law)
  cases e
  have F_Wrong_init := fun_mk (st := t_Wrong_init) l_Wrong_init c_Wrong_init k_Wrong_init
  have B_Wrong_init := F_Wrong_init.binds (ps := ["self", "at"]) fun _ _ _ _ _ _ us hl => match us, hl with | [_, _], _ => rfl
  have F_w_bag := fun_mk (st := t_w_bag) l_w_bag c_w_bag k_w_bag
  have B_w_bag := F_w_bag.binds (ps := ["_law_script"]) fun _ _ _ _ _ _ us hl => match us, hl with | [_], _ => rfl
  have F_w_take := fun_mk (st := t_w_take) l_w_take c_w_take k_w_take
  have B_w_take := F_w_take.binds (ps := ["_law_bag_here", "_law_many"]) fun _ _ _ _ _ _ us hl => match us, hl with | [_, _], _ => rfl
  have F_w_prices := fun_mk (st := t_w_prices) l_w_prices c_w_prices k_w_prices
  have B_w_prices := F_w_prices.binds (ps := ["_law_bag_here", "_law_many"]) fun _ _ _ _ _ _ us hl => match us, hl with | [_, _], _ => rfl
  have F_w_any_plan := fun_mk (st := t_w_any_plan) l_w_any_plan c_w_any_plan k_w_any_plan
  have B_w_any_plan := F_w_any_plan.binds (ps := ["_law_bag_here"]) fun _ _ _ _ _ _ us hl => match us, hl with | [_], _ => rfl
  have F_w_one_price := fun_mk (st := t_w_one_price) l_w_one_price c_w_one_price k_w_one_price
  have B_w_one_price := F_w_one_price.binds (ps := ["_law_bag_here", "_law_plan"]) fun _ _ _ _ _ _ us hl => match us, hl with | [_, _], _ => rfl
  have F_is_whole := fun_mk (st := t_is_whole) l_is_whole c_is_whole k_is_whole
  have B_is_whole := F_is_whole.binds (ps := ["thing"]) fun _ _ _ _ _ _ us hl => match us, hl with | [_], _ => rfl
  have F_is_between := fun_mk (st := t_is_between) l_is_between c_is_between k_is_between
  have B_is_between := F_is_between.binds (ps := ["thing", "low", "high"]) fun _ _ _ _ _ _ us hl => match us, hl with | [_, _, _], _ => rfl
  have F_is_price := fun_mk (st := t_is_price) l_is_price c_is_price k_is_price
  have B_is_price := F_is_price.binds (ps := ["thing"]) fun _ _ _ _ _ _ us hl => match us, hl with | [_], _ => rfl
  have F_are_prices := fun_mk (st := t_are_prices) l_are_prices c_are_prices k_are_prices
  have B_are_prices := F_are_prices.binds (ps := ["thing", "least", "most"]) fun _ _ _ _ _ _ us hl => match us, hl with | [_, _, _], _ => rfl
  have F_sums_of := fun_mk (st := t_sums_of) l_sums_of c_sums_of k_sums_of
  have B_sums_of := F_sums_of.binds (ps := ["prices"]) fun _ _ _ _ _ _ us hl => match us, hl with | [_], _ => rfl
  have F_Ladder_init : FunD K "__init__" "Ladder.__init__" (defArgs t_Ladder_init) (defBody t_Ladder_init) (defScope t_Ladder_init) [] [("at", .int 0)] f_Ladder_init _ := ⟨⟨_, _, _, _, _, _, _, _, _, _, rfl, l_Ladder_init, c_Ladder_init, .inl ⟨rfl, rfl⟩, .inr ⟨D_Ladder_init, rfl, fun q hq => by simp only [List.mem_cons, List.not_mem_nil, or_false] at hq; rcases hq with rfl; exact ⟨_, d_Ladder_init_at, ⟨_, rfl⟩⟩⟩⟩, k_Ladder_init⟩
  have F_w_made := fun_mk (st := t_w_made) l_w_made c_w_made k_w_made
  have B_w_made := F_w_made.binds (ps := ["_law_plan", "_law_handed"]) fun _ _ _ _ _ _ us hl => match us, hl with | [_, _], _ => rfl
  have F_w_places := fun_mk (st := t_w_places) l_w_places c_w_places k_w_places
  have B_w_places := F_w_places.binds (ps := ["_law_bag_here", "_law_plan"]) fun _ _ _ _ _ _ us hl => match us, hl with | [_, _], _ => rfl
  have F_Ladder_price_at := fun_mk (st := t_Ladder_price_at) l_Ladder_price_at c_Ladder_price_at k_Ladder_price_at
  have B_Ladder_price_at := F_Ladder_price_at.binds (ps := ["self", "d"]) fun _ _ _ _ _ _ us hl => match us, hl with | [_, _], _ => rfl
  have F_Ladder_rung := fun_mk (st := t_Ladder_rung) l_Ladder_rung c_Ladder_rung k_Ladder_rung
  have B_Ladder_rung := F_Ladder_rung.binds (ps := ["self", "d"]) fun _ _ _ _ _ _ us hl => match us, hl with | [_, _], _ => rfl
  have F_w_rung := fun_mk (st := t_w_rung) l_w_rung c_w_rung k_w_rung
  have B_w_rung := F_w_rung.binds (ps := ["_law_plan", "_law_d"]) fun _ _ _ _ _ _ us hl => match us, hl with | [_, _], _ => rfl
  have F_w_alike := fun_mk (st := t_w_alike) l_w_alike c_w_alike k_w_alike
  have B_w_alike := F_w_alike.binds (ps := ["_law_found", "_law_due"]) fun _ _ _ _ _ _ us hl => match us, hl with | [_, _], _ => rfl
  have F_Ladder_bears_up := fun_mk (st := t_Ladder_bears_up) l_Ladder_bears_up c_Ladder_bears_up k_Ladder_bears_up
  have B_Ladder_bears_up := F_Ladder_bears_up.binds (ps := ["self"]) fun _ _ _ _ _ _ us hl => match us, hl with | [_], _ => rfl
  have F_Ladder_bears_down := fun_mk (st := t_Ladder_bears_down) l_Ladder_bears_down c_Ladder_bears_down k_Ladder_bears_down
  have B_Ladder_bears_down := F_Ladder_bears_down.binds (ps := ["self"]) fun _ _ _ _ _ _ us hl => match us, hl with | [_], _ => rfl
  have F_Ladder_is_plain := fun_mk (st := t_Ladder_is_plain) l_Ladder_is_plain c_Ladder_is_plain k_Ladder_is_plain
  have B_Ladder_is_plain := F_Ladder_is_plain.binds (ps := ["self"]) fun _ _ _ _ _ _ us hl => match us, hl with | [_], _ => rfl
  have F_repeated := fun_mk (st := t_repeated) l_repeated c_repeated k_repeated
  have B_repeated := F_repeated.binds (ps := ["sums", "many"]) fun _ _ _ _ _ _ us hl => match us, hl with | [_, _], _ => rfl
  have F_Ladder_height := fun_mk (st := t_Ladder_height) l_Ladder_height c_Ladder_height k_Ladder_height
  have B_Ladder_height := F_Ladder_height.binds (ps := ["self", "d"]) fun _ _ _ _ _ _ us hl => match us, hl with | [_, _], _ => rfl
  have F_Ladder_total := fun_mk (st := t_Ladder_total) l_Ladder_total c_Ladder_total k_Ladder_total
  have B_Ladder_total := F_Ladder_total.binds (ps := ["self", "low", "high"]) fun _ _ _ _ _ _ us hl => match us, hl with | [_, _, _], _ => rfl
  have F_Ladder_repr := fun_mk (st := t_Ladder_repr) l_Ladder_repr c_Ladder_repr k_Ladder_repr
  have B_Ladder_repr := F_Ladder_repr.binds (ps := ["self"]) fun _ _ _ _ _ _ us hl => match us, hl with | [_], _ => rfl
  have F_Ladder_eq := fun_mk (st := t_Ladder_eq) l_Ladder_eq c_Ladder_eq k_Ladder_eq
  have B_Ladder_eq := F_Ladder_eq.binds (ps := ["self", "other"]) fun _ _ _ _ _ _ us hl => match us, hl with | [_, _], _ => rfl
  have F_Ladder_moved_to := fun_mk (st := t_Ladder_moved_to) l_Ladder_moved_to c_Ladder_moved_to k_Ladder_moved_to
  have B_Ladder_moved_to := F_Ladder_moved_to.binds (ps := ["self", "at"]) fun _ _ _ _ _ _ us hl => match us, hl with | [_, _], _ => rfl
  have F_Ladder_turned := fun_mk (st := t_Ladder_turned) l_Ladder_turned c_Ladder_turned k_Ladder_turned
  have B_Ladder_turned := F_Ladder_turned.binds (ps := ["self"]) fun _ _ _ _ _ _ us hl => match us, hl with | [_], _ => rfl
  have F_w_else_right := fun_mk (st := t_w_else_right) l_w_else_right c_w_else_right k_w_else_right
  have B_w_else_right := F_w_else_right.binds (ps := ["_law_bag_here", "_law_ladder", "_law_plan", "_law_places_here"]) fun _ _ _ _ _ _ us hl => match us, hl with | [_, _, _, _], _ => rfl
  have F_w_right := fun_mk (st := t_w_right) l_w_right c_w_right k_w_right
  have B_w_right := F_w_right.binds (ps := ["_law_bag_here", "_law_ladder", "_law_plan"]) fun _ _ _ _ _ _ us hl => match us, hl with | [_, _, _], _ => rfl
  have F_plain := fun_mk (st := t_plain) l_plain c_plain k_plain
  have B_plain := F_plain.binds (ps := ["price"]) fun _ _ _ _ _ _ us hl => match us, hl with | [_], _ => rfl
  refine ⟨PySem.W.fnOf "law" "law" (defArgs t_law) (defBody t_law) (defScope t_law) .none kV_law dc_law pm_law an_law cd_law ct_law, fun s v => .of_eq rfl, fun base _ _ => ?_⟩
  have T : Txt ⟨P, w, K, mg, base⟩ ⟨C_Ladder, C_Wrong, C_AheadError⟩ := {
    b_abs := PySem.W.mg_none_of X G z_abs,
    b_all := PySem.W.mg_none_of X G z_all,
    b_bool := PySem.W.mg_none_of X G z_bool,
    b_divmod := PySem.W.mg_none_of X G z_divmod,
    b_enumerate := PySem.W.mg_none_of X G z_enumerate,
    b_int := PySem.W.mg_none_of X G z_int,
    b_isinstance := PySem.W.mg_none_of X G z_isinstance,
    b_len := PySem.W.mg_none_of X G z_len,
    b_list := PySem.W.mg_none_of X G z_list,
    b_max := PySem.W.mg_none_of X G z_max,
    b_min := PySem.W.mg_none_of X G z_min,
    b_range := PySem.W.mg_none_of X G z_range,
    b_repr := PySem.W.mg_none_of X G z_repr,
    b_reversed := PySem.W.mg_none_of X G z_reversed,
    b_set := PySem.W.mg_none_of X G z_set,
    b_str := PySem.W.mg_none_of X G z_str,
    b_sum := PySem.W.mg_none_of X G z_sum,
    b_tuple := PySem.W.mg_none_of X G z_tuple,
    c_ALL_ALIKE := ⟨u_ALL_ALIKE, PySem.W.mg_of X G m_ALL_ALIKE, r_ALL_ALIKE⟩,
    c_FARTHEST_AT := ⟨u_FARTHEST_AT, PySem.W.mg_of X G m_FARTHEST_AT, r_FARTHEST_AT⟩,
    c_MOST_PRICE := ⟨u_MOST_PRICE, PySem.W.mg_of X G m_MOST_PRICE, r_MOST_PRICE⟩,
    c_MOST_REPEATED := ⟨u_MOST_REPEATED, PySem.W.mg_of X G m_MOST_REPEATED, r_MOST_REPEATED⟩,
    c_MOST_ROW := ⟨u_MOST_ROW, PySem.W.mg_of X G m_MOST_ROW, r_MOST_ROW⟩,
    g_AheadError := PySem.W.mg_of X G g_AheadError,
    ain_AheadError := ⟨.type "type", ⟨rd_AheadError, ga_AheadError⟩, at_AheadError⟩,
    g_Wrong := PySem.W.mg_of X G g_Wrong,
    ox_Wrong := ⟨⟨_, _, _, _, _, _, _, _, _, _, _, _, _, _, _, xl_Wrong, bm_Wrong⟩, sa_Wrong, ex_Wrong, ty_Wrong, kc_Wrong⟩,
    xi_Wrong := ⟨f_Wrong_init, _, a_Wrong_init, t_Wrong_init_, B_Wrong_init, F_Wrong_init⟩,
    xf_Wrong := xf_Wrong,
    g_Ladder := PySem.W.mg_of X G g_Ladder,
    cl_Ladder := ⟨pg_Ladder, hd_Ladder, po_Ladder, sa_Ladder⟩,
    na_Ladder_low := na_Ladder_low,
    na_Ladder_middle := na_Ladder_middle,
    na_Ladder_high := na_Ladder_high,
    na_Ladder_begin := na_Ladder_begin,
    na_Ladder_low_sums := na_Ladder_low_sums,
    na_Ladder_middle_sums := na_Ladder_middle_sums,
    na_Ladder_high_sums := na_Ladder_high_sums,
    ic_Ladder := ⟨⟨pg_Ladder, hd_Ladder, po_Ladder, sa_Ladder⟩, ica_Ladder, icn_Ladder, ict_Ladder, icm_Ladder⟩,
    is_Ladder_Ladder := kit_self,
    d_w_bag := ⟨f_w_bag, _, PySem.W.mg_of X G a_w_bag, k_w_bag, B_w_bag, F_w_bag⟩,
    d_w_take := ⟨f_w_take, _, PySem.W.mg_of X G a_w_take, k_w_take, B_w_take, F_w_take⟩,
    d_w_prices := ⟨f_w_prices, _, PySem.W.mg_of X G a_w_prices, k_w_prices, B_w_prices, F_w_prices⟩,
    d_w_any_plan := ⟨f_w_any_plan, _, PySem.W.mg_of X G a_w_any_plan, k_w_any_plan, B_w_any_plan, F_w_any_plan⟩,
    d_w_one_price := ⟨f_w_one_price, _, PySem.W.mg_of X G a_w_one_price, k_w_one_price, B_w_one_price, F_w_one_price⟩,
    d_is_whole := ⟨f_is_whole, _, PySem.W.mg_of X G a_is_whole, k_is_whole, B_is_whole, F_is_whole⟩,
    d_is_between := ⟨f_is_between, _, PySem.W.mg_of X G a_is_between, k_is_between, B_is_between, F_is_between⟩,
    d_is_price := ⟨f_is_price, _, PySem.W.mg_of X G a_is_price, k_is_price, B_is_price, F_is_price⟩,
    d_are_prices := ⟨f_are_prices, _, PySem.W.mg_of X G a_are_prices, k_are_prices, B_are_prices, F_are_prices⟩,
    d_sums_of := ⟨f_sums_of, _, PySem.W.mg_of X G a_sums_of, k_sums_of, B_sums_of, F_sums_of⟩,
    d_Ladder_init := ⟨f_Ladder_init, _, ⟨mk_Ladder_, a_Ladder_init, i_Ladder_init, kc_Ladder⟩, F_Ladder_init⟩,
    d_w_made := ⟨f_w_made, _, PySem.W.mg_of X G a_w_made, k_w_made, B_w_made, F_w_made⟩,
    d_w_places := ⟨f_w_places, _, PySem.W.mg_of X G a_w_places, k_w_places, B_w_places, F_w_places⟩,
    d_Ladder_price_at := ⟨f_Ladder_price_at, _, ⟨a_Ladder_price_at, i_Ladder_price_at, k_Ladder_price_at⟩, B_Ladder_price_at, F_Ladder_price_at⟩,
    d_Ladder_rung := ⟨f_Ladder_rung, _, ⟨a_Ladder_rung, i_Ladder_rung, k_Ladder_rung⟩, B_Ladder_rung, F_Ladder_rung⟩,
    d_w_rung := ⟨f_w_rung, _, PySem.W.mg_of X G a_w_rung, k_w_rung, B_w_rung, F_w_rung⟩,
    d_w_alike := ⟨f_w_alike, _, PySem.W.mg_of X G a_w_alike, k_w_alike, B_w_alike, F_w_alike⟩,
    d_Ladder_bears_up := ⟨f_Ladder_bears_up, _, ⟨a_Ladder_bears_up, i_Ladder_bears_up, k_Ladder_bears_up⟩, B_Ladder_bears_up, F_Ladder_bears_up⟩,
    d_Ladder_bears_down := ⟨f_Ladder_bears_down, _, ⟨a_Ladder_bears_down, i_Ladder_bears_down, k_Ladder_bears_down⟩, B_Ladder_bears_down, F_Ladder_bears_down⟩,
    d_Ladder_is_plain := ⟨f_Ladder_is_plain, _, ⟨a_Ladder_is_plain, i_Ladder_is_plain, k_Ladder_is_plain⟩, B_Ladder_is_plain, F_Ladder_is_plain⟩,
    d_repeated := ⟨f_repeated, _, PySem.W.mg_of X G a_repeated, k_repeated, B_repeated, F_repeated⟩,
    d_Ladder_height := ⟨f_Ladder_height, _, ⟨a_Ladder_height, i_Ladder_height, k_Ladder_height⟩, B_Ladder_height, F_Ladder_height⟩,
    d_Ladder_total := ⟨f_Ladder_total, _, ⟨a_Ladder_total, i_Ladder_total, k_Ladder_total⟩, B_Ladder_total, F_Ladder_total⟩,
    d_Ladder_repr := ⟨f_Ladder_repr, _, ⟨a_Ladder_repr, i_Ladder_repr, k_Ladder_repr⟩, B_Ladder_repr, F_Ladder_repr⟩,
    d_Ladder_eq := ⟨f_Ladder_eq, _, ⟨a_Ladder_eq, i_Ladder_eq, k_Ladder_eq⟩, B_Ladder_eq, F_Ladder_eq⟩,
    d_Ladder_moved_to := ⟨f_Ladder_moved_to, _, ⟨a_Ladder_moved_to, i_Ladder_moved_to, k_Ladder_moved_to⟩, B_Ladder_moved_to, F_Ladder_moved_to⟩,
    d_Ladder_turned := ⟨f_Ladder_turned, _, ⟨a_Ladder_turned, i_Ladder_turned, k_Ladder_turned⟩, B_Ladder_turned, F_Ladder_turned⟩,
    d_w_else_right := ⟨f_w_else_right, _, PySem.W.mg_of X G a_w_else_right, k_w_else_right, B_w_else_right, F_w_else_right⟩,
    d_w_right := ⟨f_w_right, _, PySem.W.mg_of X G a_w_right, k_w_right, B_w_right, F_w_right⟩,
    d_plain := ⟨f_plain, _, PySem.W.mg_of X G a_plain, k_plain, B_plain, F_plain⟩ }
  exact (f_law T (fun_mk (st := t_law) l_law c_law k_law)).up fun _ => rfl
end Zk
open PySem PySem.W PyProof.Rows in
set_option maxRecDepth 100000 in
set_option maxHeartbeats 0 in
theorem PySem.Challenge.cw_aheadpays_k12_rungs_as_told_holds : PySem.Challenge.rw_aheadpays_k12_rungs_as_told.Holds := by
  w_on; o_law; k_head; (case hw => w_witness2)
  k_fill
  refine Zk.walk_G (l := PySem.Challenge.rw_aheadpays_k12_rungs_as_told) (n := 63) (k := 11) (x := "_law_script") (m := Zk.m_law) rfl (by decide) rfl ⟨rfl, by decide, by decide⟩ (fun w h Y => PySem.W.kIn_of Y) ?F Zk.law_true
  case F =>
    intro w mg fa h KX G hmg
    refine' Zk.all_mk KX G hmg ?z_abs ?z_all ?z_bool ?z_divmod ?z_enumerate ?z_int ?z_isinstance ?z_len ?z_list ?z_max ?z_min ?z_range ?z_repr ?z_reversed ?z_set ?z_str ?z_sum ?z_tuple ?m_ALL_ALIKE ?r_ALL_ALIKE ?m_FARTHEST_AT ?r_FARTHEST_AT ?m_MOST_PRICE ?r_MOST_PRICE ?m_MOST_REPEATED ?r_MOST_REPEATED ?m_MOST_ROW ?r_MOST_ROW ?g_AheadError ?rd_AheadError ?ga_AheadError ?at_AheadError ?g_Wrong ?xl_Wrong ?bm_Wrong ?sa_Wrong ?ex_Wrong ?ty_Wrong ?kc_Wrong ?xf_Wrong ?a_Wrong_init ?t_Wrong_init_ ?l_Wrong_init ?c_Wrong_init ?k_Wrong_init ?g_Ladder ?pg_Ladder ?hd_Ladder ?po_Ladder ?sa_Ladder ?mk_Ladder_ ?kc_Ladder ?na_Ladder_low ?na_Ladder_middle ?na_Ladder_high ?na_Ladder_begin ?na_Ladder_low_sums ?na_Ladder_middle_sums ?na_Ladder_high_sums ?ica_Ladder ?icn_Ladder ?ict_Ladder ?icm_Ladder ?a_w_bag ?l_w_bag ?c_w_bag ?k_w_bag ?a_w_take ?l_w_take ?c_w_take ?k_w_take ?a_w_prices ?l_w_prices ?c_w_prices ?k_w_prices ?a_w_any_plan ?l_w_any_plan ?c_w_any_plan ?k_w_any_plan ?a_w_one_price ?l_w_one_price ?c_w_one_price ?k_w_one_price ?a_is_whole ?l_is_whole ?c_is_whole ?k_is_whole ?a_is_between ?l_is_between ?c_is_between ?k_is_between ?a_is_price ?l_is_price ?c_is_price ?k_is_price ?a_are_prices ?l_are_prices ?c_are_prices ?k_are_prices ?a_sums_of ?l_sums_of ?c_sums_of ?k_sums_of ?a_Ladder_init ?i_Ladder_init ?l_Ladder_init ?c_Ladder_init ?k_Ladder_init ?d_Ladder_init_at ?a_w_made ?l_w_made ?c_w_made ?k_w_made ?a_w_places ?l_w_places ?c_w_places ?k_w_places ?a_Ladder_price_at ?i_Ladder_price_at ?l_Ladder_price_at ?c_Ladder_price_at ?k_Ladder_price_at ?a_Ladder_rung ?i_Ladder_rung ?l_Ladder_rung ?c_Ladder_rung ?k_Ladder_rung ?a_w_rung ?l_w_rung ?c_w_rung ?k_w_rung ?a_w_alike ?l_w_alike ?c_w_alike ?k_w_alike ?a_Ladder_bears_up ?i_Ladder_bears_up ?l_Ladder_bears_up ?c_Ladder_bears_up ?k_Ladder_bears_up ?a_Ladder_bears_down ?i_Ladder_bears_down ?l_Ladder_bears_down ?c_Ladder_bears_down ?k_Ladder_bears_down ?a_Ladder_is_plain ?i_Ladder_is_plain ?l_Ladder_is_plain ?c_Ladder_is_plain ?k_Ladder_is_plain ?a_repeated ?l_repeated ?c_repeated ?k_repeated ?a_Ladder_height ?i_Ladder_height ?l_Ladder_height ?c_Ladder_height ?k_Ladder_height ?a_Ladder_total ?i_Ladder_total ?l_Ladder_total ?c_Ladder_total ?k_Ladder_total ?a_Ladder_repr ?i_Ladder_repr ?l_Ladder_repr ?c_Ladder_repr ?k_Ladder_repr ?a_Ladder_eq ?i_Ladder_eq ?l_Ladder_eq ?c_Ladder_eq ?k_Ladder_eq ?a_Ladder_moved_to ?i_Ladder_moved_to ?l_Ladder_moved_to ?c_Ladder_moved_to ?k_Ladder_moved_to ?a_Ladder_turned ?i_Ladder_turned ?l_Ladder_turned ?c_Ladder_turned ?k_Ladder_turned ?a_w_else_right ?l_w_else_right ?c_w_else_right ?k_w_else_right ?a_w_right ?l_w_right ?c_w_right ?k_w_right ?a_plain ?l_plain ?c_plain ?k_plain ?a_law ?l_law ?c_law ?k_law
    (case z_abs => k_is)
    (case z_all => k_is)
    (case z_bool => k_is)
    (case z_divmod => k_is)
    (case z_enumerate => k_is)
    (case z_int => k_is)
    (case z_isinstance => k_is)
    (case z_len => k_is)
    (case z_list => k_is)
    (case z_max => k_is)
    (case z_min => k_is)
    (case z_range => k_is)
    (case z_repr => k_is)
    (case z_reversed => k_is)
    (case z_set => k_is)
    (case z_str => k_is)
    (case z_sum => k_is)
    (case z_tuple => k_is)
    (case m_ALL_ALIKE => k_is)
    (case r_ALL_ALIKE => exact ⟨_, rfl⟩)
    (case m_FARTHEST_AT => k_is)
    (case r_FARTHEST_AT => exact ⟨_, rfl⟩)
    (case m_MOST_PRICE => k_is)
    (case r_MOST_PRICE => exact ⟨_, rfl⟩)
    (case m_MOST_REPEATED => k_is)
    (case r_MOST_REPEATED => exact ⟨_, rfl⟩)
    (case m_MOST_ROW => k_is)
    (case r_MOST_ROW => exact ⟨_, rfl⟩)
    (case g_AheadError => k_is)
    (case rd_AheadError => k_is)
    (case ga_AheadError => k_is)
    (case at_AheadError => k_is)
    (case g_Wrong => k_is)
    (case xl_Wrong => k_is)
    (case bm_Wrong => decide +kernel)
    (case sa_Wrong => k_is)
    (case ex_Wrong => k_is)
    (case ty_Wrong => k_is)
    (case kc_Wrong => k_is)
    (case xf_Wrong => k_is)
    (case a_Wrong_init => k_is)
    (case t_Wrong_init_ => k_is)
    (case l_Wrong_init => k_is)
    (case c_Wrong_init => k_is)
    (case k_Wrong_init => k_is)
    (case g_Ladder => k_is)
    (case pg_Ladder => k_is)
    (case hd_Ladder => k_is)
    (case po_Ladder => k_is)
    (case sa_Ladder => k_is)
    (case mk_Ladder_ => k_is)
    (case kc_Ladder => k_is)
    (case na_Ladder_low => k_is)
    (case na_Ladder_middle => k_is)
    (case na_Ladder_high => k_is)
    (case na_Ladder_begin => k_is)
    (case na_Ladder_low_sums => k_is)
    (case na_Ladder_middle_sums => k_is)
    (case na_Ladder_high_sums => k_is)
    (case ica_Ladder => k_is)
    (case icn_Ladder => k_is)
    (case ict_Ladder => k_is)
    (case icm_Ladder => k_is)
    (case a_w_bag => k_is)
    (case l_w_bag => k_is)
    (case c_w_bag => k_is)
    (case k_w_bag => k_is)
    (case a_w_take => k_is)
    (case l_w_take => k_is)
    (case c_w_take => k_is)
    (case k_w_take => k_is)
    (case a_w_prices => k_is)
    (case l_w_prices => k_is)
    (case c_w_prices => k_is)
    (case k_w_prices => k_is)
    (case a_w_any_plan => k_is)
    (case l_w_any_plan => k_is)
    (case c_w_any_plan => k_is)
    (case k_w_any_plan => k_is)
    (case a_w_one_price => k_is)
    (case l_w_one_price => k_is)
    (case c_w_one_price => k_is)
    (case k_w_one_price => k_is)
    (case a_is_whole => k_is)
    (case l_is_whole => k_is)
    (case c_is_whole => k_is)
    (case k_is_whole => k_is)
    (case a_is_between => k_is)
    (case l_is_between => k_is)
    (case c_is_between => k_is)
    (case k_is_between => k_is)
    (case a_is_price => k_is)
    (case l_is_price => k_is)
    (case c_is_price => k_is)
    (case k_is_price => k_is)
    (case a_are_prices => k_is)
    (case l_are_prices => k_is)
    (case c_are_prices => k_is)
    (case k_are_prices => k_is)
    (case a_sums_of => k_is)
    (case l_sums_of => k_is)
    (case c_sums_of => k_is)
    (case k_sums_of => k_is)
    (case a_Ladder_init => k_is)
    (case i_Ladder_init => k_is)
    (case l_Ladder_init => k_is)
    (case c_Ladder_init => k_is)
    (case k_Ladder_init => k_is)
    (case d_Ladder_init_at => k_is)
    (case a_w_made => k_is)
    (case l_w_made => k_is)
    (case c_w_made => k_is)
    (case k_w_made => k_is)
    (case a_w_places => k_is)
    (case l_w_places => k_is)
    (case c_w_places => k_is)
    (case k_w_places => k_is)
    (case a_Ladder_price_at => k_is)
    (case i_Ladder_price_at => k_is)
    (case l_Ladder_price_at => k_is)
    (case c_Ladder_price_at => k_is)
    (case k_Ladder_price_at => k_is)
    (case a_Ladder_rung => k_is)
    (case i_Ladder_rung => k_is)
    (case l_Ladder_rung => k_is)
    (case c_Ladder_rung => k_is)
    (case k_Ladder_rung => k_is)
    (case a_w_rung => k_is)
    (case l_w_rung => k_is)
    (case c_w_rung => k_is)
    (case k_w_rung => k_is)
    (case a_w_alike => k_is)
    (case l_w_alike => k_is)
    (case c_w_alike => k_is)
    (case k_w_alike => k_is)
    (case a_Ladder_bears_up => k_is)
    (case i_Ladder_bears_up => k_is)
    (case l_Ladder_bears_up => k_is)
    (case c_Ladder_bears_up => k_is)
    (case k_Ladder_bears_up => k_is)
    (case a_Ladder_bears_down => k_is)
    (case i_Ladder_bears_down => k_is)
    (case l_Ladder_bears_down => k_is)
    (case c_Ladder_bears_down => k_is)
    (case k_Ladder_bears_down => k_is)
    (case a_Ladder_is_plain => k_is)
    (case i_Ladder_is_plain => k_is)
    (case l_Ladder_is_plain => k_is)
    (case c_Ladder_is_plain => k_is)
    (case k_Ladder_is_plain => k_is)
    (case a_repeated => k_is)
    (case l_repeated => k_is)
    (case c_repeated => k_is)
    (case k_repeated => k_is)
    (case a_Ladder_height => k_is)
    (case i_Ladder_height => k_is)
    (case l_Ladder_height => k_is)
    (case c_Ladder_height => k_is)
    (case k_Ladder_height => k_is)
    (case a_Ladder_total => k_is)
    (case i_Ladder_total => k_is)
    (case l_Ladder_total => k_is)
    (case c_Ladder_total => k_is)
    (case k_Ladder_total => k_is)
    (case a_Ladder_repr => k_is)
    (case i_Ladder_repr => k_is)
    (case l_Ladder_repr => k_is)
    (case c_Ladder_repr => k_is)
    (case k_Ladder_repr => k_is)
    (case a_Ladder_eq => k_is)
    (case i_Ladder_eq => k_is)
    (case l_Ladder_eq => k_is)
    (case c_Ladder_eq => k_is)
    (case k_Ladder_eq => k_is)
    (case a_Ladder_moved_to => k_is)
    (case i_Ladder_moved_to => k_is)
    (case l_Ladder_moved_to => k_is)
    (case c_Ladder_moved_to => k_is)
    (case k_Ladder_moved_to => k_is)
    (case a_Ladder_turned => k_is)
    (case i_Ladder_turned => k_is)
    (case l_Ladder_turned => k_is)
    (case c_Ladder_turned => k_is)
    (case k_Ladder_turned => k_is)
    (case a_w_else_right => k_is)
    (case l_w_else_right => k_is)
    (case c_w_else_right => k_is)
    (case k_w_else_right => k_is)
    (case a_w_right => k_is)
    (case l_w_right => k_is)
    (case c_w_right => k_is)
    (case k_w_right => k_is)
    (case a_plain => k_is)
    (case l_plain => k_is)
    (case c_plain => k_is)
    (case k_plain => k_is)
    (case a_law => k_is)
    (case l_law => k_is)
    (case c_law => k_is)
    (case k_law => k_is)
#print axioms PySem.Challenge.cw_aheadpays_k12_rungs_as_told_holds
