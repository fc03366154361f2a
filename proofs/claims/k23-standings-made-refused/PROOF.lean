import PyProof.Rows.All
import Wide.All
import OpenK.AllK
import Wide.FinOn
import HandS.ForMost
import HandS.ForExc
import HandS.ExcInit
import HandS.CallSlots
import HandS.WordsExc
import HandS.Wide
import HandS.IsInst
import HandS.Defaults
import HandS.More
import HandS.ClsMeth
import HandS.MakeKwOnly
import PyProof.LongRange
import HandS.Style
import HandS.SortInts
import HandS.TupAny
import HandS.TryOnly
import PyProof.ReprRoads
import HandS.RaiseMore
import HandS.Words
import HandS.OwnEq
import HandS.Rev
import HandS.FStr
import HandS.SetFor
import HandS.RevTup
import HandS.Flow
import KE.SortData
import HandS.Codes
import PyProof.StrBlock2
import KE.KDictKeyed
import HandS.Dict
import HandS.Conv
import HandS.DictEq
import HandS.DictComp
import HandS.Zip
import HandS.SortKw
import KE.KDictDisplayH
import HandS.TupLen
import HandS.Strs
import HandS.Deep
import HandS.ExcField
import KE.KExcIs
import HandS.ExcIs
import KE.DataMinMax
import KE.SortKeyHeap
import HandS.Lambda
import HandS.EndTab
import KE.KNestM
import KE.KDictPairs
import KE.KDictCopyH
import HandS.List
import KE.KDictZip
import HandS.ExcValue
import KE.GoesMore
import HandS.Small
import KE.KEqDict
import KE.GoesComp
import KE.GoesRaise
import HandS.Text
import HandS.HotCalls
import PySem.Challenge.RW_aheadpays_k23_standings_made_refused
set_option Elab.async false
set_option linter.all false
set_option maxRecDepth 100000
set_option maxHeartbeats 4000000
namespace Zk
open PySem L2

/-! ### what stands for what -/
structure Pr where
  p : Hp → V → Prop
  mono : ∀ {S S' : Hp} {v : V}, Same S S' → p S v → p S' v
/-- a thing of the def's own, at the addresses F, that may still change: S what is stable, H the heap -/
structure PrO where
  p : Hp → Hp → V → (Addr → Prop) → Prop
  mono : ∀ {S S' H H' : Hp} {v : V} {F : Addr → Prop}, Same S S' → (∀ a o, F a → H a = some o → H' a = some o) → p S H v F → p S' H' v F
structure Rel (α : Type) where
  is : α → Hp → V → Prop
  mono : ∀ {x : α} {S S' : Hp} {v : V}, Same S S' → is x S v → is x S' v
abbrev Rel.pr {α : Type} (R : Rel α) (x : α) : Pr := ⟨R.is x, R.mono⟩
def All2 {α β : Type} (r : α → β → Prop) : List α → List β → Prop
  | [], [] => True
  | x :: xs, y :: ys => r x y ∧ All2 r xs ys
  | _, _ => False
section
variable {α β : Type} {r q : α → β → Prop}
theorem All2.imp (h : ∀ x y, r x y → q x y) : ∀ {xs : List α} {ys : List β}, All2 r xs ys → All2 q xs ys
  | [], [], _ => trivial
  | _ :: _, _ :: _, ⟨a, b⟩ => ⟨h _ _ a, All2.imp h b⟩
  | [], _ :: _, h => h.elim
  | _ :: _, [], h => h.elim
theorem All2.length : ∀ {xs : List α} {ys : List β}, All2 r xs ys → xs.length = ys.length
  | [], [], _ => rfl
  | _ :: _, _ :: _, ⟨_, b⟩ => by simp [All2.length b]
  | [], _ :: _, h => h.elim
  | _ :: _, [], h => h.elim
theorem All2.append : ∀ {xs : List α} {ys : List β} {xs' : List α} {ys' : List β}, All2 r xs ys → All2 r xs' ys' → All2 r (xs ++ xs') (ys ++ ys')
  | [], [], _, _, _, h => h
  | _ :: _, _ :: _, _, _, ⟨a, b⟩, h => ⟨a, All2.append b h⟩
  | [], _ :: _, _, _, h, _ => h.elim
  | _ :: _, [], _, _, h, _ => h.elim
theorem All2.get : ∀ {xs : List α} {ys : List β} {i : Nat} {x : α}, All2 r xs ys → xs[i]? = some x → ∃ y, ys[i]? = some y ∧ r x y
  | [], [], _, _, _, h => by simp at h
  | _ :: _, _ :: _, 0, _, ⟨a, _⟩, h => by simp at h; subst h; exact ⟨_, rfl, a⟩
  | _ :: _, _ :: _, i + 1, _, ⟨_, b⟩, h => by
    obtain ⟨y, h1, h2⟩ := All2.get (i := i) b (by simpa using h)
    exact ⟨y, by simpa using h1, h2⟩
  | [], _ :: _, _, _, h, _ => h.elim
  | _ :: _, [], _, _, h, _ => h.elim
theorem All2.get' : ∀ {xs : List α} {ys : List β} {i : Nat} {y : β}, All2 r xs ys → ys[i]? = some y → ∃ x, xs[i]? = some x ∧ r x y
  | [], [], _, _, _, h => by simp at h
  | _ :: _, _ :: _, 0, _, ⟨a, _⟩, h => by simp at h; subst h; exact ⟨_, rfl, a⟩
  | _ :: _, _ :: _, i + 1, _, ⟨_, b⟩, h => by
    obtain ⟨y, h1, h2⟩ := All2.get' (i := i) b (by simpa using h)
    exact ⟨y, by simpa using h1, h2⟩
  | [], _ :: _, _, _, h, _ => h.elim
  | _ :: _, [], _, _, h, _ => h.elim
theorem All2.take : ∀ {xs : List α} {ys : List β} (n : Nat), All2 r xs ys → All2 r (xs.take n) (ys.take n)
  | _, _, 0, _ => by simp [All2]
  | [], [], n + 1, _ => by simp [All2]
  | _ :: _, _ :: _, n + 1, ⟨a, b⟩ => ⟨a, All2.take n b⟩
  | [], _ :: _, _, h => h.elim
  | _ :: _, [], _, h => h.elim
theorem All2.drop : ∀ {xs : List α} {ys : List β} (n : Nat), All2 r xs ys → All2 r (xs.drop n) (ys.drop n)
  | _, _, 0, h => h
  | [], [], n + 1, _ => by simp [All2]
  | _ :: _, _ :: _, n + 1, ⟨_, b⟩ => All2.drop n b
  | [], _ :: _, _, h => h.elim
  | _ :: _, [], _, h => h.elim
theorem All2.reverse : ∀ {xs : List α} {ys : List β}, All2 r xs ys → All2 r xs.reverse ys.reverse
  | [], [], _ => by simp [All2]
  | _ :: _, _ :: _, ⟨a, b⟩ => by
    rw [List.reverse_cons, List.reverse_cons]
    exact All2.append (All2.reverse b) ⟨a, trivial⟩
  | [], _ :: _, h => h.elim
  | _ :: _, [], h => h.elim
theorem All2.set {x : α} {y : β} (h : r x y) : ∀ {xs : List α} {ys : List β} (i : Nat), All2 r xs ys → All2 r (xs.set i x) (ys.set i y)
  | [], [], _, _ => by simp [All2]
  | _ :: _, _ :: _, 0, ⟨_, b⟩ => ⟨h, b⟩
  | _ :: _, _ :: _, i + 1, ⟨a, b⟩ => ⟨a, All2.set h i b⟩
  | [], _ :: _, _, h => h.elim
  | _ :: _, [], _, h => h.elim
theorem All2.map {γ : Type} {f : γ → β} {g : γ → α} : ∀ (l : List γ), (∀ z ∈ l, r (g z) (f z)) → All2 r (l.map g) (l.map f)
  | [], _ => trivial
  | _ :: l, h => ⟨h _ (by simp), All2.map l fun z hz => h z (by simp [hz])⟩
end
theorem All2.ints : ∀ {xs : List Int} {vs : List V}, All2 (fun n v => v = V.int n) xs vs → vs = xs.map V.int
  | [], [], _ => rfl
  | _ :: _, _ :: _, ⟨a, b⟩ => by rw [a, All2.ints b]; rfl
  | [], _ :: _, h => h.elim
  | _ :: _, [], h => h.elim
theorem All2.of_ints : ∀ (xs : List Int), All2 (fun n v => v = V.int n) xs (xs.map V.int)
  | [] => trivial
  | _ :: xs => ⟨rfl, All2.of_ints xs⟩
theorem All2.bls : ∀ {xs : List Bool} {vs : List V}, All2 (fun n v => v = V.bl n) xs vs → vs = xs.map V.bl
  | [], [], _ => rfl
  | _ :: _, _ :: _, ⟨a, b⟩ => by rw [a, All2.bls b]; rfl
  | [], _ :: _, h => h.elim
  | _ :: _, [], h => h.elim
/-! ### the kinds -/
def rInt : Rel Int := ⟨fun x _ v => v = .int x, fun _ h => h⟩
def rBl : Rel Bool := ⟨fun x _ v => v = .bl x, fun _ h => h⟩
def rStr : Rel Str := ⟨fun x _ v => v = .str x, fun _ h => h⟩
def rNon : Rel Unit := ⟨fun _ _ v => v = .non, fun _ h => h⟩
def rRef (a : Addr) : Rel Unit := ⟨fun _ _ v => v = .ref a, fun _ h => h⟩
def rLst {α : Type} (R : Rel α) : Rel (List α) :=
  ⟨fun xs S v => ∃ a vs, v = .ref a ∧ S a = some (.lst vs) ∧ All2 (fun x v => R.is x S v) xs vs,
   fun s ⟨a, vs, e, h, q⟩ => ⟨a, vs, e, s _ _ h, q.imp fun _ _ h => R.mono s h⟩⟩
/-- a list that is only read: the script -/
def rSc {α : Type} (K : PySem.W.Frag) (R : Rel α) : Rel (List α) :=
  ⟨fun xs S v => ∃ a vs, v = .ref a ∧ SqL K S a vs ∧ All2 (fun x v => R.is x S v) xs vs,
   fun s ⟨a, vs, e, h, q⟩ => ⟨a, vs, e, h.elim (fun h => .inl (h.elim (fun h => .inl (s _ _ h)) fun ⟨o, h⟩ => .inr ⟨o, s _ _ h⟩)) .inr, q.imp fun _ _ h => R.mono s h⟩⟩
def rVT {α : Type} (R : Rel α) : Rel (List α) :=
  ⟨fun xs S v => ∃ a vs, v = .ref a ∧ S a = some (.tup vs) ∧ All2 (fun x v => R.is x S v) xs vs,
   fun s ⟨a, vs, e, h, q⟩ => ⟨a, vs, e, s _ _ h, q.imp fun _ _ h => R.mono s h⟩⟩
def rT2 {α β : Type} (R : Rel α) (R2 : Rel β) : Rel (α × β) :=
  ⟨fun x S v => ∃ a u w, v = .ref a ∧ S a = some (.tup [u, w]) ∧ R.is x.1 S u ∧ R2.is x.2 S w,
   fun s ⟨a, u, w, e, h, q, q2⟩ => ⟨a, u, w, e, s _ _ h, R.mono s q, R2.mono s q2⟩⟩
def rT3 {α β γ : Type} (R : Rel α) (R2 : Rel β) (R3 : Rel γ) : Rel (α × β × γ) :=
  ⟨fun x S v => ∃ a u w z, v = .ref a ∧ S a = some (.tup [u, w, z]) ∧ R.is x.1 S u ∧ R2.is x.2.1 S w ∧ R3.is x.2.2 S z,
   fun s ⟨a, u, w, z, e, h, q, q2, q3⟩ => ⟨a, u, w, z, e, s _ _ h, R.mono s q, R2.mono s q2, R3.mono s q3⟩⟩
def rT4 {α β γ δ : Type} (R : Rel α) (R2 : Rel β) (R3 : Rel γ) (R4 : Rel δ) : Rel (α × β × γ × δ) :=
  ⟨fun x S v => ∃ a u w z y, v = .ref a ∧ S a = some (.tup [u, w, z, y]) ∧ R.is x.1 S u ∧ R2.is x.2.1 S w ∧ R3.is x.2.2.1 S z ∧ R4.is x.2.2.2 S y,
   fun s ⟨a, u, w, z, y, e, h, q, q2, q3, q4⟩ => ⟨a, u, w, z, y, e, s _ _ h, R.mono s q, R2.mono s q2, R3.mono s q3, R4.mono s q4⟩⟩
def rOpt {α : Type} (R : Rel α) : Rel (Option α) :=
  ⟨fun x S v => match x with | none => v = .non | some y => R.is y S v, fun {x _ _ _} s h => by cases x with | none => exact h | some y => exact R.mono s h⟩

/-! ### the mirror's monad -/
structure Exc where
  cls : Str
  fs : List (Str × V)
inductive Out (τ α : Type) where
  | ok (a : α) (s : τ) | exc (e : Exc) (s : τ) | stuck
def M (τ α : Type) : Type := τ → Out τ α
section
variable {τ α β : Type}
def ret (a : α) : M τ α := fun s => .ok a s
def bnd (m : M τ α) (f : α → M τ β) : M τ β := fun s => match m s with | .ok a s' => f a s' | .exc e s' => .exc e s' | .stuck => .stuck
def stk : M τ α := fun _ => .stuck
def rse (e : Exc) : M τ α := fun s => .exc e s
def lft (m : M Unit α) : M τ α := fun s => match m () with | .ok a _ => .ok a s | .exc e _ => .exc e s | .stuck => .stuck
instance : Monad (M τ) where
  pure := ret
  bind := bnd
/-- only where c -/
def chk (c : Prop) [Decidable c] (m : M τ α) : M τ α := if c then m else stk
end

/-! ### the world, a def's names, slots -/
structure Gx where
  P : Program
  w : World
  K : PySem.W.Frag
  mg : Str → Option Value
  base : Heap
structure Sc where
  N : List Str
  sc : Scope
  k : Nat
  fn : Bool
  fx : Str → Bool
  gd : Bool
structure CtxOk (G : Gx) (c : Sc) (W : WX) (X : Cx) : Prop where
  prog : X.prog = G.P
  w : X.w = G.w
  K : X.K = G.K
  mg : X.mg = G.mg
  base : X.base = G.base
  N : X.N = c.N
  nd : c.N.Nodup
  sc : X.env.scope = c.sc
  calm : X.calm = true
  room : Room c.k X.A
  gds : c.gd = true → X.A.guards = some []
  takes : Takes X W
  owns : PassesOwn (model X.prog X.w) X.A X.env X.xe
  fx : X.fn = c.fx
  isfn : c.fn = true → X.stack = X.env :: X.outer ∧ X.env.frame = some X.env.locals
inductive Sl where
  | no | st (p : Pr) | ow (p : PrO) | gh (p : PrO)
abbrev Env := List Sl
structure Eff (τ : Type) where
  own : Addr → Prop
  is : τ → Hp → Hp → Prop
  mono : ∀ {β : τ} {S H S' H' : Hp}, Same S S' → (∀ a, own a → S a = none → S' a = none) → (∀ a o, own a → H a = some o → H' a = some o) → is β S H → is β S' H'
  th : ∀ {β : τ} {S H : Hp} {a : Addr}, is β S H → own a → S a = none ∧ ∃ o, H a = some o
structure Bs where
  S : Hp
  H : Hp
structure Keep (own : Addr → Prop) (B : Bs) (S H : Hp) : Prop where
  same : Same S H
  up : Same B.S S
  kp : ∀ a o, B.S a = none → B.H a = some o → ¬ own a → S a = none ∧ H a = some o
def slOk (S H : Hp) (v : Option V) (F : Addr → Prop) : Sl → Prop
  | .no => True
  | .st p => ∃ x, v = some x ∧ p.p S x
  | .ow p => ∃ x, v = some x ∧ p.p S H x F
  | .gh p => p.p S H .non F
structure Feet {τ : Type} (E : Eff τ) (B : Bs) (S H : Hp) (Fs : Nat → Addr → Prop) : Prop where
  at_ : ∀ i a, Fs i a → S a = none ∧ B.H a = none ∧ ¬ E.own a ∧ ∃ o, H a = some o
  ds : ∀ i j a, Fs i a → Fs j a → i = j
structure Hold {τ : Type} (E : Eff τ) (B : Bs) (Γ : Env) (β : τ) (σ : St) (S H : Hp) : Prop where
  kp : Keep E.own B S H
  ef : E.is β S H
  sl : ∃ Fs, Feet E B S H Fs ∧ ∀ (i : Nat) s, Γ[i]? = some s → slOk S H (σ[i]?.join) (Fs i) s
def XAt (G : Gx) (x : Exc) (H : Hp) (c : Value) (d : Option Addr) : Prop :=
  ∃ C, G.mg x.cls = some (.ref C) ∧ c = .ref C ∧ ((x.fs = [] ∧ d = none) ∨ ∃ dd, d = some dd ∧ H dd = some (.xd x.fs))

section
variable {τ α β κ ρ : Type}
def aft (G : Gx) (E : Eff τ) (W : WX) (B : Bs) (Γ : Env) (σ : St) (S : Hp) (R : Rel α) (Q : VK) : Out τ α → Prop
  | .ok a b' => ∀ v S' H', Same S S' → Hold E B Γ b' σ S' H' → R.is a S' v → Q v H'
  | .exc x b' => ∀ c d S' H', Same S S' → Hold E B Γ b' σ S' H' → XAt G x H' c d → W c d σ H'
  | .stuck => False
def aftT (G : Gx) (E : Eff τ) (W : WX) (B : Bs) (Γ : Env) (σ : St) (S : Hp) (Q : Bool → Hp → Prop) : Out τ Bool → Prop
  | .ok a b' => ∀ S' H', Same S S' → Hold E B Γ b' σ S' H' → Q a H'
  | .exc x b' => ∀ c d S' H', Same S S' → Hold E B Γ b' σ S' H' → XAt G x H' c d → W c d σ H'
  | .stuck => False
def aftA (G : Gx) (E : Eff τ) (W : WX) (B : Bs) (Γ : Env) (σ : St) (S : Hp) (A : α → List Pr) (Q : List V → Hp → Prop) : Out τ α → Prop
  | .ok a b' => ∀ vs S' H', Same S S' → Hold E B Γ b' σ S' H' → All2 (fun (p : Pr) v => p.p S' v) (A a) vs → Q vs H'
  | .exc x b' => ∀ c d S' H', Same S S' → Hold E B Γ b' σ S' H' → XAt G x H' c d → W c d σ H'
  | .stuck => False
def tzE (G : Gx) (E : Eff τ) (W : WX) (Γ : Env) (m : M τ α) (R : Rel α) : TE := fun σ H Q => ∃ B S b, Hold E B Γ b σ S H ∧ aft G E W B Γ σ S R Q (m b)
def tzT (G : Gx) (E : Eff τ) (W : WX) (Γ : Env) (m : M τ Bool) : TT := fun σ H Q => ∃ B S b, Hold E B Γ b σ S H ∧ aftT G E W B Γ σ S Q (m b)
def tzA (G : Gx) (E : Eff τ) (W : WX) (Γ : Env) (m : M τ α) (A : α → List Pr) : TA := fun σ H Q => ∃ B S b, Hold E B Γ b σ S H ∧ aftA G E W B Γ σ S A Q (m b)
inductive Fl (α κ ρ : Type) where
  | nx (a : α) | rt (r : ρ) | bk (k : κ) | ct (k : κ)
/-- what is wanted behind statements but the next one: of break and continue, of an exception, of what is handed back -/
structure Ls (κ ρ : Type) where
  k : κ → Env
  x : Env
  R : Rel ρ
  o : ρ → V → Env := fun _ _ => []
def aftS (G : Gx) (E : Eff τ) (W : WX) (L : Ls κ ρ) (B : Bs) (S : Hp) (Γn : α → Env) (D : Ends) : Out τ (Fl α κ ρ) → Prop
  | .ok (.nx a) b' => ∀ σ' S' H', Same S S' → Hold E B (Γn a) b' σ' S' H' → D.nx σ' H'
  | .ok (.rt r) b' => ∀ v σ' S' H', Hold E B (L.o r v) b' σ' S' H' → L.R.is r S' v → D.rt v H'
  | .ok (.bk a) b' => ∀ σ' S' H', Same S S' → Hold E B (L.k a) b' σ' S' H' → D.bk σ' H'
  | .ok (.ct a) b' => ∀ σ' S' H', Same S S' → Hold E B (L.k a) b' σ' S' H' → D.ct σ' H'
  | .exc x b' => ∀ c d σ' S' H', Hold E B L.x b' σ' S' H' → XAt G x H' c d → W c d σ' H'
  | .stuck => False
def tzS (G : Gx) (E : Eff τ) (W : WX) (L : Ls κ ρ) (Γ : Env) (m : M τ (Fl α κ ρ)) (Γn : α → Env) : TS := fun D σ H => ∃ B S b, Hold E B Γ b σ S H ∧ aftS G E W L B S Γn D (m b)
def ZE (G : Gx) (c : Sc) (E : Eff τ) (W : WX) (Γ : Env) (e : Expr) (m : M τ α) (R : Rel α) : Prop := ∀ X, CtxOk G c W X → PE X e (tzE G E W Γ m R)
def ZT (G : Gx) (c : Sc) (E : Eff τ) (W : WX) (Γ : Env) (e : Expr) (m : M τ Bool) : Prop := ∀ X, CtxOk G c W X → PT X e (tzT G E W Γ m)
def ZA (G : Gx) (c : Sc) (E : Eff τ) (W : WX) (Γ : Env) (es : List Expr) (m : M τ α) (A : α → List Pr) : Prop := ∀ X, CtxOk G c W X → PA X es (tzA G E W Γ m A)
def ZS (G : Gx) (c : Sc) (E : Eff τ) (W : WX) (L : Ls κ ρ) (Γ : Env) (st : Stmt) (m : M τ (Fl α κ ρ)) (Γn : α → Env) : Prop := ∀ X, CtxOk G c W X → PS X st (tzS G E W L Γ m Γn)
def ZB (G : Gx) (c : Sc) (E : Eff τ) (W : WX) (L : Ls κ ρ) (Γ : Env) (st : List Stmt) (m : M τ (Fl α κ ρ)) (Γn : α → Env) : Prop := ∀ X, CtxOk G c W X → PSs X st (tzS G E W L Γ m Γn)
end

/-! ### readings weakened -/
section
variable {X : Cx} {e : Expr} {st : Stmt} {sts : List Stmt}
theorem pe_wk {t t' : TE} (h : PE X e t) (w : ∀ σ H Q, σ.length = X.N.length → t' σ H Q → t σ H Q) : PE X e t' := ⟨fun pins s σ H Q I q => h.run pins s σ H Q I (w σ H Q I.len q)⟩
theorem pt_wk {t t' : TT} (h : PT X e t) (w : ∀ σ H Q, σ.length = X.N.length → t' σ H Q → t σ H Q) : PT X e t' := ⟨fun pins s σ H Q I q => h.run pins s σ H Q I (w σ H Q I.len q)⟩
theorem pa_wk {es : List Expr} {t t' : TA} (h : PA X es t) (w : ∀ σ H Q, σ.length = X.N.length → t' σ H Q → t σ H Q) : PA X es t' := ⟨fun pos pins s σ H Q I q => h.run pos pins s σ H Q I (w σ H Q I.len q)⟩
theorem ps_wk {t t' : TS} (h : PS X st t) (w : ∀ D σ H, σ.length = X.N.length → t' D σ H → t D σ H) : PS X st t' := ⟨fun pins s σ H D I q => h.run pins s σ H D I (w D σ H I.len q)⟩
theorem pss_wk {t t' : TS} (h : PSs X sts t) (w : ∀ D σ H, σ.length = X.N.length → t' D σ H → t D σ H) : PSs X sts t' := ⟨fun pins s σ H D I q => h.run pins s σ H D I (w D σ H I.len q)⟩
theorem pss_ex {ι : Type} {t : ι → TS} (h : ∀ i, PSs X sts (t i)) : PSs X sts (fun D σ H => ∃ i, t i D σ H) := ⟨fun pins s σ H D I ⟨i, q⟩ => (h i).run pins s σ H D I q⟩
theorem pe_ex {ι : Type} {t : ι → TE} (h : ∀ i, PE X e (t i)) : PE X e (fun σ H Q => ∃ i, t i σ H Q) := ⟨fun pins s σ H Q I ⟨i, q⟩ => (h i).run pins s σ H Q I q⟩
end

/-! ### the state goes on -/
section
variable {τ α β : Type} {E : Eff τ} {B : Bs} {Γ Γ' : Env} {b : τ} {σ : St} {S S' H H' : Hp}
theorem Hold.same (h : Hold E B Γ b σ S H) : Same S H := h.kp.same
theorem same_new {S : Hp} {p : Addr} {o : HO} (h : S p = none) : Same S (upd S p o) := fun a u e => by rw [upd_ne (ne_of_none e h)]; exact e
theorem same_upd2 {S H : Hp} {p : Addr} {o : HO} (h : Same S H) : Same (upd S p o) (upd H p o) := fun a u e => by
  unfold upd at *
  split
  · next q => rw [if_pos q] at e; exact e
  · next q => rw [if_neg q] at e; exact h _ _ e
/-- more is stable, nothing else has changed -/
theorem Hold.grow (h : Hold E B Γ b σ S H) (s1 : Same S S') (s2 : Same S' H') (k : ∀ a o, S a = none → H a = some o → S' a = none ∧ H' a = some o) (f : ∀ a, E.own a → S a = none → S' a = none) : Hold E B Γ b σ S' H' := by
  have kk : ∀ a o, H a = some o → H' a = some o := fun a o e => by
    cases q : S a with
    | none => exact (k a o q e).2
    | some u =>
      have := h.same _ _ q
      rw [e] at this; cases this
      exact s2 _ _ (s1 _ _ q)
  obtain ⟨Fs, hF, hs⟩ := h.sl
  refine ⟨⟨s2, h.kp.up.trans s1, fun a o h1 h2 h3 => ?_⟩, E.mono s1 f (fun a o _ e => kk a o e) h.ef, Fs, ⟨fun i a e => ?_, hF.ds⟩, fun i s e => ?_⟩
  · obtain ⟨q1, q2⟩ := h.kp.kp a o h1 h2 h3
    exact k a o q1 q2
  · obtain ⟨q1, q2, q3, o, q4⟩ := hF.at_ i a e
    exact ⟨(k a o q1 q4).1, q2, q3, o, (k a o q1 q4).2⟩
  · have q := hs i s e
    cases s with
    | no => trivial
    | st p => obtain ⟨x, e1, e2⟩ := q; exact ⟨x, e1, p.mono s1 e2⟩
    | ow p => obtain ⟨x, e1, e2⟩ := q; exact ⟨x, e1, p.mono s1 (fun a o _ e => kk a o e) e2⟩
    | gh p => exact p.mono s1 (fun a o _ e => kk a o e) q
/-- a new stable object -/
theorem Hold.fr {p : Addr} (h : Hold E B Γ b σ S H) (hp : H p = none) : ¬ E.own p := fun z => by
  obtain ⟨_, o, e⟩ := E.th h.ef z
  rw [hp] at e; cases e
theorem Hold.new {p : Addr} {o : HO} (h : Hold E B Γ b σ S H) (hp : H p = none) : Hold E B Γ b σ (upd S p o) (upd H p o) := by
  have hf := h.fr hp
  have hs : S p = none := h.same.free hp
  refine h.grow (same_new hs) (same_upd2 h.same) (fun a u e1 e2 => ?_) fun a ha e => ?_
  · have n : a ≠ p := ne_of_none e2 hp
    rw [upd_ne n, upd_ne n]; exact ⟨e1, e2⟩
  · have n : a ≠ p := fun z => hf (z ▸ ha)
    rw [upd_ne n]; exact e
/-- fewer slots are known -/
theorem Hold.wk (h : Hold E B Γ b σ S H) (w : ∀ (i : Nat) s, Γ'[i]? = some s → s = .no ∨ Γ[i]? = some s) : Hold E B Γ' b σ S H := by
  obtain ⟨Fs, hF, hs⟩ := h.sl
  refine ⟨h.kp, h.ef, Fs, hF, fun i s e => ?_⟩
  rcases w i s e with r | r
  · subst r; trivial
  · exact hs i s r
theorem set_get {α : Type} {l : List α} {i j : Nat} {x y : α} (h : (l.set i x)[j]? = some y) : (j = i ∧ y = x) ∨ (j ≠ i ∧ l[j]? = some y) := by
  by_cases hj : i = j
  · subst hj
    rw [List.getElem?_set] at h
    simp only [if_true] at h
    split at h
    · cases h; exact .inl ⟨rfl, rfl⟩
    · cases h
  · rw [List.getElem?_set_ne hj] at h
    exact .inr ⟨Ne.symm hj, h⟩
/-- a slot is stored -/
theorem Hold.set {i : Nat} {v : V} {p : Pr} (h : Hold E B Γ b σ S H) (hi : i < σ.length) (hp : p.p S v) : Hold E B (Γ.set i (.st p)) b (σ.set i (some v)) S H := by
  obtain ⟨Fs, hF, hs⟩ := h.sl
  refine ⟨h.kp, h.ef, Fs, hF, fun j s e => ?_⟩
  rcases set_get e with ⟨rfl, rfl⟩ | ⟨n, e⟩
  · rw [List.getElem?_set_self hi]; exact ⟨v, rfl, hp⟩
  · rw [List.getElem?_set_ne (Ne.symm n)]; exact hs j s e
/-- a slot is wiped -/
theorem Hold.unset {i : Nat} {v : Option V} (h : Hold E B Γ b σ S H) : Hold E B (Γ.set i .no) b (σ.set i v) S H := by
  obtain ⟨Fs, hF, hs⟩ := h.sl
  refine ⟨h.kp, h.ef, Fs, hF, fun j s e => ?_⟩
  rcases set_get e with ⟨rfl, rfl⟩ | ⟨n, e⟩
  · trivial
  · rw [List.getElem?_set_ne (Ne.symm n)]; exact hs j s e
/-- what the slot i owns has changed (or is new), nothing else -/
theorem Hold.mut {i : Nat} {v : V} {p : PrO} {F' : Addr → Prop} (h : Hold E B Γ b σ S H) (hi : i < σ.length) (kc : ∀ a, ¬ F' a → H' a = H a)
    (hF' : ∀ a, F' a → (∃ o, H' a = some o) ∧ (H a = none ∧ ¬ E.own a ∨ ∀ Fs : Nat → Addr → Prop, Feet E B S H Fs → (∀ (j : Nat) s, Γ[j]? = some s → slOk S H (σ[j]?.join) (Fs j) s) → Fs i a)) (hp : p.p S H' v F') : Hold E B (Γ.set i (.ow p)) b (σ.set i (some v)) S H' := by
  obtain ⟨Fs, hF, hs⟩ := h.sl
  have nS : ∀ a, F' a → S a = none := fun a ha => by
    rcases (hF' a ha).2 with ⟨q, _⟩ | q
    · exact h.same.free q
    · exact (hF.at_ i a (q Fs hF hs)).1
  have nE : ∀ a, F' a → ¬ E.own a := fun a ha => by
    rcases (hF' a ha).2 with ⟨_, q⟩ | q
    · exact q
    · exact (hF.at_ i a (q Fs hF hs)).2.2.1
  have nB : ∀ a o, B.S a = none → B.H a = some o → ¬ E.own a → ¬ F' a := fun a o h1 h2 h3 ha => by
    rcases (hF' a ha).2 with ⟨q, _⟩ | q
    · have := (h.kp.kp a o h1 h2 h3).2
      rw [q] at this; cases this
    · have := (hF.at_ i a (q Fs hF hs)).2.1
      rw [h2] at this; cases this
  have ap : ∀ j a, j ≠ i → Fs j a → ¬ F' a := fun j a hj e ha => by
    rcases (hF' a ha).2 with ⟨q, _⟩ | q
    · obtain ⟨_, _, _, o, e4⟩ := hF.at_ j a e
      rw [q] at e4; cases e4
    · exact hj (hF.ds _ _ a e (q Fs hF hs))
  refine ⟨⟨fun a o e => ?_, h.kp.up, fun a o h1 h2 h3 => ?_⟩, E.mono (Same.refl _) (fun _ _ z => z) (fun a o ha e => ?_) h.ef, fun j a => if j = i then F' a else Fs j a, ⟨fun j a e => ?_, fun j k a e1 e2 => ?_⟩, fun j s e => ?_⟩
  · rw [kc a fun z => by rw [nS a z] at e; cases e]; exact h.same _ _ e
  · rw [kc a (nB a o h1 h2 h3)]; exact h.kp.kp a o h1 h2 h3
  · rw [kc a fun z => nE a z ha]; exact e
  · by_cases hj : j = i
    · simp only [if_pos hj] at e
      refine ⟨nS a e, ?_, nE a e, (hF' a e).1⟩
      rcases (hF' a e).2 with ⟨q, q2⟩ | q
      · cases z : B.H a with
        | none => rfl
        | some o =>
          cases y : B.S a with
          | none => have := (h.kp.kp a o y z q2).2; rw [q] at this; cases this
          | some u => have := h.same _ _ (h.kp.up _ _ y); rw [q] at this; cases this
      · exact (hF.at_ i a (q Fs hF hs)).2.1
    · simp only [if_neg hj] at e
      obtain ⟨e1, e2, e3, o, e4⟩ := hF.at_ j a e
      exact ⟨e1, e2, e3, o, by rw [kc a (ap j a hj e)]; exact e4⟩
  · by_cases hj : j = i
    · by_cases hk : k = i
      · rw [hj, hk]
      · simp only [if_pos hj] at e1; simp only [if_neg hk] at e2
        exact absurd e1 (ap k a hk e2)
    · by_cases hk : k = i
      · simp only [if_neg hj] at e1; simp only [if_pos hk] at e2
        exact absurd e2 (ap j a hj e1)
      · simp only [if_neg hj] at e1; simp only [if_neg hk] at e2
        exact hF.ds _ _ a e1 e2
  · rcases set_get e with ⟨rfl, rfl⟩ | ⟨n, e⟩
    · rw [List.getElem?_set_self hi]
      simp only [if_true]
      exact ⟨v, rfl, hp⟩
    · rw [List.getElem?_set_ne (Ne.symm n)]
      simp only [if_neg n]
      have q := hs j s e
      cases s with
      | no => trivial
      | st p => exact q
      | ow p => obtain ⟨x, e1, e2⟩ := q; exact ⟨x, e1, p.mono (Same.refl _) (fun a o ha e => by rw [kc a (ap j a n ha)]; exact e) e2⟩
      | gh p => exact p.mono (Same.refl _) (fun a o ha e => by rw [kc a (ap j a n ha)]; exact e) q
theorem Hold.nil (h : Hold E B Γ b σ S H) : Hold E B [] b σ S H := h.wk fun i s e => by simp at e
end
end Zk

namespace Zk
open PySem L2

section
variable {τ α β γ δ : Type} {G : Gx} {c : Sc} {E : Eff τ} {W : WX} {Γ : Env} {B : Bs} {σ : St} {S S1 H : Hp} {b : τ}
theorem aft.same {R : Rel α} {Q : VK} (s : Same S S1) : ∀ {o : Out τ α}, aft G E W B Γ σ S R Q o → aft G E W B Γ σ S1 R Q o
  | .ok _ _, h => fun v S' H' s2 => h v S' H' (s.trans s2)
  | .exc _ _, h => fun c d S' H' s2 => h c d S' H' (s.trans s2)
  | .stuck, h => h
theorem aftT.same {Q : Bool → Hp → Prop} (s : Same S S1) : ∀ {o : Out τ Bool}, aftT G E W B Γ σ S Q o → aftT G E W B Γ σ S1 Q o
  | .ok _ _, h => fun S' H' s2 => h S' H' (s.trans s2)
  | .exc _ _, h => fun c d S' H' s2 => h c d S' H' (s.trans s2)
  | .stuck, h => h
theorem aftA.same {A : α → List Pr} {Q : List V → Hp → Prop} (s : Same S S1) : ∀ {o : Out τ α}, aftA G E W B Γ σ S A Q o → aftA G E W B Γ σ S1 A Q o
  | .ok _ _, h => fun v S' H' s2 => h v S' H' (s.trans s2)
  | .exc _ _, h => fun c d S' H' s2 => h c d S' H' (s.trans s2)
  | .stuck, h => h
/-- a part is reckoned, then what follows -/
theorem tz_bnd {m : M τ α} {f : α → M τ β} {R : Rel α} {Q : VK} {Q' : VK} {R' : Rel β} (hh : Hold E B Γ b σ S H) (h : aft G E W B Γ σ S R' Q (bnd m f b))
    (k : ∀ x b1 v S1 H1, Same S S1 → Hold E B Γ b1 σ S1 H1 → R.is x S1 v → aft G E W B Γ σ S1 R' Q (f x b1) → Q' v H1) : tzE G E W Γ m R σ H Q' := by
  refine ⟨B, S, b, hh, ?_⟩
  unfold bnd at h
  cases e : m b with
  | ok a b1 => rw [e] at h; exact fun v S1 H1 s h1 r => k a b1 v S1 H1 s h1 r (h.same s)
  | exc x b1 => rw [e] at h; exact h
  | stuck => rw [e] at h; exact h.elim
theorem tz_bndA {m : M τ α} {f : α → M τ β} {R : Rel α} {A : β → List Pr} {Q : List V → Hp → Prop} {Q' : VK} (hh : Hold E B Γ b σ S H) (h : aftA G E W B Γ σ S A Q (bnd m f b))
    (k : ∀ x b1 v S1 H1, Same S S1 → Hold E B Γ b1 σ S1 H1 → R.is x S1 v → aftA G E W B Γ σ S1 A Q (f x b1) → Q' v H1) : tzE G E W Γ m R σ H Q' := by
  refine ⟨B, S, b, hh, ?_⟩
  unfold bnd at h
  cases e : m b with
  | ok a b1 => rw [e] at h; exact fun v S1 H1 s h1 r => k a b1 v S1 H1 s h1 r (h.same s)
  | exc x b1 => rw [e] at h; exact h
  | stuck => rw [e] at h; exact h.elim
theorem tz_TbndT {m : M τ Bool} {f : Bool → M τ Bool} {Q : Bool → Hp → Prop} {Q' : Bool → Hp → Prop} (hh : Hold E B Γ b σ S H) (h : aftT G E W B Γ σ S Q (bnd m f b))
    (k : ∀ x b1 S1 H1, Same S S1 → Hold E B Γ b1 σ S1 H1 → aftT G E W B Γ σ S1 Q (f x b1) → Q' x H1) : tzT G E W Γ m σ H Q' := by
  refine ⟨B, S, b, hh, ?_⟩
  unfold bnd at h
  cases e : m b with
  | ok a b1 => rw [e] at h; exact fun S1 H1 s h1 => k a b1 S1 H1 s h1 (h.same s)
  | exc x b1 => rw [e] at h; exact h
  | stuck => rw [e] at h; exact h.elim
theorem tz_Abnd {m : M τ α} {f : α → M τ β} {A : α → List Pr} {R' : Rel β} {Q : VK} {Q' : List V → Hp → Prop} (hh : Hold E B Γ b σ S H) (h : aft G E W B Γ σ S R' Q (bnd m f b))
    (k : ∀ x b1 vs S1 H1, Same S S1 → Hold E B Γ b1 σ S1 H1 → All2 (fun (p : Pr) v => p.p S1 v) (A x) vs → aft G E W B Γ σ S1 R' Q (f x b1) → Q' vs H1) : tzA G E W Γ m A σ H Q' := by
  refine ⟨B, S, b, hh, ?_⟩
  unfold bnd at h
  cases e : m b with
  | ok a b1 => rw [e] at h; exact fun v S1 H1 s h1 r => k a b1 v S1 H1 s h1 r (h.same s)
  | exc x b1 => rw [e] at h; exact h
  | stuck => rw [e] at h; exact h.elim

/-! ### names and constants -/
structure Nm (c : Sc) (i : Nat) (x : Str) : Prop where
  n : c.N[i]? = some x
  v : Vis c.sc x
  d : (x == ("__debug__" : Str)) = false
  cd : (x == ("__classdict__" : Str)) = false
theorem z_var {i : Nat} {x : Str} {pos : Pos} {R : Rel α} {a : α} (n : Nm c i x) (h : Γ[i]? = some (.st (R.pr a)) := by rfl) : ZE G c E W Γ (.Name x pos) (ret a) R := fun X C =>
  pe_wk (pe_var (by rw [C.N]; exact n.n) (by rw [C.sc]; exact n.v) n.d n.cd) fun σ H Q _ ⟨B, S, b, hh, q⟩ => by
    obtain ⟨Fs, hF, hs⟩ := hh.sl
    obtain ⟨v, e1, e2⟩ := hs i _ h
    have e : σ[i]? = some (some v) := by
      cases z : σ[i]? with
      | none => rw [z] at e1; cases e1
      | some o => rw [z] at e1; cases o with
        | none => cases e1
        | some u => cases e1; rfl
    exact ⟨v, e, q v S H (Same.refl _) hh e2⟩
theorem z_int {i : Int} {j : Nat} {pos : Pos} : ZE G c E W Γ (.Constant (.int i) j pos) (ret i) rInt := fun X C => pe_wk pe_int fun σ H Q _ ⟨B, S, b, hh, q⟩ => q _ S H (Same.refl _) hh rfl
theorem z_bl {i : Bool} {j : Nat} {pos : Pos} : ZE G c E W Γ (.Constant (.bool i) j pos) (ret i) rBl := fun X C => pe_wk pe_bl fun σ H Q _ ⟨B, S, b, hh, q⟩ => q _ S H (Same.refl _) hh rfl
theorem z_str {i : Str} {j : Nat} {pos : Pos} : ZE G c E W Γ (.Constant (.str i) j pos) (ret i) rStr := fun X C => pe_wk pe_str fun σ H Q _ ⟨B, S, b, hh, q⟩ => q _ S H (Same.refl _) hh rfl
theorem z_non {j : Nat} {pos : Pos} : ZE G c E W Γ (.Constant .none j pos) (ret ()) rNon := fun X C => pe_wk pe_non fun σ H Q _ ⟨B, S, b, hh, q⟩ => q _ S H (Same.refl _) hh rfl
/-- a global constant -/
def Gb (c : Sc) (x : Str) : Prop := c.sc.names.lookup x = some .globalImplicit
theorem CtxOk.gl {X : Cx} {x : Str} (C : CtxOk G c W X) (h : Gb c x) : Gl X x := by
  show X.env.scope.names.lookup x = some .globalImplicit
  rw [C.sc]; exact h
theorem z_gint {x : Str} {i : Int} {pos : Pos} {u : Value} (g : Gb c x) (h : G.mg x = some u) (r : RelV (.int i) u) (hd : (x == ("__debug__" : Str)) = false := by decide) : ZE G c E W Γ (.Name x pos) (ret i) rInt := fun X C =>
  pe_wk (pe_glob (C.gl g) (by rw [C.mg]; exact h) r hd) fun σ H Q _ ⟨B, S, b, hh, q⟩ => q _ S H (Same.refl _) hh rfl
theorem z_gstr {x : Str} {i : Str} {pos : Pos} {u : Value} (g : Gb c x) (h : G.mg x = some u) (r : RelV (.str i) u) (hd : (x == ("__debug__" : Str)) = false := by decide) : ZE G c E W Γ (.Name x pos) (ret i) rStr := fun X C =>
  pe_wk (pe_glob (C.gl g) (by rw [C.mg]; exact h) r hd) fun σ H Q _ ⟨B, S, b, hh, q⟩ => q _ S H (Same.refl _) hh rfl

/-! ### what is done with values -/
def zop1 (f : α → M τ β) (m : M τ α) : M τ β := bnd m f
def zop2 (f : α → β → M τ γ) (m : M τ α) (n : M τ β) : M τ γ := bnd m fun x => bnd n fun y => f x y
/-- r, asked of what stands for x (x, y), answers as f does -/
def Op1 (G : Gx) (E : Eff τ) (W : WX) (Γ : Env) (r : V → Hp → VK → Prop) (Ra : Rel α) (f : α → M τ γ) (R : Rel γ) : Prop :=
  ∀ B σ S H b x v Q, Hold E B Γ b σ S H → Ra.is x S v → aft G E W B Γ σ S R Q (f x b) → r v H Q
def Op2 (G : Gx) (E : Eff τ) (W : WX) (Γ : Env) (r : R2) (Ra : Rel α) (Rb : Rel β) (f : α → β → M τ γ) (R : Rel γ) : Prop :=
  ∀ B σ S H b x y v w Q, Hold E B Γ b σ S H → Ra.is x S v → Rb.is y S w → aft G E W B Γ σ S R Q (f x y b) → r v w H Q
def OpA (G : Gx) (E : Eff τ) (W : WX) (Γ : Env) (r : List V → Hp → VK → Prop) (A : α → List Pr) (f : α → M τ γ) (R : Rel γ) : Prop :=
  ∀ B σ S H b x vs Q, Hold E B Γ b σ S H → All2 (fun (p : Pr) v => p.p S v) (A x) vs → aft G E W B Γ σ S R Q (f x b) → r vs H Q
theorem tz_op1 {e : TE → TE} {t : TE} {r : V → Hp → VK → Prop} {Ra : Rel α} {f : α → M τ γ} {R : Rel γ} {ma : M τ α} (h : Op1 G E W Γ r Ra f R) {σ : St} {H : Hp} {Q : VK} (q : tzE G E W Γ (zop1 f ma) R σ H Q) : tzE G E W Γ ma Ra σ H fun v H1 => r v H1 Q := by
  obtain ⟨B, S, b, hh, q⟩ := q
  exact tz_bnd hh q fun x b1 v S1 H1 s1 h1 r1 q1 => h B σ S1 H1 b1 x v Q h1 r1 q1
theorem tz_op2 {r : R2} {Ra : Rel α} {Rb : Rel β} {f : α → β → M τ γ} {R : Rel γ} {ma : M τ α} {mb : M τ β} (h : Op2 G E W Γ r Ra Rb f R) {σ : St} {H : Hp} {Q : VK} (q : tzE G E W Γ (zop2 f ma mb) R σ H Q) :
    tzE G E W Γ ma Ra σ H fun v H1 => tzE G E W Γ mb Rb σ H1 fun w H2 => r v w H2 Q := by
  obtain ⟨B, S, b, hh, q⟩ := q
  refine tz_bnd hh q fun x b1 v S1 H1 s1 h1 r1 q1 => ?_
  exact tz_bnd h1 q1 fun y b2 w S2 H2 s2 h2 r2 q2 => h B σ S2 H2 b2 x y v w Q h2 (Ra.mono s2 r1) r2 q2
theorem z_bin {op : Operator} {r : R2} {Ra : Rel α} {Rb : Rel β} {f : α → β → M τ γ} {R : Rel γ} {ma : M τ α} {mb : M τ β} {ea eb : Expr} {pos : Pos} (ho : ∀ X, CtxOk G c W X → OpR X (binaryOp op) r) (h : Op2 G E W Γ r Ra Rb f R)
    (ha : ZE G c E W Γ ea ma Ra) (hb : ZE G c E W Γ eb mb Rb) : ZE G c E W Γ (.BinOp ea op eb pos) (zop2 f ma mb) R := fun X C => pe_wk (pe_op (ho X C) (ha X C) (hb X C)) fun _ _ _ _ q => tz_op2 h q
theorem z_una {op : UnaryOp} {r : V → Hp → VK → Prop} {Ra : Rel α} {f : α → M τ γ} {R : Rel γ} {ma : M τ α} {ea : Expr} {pos : Pos} (ho : ∀ X, CtxOk G c W X → UnR X (unaryOp op) r) (h : Op1 G E W Γ r Ra f R)
    (ha : ZE G c E W Γ ea ma Ra) : ZE G c E W Γ (.UnaryOp op ea pos) (zop1 f ma) R := fun X C => pe_wk (pe_un (ho X C) (ha X C)) fun _ _ _ _ q => tz_op1 (e := id) (t := fun _ _ _ => True) h q
theorem z_cmp {op : CmpOp} {r : R2} {Ra : Rel α} {Rb : Rel β} {f : α → β → M τ Bool} {ma : M τ α} {mb : M τ β} {ea eb : Expr} {pos : Pos} (ho : ∀ X, CtxOk G c W X → OpR X (compareOp op) r) (h : Op2 G E W Γ r Ra Rb f rBl)
    (ha : ZE G c E W Γ ea ma Ra) (hb : ZE G c E W Γ eb mb Rb) (hm : behindInMarks op eb = false) : ZE G c E W Γ (.Compare ea [op] [eb] pos) (zop2 f ma mb) rBl := fun X C => pe_wk (pe_cmpR (ho X C) (ha X C) (hb X C) hm) fun _ _ _ _ q => tz_op2 h q
/-- a value's test: from what is wanted of a Bool to what is wanted of a value -/
theorem aft_T {B : Bs} {σ : St} {S : Hp} {Q : Bool → Hp → Prop} : ∀ {o : Out τ Bool}, aftT G E W B Γ σ S Q o → aft G E W B Γ σ S rBl (fun v H => ∃ k, v = .bl k ∧ Q k H) o
  | .ok a _, h => fun v S' H' s hh r => ⟨a, r, h S' H' s hh⟩
  | .exc _ _, h => h
  | .stuck, h => h
theorem zt_cmp {op : CmpOp} {r : R2} {Ra : Rel α} {Rb : Rel β} {f : α → β → M τ Bool} {ma : M τ α} {mb : M τ β} {ea eb : Expr} {pos : Pos} (ho : ∀ X, CtxOk G c W X → OpR X (compareOp op) r) (h : Op2 G E W Γ r Ra Rb f rBl)
    (ha : ZE G c E W Γ ea ma Ra) (hb : ZE G c E W Γ eb mb Rb) (hm : behindInMarks op eb = false) : ZT G c E W Γ (.Compare ea [op] [eb] pos) (zop2 f ma mb) := fun X C =>
  pt_wk (pt_cmpR (ho X C) (ha X C) (hb X C) hm) fun _ _ _ _ ⟨B, S, b, hh, q⟩ => tz_op2 h ⟨B, S, b, hh, aft_T q⟩
/-- an expression that gives a truth, as a test -/
theorem zt_val {e : Expr} {m : M τ Bool} (h : ZE G c E W Γ e m rBl) (he : ∀ (env : PySem.Env) whole, isTrue e env whole = (do let v ← whole; standAt e.pos; holding [v] (truthy v)) := by intro _ _; rfl) : ZT G c E W Γ e m := fun X C =>
  pt_wk (pt_val (h X C) (he X.env)) fun _ _ _ _ ⟨B, S, b, hh, q⟩ => ⟨B, S, b, hh, aft_T q⟩
def znot (m : M τ Bool) : M τ Bool := bnd m fun x => ret (!x)
def zand (m n : M τ Bool) : M τ Bool := bnd m fun x => if x = true then n else ret false
def zor (m n : M τ Bool) : M τ Bool := bnd m fun x => if x = true then ret true else n
theorem zt_not {e : Expr} {m : M τ Bool} {pos : Pos} (h : ZT G c E W Γ e m) : ZT G c E W Γ (.UnaryOp .Not e pos) (znot m) := fun X C => pt_wk (pt_not (h X C)) fun _ _ _ _ ⟨B, S, b, hh, q⟩ => by
  refine tz_TbndT hh q fun x b1 S1 H1 s1 h1 q1 => ?_
  exact q1 S1 H1 (Same.refl _) h1
theorem z_not {e : Expr} {m : M τ Bool} {pos : Pos} (h : ZE G c E W Γ e m rBl) : ZE G c E W Γ (.UnaryOp .Not e pos) (znot m) rBl := fun X C => pe_wk (pe_not (h X C)) fun _ _ _ _ ⟨B, S, b, hh, q⟩ => by
  refine tz_bnd hh q fun x b1 v S1 H1 s1 h1 r1 q1 => ?_
  exact ⟨x, r1, q1 _ S1 H1 (Same.refl _) h1 rfl⟩
/-- a test whatever its 'whole' is -/
def ZW (G : Gx) (c : Sc) (E : Eff τ) (W : WX) (Γ : Env) (e : Expr) (m : M τ Bool) : Prop := ∀ X, CtxOk G c W X → PW X e (tzT G E W Γ m)
theorem pw_wk {X : Cx} {e : Expr} {t t' : TT} (h : PW X e t) (w : ∀ σ H Q, t' σ H Q → t σ H Q) : PW X e t' := ⟨fun wh pins s σ H Q I q => h.run wh pins s σ H Q I (w σ H Q q)⟩
theorem zw_t {e : Expr} {m : M τ Bool} (h : ZW G c E W Γ e m) : ZT G c E W Γ e m := fun X C => (h X C).pt
theorem zw_and1 {e : Expr} {m : M τ Bool} {pos : Pos} (h : ZT G c E W Γ e m) : ZW G c E W Γ (.BoolOp .And [e] pos) m := fun X C => pw_and1 (h X C)
theorem zw_or1 {e : Expr} {m : M τ Bool} {pos : Pos} (h : ZT G c E W Γ e m) : ZW G c E W Γ (.BoolOp .Or [e] pos) m := fun X C => pw_or1 (h X C)
theorem zw_and {a d : Expr} {rest : List Expr} {m n : M τ Bool} {pos : Pos} (h : ZT G c E W Γ a m) (h2 : ZW G c E W Γ (.BoolOp .And (d :: rest) pos) n) : ZW G c E W Γ (.BoolOp .And (a :: d :: rest) pos) (zand m n) := fun X C =>
  pw_wk (pw_and (h X C) (h2 X C)) fun _ _ _ ⟨B, S, b, hh, q⟩ => by
    refine tz_TbndT hh q fun x b1 S1 H1 s1 h1 q1 => ?_
    cases x with
    | true => exact ⟨B, S1, b1, h1, q1⟩
    | false => exact q1 S1 H1 (Same.refl _) h1
theorem zw_or {a d : Expr} {rest : List Expr} {m n : M τ Bool} {pos : Pos} (h : ZT G c E W Γ a m) (h2 : ZW G c E W Γ (.BoolOp .Or (d :: rest) pos) n) : ZW G c E W Γ (.BoolOp .Or (a :: d :: rest) pos) (zor m n) := fun X C =>
  pw_wk (pw_or (h X C) (h2 X C)) fun _ _ _ ⟨B, S, b, hh, q⟩ => by
    refine tz_TbndT hh q fun x b1 S1 H1 s1 h1 q1 => ?_
    cases x with
    | true => exact q1 S1 H1 (Same.refl _) h1
    | false => exact ⟨B, S1, b1, h1, q1⟩
theorem z_one {op : BoolOp} {e : Expr} {m : M τ Bool} {pos : Pos} (h : ZE G c E W Γ e m rBl) : ZE G c E W Γ (.BoolOp op [e] pos) m rBl := fun X C => pe_one (h X C)
theorem z_and {a d : Expr} {rest : List Expr} {m n : M τ Bool} {pos : Pos} (h : ZE G c E W Γ a m rBl) (h2 : ZE G c E W Γ (.BoolOp .And (d :: rest) pos) n rBl) : ZE G c E W Γ (.BoolOp .And (a :: d :: rest) pos) (zand m n) rBl := fun X C =>
  pe_wk (pe_and (h X C) (h2 X C)) fun _ _ _ _ ⟨B, S, b, hh, q⟩ => by
    refine tz_bnd hh q fun x b1 v S1 H1 s1 h1 r1 q1 => ⟨x, r1, ?_⟩
    cases x with
    | true => exact ⟨B, S1, b1, h1, q1⟩
    | false => exact q1 _ S1 H1 (Same.refl _) h1 rfl
def zif (m : M τ Bool) (n o : M τ α) : M τ α := bnd m fun x => if x = true then n else o
/-! ### the operators on whole numbers -/
def iadd (x y : Int) : M τ Int := ret (x + y)
def isub (x y : Int) : M τ Int := ret (x - y)
def mulOk (x y : Int) : Prop := CMulW x y ∨ CMul x y
noncomputable instance {x y : Int} : Decidable (mulOk x y) := Classical.propDecidable _
noncomputable def imul (x y : Int) : M τ Int := chk (mulOk x y) (ret (x * y))
def divOk (x y : Int) : Prop := CDivW x y
noncomputable instance {x y : Int} : Decidable (divOk x y) := Classical.propDecidable _
noncomputable def idiv (x y : Int) : M τ Int := chk (divOk x y) (ret (x / y))
def imod (x y : Int) : M τ Int := chk (0 < y) (ret (x % y))
def powOk (x y : Int) : Prop := CPow x y
noncomputable instance {x y : Int} : Decidable (powOk x y) := Classical.propDecidable _
noncomputable def ipow (x y : Int) : M τ Int := chk (powOk x y) (ret (x ^ y.toNat))
def ineg (x : Int) : M τ Int := ret (-x)
def ilt (x y : Int) : M τ Bool := ret (decide (x < y))
def ile (x y : Int) : M τ Bool := ret (decide (x ≤ y))
def igt (x y : Int) : M τ Bool := ret (decide (y < x))
def ige (x y : Int) : M τ Bool := ret (decide (y ≤ x))
def feq [DecidableEq α] (x y : α) : M τ Bool := ret (decide (x = y))
def fne [DecidableEq α] (x y : α) : M τ Bool := ret (!decide (x = y))
theorem aft_ret {R : Rel α} {Q : VK} {a : α} (hh : Hold E B Γ b σ S H) (h : aft G E W B Γ σ S R Q (ret a b)) {v : V} (r : R.is a S v) : Q v H := h v S H (Same.refl _) hh r
theorem aft_chk {R : Rel α} {Q : VK} {p : Prop} [Decidable p] {m : M τ α} (h : aft G E W B Γ σ S R Q (chk p m b)) : p ∧ aft G E W B Γ σ S R Q (m b) := by
  unfold chk at h
  by_cases hp : p
  · rw [if_pos hp] at h; exact ⟨hp, h⟩
  · rw [if_neg hp] at h; exact h.elim
theorem opI2 {g : Int → Int → Int} : Op2 G E W Γ (rI0 fun i j => .int (g i j)) rInt rInt (fun x y => ret (g x y)) rInt := fun B σ S H b x y v w Q hh hx hy q => ⟨x, y, hx, hy, aft_ret hh q rfl⟩
theorem opB2 {g : Int → Int → Bool} : Op2 G E W Γ (rI0 fun i j => .bl (g i j)) rInt rInt (fun x y => ret (g x y)) rBl := fun B σ S H b x y v w Q hh hx hy q => ⟨x, y, hx, hy, aft_ret hh q rfl⟩
theorem opC2 {P : Int → Int → Prop} [∀ x y, Decidable (P x y)] {g : Int → Int → Int} : Op2 G E W Γ (rI P fun i j => .int (g i j)) rInt rInt (fun x y => chk (P x y) (ret (g x y))) rInt := fun B σ S H b x y v w Q hh hx hy q =>
  let ⟨p, q⟩ := aft_chk q
  ⟨x, y, hx, hy, p, aft_ret hh q rfl⟩
theorem op_mulA {X : Cx} : OpR X (binaryOp .Mult) (rI mulOk fun i j => .int (i * j)) := fun pins s σ H x y v u Q I rx ry ⟨i, j, e1, e2, hc, q⟩ => by
  rcases hc with hc | hc
  · exact op_mulW pins s σ H x y v u Q I rx ry ⟨i, j, e1, e2, hc, q⟩
  · exact op_mul pins s σ H x y v u Q I rx ry ⟨i, j, e1, e2, hc, q⟩
section
variable {ea eb : Expr} {pos : Pos} {ma mb : M τ Int}
theorem z_add (ha : ZE G c E W Γ ea ma rInt) (hb : ZE G c E W Γ eb mb rInt) : ZE G c E W Γ (.BinOp ea .Add eb pos) (zop2 iadd ma mb) rInt := z_bin (fun _ _ => op_add) opI2 ha hb
theorem z_sub (ha : ZE G c E W Γ ea ma rInt) (hb : ZE G c E W Γ eb mb rInt) : ZE G c E W Γ (.BinOp ea .Sub eb pos) (zop2 isub ma mb) rInt := z_bin (fun _ _ => op_sub) opI2 ha hb
theorem z_mul (ha : ZE G c E W Γ ea ma rInt) (hb : ZE G c E W Γ eb mb rInt) : ZE G c E W Γ (.BinOp ea .Mult eb pos) (zop2 imul ma mb) rInt := z_bin (fun _ _ => op_mulA) opC2 ha hb
theorem z_div (ha : ZE G c E W Γ ea ma rInt) (hb : ZE G c E W Γ eb mb rInt) : ZE G c E W Γ (.BinOp ea .FloorDiv eb pos) (zop2 idiv ma mb) rInt := z_bin (r := rI divOk fun i j => .int (i / j)) (fun _ _ => op_fdivW) opC2 ha hb
theorem z_mod (ha : ZE G c E W Γ ea ma rInt) (hb : ZE G c E W Γ eb mb rInt) : ZE G c E W Γ (.BinOp ea .Mod eb pos) (zop2 imod ma mb) rInt := z_bin (fun _ _ => op_mod) opC2 ha hb
theorem z_pow (ha : ZE G c E W Γ ea ma rInt) (hb : ZE G c E W Γ eb mb rInt) : ZE G c E W Γ (.BinOp ea .Pow eb pos) (zop2 ipow ma mb) rInt := z_bin (r := rI powOk fun i j => .int (i ^ j.toNat)) (fun _ _ => op_pow) opC2 ha hb
theorem z_neg (ha : ZE G c E W Γ ea ma rInt) : ZE G c E W Γ (.UnaryOp .USub ea pos) (zop1 ineg ma) rInt := z_una (fun _ _ => un_neg) (fun B σ S H b x v Q hh hx q => ⟨x, hx, aft_ret hh q rfl⟩) ha
theorem z_lt (ha : ZE G c E W Γ ea ma rInt) (hb : ZE G c E W Γ eb mb rInt) : ZE G c E W Γ (.Compare ea [.Lt] [eb] pos) (zop2 ilt ma mb) rBl := z_cmp (fun _ _ => op_lt) opB2 ha hb (nomark _)
theorem zt_lt (ha : ZE G c E W Γ ea ma rInt) (hb : ZE G c E W Γ eb mb rInt) : ZT G c E W Γ (.Compare ea [.Lt] [eb] pos) (zop2 ilt ma mb) := zt_cmp (fun _ _ => op_lt) opB2 ha hb (nomark _)
theorem zt_gt (ha : ZE G c E W Γ ea ma rInt) (hb : ZE G c E W Γ eb mb rInt) : ZT G c E W Γ (.Compare ea [.Gt] [eb] pos) (zop2 igt ma mb) := zt_cmp (fun _ _ => op_gt) opB2 ha hb (nomark _)
theorem zt_ge (ha : ZE G c E W Γ ea ma rInt) (hb : ZE G c E W Γ eb mb rInt) : ZT G c E W Γ (.Compare ea [.GtE] [eb] pos) (zop2 ige ma mb) := zt_cmp (fun _ _ => op_ge) opB2 ha hb (nomark _)
end
/-- a < b < c and its like -/
def zchain (f : α → β → M τ Bool) (g : β → γ → M τ Bool) (ma : M τ α) (mb : M τ β) (mc : M τ γ) : M τ Bool := bnd ma fun x => bnd mb fun y => bnd (f x y) fun k => if k = true then bnd mc fun z => g y z else ret false
theorem tz_chain {Ra : Rel α} {Rb : Rel β} {Rc : Rel γ} {f : α → β → M τ Bool} {g : β → γ → M τ Bool} {r r' : R2} {ma : M τ α} {mb : M τ β} {mc : M τ γ} (h : Op2 G E W Γ r Ra Rb f rBl) (h' : Op2 G E W Γ r' Rb Rc g rBl)
    {σ : St} {H : Hp} {Q : VK} (q : tzE G E W Γ (zchain f g ma mb mc) rBl σ H Q) : tChain r r' (tzE G E W Γ ma Ra) (tzE G E W Γ mb Rb) (tzE G E W Γ mc Rc) σ H Q := by
  obtain ⟨B, S, b, hh, q⟩ := q
  refine tz_bnd hh q fun x b1 v S1 H1 s1 h1 r1 q1 => ?_
  refine tz_bnd h1 q1 fun y b2 w S2 H2 s2 h2 r2 q2 => ?_
  refine h B σ S2 H2 b2 x y v w _ h2 (Ra.mono s2 r1) r2 ?_
  unfold bnd at q2
  cases e : f x y b2 with
  | stuck => rw [e] at q2; exact q2.elim
  | exc x b3 => rw [e] at q2; exact q2
  | ok k b3 =>
    rw [e] at q2
    intro v3 S3 H3 s3 h3 r3
    refine ⟨k, r3, ?_⟩
    cases k with
    | false => exact q2 _ S3 H3 s3 h3 rfl
    | true =>
      have q3 : aft G E W B Γ σ S2 rBl Q (bnd mc (fun z => g y z) b3) := q2
      exact tz_bnd h3 (q3.same s3) fun z b4 u S4 H4 s4 h4 r4 q4 => h' B σ S4 H4 b4 y z w u Q h4 (Rb.mono s4 (Rb.mono s3 r2)) r4 q4
theorem z_chain {op op' : CmpOp} {Ra : Rel α} {Rb : Rel β} {Rc : Rel γ} {f : α → β → M τ Bool} {g : β → γ → M τ Bool} {r r' : R2} {ma : M τ α} {mb : M τ β} {mc : M τ γ} {ea eb ec : Expr} {pos : Pos} (ho : ∀ X, CtxOk G c W X → OpR X (compareOp op) r) (ho' : ∀ X, CtxOk G c W X → OpR X (compareOp op') r')
    (h : Op2 G E W Γ r Ra Rb f rBl) (h' : Op2 G E W Γ r' Rb Rc g rBl) (ha : ZE G c E W Γ ea ma Ra) (hb : ZE G c E W Γ eb mb Rb) (hc : ZE G c E W Γ ec mc Rc) (hm : lastMarks [op, op'] [eb, ec] = false) :
    ZE G c E W Γ (.Compare ea [op, op'] [eb, ec] pos) (zchain f g ma mb mc) rBl := fun X C => pe_wk (pe_chain (ho X C) (ho' X C) (ha X C) (hb X C) (hc X C) hm) fun _ _ _ _ q => tz_chain h h' q
theorem zt_chain {op op' : CmpOp} {Ra : Rel α} {Rb : Rel β} {Rc : Rel γ} {f : α → β → M τ Bool} {g : β → γ → M τ Bool} {r r' : R2} {ma : M τ α} {mb : M τ β} {mc : M τ γ} {ea eb ec : Expr} {pos : Pos} (ho : ∀ X, CtxOk G c W X → OpR X (compareOp op) r) (ho' : ∀ X, CtxOk G c W X → OpR X (compareOp op') r')
    (h : Op2 G E W Γ r Ra Rb f rBl) (h' : Op2 G E W Γ r' Rb Rc g rBl) (ha : ZE G c E W Γ ea ma Ra) (hb : ZE G c E W Γ eb mb Rb) (hc : ZE G c E W Γ ec mc Rc) (hm : lastMarks [op, op'] [eb, ec] = false) :
    ZT G c E W Γ (.Compare ea [op, op'] [eb, ec] pos) (zchain f g ma mb mc) := fun X C => pt_wk (pt_chain (ho X C) (ho' X C) (ha X C) (hb X C) (hc X C) hm) fun _ _ _ _ ⟨B, S, b, hh, q⟩ => tz_chain h h' ⟨B, S, b, hh, aft_T q⟩
/-- the order of two whole numbers, for chains -/
structure CmpI (G : Gx) (E : Eff τ) (W : WX) (Γ : Env) (op : CmpOp) (f : Int → Int → M τ Bool) (r : R2) : Prop where
  o : ∀ X, OpR X (compareOp op) r
  h : Op2 G E W Γ r rInt rInt f rBl
theorem ci_le : CmpI G E W Γ .LtE ile (rI0 fun i j => .bl (decide (i ≤ j))) := ⟨fun _ => op_le, opB2⟩
theorem z_chI {op op' : CmpOp} {f g : Int → Int → M τ Bool} {r r' : R2} {ma mb mc : M τ Int} {ea eb ec : Expr} {pos : Pos} (h : CmpI G E W Γ op f r) (h' : CmpI G E W Γ op' g r') (ha : ZE G c E W Γ ea ma rInt) (hb : ZE G c E W Γ eb mb rInt) (hc : ZE G c E W Γ ec mc rInt) (hm : lastMarks [op, op'] [eb, ec] = false := by with_unfolding_all rfl) :
    ZE G c E W Γ (.Compare ea [op, op'] [eb, ec] pos) (zchain f g ma mb mc) rBl := z_chain (fun X _ => h.o X) (fun X _ => h'.o X) h.h h'.h ha hb hc hm
theorem zt_chI {op op' : CmpOp} {f g : Int → Int → M τ Bool} {r r' : R2} {ma mb mc : M τ Int} {ea eb ec : Expr} {pos : Pos} (h : CmpI G E W Γ op f r) (h' : CmpI G E W Γ op' g r') (ha : ZE G c E W Γ ea ma rInt) (hb : ZE G c E W Γ eb mb rInt) (hc : ZE G c E W Γ ec mc rInt) (hm : lastMarks [op, op'] [eb, ec] = false := by with_unfolding_all rfl) :
    ZT G c E W Γ (.Compare ea [op, op'] [eb, ec] pos) (zchain f g ma mb mc) := zt_chain (fun X _ => h.o X) (fun X _ => h'.o X) h.h h'.h ha hb hc hm

/-! ### argument lists, displays -/
def zpair (m : M τ α) (n : M τ β) : M τ (α × β) := bnd m fun x => bnd n fun y => ret (x, y)
abbrev Star (e : Expr) (es : List Expr) : Prop := ∀ env : PySem.Env, starEach (e :: es) env = (false, eval e env) :: starEach es env
theorem za_one {e : Expr} {m : M τ α} {R : Rel α} (h : ZE G c E W Γ e m R) (hs : Star e [] := by intro _; rfl) : ZA G c E W Γ [e] m (fun x => [R.pr x]) := fun X C =>
  pa_wk (pa_cons (h X C) pa_nil (hs X.env)) fun σ H Q _ ⟨B, S, b, hh, q⟩ => by
    refine ⟨B, S, b, hh, ?_⟩
    cases e : m b with
    | ok a b1 => rw [e] at q; exact fun v S1 H1 s h1 r => q [v] S1 H1 s h1 ⟨r, trivial⟩
    | exc x b1 => rw [e] at q; exact q
    | stuck => rw [e] at q; exact q.elim
theorem za_cons {e : Expr} {es : List Expr} {m : M τ α} {n : M τ β} {R : Rel α} {A : β → List Pr} (h : ZE G c E W Γ e m R) (h2 : ZA G c E W Γ es n A) (hs : Star e es := by intro _; rfl) : ZA G c E W Γ (e :: es) (zpair m n) (fun x => R.pr x.1 :: A x.2) := fun X C =>
  pa_wk (pa_cons (h X C) (h2 X C) (hs X.env)) fun σ H Q _ ⟨B, S, b, hh, q⟩ => by
    refine tz_bndA hh q fun x b1 v S1 H1 s1 h1 r1 q1 => ?_
    refine ⟨B, S1, b1, h1, ?_⟩
    unfold bnd at q1
    cases e : n b1 with
    | ok a b2 => rw [e] at q1; exact fun vs S2 H2 s h2 r => q1 (v :: vs) S2 H2 s h2 ⟨R.mono s r1, r⟩
    | exc x b1 => rw [e] at q1; exact q1
    | stuck => rw [e] at q1; exact q1.elim
/-- a list of things of one kind, one by one -/
def zcons (m : M τ α) (n : M τ (List α)) : M τ (List α) := bnd m fun x => bnd n fun y => ret (x :: y)
abbrev Rel.all (R : Rel α) (xs : List α) : List Pr := xs.map fun x => R.pr x
theorem zl_nil {R : Rel α} : ZA G c E W Γ [] (ret []) R.all := fun X C => pa_wk pa_nil fun _ H _ _ ⟨B, S, b, hh, q⟩ => q [] S H (Same.refl _) hh trivial
theorem zl_cons {e : Expr} {es : List Expr} {m : M τ α} {n : M τ (List α)} {R : Rel α} (h : ZE G c E W Γ e m R) (h2 : ZA G c E W Γ es n R.all) (hs : Star e es := by intro _; rfl) : ZA G c E W Γ (e :: es) (zcons m n) R.all := fun X C =>
  pa_wk (pa_cons (h X C) (h2 X C) (hs X.env)) fun σ H Q _ ⟨B, S, b, hh, q⟩ => by
    refine tz_bndA hh q fun x b1 v S1 H1 s1 h1 r1 q1 => ?_
    refine ⟨B, S1, b1, h1, ?_⟩
    unfold bnd at q1
    cases e : n b1 with
    | ok a b2 => rw [e] at q1; exact fun vs S2 H2 s h2 r => q1 (v :: vs) S2 H2 s h2 ⟨R.mono s r1, r⟩
    | exc x b1 => rw [e] at q1; exact q1
    | stuck => rw [e] at q1; exact q1.elim
theorem all_of {R : Rel α} {S : Hp} : ∀ {xs : List α} {vs : List V}, All2 (fun (p : Pr) v => p.p S v) (R.all xs) vs → All2 (fun x v => R.is x S v) xs vs
  | [], [], _ => trivial
  | _ :: _, _ :: _, ⟨a, b⟩ => ⟨a, all_of b⟩
  | [], _ :: _, h => h.elim
  | _ :: _, [], h => h.elim
/-- what a new stable object is -/
theorem aft_new {R : Rel α} {Q : VK} {a : α} {p : Addr} {o : HO} (hh : Hold E B Γ b σ S H) (h : aft G E W B Γ σ S R Q (ret a b)) (hp : H p = none) (r : R.is a (upd S p o) (.ref p)) : Q (.ref p) (upd H p o) :=
  h _ (upd S p o) _ (same_new (hh.same.free hp)) (hh.new hp) r
def zlist (m : M τ (List α)) : M τ (List α) := bnd m fun xs => chk (xs.length ≤ sizeLine) (ret xs)
theorem All2.rel {R : Rel α} {S S' : Hp} (s : Same S S') {xs : List α} {vs : List V} (h : All2 (fun x v => R.is x S v) xs vs) : All2 (fun x v => R.is x S' v) xs vs := h.imp fun _ _ h => R.mono s h
theorem rLst_new {R : Rel α} {p : Addr} {xs : List α} {vs : List V} (s : S p = none) (h : All2 (fun x v => R.is x S v) xs vs) : (rLst R).is xs (upd S p (.lst vs)) (.ref p) := ⟨p, vs, rfl, upd_same, All2.rel (same_new s) h⟩
theorem rVT_new {R : Rel α} {p : Addr} {xs : List α} {vs : List V} (s : S p = none) (h : All2 (fun x v => R.is x S v) xs vs) : (rVT R).is xs (upd S p (.tup vs)) (.ref p) := ⟨p, vs, rfl, upd_same, All2.rel (same_new s) h⟩
theorem z_list {es : List Expr} {m : M τ (List α)} {R : Rel α} {pos : Pos} (h : ZA G c E W Γ es m R.all) : ZE G c E W Γ (.List es pos) (zlist m) (rLst R) := fun X C => pe_wk (pe_lst (h X C)) fun σ H Q _ ⟨B, S, b, hh, q⟩ => by
  refine tz_Abnd hh q fun x b1 vs S1 H1 s1 h1 r1 q1 => ?_
  obtain ⟨hl, q2⟩ := aft_chk q1
  have r2 := all_of r1
  exact ⟨by rw [← r2.length]; exact hl, fun p hp => aft_new h1 q2 hp (rLst_new (h1.same.free hp) r2)⟩
theorem z_vtup {es : List Expr} {m : M τ (List α)} {R : Rel α} {k} {pos : Pos} (h : ZA G c E W Γ es m R.all) : ZE G c E W Γ (.Tuple es k pos) (zlist m) (rVT R) := fun X C => pe_wk (pe_tup (h X C)) fun σ H Q _ ⟨B, S, b, hh, q⟩ => by
  refine tz_Abnd hh q fun x b1 vs S1 H1 s1 h1 r1 q1 => ?_
  obtain ⟨hl, q2⟩ := aft_chk q1
  have r2 := all_of r1
  exact ⟨by rw [← r2.length]; exact hl, fun p hp => aft_new h1 q2 hp (rVT_new (h1.same.free hp) r2)⟩
theorem line4 {n : Nat} (h : n ≤ 4) : n ≤ sizeLine := Nat.le_trans h (by decide)
theorem z_tup2 {es : List Expr} {m : M τ (α × β)} {R : Rel α} {R2 : Rel β} {k} {pos : Pos} (h : ZA G c E W Γ es m (fun x => [R.pr x.1, R2.pr x.2])) : ZE G c E W Γ (.Tuple es k pos) m (rT2 R R2) := fun X C => pe_wk (pe_tup (h X C)) fun σ H Q _ ⟨B, S, b, hh, q⟩ => by
  refine ⟨B, S, b, hh, ?_⟩
  cases e : m b with
  | exc x b1 => rw [e] at q; exact q
  | stuck => rw [e] at q; exact q.elim
  | ok a b1 =>
    rw [e] at q
    intro vs S1 H1 s1 h1 r1
    match vs, r1 with
    | [u, w], ⟨r1, r2, _⟩ =>
      refine ⟨line4 (by simp), fun p hp => ?_⟩
      have s2 := same_new (o := HO.tup [u, w]) (h1.same.free hp)
      exact q _ (upd S1 p (.tup [u, w])) _ (s1.trans s2) (h1.new hp) ⟨p, u, w, rfl, upd_same, R.mono s2 r1, R2.mono s2 r2⟩
theorem z_tup3 {es : List Expr} {m : M τ (α × β × γ)} {R : Rel α} {R2 : Rel β} {R3 : Rel γ} {k} {pos : Pos} (h : ZA G c E W Γ es m (fun x => [R.pr x.1, R2.pr x.2.1, R3.pr x.2.2])) : ZE G c E W Γ (.Tuple es k pos) m (rT3 R R2 R3) := fun X C => pe_wk (pe_tup (h X C)) fun σ H Q _ ⟨B, S, b, hh, q⟩ => by
  refine ⟨B, S, b, hh, ?_⟩
  cases e : m b with
  | exc x b1 => rw [e] at q; exact q
  | stuck => rw [e] at q; exact q.elim
  | ok a b1 =>
    rw [e] at q
    intro vs S1 H1 s1 h1 r1
    match vs, r1 with
    | [u, w, z], ⟨r1, r2, r3, _⟩ =>
      refine ⟨line4 (by simp), fun p hp => ?_⟩
      have s2 := same_new (o := HO.tup [u, w, z]) (h1.same.free hp)
      exact q _ (upd S1 p (.tup [u, w, z])) _ (s1.trans s2) (h1.new hp) ⟨p, u, w, z, rfl, upd_same, R.mono s2 r1, R2.mono s2 r2, R3.mono s2 r3⟩
theorem z_tup4 {es : List Expr} {m : M τ (α × β × γ × δ)} {R : Rel α} {R2 : Rel β} {R3 : Rel γ} {R4 : Rel δ} {k} {pos : Pos} (h : ZA G c E W Γ es m (fun x => [R.pr x.1, R2.pr x.2.1, R3.pr x.2.2.1, R4.pr x.2.2.2])) : ZE G c E W Γ (.Tuple es k pos) m (rT4 R R2 R3 R4) := fun X C => pe_wk (pe_tup (h X C)) fun σ H Q _ ⟨B, S, b, hh, q⟩ => by
  refine ⟨B, S, b, hh, ?_⟩
  cases e : m b with
  | exc x b1 => rw [e] at q; exact q
  | stuck => rw [e] at q; exact q.elim
  | ok a b1 =>
    rw [e] at q
    intro vs S1 H1 s1 h1 r1
    match vs, r1 with
    | [u, w, z, y], ⟨r1, r2, r3, r4, _⟩ =>
      refine ⟨line4 (by simp), fun p hp => ?_⟩
      have s2 := same_new (o := HO.tup [u, w, z, y]) (h1.same.free hp)
      exact q _ (upd S1 p (.tup [u, w, z, y])) _ (s1.trans s2) (h1.new hp) ⟨p, u, w, z, y, rfl, upd_same, R.mono s2 r1, R2.mono s2 r2, R3.mono s2 r3, R4.mono s2 r4⟩

/-! ### calls of what is built in -/
def zapp (f : α → M τ γ) (m : M τ α) : M τ γ := bnd m f
structure Blt (G : Gx) (c : Sc) (x : Str) (u : Value) : Prop where
  g : Gb c x
  m : G.mg x = none
  v : bootBuiltins x = some u
  n : x ≠ "__name__"
  d : (x == ("__debug__" : Str)) = false
theorem z_callB {x : Str} {id : String} {e : Expr} {es : List Expr} {r : List V → Hp → VK → Prop} {A : α → List Pr} {f : α → M τ γ} {R : Rel γ} {m : M τ α} {p pos : Pos} (bl : Blt G c x (.builtin id)) (hc : ∀ X, CtxOk G c W X → CallR X (.builtin id) r) (h : OpA G E W Γ r A f R)
    (ha : ZA G c E W Γ (e :: es) m A) (he : Star e es := by intro _; rfl) (hpl : ∀ env : PySem.Env, (backTo pos (starEach es env)).any (·.1) = false := by intro _; rfl) : ZE G c E W Γ (.Call (.Name x p) (e :: es) [] pos) (zapp f m) R := fun X C =>
  pe_wk (pe_callB (hc X C) (C.gl bl.g) (by rw [C.mg]; exact bl.m) bl.v (ha X C) bl.n bl.d (he X.env) (hpl X.env)) fun σ H Q _ ⟨B, S, b, hh, q⟩ =>
    tz_Abnd hh q fun x b1 vs S1 H1 s1 h1 r1 q1 => h B σ S1 H1 b1 x vs Q h1 r1 q1
theorem z_callTy {x : Str} {T : String} {e : Expr} {es : List Expr} {r : List V → Hp → VK → Prop} {A : α → List Pr} {f : α → M τ γ} {R : Rel γ} {m : M τ α} {p pos : Pos} (bl : Blt G c x (.type T)) (hc : ∀ X, CtxOk G c W X → CallR X (.type T) r) (h : OpA G E W Γ r A f R)
    (ha : ZA G c E W Γ (e :: es) m A) (he : Star e es := by intro _; rfl) (hpl : ∀ env : PySem.Env, (backTo pos (starEach es env)).any (·.1) = false := by intro _; rfl) : ZE G c E W Γ (.Call (.Name x p) (e :: es) [] pos) (zapp f m) R := fun X C =>
  pe_wk (pe_callTy (hc X C) (C.gl bl.g) (by rw [C.mg]; exact bl.m) bl.v (ha X C) bl.n bl.d (he X.env) (hpl X.env)) fun σ H Q _ ⟨B, S, b, hh, q⟩ =>
    tz_Abnd hh q fun x b1 vs S1 H1 s1 h1 r1 q1 => h B σ S1 H1 b1 x vs Q h1 r1 q1
end
end Zk

namespace Zk
open PySem L2

section
variable {τ α β γ δ : Type} {G : Gx} {c : Sc} {E : Eff τ} {W : WX} {Γ : Env} {B : Bs} {σ : St} {S S1 H : Hp} {b : τ}
/-! ### data at any depth -/
structure DatR (R : Rel α) where
  d : α → PyData
  n : Nat
  dep : ∀ x, (d x).depth ≤ n
  dp : ∀ {K : PySem.W.Frag} {x : α} {S H : Hp} {v : V}, Same S H → R.is x S v → Dp K H v (d x)
  eq : ∀ x y, PyData.eqv (d x) (d y) = true ↔ x = y
def datI : DatR rInt := ⟨.int, 0, fun _ => by simp [PyData.depth], fun _ h => by cases h; exact .int _, fun x y => by simp [PyData.eqv]⟩
def datS : DatR rStr := ⟨.str, 0, fun _ => by simp [PyData.depth], fun _ h => by cases h; exact .str _, fun x y => by simp [PyData.eqv]⟩
theorem dpAll {R : Rel α} (D : DatR R) {K : PySem.W.Frag} {S H : Hp} (s : Same S H) : ∀ {xs : List α} {vs : List V}, All2 (fun x v => R.is x S v) xs vs → DpAll K H vs (xs.map D.d)
  | [], [], _ => .nil
  | _ :: _, _ :: _, ⟨a, b⟩ => .cons (D.dp s a) (dpAll D s b)
  | [], _ :: _, h => h.elim
  | _ :: _, [], h => h.elim
theorem depAll {R : Rel α} (D : DatR R) : ∀ xs : List α, PyData.depthAll (xs.map D.d) ≤ D.n
  | [] => by simp [PyData.depthAll]
  | x :: xs => by
    have := depAll D xs
    have := D.dep x
    simp only [List.map_cons, PyData.depthAll]; omega
theorem eqAll {R : Rel α} (D : DatR R) : ∀ xs ys : List α, PyData.eqvAll (xs.map D.d) (ys.map D.d) = true ↔ xs = ys
  | [], [] => by simp [PyData.eqvAll]
  | [], _ :: _ => by simp [PyData.eqvAll]
  | _ :: _, [] => by simp [PyData.eqvAll]
  | x :: xs, y :: ys => by simp [PyData.eqvAll, D.eq, eqAll D xs ys]
def datL {R : Rel α} (D : DatR R) : DatR (rLst R) := ⟨fun xs => .list (xs.map D.d), D.n + 1, fun xs => by have := depAll D xs; simp only [PyData.depth]; omega, fun s ⟨a, vs, e, h, q⟩ => by cases e; exact .lst (.of (s _ _ h)) (dpAll D s q), fun x y => by simp [PyData.eqv, eqAll D]⟩
def datV {R : Rel α} (D : DatR R) : DatR (rVT R) := ⟨fun xs => .tuple (xs.map D.d), D.n + 1, fun xs => by have := depAll D xs; simp only [PyData.depth]; omega, fun s ⟨a, vs, e, h, q⟩ => by cases e; exact .tup (.of (s _ _ h)) (dpAll D s q), fun x y => by simp [PyData.eqv, eqAll D]⟩
def dat2 {R : Rel α} {R2 : Rel β} (D : DatR R) (D2 : DatR R2) : DatR (rT2 R R2) := ⟨fun x => .tuple [D.d x.1, D2.d x.2], max D.n D2.n + 1, fun x => by have := D.dep x.1; have := D2.dep x.2; simp only [PyData.depth, PyData.depthAll]; omega,
  fun s ⟨a, u, w, e, h, q, q2⟩ => by cases e; exact .tup (.of (s _ _ h)) (.cons (D.dp s q) (.cons (D2.dp s q2) .nil)), fun x y => by simp [PyData.eqv, PyData.eqvAll, D.eq, D2.eq, Prod.ext_iff]⟩
def dat3 {R : Rel α} {R2 : Rel β} {R3 : Rel γ} (D : DatR R) (D2 : DatR R2) (D3 : DatR R3) : DatR (rT3 R R2 R3) := ⟨fun x => .tuple [D.d x.1, D2.d x.2.1, D3.d x.2.2], max D.n (max D2.n D3.n) + 1, fun x => by have := D.dep x.1; have := D2.dep x.2.1; have := D3.dep x.2.2; simp only [PyData.depth, PyData.depthAll]; omega,
  fun s ⟨a, u, w, z, e, h, q, q2, q3⟩ => by cases e; exact .tup (.of (s _ _ h)) (.cons (D.dp s q) (.cons (D2.dp s q2) (.cons (D3.dp s q3) .nil))), fun x y => by simp [PyData.eqv, PyData.eqvAll, D.eq, D2.eq, D3.eq, Prod.ext_iff]⟩
def deqOk {R : Rel α} (D : DatR R) (x y : α) : Prop := (D.d x).canLay0 = true ∧ (D.d y).canLay0 = true ∧ D.n ≤ 64
instance {R : Rel α} {D : DatR R} {x y : α} : Decidable (deqOk D x y) := inferInstanceAs (Decidable (_ ∧ _ ∧ _))
def deq {R : Rel α} (D : DatR R) [DecidableEq α] (x y : α) : M τ Bool := chk (deqOk D x y) (ret (decide (x = y)))
theorem deq_sh {R : Rel α} {D : DatR R} {x : α} (h : (D.d x).canLay0 = true) (n : D.n ≤ 64) : SeqAt.shaped (D.d x) = true := by
  unfold SeqAt.shaped
  have := D.dep x
  simp only [h, Bool.true_and, decide_eq_true_eq]; omega
theorem deq_ev {R : Rel α} {D : DatR R} [DecidableEq α] (x y : α) : PyData.eqv (D.d x) (D.d y) = decide (x = y) := by
  by_cases e : x = y
  · rw [decide_eq_true e]; exact (D.eq x y).mpr e
  · rw [decide_eq_false e]
    cases q : PyData.eqv (D.d x) (D.d y) with
    | false => rfl
    | true => exact absurd ((D.eq x y).mp q) e
theorem op_deq {R : Rel α} {D : DatR R} [DecidableEq α] : Op2 G E W Γ (rEqD G.K) R R (deq D) rBl := fun B σ S H b x y v w Q hh hx hy q => by
  obtain ⟨⟨h1, h2, h3⟩, q⟩ := aft_chk q
  exact ⟨_, _, D.dp hh.same hx, D.dp hh.same hy, deq_sh h1 h3, deq_sh h2 h3, by rw [deq_ev]; exact aft_ret hh q rfl⟩
section
variable {ea eb : Expr} {pos : Pos}
theorem z_deq {R : Rel α} (D : DatR R) [DecidableEq α] {ma mb : M τ α} (ha : ZE G c E W Γ ea ma R) (hb : ZE G c E W Γ eb mb R) : ZE G c E W Γ (.Compare ea [.Eq] [eb] pos) (zop2 (deq D) ma mb) rBl := z_cmp (fun X C => by rw [← C.K]; exact op_eqD C.room.units) op_deq ha hb (nomark _)
/-! scalars: no condition -/
structure ScalR (R : Rel α) (f : α → V) : Prop where
  is : ∀ {x : α} {S : Hp} {v : V}, R.is x S v → v = f x
  sc : ∀ x y, scal (f x) (f y) = true
  inj : ∀ x y, f x = f y ↔ x = y
theorem scI : ScalR rInt V.int := ⟨fun h => h, fun _ _ => rfl, fun x y => by simp⟩
theorem scS : ScalR rStr V.str := ⟨fun h => h, fun _ _ => rfl, fun x y => by simp⟩
theorem op_seq {R : Rel α} {f : α → V} (D : ScalR R f) [DecidableEq α] : Op2 G E W Γ rEq R R feq rBl := fun B σ S H b x y v w Q hh hx hy q => by
  refine ⟨by rw [D.is hx, D.is hy]; exact D.sc x y, ?_⟩
  have e : decide (v = w) = decide (x = y) := by rw [D.is hx, D.is hy]; exact decide_eq_decide.mpr (D.inj x y)
  rw [e]; exact aft_ret hh q rfl
theorem op_sne {R : Rel α} {f : α → V} (D : ScalR R f) [DecidableEq α] : Op2 G E W Γ rNe R R fne rBl := fun B σ S H b x y v w Q hh hx hy q => by
  refine ⟨by rw [D.is hx, D.is hy]; exact D.sc x y, ?_⟩
  have e : decide (v = w) = decide (x = y) := by rw [D.is hx, D.is hy]; exact decide_eq_decide.mpr (D.inj x y)
  rw [e]; exact aft_ret hh q rfl
theorem z_eq {R : Rel α} {f : α → V} (D : ScalR R f) [DecidableEq α] {ma mb : M τ α} (ha : ZE G c E W Γ ea ma R) (hb : ZE G c E W Γ eb mb R) : ZE G c E W Γ (.Compare ea [.Eq] [eb] pos) (zop2 feq ma mb) rBl := z_cmp (fun X C => op_eq) (op_seq D) ha hb (nomark _)
theorem zt_eq {R : Rel α} {f : α → V} (D : ScalR R f) [DecidableEq α] {ma mb : M τ α} (ha : ZE G c E W Γ ea ma R) (hb : ZE G c E W Γ eb mb R) : ZT G c E W Γ (.Compare ea [.Eq] [eb] pos) (zop2 feq ma mb) := zt_cmp (fun X C => op_eq) (op_seq D) ha hb (nomark _)
theorem zt_ne {R : Rel α} {f : α → V} (D : ScalR R f) [DecidableEq α] {ma mb : M τ α} (ha : ZE G c E W Γ ea ma R) (hb : ZE G c E W Γ eb mb R) : ZT G c E W Γ (.Compare ea [.NotEq] [eb] pos) (zop2 fne ma mb) := zt_cmp (fun X C => op_ne) (op_sne D) ha hb (nomark _)
end

/-! ### items -/
def ixat (xs : List α) (i : Int) : M τ α := match atI xs i with | some v => ret v | none => stk
theorem All2.atI {r : α → V → Prop} {xs : List α} {vs : List V} {i : Int} {x : α} (h : All2 r xs vs) (e : L2.atI xs i = some x) : ∃ v, L2.atI vs i = some v ∧ r x v := by
  unfold L2.atI at e ⊢
  rw [← h.length]
  cases q : ixN xs.length i with
  | none => rw [q] at e; cases e
  | some j => rw [q] at e; exact h.get e
theorem op_ixL {R : Rel α} : Op2 G E W Γ (rIxL G.K) (rLst R) rInt ixat R := fun B σ S H b xs i v w Q hh ⟨a, vs, e1, e2, e3⟩ e4 q => by
  unfold ixat at q
  cases z : atI xs i with
  | none => rw [z] at q; exact q.elim
  | some x =>
    rw [z] at q
    obtain ⟨u, h1, h2⟩ := e3.atI z
    exact ⟨a, vs, i, u, e1, e4, .of (hh.same _ _ e2), h1, aft_ret hh q h2⟩
theorem op_ixV {R : Rel α} : Op2 G E W Γ (rIxT G.K) (rVT R) rInt ixat R := fun B σ S H b xs i v w Q hh ⟨a, vs, e1, e2, e3⟩ e4 q => by
  unfold ixat at q
  cases z : atI xs i with
  | none => rw [z] at q; exact q.elim
  | some x =>
    rw [z] at q
    obtain ⟨u, h1, h2⟩ := e3.atI z
    exact ⟨a, vs, i, u, e1, e4, .of (hh.same _ _ e2), h1, aft_ret hh q h2⟩
abbrev PIx (e : Expr) : Prop := ∀ o i, subscripted e false o i = operate [o, i] (getItem o i)
theorem z_ixL {ea eb : Expr} {pos : Pos} {R : Rel α} {ma : M τ (List α)} {mb : M τ Int} (ha : ZE G c E W Γ ea ma (rLst R)) (hb : ZE G c E W Γ eb mb rInt) (hs : PIx eb := by intro _ _; rfl) : ZE G c E W Γ (.Subscript ea eb pos) (zop2 ixat ma mb) R := fun X C =>
  pe_wk (pe_ix ix_list (ha X C) (hb X C) hs) fun _ _ _ _ q => by rw [C.K]; exact tz_op2 op_ixL q
theorem z_ixV {ea eb : Expr} {pos : Pos} {R : Rel α} {ma : M τ (List α)} {mb : M τ Int} (ha : ZE G c E W Γ ea ma (rVT R)) (hb : ZE G c E W Γ eb mb rInt) (hs : PIx eb := by intro _ _; rfl) : ZE G c E W Γ (.Subscript ea eb pos) (zop2 ixat ma mb) R := fun X C =>
  pe_wk (pe_ix ix_tup (ha X C) (hb X C) hs) fun _ _ _ _ q => by rw [C.K]; exact tz_op2 op_ixV q
/-- a written place of a tuple of things of several kinds -/
structure TupAt (R : Rel α) (k : Int) (f : α → β) (R2 : Rel β) : Prop where
  h : ∀ {x : α} {S : Hp} {v : V}, R.is x S v → ∃ a vs u, v = .ref a ∧ S a = some (.tup vs) ∧ atI vs k = some u ∧ R2.is (f x) S u
theorem t2_0 {R : Rel α} {R2 : Rel β} : TupAt (rT2 R R2) 0 Prod.fst R := ⟨fun ⟨a, u, w, e, h, q, q2⟩ => ⟨a, _, u, e, h, rfl, q⟩⟩
theorem t2_1 {R : Rel α} {R2 : Rel β} : TupAt (rT2 R R2) 1 Prod.snd R2 := ⟨fun ⟨a, u, w, e, h, q, q2⟩ => ⟨a, _, w, e, h, rfl, q2⟩⟩
theorem t3_0 {R : Rel α} {R2 : Rel β} {R3 : Rel γ} : TupAt (rT3 R R2 R3) 0 Prod.fst R := ⟨fun ⟨a, u, w, z, e, h, q, q2, q3⟩ => ⟨a, _, u, e, h, rfl, q⟩⟩
theorem t3_1 {R : Rel α} {R2 : Rel β} {R3 : Rel γ} : TupAt (rT3 R R2 R3) 1 (fun x => x.2.1) R2 := ⟨fun ⟨a, u, w, z, e, h, q, q2, q3⟩ => ⟨a, _, w, e, h, rfl, q2⟩⟩
theorem t3_2 {R : Rel α} {R2 : Rel β} {R3 : Rel γ} : TupAt (rT3 R R2 R3) 2 (fun x => x.2.2) R3 := ⟨fun ⟨a, u, w, z, e, h, q, q2, q3⟩ => ⟨a, _, z, e, h, rfl, q3⟩⟩
def zget (f : α → β) (m : M τ α) : M τ β := bnd m fun x => ret (f x)
theorem z_at {ea : Expr} {j : Nat} {pos p2 : Pos} {R : Rel α} {R2 : Rel β} {k : Int} {f : α → β} {ma : M τ α} (t : TupAt R k f R2) (ha : ZE G c E W Γ ea ma R) (hs : PIx (.Constant (.int k) j p2) := by intro _ _; rfl) : ZE G c E W Γ (.Subscript ea (.Constant (.int k) j p2) pos) (zget f ma) R2 := fun X C =>
  pe_wk (pe_ix ix_tup (ha X C) pe_int hs) fun σ H Q _ ⟨B, S, b, hh, q⟩ => by
    refine tz_bnd hh q fun x b1 v S1 H1 s1 h1 r1 q1 => ?_
    obtain ⟨a, vs, u, e1, e2, e3, e4⟩ := t.h r1
    exact ⟨a, vs, k, u, e1, rfl, .of (h1.same _ _ e2), e3, aft_ret h1 q1 e4⟩

/-! ### built-in functions -/
theorem opA1 {r : List V → Hp → VK → Prop} {R : Rel α} {f : α → M τ γ} {R' : Rel γ} (h : Op1 G E W Γ (fun v H Q => r [v] H Q) R f R') : OpA G E W Γ r (fun x => [R.pr x]) f R' := fun B σ S H b x vs Q hh hv q => by
  match vs, hv with
  | [v], ⟨h1, _⟩ => exact h B σ S H b x v Q hh h1 q
section
variable {e e2 : Expr} {p pos : Pos} {x : Str}
abbrev Plain1 (es : List Expr) : Prop := ∀ (pos : Pos) (env : PySem.Env), (backTo pos (starEach es env)).any (·.1) = false
theorem z_b1 {id : String} {r : List V → Hp → VK → Prop} {R : Rel α} {f : α → M τ γ} {R' : Rel γ} {m : M τ α} (bl : Blt G c x (.builtin id)) (hc : ∀ X, CtxOk G c W X → CallR X (.builtin id) r) (h : Op1 G E W Γ (fun v H Q => r [v] H Q) R f R')
    (ha : ZE G c E W Γ e m R) (hs : Star e [] := by intro _; rfl) : ZE G c E W Γ (.Call (.Name x p) [e] [] pos) (zapp f m) R' := z_callB bl hc (opA1 h) (za_one ha hs) hs (fun _ => rfl)
theorem z_ty1 {T : String} {r : List V → Hp → VK → Prop} {R : Rel α} {f : α → M τ γ} {R' : Rel γ} {m : M τ α} (bl : Blt G c x (.type T)) (hc : ∀ X, CtxOk G c W X → CallR X (.type T) r) (h : Op1 G E W Γ (fun v H Q => r [v] H Q) R f R')
    (ha : ZE G c E W Γ e m R) (hs : Star e [] := by intro _; rfl) : ZE G c E W Γ (.Call (.Name x p) [e] [] pos) (zapp f m) R' := z_callTy bl hc (opA1 h) (za_one ha hs) hs (fun _ => rfl)
def flen (xs : List α) : M τ Int := ret (xs.length : Int)
theorem z_lenL {R : Rel α} {m : M τ (List α)} (bl : Blt G c x (.builtin "len")) (ha : ZE G c E W Γ e m (rLst R)) (hs : Star e [] := by intro _; rfl) : ZE G c E W Γ (.Call (.Name x p) [e] [] pos) (zapp flen m) rInt :=
  z_b1 bl (R := rLst R) (r := fun xs H Q => ∃ p ys, xs = [.ref p] ∧ (SqL G.K H p ys ∨ SqT G.K H p ys) ∧ Q (.int ys.length) H) (fun X C => by rw [← C.K]; exact call_len_seq) (fun B σ S H b x v Q hh ⟨a, vs, e1, e2, e3⟩ q => ⟨a, vs, by rw [e1], .inl (.of (hh.same _ _ e2)), by rw [← e3.length]; exact aft_ret hh q rfl⟩) ha hs
theorem z_lenV {R : Rel α} {m : M τ (List α)} (bl : Blt G c x (.builtin "len")) (ha : ZE G c E W Γ e m (rVT R)) (hs : Star e [] := by intro _; rfl) : ZE G c E W Γ (.Call (.Name x p) [e] [] pos) (zapp flen m) rInt :=
  z_b1 bl (R := rVT R) (r := fun xs H Q => ∃ p ys, xs = [.ref p] ∧ (SqL G.K H p ys ∨ SqT G.K H p ys) ∧ Q (.int ys.length) H) (fun X C => by rw [← C.K]; exact call_len_seq) (fun B σ S H b x v Q hh ⟨a, vs, e1, e2, e3⟩ q => ⟨a, vs, by rw [e1], .inr (.of (hh.same _ _ e2)), by rw [← e3.length]; exact aft_ret hh q rfl⟩) ha hs
def flenS (x : Str) : M τ Int := chk (x.length ≤ sizeLine) (ret (x.length : Int))
theorem z_lenS {m : M τ Str} (bl : Blt G c x (.builtin "len")) (ha : ZE G c E W Γ e m rStr) (hs : Star e [] := by intro _; rfl) : ZE G c E W Γ (.Call (.Name x p) [e] [] pos) (zapp flenS m) rInt :=
  z_b1 bl (r := fun xs H Q => ∃ z, xs = [.str z] ∧ z.length ≤ sizeLine ∧ Q (.int z.length) H) (fun X C => call_len_str) (fun B σ S H b x v Q hh h q => by
    obtain ⟨hl, q⟩ := aft_chk q
    cases h; exact ⟨x, rfl, hl, aft_ret hh q rfl⟩) ha hs
def fsum (xs : List Int) : M τ Int := ret xs.sum
theorem lst_ints {xs : List Int} {S H : Hp} {v : V} {K : PySem.W.Frag} (s : Same S H) (h : (rLst rInt).is xs S v) : ∃ a, v = .ref a ∧ SqL K H a (xs.map V.int) := by
  obtain ⟨a, vs, e1, e2, e3⟩ := h
  have := All2.ints e3
  subst this
  exact ⟨a, e1, .of (s _ _ e2)⟩
def fminL (xs : List Int) : M τ Int := match xs with | [] => stk | x :: r => ret (r.foldl min x)
theorem foldl_min_mem : ∀ (r : List Int) (x : Int), r.foldl min x ∈ x :: r
  | [], x => by simp
  | y :: r, x => by
    have := foldl_min_mem r (min x y)
    rw [List.foldl_cons]
    rcases List.mem_cons.mp this with h | h
    · rw [h]
      rcases Int.le_total x y with q | q
      · rw [Int.min_eq_left q]; simp
      · rw [Int.min_eq_right q]; simp
    · exact List.mem_cons_of_mem _ (List.mem_cons_of_mem _ h)
theorem foldl_min_le : ∀ (r : List Int) (x : Int), ∀ y ∈ x :: r, r.foldl min x ≤ y
  | [], x, y, h => by simp at h; simp [h]
  | z :: r, x, y, h => by
    rw [List.foldl_cons]
    have m := foldl_min_le r (min x z)
    have m0 := m (min x z) (by simp)
    rcases List.mem_cons.mp h with h | h
    · subst h; exact Int.le_trans m0 (Int.min_le_left _ _)
    · rcases List.mem_cons.mp h with h | h
      · subst h; exact Int.le_trans m0 (Int.min_le_right _ _)
      · exact m y (by simp [h])
theorem z_minL {m : M τ (List Int)} (bl : Blt G c x (.builtin "min")) (ha : ZE G c E W Γ e m (rLst rInt)) (hs : Star e [] := by intro _; rfl) : ZE G c E W Γ (.Call (.Name x p) [e] [] pos) (zapp fminL m) rInt :=
  z_b1 bl (r := rMin G.K) (fun X C => by rw [← C.K]; exact cr_min C.calm) (fun B σ S H b x v Q hh h q => by
    obtain ⟨a, e1, e2⟩ := lst_ints (K := G.K) hh.same h
    match x, q, e2 with
    | [], q, _ => exact q.elim
    | y :: r, q, e2 => exact ⟨a, y :: r, by rw [e1], e2, by simp, fun m hm hmx => by
        have : m = r.foldl min y := Int.le_antisymm (hmx _ (foldl_min_mem r y)) (foldl_min_le r y m hm)
        rw [this]; exact aft_ret hh q rfl⟩) ha hs
def fabs (x : Int) : M τ Int := ret (if x < 0 then -x else x)
theorem z_abs {m : M τ Int} (bl : Blt G c x (.builtin "abs")) (ha : ZE G c E W Γ e m rInt) (hs : Star e [] := by intro _; rfl) : ZE G c E W Γ (.Call (.Name x p) [e] [] pos) (zapp fabs m) rInt :=
  z_b1 bl (fun X C => call_abs) (fun B σ S H b x v Q hh hx q => ⟨x, by rw [hx], aft_ret hh q rfl⟩) ha hs
def fall (xs : List Bool) : M τ Bool := ret (xs.all id)
def fany (xs : List Bool) : M τ Bool := ret (xs.any id)
theorem lst_bls {xs : List Bool} {S H : Hp} {v : V} {K : PySem.W.Frag} (s : Same S H) (h : (rLst rBl).is xs S v) : ∃ a, v = .ref a ∧ SqL K H a (xs.map V.bl) := by
  obtain ⟨a, vs, e1, e2, e3⟩ := h
  have := All2.bls e3
  subst this
  exact ⟨a, e1, .of (s _ _ e2)⟩
theorem z_all {m : M τ (List Bool)} (bl : Blt G c x (.builtin "all")) (ha : ZE G c E W Γ e m (rLst rBl)) (hs : Star e [] := by intro _; rfl) : ZE G c E W Γ (.Call (.Name x p) [e] [] pos) (zapp fall m) rBl :=
  z_b1 bl (r := rAll G.K) (fun X C => by rw [← C.K]; exact cr_all C.calm) (fun B σ S H b x v Q hh h q => by
    obtain ⟨a, e1, e2⟩ := lst_bls hh.same h
    exact ⟨a, x, by rw [e1], e2, aft_ret hh q rfl⟩) ha hs
theorem z_listL {R : Rel α} {m : M τ (List α)} (bl : Blt G c x (.type "list")) (ha : ZE G c E W Γ e m (rLst R)) (hs : Star e [] := by intro _; rfl) : ZE G c E W Γ (.Call (.Name x p) [e] [] pos) (zapp ret m) (rLst R) :=
  z_ty1 bl (R := rLst R) (r := fun xs H Q => ∃ p ys, xs = [.ref p] ∧ (SqL G.K H p ys ∨ SqT G.K H p ys) ∧ ∀ l, H l = none → Q (.ref l) (upd H l (.lst ys))) (fun X C => by rw [← C.K]; exact call_list_of) (fun B σ S H b x v Q hh ⟨a, vs, e1, e2, e3⟩ q => ⟨a, vs, by rw [e1], .inl (.of (hh.same _ _ e2)), fun l hl => aft_new hh q hl (rLst_new (hh.same.free hl) e3)⟩) ha hs
theorem z_listV {R : Rel α} {m : M τ (List α)} (bl : Blt G c x (.type "list")) (ha : ZE G c E W Γ e m (rVT R)) (hs : Star e [] := by intro _; rfl) : ZE G c E W Γ (.Call (.Name x p) [e] [] pos) (zapp ret m) (rLst R) :=
  z_ty1 bl (R := rVT R) (r := fun xs H Q => ∃ p ys, xs = [.ref p] ∧ (SqL G.K H p ys ∨ SqT G.K H p ys) ∧ ∀ l, H l = none → Q (.ref l) (upd H l (.lst ys))) (fun X C => by rw [← C.K]; exact call_list_of) (fun B σ S H b x v Q hh ⟨a, vs, e1, e2, e3⟩ q => ⟨a, vs, by rw [e1], .inr (.of (hh.same _ _ e2)), fun l hl => aft_new hh q hl (rLst_new (hh.same.free hl) e3)⟩) ha hs
theorem z_tupL {R : Rel α} {m : M τ (List α)} (bl : Blt G c x (.type "tuple")) (ha : ZE G c E W Γ e m (rLst R)) (hs : Star e [] := by intro _; rfl) : ZE G c E W Γ (.Call (.Name x p) [e] [] pos) (zapp ret m) (rVT R) :=
  z_ty1 bl (R := rLst R) (r := fun xs H Q => ∃ p ys, xs = [.ref p] ∧ ((SqL G.K H p ys ∧ ∀ l, H l = none → Q (.ref l) (upd H l (.tup ys))) ∨ (SqT G.K H p ys ∧ Q (.ref p) H))) (fun X C => by rw [← C.K]; exact call_tuple_of) (fun B σ S H b x v Q hh ⟨a, vs, e1, e2, e3⟩ q => ⟨a, vs, by rw [e1], .inl ⟨.of (hh.same _ _ e2), fun l hl => aft_new hh q hl (rVT_new (hh.same.free hl) e3)⟩⟩) ha hs
def fstr (x : Int) : M τ Str := chk (x.natAbs.log2 < 1920) (ret ((toString x : String) : Str))
theorem z_strI {m : M τ Int} (bl : Blt G c x (.type "str")) (ha : ZE G c E W Γ e m rInt) (hs : Star e [] := by intro _; rfl) : ZE G c E W Γ (.Call (.Name x p) [e] [] pos) (zapp fstr m) rStr :=
  z_ty1 bl (fun X C => call_str_int) (fun B σ S H b x v Q hh hx q => by
    obtain ⟨hl, q⟩ := aft_chk q
    exact ⟨x, by rw [hx], hl, aft_ret hh q rfl⟩) ha hs
/-! isinstance, both answers known by the kind -/
structure IsT (G : Gx) (R : Rel α) (t : Value) : Prop where
  h : ∀ {x : α} {S H : Hp} {v : V}, Same S H → R.is x S v → TyX G.K H v t
theorem isI : IsT G rInt (.type "int") := ⟨fun _ h => by cases h; exact .base (.int _)⟩
theorem isS : IsT G rStr (.type "str") := ⟨fun _ h => by cases h; exact .base (.str _)⟩
theorem isL {R : Rel α} : IsT G (rLst R) (.type "list") := ⟨fun s ⟨a, vs, e, h, _⟩ => by cases e; exact .base (.lst (s _ _ h))⟩
theorem is3 {R : Rel α} {R2 : Rel β} {R3 : Rel γ} : IsT G (rT3 R R2 R3) (.type "tuple") := ⟨fun s ⟨a, _, _, _, e, h, _⟩ => by cases e; exact .base (.tup (s _ _ h))⟩
def zis (k : Bool) (m : M τ α) : M τ Bool := bnd m fun _ => ret k
theorem z_isi {R : Rel α} {t : Value} {k : Bool} {y : Str} {p2 : Pos} {n : String} {m : M τ α} (bl : Blt G c x (.builtin "isinstance")) (ht : IsT G R t) (b2 : Blt G c y (.type n)) (hk : PySem.W.kitOne G.K t (.type n) = some k) (ha : ZE G c E W Γ e m R) (hs : Star e [.Name y p2] := by intro _; rfl) :
    ZE G c E W Γ (.Call (.Name x p) [e, .Name y p2] [] pos) (zis k m) rBl := fun X C =>
  pe_wk (pe_callB (call_isi) (C.gl bl.g) (by rw [C.mg]; exact bl.m) bl.v (pa_cons (ha X C) (pa_cons (pe_bltn (v := .ty n) (C.gl b2.g) (by rw [C.mg]; exact b2.m) b2.v rfl b2.n b2.d) pa_nil (by rfl)) (hs X.env)) bl.n bl.d (hs X.env) (by rfl)) fun σ H Q _ ⟨B, S, b, hh, q⟩ => by
    refine tz_bnd hh q fun x b1 v S1 H1 s1 h1 r1 q1 => ?_
    exact ⟨v, .ty n, t, .type n, k, rfl, .ty n, by rw [C.K]; exact ht.h h1.same r1, by rw [C.K]; exact hk, aft_ret h1 q1 rfl⟩
theorem z_isiC {R : Rel α} {t : Value} {k : Bool} {y : Str} {p2 : Pos} {C0 : Addr} {m : M τ α} (bl : Blt G c x (.builtin "isinstance")) (ht : IsT G R t) (g2 : Gb c y) (m2 : G.mg y = some (.ref C0)) (hd2 : (y == ("__debug__" : Str)) = false) (hk : PySem.W.kitOne G.K t (.ref C0) = some k) (ha : ZE G c E W Γ e m R) (hs : Star e [.Name y p2] := by intro _; rfl) :
    ZE G c E W Γ (.Call (.Name x p) [e, .Name y p2] [] pos) (zis k m) rBl := fun X C =>
  pe_wk (pe_callB (call_isi) (C.gl bl.g) (by rw [C.mg]; exact bl.m) bl.v (pa_cons (ha X C) (pa_cons (pe_glob (v := .ref C0) (C.gl g2) (by rw [C.mg]; exact m2) rfl hd2) pa_nil (by rfl)) (hs X.env)) bl.n bl.d (hs X.env) (by rfl)) fun σ H Q _ ⟨B, S, b, hh, q⟩ => by
    refine tz_bnd hh q fun x b1 v S1 H1 s1 h1 r1 q1 => ?_
    exact ⟨v, .ref C0, t, .ref C0, k, rfl, .own C0, by rw [C.K]; exact ht.h h1.same r1, by rw [C.K]; exact hk, aft_ret h1 q1 rfl⟩
end

/-! ### lists and tuples put together, cut -/
section
variable {ea eb : Expr} {pos : Pos}
def lcat (xs ys : List α) : M τ (List α) := chk (xs.length + ys.length ≤ sizeLine) (ret (xs ++ ys))
theorem z_catL {R : Rel α} {ma mb : M τ (List α)} (ha : ZE G c E W Γ ea ma (rLst R)) (hb : ZE G c E W Γ eb mb (rLst R)) : ZE G c E W Γ (.BinOp ea .Add eb pos) (zop2 lcat ma mb) (rLst R) :=
  z_bin (Ra := rLst R) (Rb := rLst R) (fun _ _ => op_cat) (fun B σ S H b x y v w Q hh ⟨a, vs, e1, e2, e3⟩ ⟨a', vs', e1', e2', e3'⟩ q => by
    obtain ⟨hl, q⟩ := aft_chk q
    exact ⟨a, a', vs, vs', e1, e1', hh.same _ _ e2, hh.same _ _ e2', by rw [← e3.length, ← e3'.length]; exact hl, fun p hp => aft_new hh q hp (rLst_new (hh.same.free hp) (e3.append e3'))⟩) ha hb
def scat (x y : Str) : M τ Str := chk (x.length + y.length ≤ sizeLine) (ret (x ++ y))
theorem z_catS {ma mb : M τ Str} (ha : ZE G c E W Γ ea ma rStr) (hb : ZE G c E W Γ eb mb rStr) : ZE G c E W Γ (.BinOp ea .Add eb pos) (zop2 scat ma mb) rStr :=
  z_bin (fun _ _ => op_add_str) (fun B σ S H b x y v w Q hh hx hy q => by
    obtain ⟨hl, q⟩ := aft_chk q
    exact ⟨x, y, hx, hy, hl, aft_ret hh q rfl⟩) ha hb
end
end
end Zk

namespace Zk
open PySem L2

section
variable {τ α β γ δ κ ρ ι : Type} {G : Gx} {c : Sc} {E : Eff τ} {W : WX} {Γ Γ' : Env} {B : Bs} {σ : St} {S S1 H H' : Hp} {b : τ} {L : Ls κ ρ}
theorem aftS.same {Γn : α → Env} {D : Ends} (s : Same S S1) : ∀ {o : Out τ (Fl α κ ρ)}, aftS G E W L B S Γn D o → aftS G E W L B S1 Γn D o
  | .ok (.nx _) _, h => fun σ' S' H' s2 => h σ' S' H' (s.trans s2)
  | .ok (.rt _) _, h => h
  | .ok (.bk _) _, h => fun σ' S' H' s2 => h σ' S' H' (s.trans s2)
  | .ok (.ct _) _, h => fun σ' S' H' s2 => h σ' S' H' (s.trans s2)
  | .exc _ _, h => h
  | .stuck, h => h
/-! ### fewer slots; what was one's own becomes stable -/
/-- what Γ tells Γ' tells too (perhaps more has become stable) -/
def Sub (E : Eff τ) (Γ Γ' : Env) : Prop := ∀ {B : Bs} {b : τ} {σ : St} {S H : Hp}, Hold E B Γ b σ S H → ∃ S', Same S S' ∧ Hold E B Γ' b σ S' H
theorem sub_nil : Sub E Γ [] := fun h => ⟨_, Same.refl _, h.nil⟩
theorem sub_wk (w : ∀ (i : Nat) s, Γ'[i]? = some s → s = .no ∨ Γ[i]? = some s) : Sub E Γ Γ' := fun h => ⟨_, Same.refl _, h.wk w⟩
inductive SubL : Env → Env → Prop
  | nil : SubL [] []
  | keep {s : Sl} {l l' : Env} : SubL l l' → SubL (s :: l) (s :: l')
  | drop {s : Sl} {l l' : Env} : SubL l l' → SubL (s :: l) (.no :: l')
theorem SubL.wk : ∀ {l l' : Env}, SubL l l' → ∀ (i : Nat) s, l'[i]? = some s → s = .no ∨ l[i]? = some s
  | _, _, .nil, _, _, h => by simp at h
  | _, _, .keep h, 0, s, e => .inr e
  | _, _, .keep h, i + 1, s, e => by simpa using SubL.wk h i s (by simpa using e)
  | _, _, .drop h, 0, s, e => by simp at e; exact .inl e.symm
  | _, _, .drop h, i + 1, s, e => by simpa using SubL.wk h i s (by simpa using e)
theorem SubL.sub (h : SubL Γ Γ') : Sub E Γ Γ' := sub_wk h.wk
theorem Sub.trans {Γ'' : Env} (h : Sub E Γ Γ') (h2 : Sub E Γ' Γ'') : Sub E Γ Γ'' := fun x => by
  obtain ⟨S1, s1, h1⟩ := h x
  obtain ⟨S2, s2, h3⟩ := h2 h1
  exact ⟨S2, s1.trans s2, h3⟩

/-! ### blocks -/
def zseq (m : M τ (Fl α κ ρ)) (f : α → M τ (Fl β κ ρ)) : M τ (Fl β κ ρ) := fun s => match m s with
  | .ok (.nx a) s' => f a s'
  | .ok (.rt r) s' => .ok (.rt r) s'
  | .ok (.bk k) s' => .ok (.bk k) s'
  | .ok (.ct k) s' => .ok (.ct k) s'
  | .exc e s' => .exc e s'
  | .stuck => .stuck
def znx (a : α) : M τ (Fl α κ ρ) := ret (.nx a)
theorem zb_nil {Γn : α → Env} {a : α} (h : Sub E Γ (Γn a)) : ZB G c E W L Γ [] (znx a) Γn := fun X C => pss_wk pss_nil fun D σ H _ ⟨B, S, b, hh, q⟩ => by
  obtain ⟨S', s', h'⟩ := h hh
  exact q σ S' H s' h'
theorem zb_cons {st : Stmt} {sts : List Stmt} {m : M τ (Fl α κ ρ)} {f : α → M τ (Fl β κ ρ)} {Γ1 : α → Env} {Γn : β → Env} (h1 : ZS G c E W L Γ st m Γ1) (h2 : ∀ a, ZB G c E W L (Γ1 a) sts (f a) Γn) : ZB G c E W L Γ (st :: sts) (zseq m f) Γn := fun X C =>
  pss_wk (pss_cons (h1 X C) (pss_ex fun a => h2 a X C)) fun D σ H _ ⟨B, S, b, hh, q⟩ => by
    refine ⟨B, S, b, hh, ?_⟩
    unfold zseq at q
    cases e : m b with
    | stuck => rw [e] at q; exact q.elim
    | exc x b1 => rw [e] at q; exact q
    | ok r b1 =>
      rw [e] at q
      cases r with
      | nx a => exact fun σ' S' H' s h => ⟨a, B, S', b1, h, q.same s⟩
      | rt r => exact q
      | bk k => exact q
      | ct k => exact q
/-- the last statement, which hands back or raises on every way, or what it tells is what the block tells -/
theorem zb_one {st : Stmt} {m : M τ (Fl α κ ρ)} {Γn : α → Env} (h1 : ZS G c E W L Γ st m Γn) : ZB G c E W L Γ [st] m Γn := fun X C => pss_wk (pss_one (h1 X C)) fun D σ H _ q => q
theorem zb_wk {st : List Stmt} {m : M τ (Fl α κ ρ)} {Γn : α → Env} (s : Sub E Γ Γ') (h1 : ZB G c E W L Γ' st m Γn) : ZB G c E W L Γ st m Γn := fun X C => pss_wk (h1 X C) fun D σ H _ ⟨B, S, b, hh, q⟩ => by
  obtain ⟨S', s', h'⟩ := s hh
  exact ⟨B, S', b, h', q.same s'⟩
/-- from an expression's reading on into a statement's -/
theorem tzS_bnd {m : M τ α} {f : α → M τ (Fl β κ ρ)} {R : Rel α} {Γn : β → Env} {D : Ends} {Q' : VK} (sx : Sub E Γ L.x) (hh : Hold E B Γ b σ S H) (h : aftS G E W L B S Γn D (bnd m f b))
    (k : ∀ x b1 v S1 H1, Same S S1 → Hold E B Γ b1 σ S1 H1 → R.is x S1 v → aftS G E W L B S1 Γn D (f x b1) → Q' v H1) : tzE G E W Γ m R σ H Q' := by
  refine ⟨B, S, b, hh, ?_⟩
  unfold bnd at h
  cases e : m b with
  | ok a b1 => rw [e] at h; exact fun v S1 H1 s h1 r => k a b1 v S1 H1 s h1 r (h.same s)
  | exc x b1 => rw [e] at h; exact fun c d S1 H1 _ h1 xa => let ⟨S2, _, h2⟩ := sx h1; h c d σ S2 H1 h2 xa
  | stuck => rw [e] at h; exact h.elim
theorem tzS_bndT {m : M τ Bool} {f : Bool → M τ (Fl β κ ρ)} {Γn : β → Env} {D : Ends} {Q' : Bool → Hp → Prop} (sx : Sub E Γ L.x) (hh : Hold E B Γ b σ S H) (h : aftS G E W L B S Γn D (bnd m f b))
    (k : ∀ x b1 S1 H1, Same S S1 → Hold E B Γ b1 σ S1 H1 → aftS G E W L B S1 Γn D (f x b1) → Q' x H1) : tzT G E W Γ m σ H Q' := by
  refine ⟨B, S, b, hh, ?_⟩
  unfold bnd at h
  cases e : m b with
  | ok a b1 => rw [e] at h; exact fun S1 H1 s h1 => k a b1 S1 H1 s h1 (h.same s)
  | exc x b1 => rw [e] at h; exact fun c d S1 H1 _ h1 xa => let ⟨S2, _, h2⟩ := sx h1; h c d σ S2 H1 h2 xa
  | stuck => rw [e] at h; exact h.elim
theorem tzS_bndA {m : M τ α} {f : α → M τ (Fl β κ ρ)} {A : α → List Pr} {Γn : β → Env} {D : Ends} {Q' : List V → Hp → Prop} (sx : Sub E Γ L.x) (hh : Hold E B Γ b σ S H) (h : aftS G E W L B S Γn D (bnd m f b))
    (k : ∀ x b1 v S1 H1, Same S S1 → Hold E B Γ b1 σ S1 H1 → All2 (fun (p : Pr) v => p.p S1 v) (A x) v → aftS G E W L B S1 Γn D (f x b1) → Q' v H1) : tzA G E W Γ m A σ H Q' := by
  refine ⟨B, S, b, hh, ?_⟩
  unfold bnd at h
  cases e : m b with
  | ok a b1 => rw [e] at h; exact fun v S1 H1 s h1 r => k a b1 v S1 H1 s h1 r (h.same s)
  | exc x b1 => rw [e] at h; exact fun c d S1 H1 _ h1 xa => let ⟨S2, _, h2⟩ := sx h1; h c d σ S2 H1 h2 xa
  | stuck => rw [e] at h; exact h.elim

/-! ### small statements -/
structure Ns (c : Sc) (i : Nat) (x : Str) : Prop where
  n : c.N[i]? = some x
  l : Loc c.sc x
  f : c.fx x = true ∨ c.sc.names.lookup x = some .local
abbrev NoSwap (e : Expr) : Prop := ∀ (t : Option Expr) (l : Nat) (env : PySem.Env), swapsWith e t l env = pure false
def zset (m : M τ α) : M τ (Fl α κ ρ) := bnd m fun x => ret (.nx x)
theorem CtxOk.set_hN {X : Cx} (C : CtxOk G c W X) : X.N.Nodup := by rw [C.N]; exact C.nd
theorem CtxOk.lt {X : Cx} {i : Nat} {x : Str} (C : CtxOk G c W X) (n : c.N[i]? = some x) (h : σ.length = X.N.length) : i < σ.length := by
  rw [h, C.N]; exact (List.getElem?_eq_some_iff.mp n).1
theorem CtxOk.hi {X : Cx} {i : Nat} {x : Str} (C : CtxOk G c W X) (n : c.N[i]? = some x) : X.N[i]? = some x := by rw [C.N]; exact n
theorem CtxOk.hf {X : Cx} {i : Nat} {x : Str} (C : CtxOk G c W X) (n : Ns c i x) : X.fn x = true ∨ X.env.scope.names.lookup x = some .local := by rw [C.fx, C.sc]; exact n.f
theorem zs_set {i : Nat} {x : Str} {e : Expr} {m : M τ α} {R : Rel α} {p pos : Pos} (n : Ns c i x) (h : ZE G c E W Γ e m R) (sx : Sub E Γ L.x) (hs : NoSwap e := by intro _ _ _; rfl) : ZS G c E W L Γ (.Assign [.Name x p] e pos) (zset m) (fun a => Γ.set i (.st (R.pr a))) := fun X C =>
  ps_wk (ps_set C.set_hN (C.hi n.n) (by rw [C.sc]; exact n.l) (h X C) (hs _ _ _) (C.hf n)) fun D σ H hl ⟨B, S, b, hh, q⟩ => by
    refine tzS_bnd (R := R) sx hh q fun x b1 v S1 H1 s1 h1 r1 q1 => ?_
    exact q1 _ S1 H1 (Same.refl _) (h1.set (C.lt n.n hl) r1)
def zrt (m : M τ ρ) : M τ (Fl α κ ρ) := bnd m fun x => ret (.rt x)
theorem zs_ret {e : Expr} {m : M τ ρ} {pos : Pos} {Γn : α → Env} (h : ZE G c E W Γ e m L.R) (sx : Sub E Γ L.x) (ho : ∀ r v, L.o r v = [] := by intro _ _; rfl) : ZS G c E W L Γ (.Return (some e) pos) (zrt m) Γn := fun X C =>
  ps_wk (ps_ret (h X C)) fun D σ H hl ⟨B, S, b, hh, q⟩ => by
    refine tzS_bnd (R := L.R) sx hh q fun x b1 v S1 H1 s1 h1 r1 q1 => ?_
    exact q1 v σ S1 H1 (by rw [ho]; exact h1.nil) r1
def zifS (m : M τ Bool) (n o : M τ (Fl α κ ρ)) : M τ (Fl α κ ρ) := bnd m fun x => if x = true then n else o
theorem zs_if {e : Expr} {a d : List Stmt} {m : M τ Bool} {n o : M τ (Fl α κ ρ)} {Γn : α → Env} {pos : Pos} (h : ZT G c E W Γ e m) (ha : ZB G c E W L Γ a n Γn) (hd : ZB G c E W L Γ d o Γn) (sx : Sub E Γ L.x) : ZS G c E W L Γ (.If e a d pos) (zifS m n o) Γn := fun X C =>
  ps_wk (ps_if (h X C) (ha X C) (hd X C)) fun D σ H hl ⟨B, S, b, hh, q⟩ => by
    refine tzS_bndT sx hh q fun x b1 S1 H1 s1 h1 q1 => ?_
    cases x with
    | true => exact ⟨B, S1, b1, h1, q1⟩
    | false => exact ⟨B, S1, b1, h1, q1⟩

/-! ### targets -/
/-- the target tg is given what stands for x: the slots vs may change, then Γ is f x -/
def tzG (E : Eff τ) (Γ : Env) (vs : List Nat) (f : α → Env) (R : Rel α) : TG := fun v σ H Q => ∃ B S b x, Hold E B Γ b σ S H ∧ R.is x S v ∧ ∀ σ', wipe σ' vs = wipe σ vs → Hold E B (f x) b σ' S H → Q σ' H
def ZG (G : Gx) (c : Sc) (E : Eff τ) (W : WX) (Γ : Env) (vs : List Nat) (tg : Expr) (f : α → Env) (R : Rel α) : Prop := (∀ X, CtxOk G c W X → PG X tg (tzG E Γ vs f R)) ∧ ∀ x (i : Nat), i ∉ vs → (f x)[i]? = Γ[i]?
theorem pg_wk {X : Cx} {tg : Expr} {t t' : TG} (h : PG X tg t) (w : ∀ v σ H Q, σ.length = X.N.length → t' v σ H Q → t v σ H Q) : PG X tg t' := ⟨fun pins s σ H v u Q I r q => h.run pins s σ H v u Q I r (w v σ H Q I.len q)⟩
theorem pgs_wk {X : Cx} {tg : List Expr} {t t' : TGs} (h : PGs X tg t) (w : ∀ v σ H Q, σ.length = X.N.length → t' v σ H Q → t v σ H Q) : PGs X tg t' := ⟨fun pins s σ H v u Q I r q => h.run pins s σ H v u Q I r (w v σ H Q I.len q)⟩
theorem pg_ex {ι : Type} {X : Cx} {tg : Expr} {t : ι → TG} (h : ∀ i, PG X tg (t i)) : PG X tg (fun v σ H Q => ∃ i, t i v σ H Q) := ⟨fun pins s σ H v u Q I r ⟨i, q⟩ => (h i).run pins s σ H v u Q I r q⟩
theorem wipe_set {i : Nat} {v : Option V} : ∀ {vs : List Nat} {σ : St}, i ∈ vs → wipe (σ.set i v) vs = wipe σ vs
  | j :: vs, σ, h => by
    unfold wipe
    by_cases hj : i ∈ vs
    · rw [wipe_set hj]
    · have e : i = j := by simpa [hj] using h
      subst e
      have : ∀ (vs : List Nat), i ∉ vs → wipe (σ.set i v) vs = (wipe σ vs).set i v := by
        intro vs
        induction vs with
        | nil => intro _; rfl
        | cons k vs ih => intro hk; unfold wipe; rw [ih (by simp at hk; exact hk.2), List.set_comm _ _ (by simp at hk; exact hk.1)]
      rw [this vs hj, List.set_set]
theorem zg_name {i : Nat} {x : Str} {p : Pos} {vs : List Nat} {R : Rel α} (n : Ns c i x) (hv : i ∈ vs) : ZG G c E W Γ vs (.Name x p) (fun a => Γ.set i (.st (R.pr a))) R := ⟨fun X C =>
  pg_wk (pg_name C.set_hN (C.hi n.n) (by rw [C.sc]; exact n.l) (C.hf n)) fun v σ H Q hl ⟨B, S, b, x, hh, r, q⟩ => q _ (wipe_set hv) (hh.set (C.lt n.n hl) r), fun a j hj => List.getElem?_set_ne fun e => hj (by rw [← e]; exact hv)⟩
/-- several targets, one after another -/
def tzGs (E : Eff τ) (Γ : Env) (vs : List Nat) (f : α → Env) (A : α → List Pr) : TGs := fun us σ H Q => ∃ B S b x, Hold E B Γ b σ S H ∧ All2 (fun (p : Pr) v => p.p S v) (A x) us ∧ ∀ σ', wipe σ' vs = wipe σ vs → Hold E B (f x) b σ' S H → Q σ' H
def ZGs (G : Gx) (c : Sc) (E : Eff τ) (W : WX) (Γ : Env) (vs : List Nat) (tgs : List Expr) (f : α → Env) (A : α → List Pr) : Prop := (∀ X, CtxOk G c W X → PGs X tgs (tzGs E Γ vs f A)) ∧ ∀ x (i : Nat), i ∉ vs → (f x)[i]? = Γ[i]?
abbrev AsgC (e : Expr) (es : List Expr) : Prop := ∀ env : PySem.Env, (assignEach (e :: es) env).map (·.2) = assign e env :: (assignEach es env).map (·.2)
theorem zgs_one {t : Expr} {vs : List Nat} {f : α → Env} {R : Rel α} (h : ZG G c E W Γ vs t f R) (hs : AsgC t [] := by intro _; rfl) : ZGs G c E W Γ vs [t] f (fun x => [R.pr x]) := ⟨fun X C =>
  pgs_wk (pgs_cons (h.1 X C) pgs_nil (hs X.env)) fun us σ H Q hl ⟨B, S, b, x, hh, r, q⟩ => by
    match us, r with
    | [u], ⟨r, _⟩ => exact ⟨u, [], rfl, B, S, b, x, hh, r, fun σ' w h' => ⟨rfl, q σ' w h'⟩⟩, h.2⟩
theorem pgs_ex {ι : Type} {X : Cx} {tg : List Expr} {t : ι → TGs} (h : ∀ i, PGs X tg (t i)) : PGs X tg (fun v σ H Q => ∃ i, t i v σ H Q) := ⟨fun pins s σ H v u Q I r ⟨i, q⟩ => (h i).run pins s σ H v u Q I r q⟩
theorem zgs_cons {t : Expr} {ts : List Expr} {vs : List Nat} {f1 : α → Env} {f2 : α → β → Env} {R : Rel α} {A : β → List Pr} (h1 : ZG G c E W Γ vs t f1 R) (h2 : ∀ a, ZGs G c E W (f1 a) vs ts (f2 a) A) (hs : AsgC t ts := by intro _; rfl) : ZGs G c E W Γ vs (t :: ts) (fun x : α × β => f2 x.1 x.2) (fun x : α × β => R.pr x.1 :: A x.2) := ⟨fun X C =>
  pgs_wk (pgs_cons (h1.1 X C) (pgs_ex fun a => (h2 a).1 X C) (hs X.env)) fun us σ H Q hl ⟨B, S, b, x, hh, r, q⟩ => by
    match us, r with
    | u :: us, ⟨r, r2⟩ => exact ⟨u, us, rfl, B, S, b, x.1, hh, r, fun σ' w h' => ⟨x.1, B, S, b, x.2, h', r2, fun σ'' w' h'' => q σ'' (w'.trans w) h''⟩⟩, fun x i hi => ((h2 x.1).2 x.2 i hi).trans (h1.2 x.1 i hi)⟩
/-- a tuple of things -/
structure TupOf (R : Rel α) (n : Nat) (A : α → List Pr) : Prop where
  h : ∀ {x : α} {S : Hp} {v : V}, R.is x S v → ∃ a us, v = .ref a ∧ S a = some (.tup us) ∧ us.length = n ∧ All2 (fun (p : Pr) v => p.p S v) (A x) us
theorem to2 {R : Rel α} {R2 : Rel β} : TupOf (rT2 R R2) 2 (fun x => [R.pr x.1, R2.pr x.2]) := ⟨fun ⟨a, u, w, e, h, q, q2⟩ => ⟨a, _, e, h, rfl, q, q2, trivial⟩⟩
theorem to3 {R : Rel α} {R2 : Rel β} {R3 : Rel γ} : TupOf (rT3 R R2 R3) 3 (fun x => [R.pr x.1, R2.pr x.2.1, R3.pr x.2.2]) := ⟨fun ⟨a, u, w, z, e, h, q, q2, q3⟩ => ⟨a, _, e, h, rfl, q, q2, q3, trivial⟩⟩
theorem zg_tup {es : List Expr} {k : Nat} {pos : Pos} {vs : List Nat} {n : Nat} {f : α → Env} {A : α → List Pr} {R : Rel α} (t : TupOf R n A) (h : ZGs G c E W Γ vs es f A) (hn : ∀ env : PySem.Env, (assignEach es env).length = n := by intro _; rfl) (hst : ∀ env : PySem.Env, (assignEach es env).findIdx? (·.1) = none := by intro _; rfl) :
    ZG G c E W Γ vs (.Tuple es k pos) f R := ⟨fun X C => pg_wk (pg_tup C.calm (h.1 X C) (hn X.env) (hst X.env)) fun v σ H Q hl ⟨B, S, b, x, hh, r, q⟩ => by
  obtain ⟨a, us, e1, e2, e3, e4⟩ := t.h r
  exact ⟨a, us, e1, .of (hh.same _ _ e2), e3, B, S, b, x, hh, e4, q⟩, h.2⟩
/-! ### what a for walks -/
/-- an iterator J gives, while I stands, what stands for xs, one by one -/
structure Src (P : Hp → Hp → Prop) (J : It) (xs : List β) (R : Rel β) (I : Hp → Prop) : Prop where
  mono : ∀ {S S' : Hp}, Same S S' → I S → I S'
  go : ∀ {i : Nat} {S H : Hp}, Same S H → P S H → I S → i < xs.length → J.go i H
  yl : ∀ {i : Nat} {S H H' : Hp} {x : V} {y : β}, Same S H → P S H → I S → xs[i]? = some y → J.yld i H x H' → (H' = H ∧ R.is y S x) ∨ ∃ p o, H p = none ∧ H' = upd H p o ∧ R.is y (upd S p o) x
  st : ∀ {S H : Hp}, Same S H → P S H → I S → J.stop xs.length H
def aftI (G : Gx) (E : Eff τ) (W : WX) (B : Bs) (Γ : Env) (σ : St) (S : Hp) (R : Rel β) (Q : It → Hp → Prop) : Out τ (List β) → Prop
  | .ok xs b' => ∀ J I S' H', Same S S' → Hold E B Γ b' σ S' H' → Src (fun S H => ∃ b, E.is b S H) J xs R I → I S' → Q J H'
  | .exc x b' => ∀ c d S' H', Same S S' → Hold E B Γ b' σ S' H' → XAt G x H' c d → W c d σ H'
  | .stuck => False
theorem aftI.same {R : Rel β} {Q : It → Hp → Prop} (s : Same S S1) : ∀ {o : Out τ (List β)}, aftI G E W B Γ σ S R Q o → aftI G E W B Γ σ S1 R Q o
  | .ok _ _, h => fun J I S' H' s2 => h J I S' H' (s.trans s2)
  | .exc _ _, h => fun c d S' H' s2 => h c d S' H' (s.trans s2)
  | .stuck, h => h
def tzI (G : Gx) (E : Eff τ) (W : WX) (Γ : Env) (m : M τ (List β)) (R : Rel β) : TI := fun σ H Q => ∃ B S b, Hold E B Γ b σ S H ∧ aftI G E W B Γ σ S R Q (m b)
def ZI (G : Gx) (c : Sc) (E : Eff τ) (W : WX) (Γ : Env) (tg iter : Expr) (m : M τ (List β)) (R : Rel β) : Prop := ∀ X, CtxOk G c W X → PI X tg iter (tzI G E W Γ m R)
theorem pi_wk {X : Cx} {tg e : Expr} {t t' : TI} (h : PI X tg e t) (w : ∀ σ H Q, t' σ H Q → t σ H Q) : PI X tg e t' := ⟨fun pins s σ H Q I q => h.run pins s σ H Q I (w σ H Q q)⟩
theorem src_list {P : Hp → Hp → Prop} {K : PySem.W.Frag} {R : Rel β} {xs : List β} {a : Addr} : Src P (Itl K a) xs R (fun S => ∃ vs, S a = some (.lst vs) ∧ All2 (fun x v => R.is x S v) xs vs) where
  mono := fun s ⟨vs, e, q⟩ => ⟨vs, s _ _ e, All2.rel s q⟩
  go := fun {i S H} s _ ⟨vs, e, q⟩ hi => ⟨vs, vs[i]'(by rw [← q.length]; exact hi), .of (s _ _ e), by rw [List.getElem?_eq_getElem]⟩
  yl := fun {i S H H' x y} s _ ⟨vs, e, q⟩ hy ⟨e1, e2⟩ => .inl ⟨e1, by
    obtain ⟨v, h1, h2⟩ := q.get hy
    have := e2 vs (.of (s _ _ e))
    rw [h1] at this; cases this; exact h2⟩
  st := fun s _ ⟨vs, e, q⟩ => ⟨vs, .of (s _ _ e), by rw [q.length]; exact Nat.le_refl _⟩
theorem src_tup {P : Hp → Hp → Prop} {K : PySem.W.Frag} {R : Rel β} {xs : List β} {a : Addr} : Src P (Itt K a) xs R (fun S => ∃ vs, S a = some (.tup vs) ∧ All2 (fun x v => R.is x S v) xs vs) where
  mono := fun s ⟨vs, e, q⟩ => ⟨vs, s _ _ e, All2.rel s q⟩
  go := fun {i S H} s _ ⟨vs, e, q⟩ hi => ⟨vs, vs[i]'(by rw [← q.length]; exact hi), .of (s _ _ e), by rw [List.getElem?_eq_getElem]⟩
  yl := fun {i S H H' x y} s _ ⟨vs, e, q⟩ hy ⟨e1, e2⟩ => .inl ⟨e1, by
    obtain ⟨v, h1, h2⟩ := q.get hy
    have := e2 vs (.of (s _ _ e))
    rw [h1] at this; cases this; exact h2⟩
  st := fun s _ ⟨vs, e, q⟩ => ⟨vs, .of (s _ _ e), by rw [q.length]; exact Nat.le_refl _⟩
theorem zi_list {tg e : Expr} {m : M τ (List β)} {R : Rel β} (h : ZE G c E W Γ e m (rLst R)) : ZI G c E W Γ tg e m R := fun X C => pi_wk (pi_list (h X C)) fun σ H Q ⟨B, S, b, hh, q⟩ => by
  refine ⟨B, S, b, hh, ?_⟩
  cases e : m b with
  | stuck => rw [e] at q; exact q.elim
  | exc x b1 => rw [e] at q; exact q
  | ok xs b1 => rw [e] at q; exact fun v S' H' s h' ⟨a, vs, e1, e2, e3⟩ => ⟨a, e1, ⟨vs, .of (h'.same _ _ e2)⟩, q _ _ S' H' s h' src_list ⟨vs, e2, e3⟩⟩
theorem zi_tup {tg e : Expr} {m : M τ (List β)} {R : Rel β} (h : ZE G c E W Γ e m (rVT R)) : ZI G c E W Γ tg e m R := fun X C => pi_wk (pi_tup (h X C)) fun σ H Q ⟨B, S, b, hh, q⟩ => by
  refine ⟨B, S, b, hh, ?_⟩
  cases e : m b with
  | stuck => rw [e] at q; exact q.elim
  | exc x b1 => rw [e] at q; exact q
  | ok xs b1 => rw [e] at q; exact fun v S' H' s h' ⟨a, vs, e1, e2, e3⟩ => ⟨a, e1, ⟨vs, .of (h'.same _ _ e2)⟩, q _ _ S' H' s h' src_tup ⟨vs, e2, e3⟩⟩
def rng (lo : Int) (n : Nat) : List Int := (List.range n).map fun (i : Nat) => lo + (i : Int)
theorem rng_get {lo : Int} {n i : Nat} {y : Int} (h : (rng lo n)[i]? = some y) : y = lo + (i : Int) ∧ i < n := by
  unfold rng at h
  rw [List.getElem?_map] at h
  by_cases hi : i < n
  · rw [List.getElem?_range hi] at h; cases h; exact ⟨rfl, hi⟩
  · rw [List.getElem?_eq_none (by simpa using hi)] at h; cases h
theorem src_rng {P : Hp → Hp → Prop} {lo : Int} {n : Nat} : Src P (Itr lo n) (rng lo n) rInt (fun _ => True) where
  mono := fun _ _ => trivial
  go := fun {i S H} _ _ _ hi => by
    unfold rng at hi
    show i < n
    simpa using hi
  yl := fun _ _ _ hy ⟨e1, e2⟩ => .inl ⟨e1, by rw [(rng_get hy).1]; exact e2⟩
  st := fun _ _ _ => by unfold rng; simp [Itr]
theorem tzI_bndA {m : M τ α} {f : α → M τ (List β)} {A : α → List Pr} {R : Rel β} {Q : It → Hp → Prop} {Q' : List V → Hp → Prop} (hh : Hold E B Γ b σ S H) (h : aftI G E W B Γ σ S R Q (bnd m f b))
    (k : ∀ x b1 vs S1 H1, Same S S1 → Hold E B Γ b1 σ S1 H1 → All2 (fun (p : Pr) v => p.p S1 v) (A x) vs → aftI G E W B Γ σ S1 R Q (f x b1) → Q' vs H1) : tzA G E W Γ m A σ H Q' := by
  refine ⟨B, S, b, hh, ?_⟩
  unfold bnd at h
  cases e : m b with
  | ok a b1 => rw [e] at h; exact fun v S1 H1 s h1 r => k a b1 v S1 H1 s h1 r (h.same s)
  | exc x b1 => rw [e] at h; exact h
  | stuck => rw [e] at h; exact h.elim
def fenum (xs : List α) : List (Int × α) := xs.zipIdx.map fun p => ((p.2 : Int), p.1)
theorem enum_get {xs : List α} {i : Nat} {y : Int × α} (h : (fenum xs)[i]? = some y) : y.1 = (i : Int) ∧ xs[i]? = some y.2 := by
  unfold fenum at h
  rw [List.getElem?_map, List.getElem?_zipIdx] at h
  cases e : xs[i]? with
  | none => rw [e] at h; cases h
  | some x => rw [e] at h; cases h; exact ⟨by simp, rfl⟩
theorem src_enum {P : Hp → Hp → Prop} {K : PySem.W.Frag} {R : Rel β} {xs : List β} {a : Addr} : Src P (Ite K a) (fenum xs) (rT2 rInt R) (fun S => ∃ vs, S a = some (.lst vs) ∧ All2 (fun x v => R.is x S v) xs vs) where
  mono := fun s ⟨vs, e, q⟩ => ⟨vs, s _ _ e, All2.rel s q⟩
  go := fun {i S H} s _ ⟨vs, e, q⟩ hi => ⟨vs, vs[i]'(by rw [← q.length]; unfold fenum at hi; simpa using hi), .of (s _ _ e), by rw [List.getElem?_eq_getElem]⟩
  yl := fun {i S H H' x y} s _ ⟨vs, e, q⟩ hy ⟨T, z, e1, e2, e3, e4⟩ => .inr ⟨T, _, e2, e3, by
    obtain ⟨y1, y2⟩ := enum_get hy
    obtain ⟨v, h1, h2⟩ := q.get y2
    have := e4 vs (.of (s _ _ e))
    rw [h1] at this; cases this
    exact ⟨T, _, _, e1, upd_same, by rw [y1]; rfl, R.mono (same_new (s.free e2)) h2⟩⟩
  st := fun s _ ⟨vs, e, q⟩ => ⟨vs, .of (s _ _ e), by unfold fenum; rw [← q.length]; simp⟩
def zenum (m : M τ (List α)) : M τ (List (Int × α)) := bnd m fun xs => ret (fenum xs)
theorem zi_enum {e : Expr} {elts : List Expr} {kk : Nat} {tpos : Pos} {m : M τ (List β)} {R : Rel β} {p pos : Pos} (g : Gb c "enumerate") (hm : G.mg "enumerate" = none) (h : ZE G c E W Γ e m (rLst R)) (hs : ∀ env : PySem.Env, starEach [e] env = [(false, eval e env)] := by intro _; rfl) :
    ZI G c E W Γ (.Tuple elts kk tpos) (.Call (.Name "enumerate" p) [e] [] pos) (zenum m) (rT2 rInt R) := fun X C =>
  pi_wk (pi_enum (C.gl g) (by rw [C.mg]; exact hm) (za_one h (fun env => hs env) X C) (hs X.env)) fun σ H Q ⟨B, S, b, hh, q⟩ => by
    refine tzI_bndA (A := fun x => [(rLst R).pr x]) hh q fun x b1 vs S1 H1 s1 h1 r1 q1 => ?_
    match vs, r1 with
    | [v], ⟨⟨a, us, e1, e2, e3⟩, _⟩ => exact ⟨a, us, by rw [e1], .of (h1.same _ _ e2), q1 _ _ S1 H1 (Same.refl _) h1 src_enum ⟨us, e2, e3⟩⟩

/-! ### for -/
theorem for_src {P : Hp → Hp → Prop} {J : It} {xs : List β} {R : Rel β} {I : Hp → Prop} (src : Src P J xs R I) {g : TG} {tb : TS} {D : Ends} {σ : St} {H : Hp} (Pv : Nat → St → Hp → Prop) (h0 : Pv 0 σ H) (hl : ∀ i σ H, i ≤ xs.length → Pv i σ H → ∃ S, Same S H ∧ P S H ∧ I S)
    (hs : ∀ i y σ H, xs[i]? = some y → Pv i σ H → ∀ x H', J.yld i H x H' → g x σ H' fun σ2 H2 => tb { D with nx := Pv (i + 1), ct := Pv (i + 1), bk := D.nx } σ2 H2) (hd : ∀ σ H, Pv xs.length σ H → D.nx σ H) :
    ∃ W : Nat → Nat → St → Hp → Prop, (∃ m, W 0 m σ H) ∧ ∀ i m σ H, W i m σ H →
      (J.stop i H ∧ D.nx σ H) ∨ (J.go i H ∧ ∃ N : St → Hp → Prop, (∀ σ' H', N σ' H' → ∃ m', m' < m ∧ W (i + 1) m' σ' H') ∧ ∀ x H', J.yld i H x H' → g x σ H' fun σ2 H2 => tb { D with nx := N, ct := N, bk := D.nx } σ2 H2) := by
  refine ⟨fun i m σ H => m = xs.length - i ∧ i ≤ xs.length ∧ Pv i σ H, ⟨xs.length, by simp, Nat.zero_le _, h0⟩, ?_⟩
  rintro i m σ H ⟨rfl, hi, p⟩
  obtain ⟨S, s, hP, hI⟩ := hl i σ H hi p
  by_cases hlt : i < xs.length
  · exact .inr ⟨src.go s hP hI hlt, Pv (i + 1), fun σ' H' p' => ⟨xs.length - (i + 1), by omega, rfl, hlt, p'⟩, fun x H' y => hs i xs[i] σ H (by simp [hlt]) p x H' y⟩
  · have e : i = xs.length := by omega
    subst e
    exact .inl ⟨src.st s hP hI, hd σ H p⟩
def zfor (f : α → β → M τ (Fl α α ρ)) : α → List β → M τ (Fl α κ ρ)
  | a, [] => ret (.nx a)
  | a, x :: xs => fun s => match f a x s with
    | .ok (.nx a') s' => zfor f a' xs s'
    | .ok (.ct a') s' => zfor f a' xs s'
    | .ok (.bk a') s' => .ok (.nx a') s'
    | .ok (.rt r) s' => .ok (.rt r) s'
    | .exc e s' => .exc e s'
    | .stuck => .stuck
def zforI (m : M τ (List β)) (a : α) (f : α → β → M τ (Fl α α ρ)) : M τ (Fl α κ ρ) := bnd m fun xs => zfor f a xs
theorem zs_for {tg iter : Expr} {body : List Stmt} {pos : Pos} {m : M τ (List β)} {a0 : α} {f : α → β → M τ (Fl α α ρ)} {R : Rel β} {Γh : α → Env} {Γb : α → β → Env} {vs : List Nat} (hi : ZI G c E W Γ tg iter m R) (h0 : Sub E Γ (Γh a0)) (hg : ∀ a, ZG G c E W (Γh a) vs tg (Γb a) R)
    (hb : ∀ a x, ZB G c E W ⟨Γh, L.x, L.R, L.o⟩ (Γb a x) body (f a x) Γh) (sx : Sub E Γ L.x) (hs : ∀ (env : PySem.Env) x, foldedSetIterable iter env x = pure x := by intro _ _; rfl) : ZS G c E W L Γ (.For tg iter body [] pos) (zforI m a0 f) Γh := fun X C =>
  ps_wk (ps_for C.owns C.calm (hi X C) (pg_ex fun a => (hg a).1 X C) (pss_ex fun (p : α × β) => hb p.1 p.2 X C) (hs X.env)) fun D σ H hl ⟨B, S, b, hh, q⟩ => by
    refine ⟨B, S, b, hh, ?_⟩
    unfold zforI bnd at q
    cases e : m b with
    | stuck => rw [e] at q; exact q.elim
    | exc x b1 => rw [e] at q; exact fun c d S1 H1 _ h1 xa => let ⟨S2, _, h2⟩ := sx h1; q c d σ S2 H1 h2 xa
    | ok xs b1 =>
      rw [e] at q
      intro J I S1 H1 s1 h1 src hI
      obtain ⟨S2, s2, h2⟩ := h0 h1
      refine for_src (g := fun v σ H Q => ∃ i, tzG E (Γh i) vs (Γb i) R v σ H Q) (tb := fun D σ H => ∃ p : α × β, tzS G E W ⟨Γh, L.x, L.R, L.o⟩ (Γb p.1 p.2) (f p.1 p.2) Γh D σ H) (D := D) src (fun i σ H => ∃ S b a, Same S1 S ∧ Hold E B (Γh a) b σ S H ∧ aftS G E W L B S Γh D (zfor f a (xs.drop i) b)) ⟨S2, b1, a0, s2, h2, (q.same s1).same s2⟩ (fun i σ H _ ⟨S, b, a, s, h, _⟩ => ⟨S, h.same, ⟨b, h.ef⟩, src.mono s hI⟩) ?_ ?_
      · rintro i y σ H hy ⟨S, b, a, s, h, q⟩ x H' yl
        have hd : xs.drop i = y :: xs.drop (i + 1) := by
          obtain ⟨h1, h2⟩ := List.getElem?_eq_some_iff.mp hy
          rw [List.drop_eq_getElem_cons h1, h2]
        rw [hd] at q
        have go : ∀ S' H', Same S S' → Hold E B (Γh a) b σ S' H' → R.is y S' x → (fun v σ H Q => ∃ i, tzG E (Γh i) vs (Γb i) R v σ H Q) x σ H' fun σ2 H2 => (fun D σ H => ∃ p : α × β, tzS G E W ⟨Γh, L.x, L.R, L.o⟩ (Γb p.1 p.2) (f p.1 p.2) Γh D σ H) { D with nx := fun σ H => ∃ S b a, Same S1 S ∧ Hold E B (Γh a) b σ S H ∧ aftS G E W L B S Γh D (zfor f a (xs.drop (i + 1)) b), ct := fun σ H => ∃ S b a, Same S1 S ∧ Hold E B (Γh a) b σ S H ∧ aftS G E W L B S Γh D (zfor f a (xs.drop (i + 1)) b), bk := D.nx } σ2 H2 := by
          intro S' H' s' h' r'
          refine ⟨a, B, S', b, y, h', r', fun σ' _ h'' => ⟨(a, y), B, S', b, h'', ?_⟩⟩
          have q := q.same s'
          unfold zfor at q
          dsimp only at q ⊢
          cases e : f a y b with
          | stuck => rw [e] at q; exact q.elim
          | exc x b1 => rw [e] at q; exact q
          | ok r b2 =>
            rw [e] at q
            cases r with
            | nx a' => exact fun σ3 S3 H3 s3 h3 => ⟨S3, b2, a', (s.trans s').trans s3, h3, q.same s3⟩
            | ct a' => exact fun σ3 S3 H3 s3 h3 => ⟨S3, b2, a', (s.trans s').trans s3, h3, q.same s3⟩
            | bk a' => exact q
            | rt r => exact q
        rcases src.yl h.same ⟨_, h.ef⟩ (src.mono s hI) hy yl with ⟨e1, r⟩ | ⟨p, o, hp, e1, r⟩
        · subst e1; exact go S _ (Same.refl _) h r
        · subst e1; exact go (upd S p o) _ (same_new (h.same.free hp)) (h.new hp) r
      · rintro σ H ⟨S, b, a, s, h, q⟩
        rw [List.drop_length] at q
        exact q σ S H (Same.refl _) h
end
end Zk

namespace Zk
open PySem L2

/-! ### the promise of a def, with what is known of the guards (g) -/
structure FnG (g : Bool) (P : Program) (w : World) (K : PySem.W.Frag) (mg : Str → Option Value) (base : Heap) (k : Nat) (f : Addr) (fd : FuncData) (ps : List Str) (sp : Sp) : Prop where
  len : ∀ vs H Q XE, sp vs H Q XE → vs.length = ps.length
  go : ∀ (A : Around) (out : List PySem.Env) (s : Shared) (H : Hp) (args : Args) (us : List Value) (vs : List V) (Q : VK) (XE : XK), Room k A → (g = true → A.guards = some []) → Env0 P w K mg base A out s H → BindsTo s fd args (ps.zip us) → Vals vs us → sp vs H Q XE →
    codeAny (model P w) A (.call (.ref f) args) (CR (L2.CX P w) out P w H s Q XE) s
section
variable {P : Program} {w : World} {K : PySem.W.Frag} {mg : Str → Option Value} {base : Heap} {k : Nat} {f : Addr} {fd : FuncData} {ps : List Str} {sp : Sp} {g : Bool}
theorem FnG.ok (F : FnG false P w K mg base k f fd ps sp) : FnOk P w K mg base (L2.CX P w) k f fd ps sp := ⟨F.len, fun A out s H args us vs Q XE hr => F.go A out s H args us vs Q XE hr fun z => nomatch z⟩
theorem FnG.up (F : FnG g P w K mg base k f fd ps sp) {g' : Bool} (h : g = true → g' = true) : FnG g' P w K mg base k f fd ps sp := ⟨F.len, fun A out s H args us vs Q XE hr hg => F.go A out s H args us vs Q XE hr fun z => hg (h z)⟩
theorem FnG.mono (F : FnG g P w K mg base k f fd ps sp) {k' : Nat} (h : k ≤ k') : FnG g P w K mg base k' f fd ps sp := ⟨F.len, fun A out s H args us vs Q XE hr => F.go A out s H args us vs Q XE (hr.mono h)⟩
/-- a def by its body, where it stands in the written part -/
theorem fng_mk {nm qual : Str} {prm : Arguments} {body : List Stmt} {scp : Scope} {dV kV doc pm cdv ct oc : Value} {an od : Option Addr} {osl : Array (Option Value)} {N : List Str}
    (lk : K.lookup f = some ⟨oc, od, .func (PySem.W.fnOf nm qual prm body scp dV kV doc pm an cdv ct), osl⟩) (hcd : PySem.W.codeIn K cdv qual = true) (S : FnScope N ps scp) (len : ∀ vs H Q XE, sp vs H Q XE → vs.length = ps.length)
    (hb : ∀ (A : Around) (out : List PySem.Env) (s : Shared) (H : Hp) (vs : List V) (Q : VK) (XE : XK), Room k (A.deeper (PyProof.Rows.envOfC qual scp s.heap.objs.size f cdv)) → (g = true → A.guards = some []) → sp vs H Q XE →
      ∃ t, PSs (cxOf (L2.CX P w) P w K mg base N qual scp f cdv A out s H XE) body t ∧ t { nx := fun _ H' => Q .non H', rt := Q } (start N vs) H) :
    FnG g P w K mg base (k + 1) f (PySem.W.fnOf nm qual prm body scp dV kV doc pm an cdv ct) ps sp :=
  ⟨len, fun A out s H args us vs Q XE hr hg e0 bd rel hsp => by
    have kin : K.In s.heap := e0.mod.kin.keeps fun a o z => (e0.bs a o z).1
    have nol : s.heap.NoLimit := e0.mod.nolimit.keeps fun a o z => (e0.bs a o z).1
    have hl := len _ _ _ _ hsp
    have par : ∀ y ∈ ps.zip us, scp.names.lookup y.1 = some .local ∨ (scp.names.lookup y.1 = some .cell ∧ ((cellsFrom (s.heap.objs.size + 1) scp.names []).lookup y.1).isSome = true) := by
      intro y hy
      rcases S.par y.1 (List.of_mem_zip (a := y.1) (b := y.2) hy).1 with z | z
      · exact Or.inl z
      · exact Or.inr (And.intro z (PySem.W.cellsFrom_some _ _ _ (.inl z)))
    refine codeAny_call_function hr.depth (kin _ _ lk) rfl S.co S.gen rfl (PySem.W.codeRec_of kin hcd) (bd _ _ _ _ (wpAny_newFunctionEnv_cells S.kind par fun env he s1 nw => ?_))
    subst he
    refine ⟨nol.keeps nw.toInCall.keep, codeAny_func ?_⟩
    obtain ⟨t, ht, hq⟩ := hb A out s H vs Q XE (hr.deeper _) hg hsp
    have I := inv_start (CX := L2.CX P w) (mg := mg) (qual := qual) (f := f) (cd := cdv) (E := XE) S hr.hd e0 hl rel nw
    refine wpAny_mono (ht.run [] s1 (start N vs) H _ I hq) (fun fl s' hs => ?_) fun _ _ z => z
    cases fl with
    | ret u => obtain ⟨v, σ', H', J, rv, q⟩ := hs; exact ⟨v, H', J.os, J.bare, J.base, J.hok, rv, q⟩
    | next => obtain ⟨σ', H', J, q⟩ := hs; exact ⟨.non, H', J.os, J.bare, J.base, J.hok, rfl, q⟩
    | brk => obtain ⟨_, _, _, q⟩ := hs; exact q.elim
    | cont => obtain ⟨_, _, _, q⟩ := hs; exact q.elim⟩
theorem fng_D {x qual : Str} {prm : Arguments} {body : List Stmt} {scp : Scope} {dvs : List V} {kws : List (Str × V)} {N : List Str} (F : FunD K x qual prm body scp dvs kws f fd) (S : FnScope N ps scp) (len : ∀ vs H Q XE, sp vs H Q XE → vs.length = ps.length)
    (hb : ∀ (cdv : Value) (A : Around) (out : List PySem.Env) (s : Shared) (H : Hp) (vs : List V) (Q : VK) (XE : XK), Room k (A.deeper (PyProof.Rows.envOfC qual scp s.heap.objs.size f cdv)) → (g = true → A.guards = some []) → sp vs H Q XE →
      ∃ t, PSs (cxOf (L2.CX P w) P w K mg base N qual scp f cdv A out s H XE) body t ∧ t { nx := fun _ H' => Q .non H', rt := Q } (start N vs) H) : FnG g P w K mg base (k + 1) f fd ps sp := by
  obtain ⟨oc, od, dV, kV, doc, pm, an, cdv, ct, osl, rfl, lk, hcd, _⟩ := F.ex
  exact fng_mk lk hcd S len fun A out s H vs Q XE => hb cdv A out s H vs Q XE
theorem fng_F {x qual : Str} {st : Stmt} {N : List Str} (F : Fun K x qual st f fd) (S : FnScope N ps (defScope st)) (len : ∀ vs H Q XE, sp vs H Q XE → vs.length = ps.length)
    (hb : ∀ (cdv : Value) (A : Around) (out : List PySem.Env) (s : Shared) (H : Hp) (vs : List V) (Q : VK) (XE : XK), Room k (A.deeper (PyProof.Rows.envOfC qual (defScope st) s.heap.objs.size f cdv)) → (g = true → A.guards = some []) → sp vs H Q XE →
      ∃ t, PSs (cxOf (L2.CX P w) P w K mg base N qual (defScope st) f cdv A out s H XE) (defBody st) t ∧ t { nx := fun _ H' => Q .non H', rt := Q } (start N vs) H) : FnG g P w K mg base (k + 1) f fd ps sp := by
  obtain ⟨oc, od, kV, doc, pm, an, cdv, ct, osl, rfl, lk, hcd⟩ := F.ex
  exact fng_mk lk hcd S len fun A out s H vs Q XE => hb cdv A out s H vs Q XE
end
section
variable {X : Cx} {k : Nat} {f C : Addr} {fd : FuncData} {ps : List Str} {sp : Sp} {dvs : List V} {ds : List Value} {Ex : St → XK} {x m : Str} {pos apos p : Pos} {e o : Expr} {es : List Expr} {ta : TE} {t : TA} {g : Bool}
abbrev FnX (g : Bool) (X : Cx) := FnG g X.prog X.w X.K X.mg X.base
theorem FnG.run_ {pins : List (Addr × Obj)} {σ : St} {H : Hp} {s : Shared} {Q : VK} {us : List Value} {vs : List V} (F : FnX g X k f fd ps sp) (hr : Room k X.A) (hg : g = true → X.A.guards = some []) (hb : Binds X.K fd ps ds) (hd : Vals dvs ds) (hx : PassesAt (L2.CX X.prog X.w) X σ (Ex σ))
    (I : Inv X pins σ H s) (r : Vals vs us) (h : sp (vs ++ dvs) H Q (Ex σ)) : wpAny (model X.prog X.w) X.A (call (.ref f) us) (EP X pins σ Q) X.xe s := by
  have rr := r.append hd
  refine wpAny_call (codeAny_mono (F.go X.A X.stack s H ⟨us, []⟩ (us ++ ds) (vs ++ dvs) Q (Ex σ) hr hg I.env0 (hb s us I.kIn (rr.length.symm.trans (F.len _ _ _ _ h))) rr h) fun r s' hq => ?_)
  match r with
  | .error z => exact hx pins H s z s' I hq
  | .ok (.ret u) => exact I.after hq
  | .ok .next => exact hq.elim
  | .ok .brk => exact hq.elim
  | .ok .cont => exact hq.elim
theorem pe_callG (F : FnX g X k f fd ps sp) (hr : Room k X.A) (hg : g = true → X.A.guards = some []) (gl : Gl X x) (hm : X.mg x = some (.ref f)) (hk : PySem.W.keepIn X.K (.ref f) = true) (hb : Binds X.K fd ps ds) (hd : Vals dvs ds) (hx : ∀ σ, PassesAt (L2.CX X.prog X.w) X σ (Ex σ))
    (ha : PA X (e :: es) t) (hdb : (x == ("__debug__" : Str)) = false) (he : starEach (e :: es) X.env = (false, eval e X.env) :: starEach es X.env) (hpl : (backTo pos (starEach es X.env)).any (·.1) = false) :
    PE X (.Call (.Name x p) (e :: es) [] pos) (fun σ H Q => t σ H fun vs H1 => sp (vs ++ dvs) H1 Q (Ex σ)) :=
  ⟨fun pins s σ H Q I h => wpAny_Call_Name_kw (ld_glob I gl hm (PySem.W.callWith_K (h₀ := X.base) I.ok.mod.kin hk (thn (ha.run pos pins s σ H _ I h) fun us s1 ⟨vs, H1, I1, r, q⟩ => ⟨I1.kIn, F.run_ hr hg hb hd (hx σ) I1 r q⟩) he hpl) hdb)⟩
end

section
variable {τ α β γ δ κ ρ ι θ : Type} {G : Gx} {c : Sc} {E : Eff τ} {W : WX} {Γ Γ' : Env} {B : Bs} {σ : St} {S S1 S' H H' : Hp} {b b' : τ} {L : Ls κ ρ}
/-! ### defs: their promise, their call -/
def noE : Eff Unit := ⟨fun _ => False, fun _ _ _ => True, fun _ _ _ _ => trivial, fun _ h => h.elim⟩
/-- behind a call: what was one's own stands -/
theorem Hold.call (h : Hold E B Γ b σ S H) (k : Keep E.own ⟨S, H⟩ S' H') (e : E.is b' S' H') : Hold E B Γ b' σ S' H' := by
  obtain ⟨Fs, hF, hs⟩ := h.sl
  refine ⟨⟨k.same, h.kp.up.trans k.up, fun a o h1 h2 h3 => ?_⟩, e, Fs, ⟨fun i a e => ?_, hF.ds⟩, fun i s e => ?_⟩
  · obtain ⟨q1, q2⟩ := h.kp.kp a o h1 h2 h3
    exact k.kp a o q1 q2 h3
  · obtain ⟨q1, q2, q3, o, q4⟩ := hF.at_ i a e
    exact ⟨(k.kp a o q1 q4 q3).1, q2, q3, o, (k.kp a o q1 q4 q3).2⟩
  · have q := hs i s e
    cases s with
    | no => trivial
    | st p => obtain ⟨x, e1, e2⟩ := q; exact ⟨x, e1, p.mono k.up e2⟩
    | ow p => obtain ⟨x, e1, e2⟩ := q; exact ⟨x, e1, p.mono k.up (fun a o ha e => by
        obtain ⟨q1, _, q3, _⟩ := hF.at_ i a ha
        exact (k.kp a o q1 e q3).2) e2⟩
    | gh p => exact p.mono k.up (fun a o ha e => by
        obtain ⟨q1, _, q3, _⟩ := hF.at_ i a ha
        exact (k.kp a o q1 e q3).2) q
theorem Hold.callP (h : Hold E B Γ b σ S H) (k : Keep (fun _ => False) ⟨S, H⟩ S' H') : Hold E B Γ b σ S' H' := by
  refine h.grow k.up k.same (fun a o h1 h2 => k.kp a o h1 h2 id) fun a ha hs => ?_
  obtain ⟨_, o, ho⟩ := E.th h.ef ha
  exact (k.kp a o hs ho id).1
def finZ (G : Gx) (E : Eff τ) (S H : Hp) (R : Rel ρ) (Q : VK) (XE : XK) : Out τ ρ → Prop
  | .ok r b' => ∀ v S' H', Keep E.own ⟨S, H⟩ S' H' → E.is b' S' H' → R.is r S' v → Q v H'
  | .exc e b' => ∀ c d S' H', Keep E.own ⟨S, H⟩ S' H' → E.is b' S' H' → XAt G e H' c d → XE c d H'
  | .stuck => False
/-- the promise of a def: of what stands for x (the addresses q of what it may change are the caller's) it hands back what m x tells -/
def spZ (G : Gx) (E : θ → Eff τ) (A : θ → α → List Pr) (m : α → M τ ρ) (R : Rel ρ) : Sp := fun vs H Q XE => ∃ q x S b, All2 (fun (p : Pr) v => p.p S v) (A q x) vs ∧ Same S H ∧ (E q).is b S H ∧ finZ G (E q) S H R Q XE (m x b)
structure FnAt (g : Bool) (G : Gx) (x : Str) (k : Nat) (ps : List Str) (sp : Sp) : Prop where
  ex : ∃ f fd, G.mg x = some (.ref f) ∧ PySem.W.keepIn G.K (.ref f) = true ∧ Binds G.K fd ps [] ∧ FnG g G.P G.w G.K G.mg G.base k f fd ps sp
theorem tz_sp {E' : θ → Eff τ} {A : θ → α → List Pr} {m : α → M τ ρ} {R : Rel ρ} {q : θ} {x : α} {vs : List V} {Q : VK} (hE : E' q = E) (h : Hold E B Γ b σ S H) (r : All2 (fun (p : Pr) v => p.p S v) (A q x) vs) (a : aft G E W B Γ σ S R Q (m x b)) : spZ G E' A m R vs H Q (WE W σ) := by
  subst hE
  refine ⟨q, x, S, b, r, h.same, h.ef, ?_⟩
  cases e : m x b with
  | stuck => rw [e] at a; exact a.elim
  | exc e b' => rw [e] at a; exact fun c d S' H' k he xa => a c d S' H' k.up (h.call k he) xa
  | ok r b' => rw [e] at a; exact fun v S' H' k he rr => a v S' H' k.up (h.call k he) rr
theorem tz_spP {A : θ → α → List Pr} {m : α → M Unit ρ} {R : Rel ρ} {q : θ} {x : α} {vs : List V} {Q : VK} (h : Hold E B Γ b σ S H) (r : All2 (fun (p : Pr) v => p.p S v) (A q x) vs) (a : aft G E W B Γ σ S R Q (lft (m x) b)) : spZ G (fun _ => noE) A m R vs H Q (WE W σ) := by
  refine ⟨q, x, S, (), r, h.same, trivial, ?_⟩
  unfold lft at a
  cases e : m x () with
  | stuck => rw [e] at a; exact a.elim
  | exc e b' => rw [e] at a; exact fun c d S' H' k he xa => a c d S' H' k.up (h.callP k) xa
  | ok r b' => rw [e] at a; exact fun v S' H' k he rr => a v S' H' k.up (h.callP k) rr
theorem z_call {g : Bool} {x : Str} {k : Nat} {ps : List Str} {E' : θ → Eff τ} {A : θ → α → List Pr} {f : α → M τ ρ} {R : Rel ρ} {q : θ} {e : Expr} {es : List Expr} {m : M τ α} {p pos : Pos} (F : FnAt g G x k ps (spZ G E' A f R)) (hE : E' q = E) (hk : k ≤ c.k) (hg : g = true → c.gd = true) (gb : Gb c x) (ha : ZA G c E W Γ (e :: es) m (A q))
    (hd : (x == ("__debug__" : Str)) = false := by decide) (he : Star e es := by intro _; rfl) (hpl : ∀ env : PySem.Env, (backTo pos (starEach es env)).any (·.1) = false := by intro _; rfl) : ZE G c E W Γ (.Call (.Name x p) (e :: es) [] pos) (zapp f m) R := fun X C => by
  obtain ⟨f0, fd, h1, h2, h3, h4⟩ := F.ex
  rw [← C.prog, ← C.w, ← C.K, ← C.mg, ← C.base] at h4
  rw [← C.mg] at h1
  rw [← C.K] at h2 h3
  exact pe_wk (pe_callG (Ex := WE W) h4 (C.room.mono hk) (fun z => C.gds (hg z)) (C.gl gb) h1 h2 h3 .nil (passAt C.takes) (ha X C) hd (he _) (hpl _)) fun σ H Q _ ⟨B, S, b, hh, qq⟩ =>
    tz_Abnd hh qq fun x b1 vs S1 H1 s1 hh1 r1 q1 => by rw [List.append_nil]; exact tz_sp hE hh1 r1 q1
theorem z_callP {g : Bool} {x : Str} {k : Nat} {ps : List Str} {A : θ → α → List Pr} {f : α → M Unit ρ} {R : Rel ρ} {q : θ} {e : Expr} {es : List Expr} {m : M τ α} {p pos : Pos} (F : FnAt g G x k ps (spZ G (fun _ => noE) A f R)) (hk : k ≤ c.k) (hg : g = true → c.gd = true) (gb : Gb c x) (ha : ZA G c E W Γ (e :: es) m (A q))
    (hd : (x == ("__debug__" : Str)) = false := by decide) (he : Star e es := by intro _; rfl) (hpl : ∀ env : PySem.Env, (backTo pos (starEach es env)).any (·.1) = false := by intro _; rfl) : ZE G c E W Γ (.Call (.Name x p) (e :: es) [] pos) (zapp (fun x => lft (f x)) m) R := fun X C => by
  obtain ⟨f0, fd, h1, h2, h3, h4⟩ := F.ex
  rw [← C.prog, ← C.w, ← C.K, ← C.mg, ← C.base] at h4
  rw [← C.mg] at h1
  rw [← C.K] at h2 h3
  exact pe_wk (pe_callG (Ex := WE W) h4 (C.room.mono hk) (fun z => C.gds (hg z)) (C.gl gb) h1 h2 h3 .nil (passAt C.takes) (ha X C) hd (he _) (hpl _)) fun σ H Q _ ⟨B, S, b, hh, qq⟩ =>
    tz_Abnd hh qq fun x b1 vs S1 H1 s1 hh1 r1 q1 => by rw [List.append_nil]; exact tz_spP hh1 r1 q1
/-! ### a def's body -/
/-- behind a body that may go on to its end -/
def zfin (n : α → M τ ρ) (m : M τ (Fl α κ ρ)) : M τ ρ := fun s => match m s with
  | .ok (.nx a) s' => n a s'
  | .ok (.rt r) s' => .ok r s'
  | .ok _ _ => .stuck
  | .exc e s' => .exc e s'
  | .stuck => .stuck
/-- a def never ends but by return -/
def zbody (m : M τ (Fl α κ ρ)) : M τ ρ := zfin (fun _ => stk) m
def envOf (n : Nat) (ps : List Pr) : Env := ps.map .st ++ List.replicate (n - ps.length) .no
theorem hold_start {q : Eff τ} {S H : Hp} {ps : List Pr} {vs : List V} {N : List Str} (s : Same S H) (he : q.is b S H) (r : All2 (fun (p : Pr) v => p.p S v) ps vs) : Hold q ⟨S, H⟩ (envOf N.length ps) b (L2.start N vs) S H := by
  refine ⟨⟨s, Same.refl _, fun a o h1 h2 _ => ⟨h1, h2⟩⟩, he, fun _ _ => False, ⟨fun _ _ h => h.elim, fun _ _ _ h => h.elim⟩, fun i sl e => ?_⟩
  unfold envOf at e
  unfold L2.start
  by_cases hi : i < ps.length
  · rw [List.getElem?_append_left (by simpa using hi), List.getElem?_map] at e
    cases e2 : ps[i]? with
    | none => rw [e2] at e; cases e
    | some p =>
      rw [e2] at e; cases e
      obtain ⟨v, h1, h2⟩ := r.get e2
      rw [List.getElem?_append_left (by rw [List.length_map, ← r.length]; exact hi), List.getElem?_map, h1]
      exact ⟨v, rfl, h2⟩
  · rw [List.getElem?_append_right (by simpa using hi), List.getElem?_replicate] at e
    split at e
    · cases e; trivial
    · cases e
theorem All2.len {r : Pr → V → Prop} {ps : List Pr} {vs : List V} (h : All2 r ps vs) : vs.length = ps.length := h.length.symm
/-- THE RULE for a def: its body's mirror -/
theorem fn_ok {g : Bool} {x qual : Str} {st : Stmt} {f : Addr} {fd : FuncData} {N ps : List Str} {k : Nat} {E : θ → Eff τ} {A : θ → α → List Pr} {m : α → M τ ρ} {R : Rel ρ} {mb : α → M τ (Fl β Empty ρ)} {Γn : θ → α → β → Env} {n : α → β → M τ ρ} (F : Fun G.K x qual st f fd) (sc : FnScope N ps (defScope st))
    (hA : ∀ q x, (A q x).length = ps.length) (hm : ∀ x, m x = zfin (n x) (mb x)) (hn : (∀ x a, n x a = stk) ∨ (∀ x a, ∃ r, n x a = ret r ∧ ∀ S, R.is r S .non))
    (hb : ∀ q x (W : WX), ZB G ⟨N, defScope st, k, true, fun _ => true, g⟩ (E q) W ⟨fun e : Empty => e.elim, [], R, fun _ _ => []⟩ (envOf N.length (A q x)) (defBody st) (mb x) (Γn q x)) :
    FnG g G.P G.w G.K G.mg G.base (k + 1) f fd ps (spZ G E A m R) := by
  refine fng_F F sc (fun vs H Q XE h => ?_) (fun cdv A0 outer s H vs Q XE hr hgd h => ?_)
  · obtain ⟨q, x, S, b, r, _⟩ := h
    rw [← r.length, hA]
  · obtain ⟨q, x, S, b, r, hs, he, fz⟩ := h
    let W : WX := fun cls d _ H => XE cls d H
    have C : CtxOk G ⟨N, defScope st, k, true, fun _ => true, g⟩ W (cxOf (L2.CX G.P G.w) G.P G.w G.K G.mg G.base N qual (defScope st) f cdv A0 outer s H XE) :=
      ⟨rfl, rfl, rfl, rfl, rfl, rfl, sc.nd, rfl, rfl, hr, hgd, takes_of rfl rfl rfl rfl, passes_of rfl, rfl, fun _ => ⟨rfl, rfl⟩⟩
    refine ⟨_, hb q x W _ C, ⟨S, H⟩, S, b, hold_start hs he r, ?_⟩
    rw [hm] at fz
    unfold zfin at fz
    cases e : mb x b with
    | stuck => rw [e] at fz; exact fz.elim
    | exc e b' => rw [e] at fz; exact fun c d σ' S' H' h xa => fz c d S' H' h.kp h.ef xa
    | ok r b' =>
      rw [e] at fz
      cases r with
      | bk k => exact k.elim
      | ct k => exact k.elim
      | rt r => exact fun v σ' S' H' h rr => fz v S' H' h.kp h.ef rr
      | nx a =>
        intro σ' S' H' _ h
        rcases hn with hn | hn
        · have fz : finZ G (E q) S H R Q XE (n x a b') := fz
          rw [hn] at fz; exact fz.elim
        · obtain ⟨r, hr, hR⟩ := hn x a
          have fz : finZ G (E q) S H R Q XE (n x a b') := fz
          rw [hr] at fz
          exact fz .non S' H' h.kp h.ef (hR S')
end
end Zk

namespace Zk
open PySem L2

section
variable {τ α β γ δ κ ρ ι θ : Type} {G : Gx} {c : Sc} {E : Eff τ} {W : WX} {Γ Γ' : Env} {B : Bs} {σ : St} {S S1 S' H H' : Hp} {b b' : τ} {L : Ls κ ρ}
/-! ### what is one's own -/
def ownL (R : Rel α) (xs : List α) : PrO := ⟨fun S H v F => ∃ l vs, v = .ref l ∧ (∀ a, F a ↔ a = l) ∧ H l = some (.lst vs) ∧ All2 (fun x v => R.is x S v) xs vs,
  fun s k ⟨l, vs, e, f, h, q⟩ => ⟨l, vs, e, f, k _ _ ((f l).mpr rfl) h, All2.rel s q⟩⟩
/-- an instance of the class at C with (at least) these fields, the first told of a name counts -/
def ownO (q0 : Addr → Prop) (C : Addr) (fs : List (Str × Pr)) : PrO := ⟨fun S H v F => ∃ l dx vs, v = .ref l ∧ q0 l ∧ (∀ a, F a ↔ a = l) ∧ H l = some (.ins C dx vs) ∧ vs.length ≤ fs.length ∧ (∀ k, fs.lookup k = none → vs.lookup k = none) ∧ ∀ f p, fs.lookup f = some p → ∃ u, vs.lookup f = some u ∧ p.p S u,
  fun s k ⟨l, dx, vs, e, e0, f, h, hl, hn, q⟩ => ⟨l, dx, vs, e, e0, f, k _ _ ((f l).mpr rfl) h, hl, hn, fun f p e => let ⟨u, h1, h2⟩ := q f p e; ⟨u, h1, p.mono s h2⟩⟩⟩
/-- a thing of one's own, what it is where all of it is stable -/
structure One (p : PrO) (q : Pr) : Prop where
  at_ : ∀ {S H : Hp} {v : V} {F : Addr → Prop}, p.p S H v F → ∀ S', Same S S' → (∀ a o, F a → H a = some o → S' a = some o) → q.p S' v
theorem one_L {R : Rel α} {xs : List α} : One (ownL R xs) ((rLst R).pr xs) := ⟨fun ⟨l, vs, e, f, h, q⟩ S' s k => ⟨l, vs, e, k _ _ ((f l).mpr rfl) h, All2.rel s q⟩⟩
open Classical in
/-- becomes stable -/
theorem Hold.frz {i : Nat} {p : PrO} {q : Pr} (one : One p q) (h : Hold E B Γ b σ S H) (hi : Γ[i]? = some (.ow p)) : ∃ S', Same S S' ∧ Hold E B (Γ.set i (.st q)) b σ S' H := by
  obtain ⟨Fs, hF, hs⟩ := h.sl
  obtain ⟨v, e1, e2⟩ := hs i _ hi
  let T : Hp := fun a => if Fs i a then H a else S a
  have ti : ∀ a, Fs i a → T a = H a := fun a z => if_pos z
  have tn : ∀ a, ¬ Fs i a → T a = S a := fun a z => if_neg z
  have sm : Same S T := fun a o e => by
    rw [tn a fun z => by rw [(hF.at_ i a z).1] at e; cases e]; exact e
  refine ⟨T, sm, ⟨fun a o e => ?_, h.kp.up.trans sm, fun a o h1 h2 h3 => ?_⟩, E.mono sm (fun a ha hn => ?_) (fun _ _ _ e => e) h.ef, fun j a => j ≠ i ∧ Fs j a, ⟨fun j a ⟨n, e⟩ => ?_, fun j k a e1 e2 => hF.ds _ _ a e1.2 e2.2⟩, fun j s e => ?_⟩
  · by_cases ha : Fs i a
    · rw [ti a ha] at e; exact e
    · rw [tn a ha] at e; exact h.same _ _ e
  · obtain ⟨r1, r2⟩ := h.kp.kp a o h1 h2 h3
    rw [tn a fun z => by rw [(hF.at_ i a z).2.1] at h2; cases h2]; exact ⟨r1, r2⟩
  · rw [tn a fun z => (hF.at_ i a z).2.2.1 ha]; exact hn
  · obtain ⟨r1, r2, r3, r4⟩ := hF.at_ j a e
    rw [tn a fun z => n (hF.ds j i a e z)]; exact ⟨r1, r2, r3, r4⟩
  · rcases set_get e with ⟨rfl, rfl⟩ | ⟨n, e⟩
    · exact ⟨_, e1, one.at_ e2 T sm fun a o z e => by rw [ti a z]; exact e⟩
    · have q := hs j s e
      cases s with
      | no => trivial
      | st p => obtain ⟨x, e1, e2⟩ := q; exact ⟨x, e1, p.mono sm e2⟩
      | ow p =>
        obtain ⟨x, e1, e2⟩ := q
        refine ⟨x, e1, ?_⟩
        have ef : (fun a => j ≠ i ∧ Fs j a) = Fs j := funext fun a => propext ⟨fun z => z.2, fun z => ⟨n, z⟩⟩
        show p.p T H x (fun a => j ≠ i ∧ Fs j a)
        rw [ef]
        exact p.mono sm (fun _ _ _ e => e) e2
      | gh p =>
        have ef : (fun a => j ≠ i ∧ Fs j a) = Fs j := funext fun a => propext ⟨fun z => z.2, fun z => ⟨n, z⟩⟩
        show p.p T H .non (fun a => j ≠ i ∧ Fs j a)
        rw [ef]
        exact p.mono sm (fun _ _ _ e => e) q
theorem sub_frz {i : Nat} {p : PrO} {q : Pr} (one : One p q) (hi : Γ[i]? = some (.ow p) := by rfl) : Sub E Γ (Γ.set i (.st q)) := fun h => h.frz one hi
/-- kinds whose things have nothing in the heap -/
structure Flat (R : Rel α) : Prop where
  h : ∀ {x : α} {S S' : Hp} {v : V}, R.is x S v → R.is x S' v
theorem fl_int : Flat rInt := ⟨fun h => h⟩
/-- what may change hangs on nothing stable -/
structure Free (E : Eff τ) : Prop where
  h : ∀ {b : τ} {S S' H : Hp}, (∀ a, E.own a → S' a = none) → E.is b S H → E.is b S' H
theorem free_no : Free noE := ⟨fun _ h => h⟩
/-- all that is one's own, as if it were stable -/
inductive Frz : Env → Env → Prop
  | nil : Frz [] []
  | no {l l' : Env} : Frz l l' → Frz (.no :: l) (.no :: l')
  | st {p : Pr} {l l' : Env} : Frz l l' → Frz (.st p :: l) (.st p :: l')
  | ow {p : PrO} {q : Pr} {l l' : Env} : One p q → Frz l l' → Frz (.ow p :: l) (.st q :: l')
  | gh {p : PrO} {l l' : Env} : Frz l l' → Frz (.gh p :: l) (.no :: l')
theorem Frz.get : ∀ {l l' : Env}, Frz l l' → ∀ {i : Nat} {s : Sl}, l'[i]? = some s → s = .no ∨ (∃ p, s = .st p ∧ l[i]? = some (.st p)) ∨ ∃ p q, s = .st q ∧ One p q ∧ l[i]? = some (.ow p)
  | _, _, .nil, i, s, h => by simp at h
  | _, _, .no f, 0, s, h => by simp at h; exact .inl h.symm
  | _, _, .st f, 0, s, h => by simp at h; exact .inr (.inl ⟨_, h.symm, rfl⟩)
  | _, _, .ow one f, 0, s, h => by simp at h; exact .inr (.inr ⟨_, _, h.symm, one, rfl⟩)
  | _, _, .gh f, 0, s, h => by simp at h; exact .inl h.symm
  | _, _, .no f, i + 1, s, h => by simpa using f.get (i := i) (by simpa using h)
  | _, _, .st f, i + 1, s, h => by simpa using f.get (i := i) (by simpa using h)
  | _, _, .ow one f, i + 1, s, h => by simpa using f.get (i := i) (by simpa using h)
  | _, _, .gh f, i + 1, s, h => by simpa using f.get (i := i) (by simpa using h)
open Classical in
/-- read as if stable, then one's own again (what is in ghost slots is hidden) -/
theorem Hold.lend (fz : Frz Γ Γ') (fr : Free E) (h : Hold E B Γ b σ S H) : ∃ B1 Sp, Same S Sp ∧ Hold E B1 Γ' b σ Sp H ∧ ∀ b1 S2 H2, Same Sp S2 → Hold E B1 Γ' b1 σ S2 H2 → ∃ S3, Same S S3 ∧ Hold E B Γ b1 σ S3 H2 := by
  obtain ⟨Fs, hF, hs⟩ := h.sl
  let Ow : Addr → Prop := fun a => ∃ i p, Γ[i]? = some (.ow p) ∧ Fs i a
  let Gh : Addr → Prop := fun a => ∃ i p, Γ[i]? = some (.gh p) ∧ Fs i a
  have nS : ∀ a, Ow a → S a = none := fun a ⟨i, p, _, e⟩ => (hF.at_ i a e).1
  have nB : ∀ a, Ow a → B.H a = none := fun a ⟨i, p, _, e⟩ => (hF.at_ i a e).2.1
  have nE : ∀ a, Ow a → ¬ E.own a := fun a ⟨i, p, _, e⟩ => (hF.at_ i a e).2.2.1
  have gS : ∀ a, Gh a → S a = none := fun a ⟨i, p, _, e⟩ => (hF.at_ i a e).1
  have gB : ∀ a, Gh a → B.H a = none := fun a ⟨i, p, _, e⟩ => (hF.at_ i a e).2.1
  have gE : ∀ a, Gh a → ¬ E.own a := fun a ⟨i, p, _, e⟩ => (hF.at_ i a e).2.2.1
  have gO : ∀ a, Gh a → ¬ Ow a := fun a ⟨i, p, ep, e⟩ ⟨j, p', ep', e'⟩ => by
    have := hF.ds i j a e e'
    subst this
    rw [ep] at ep'; cases ep'
  have sm : Same S (fun a => if Ow a then H a else S a) := fun a o e => by
    have n : ¬ Ow a := fun z => by rw [nS a z] at e; cases e
    show (if Ow a then H a else S a) = some o
    rw [if_neg n]; exact e
  have bS : ∀ a, Gh a → B.S a = none := fun a ha => by
    cases e : B.S a with
    | none => rfl
    | some o => have := h.kp.up _ _ e; rw [gS a ha] at this; cases this
  have b1H : ∀ a, Gh a → (⟨B.S, fun a => if Gh a then H a else B.H a⟩ : Bs).H a = H a := fun a z => if_pos z
  have b2H : ∀ a, ¬ Gh a → (⟨B.S, fun a => if Gh a then H a else B.H a⟩ : Bs).H a = B.H a := fun a z => if_neg z
  refine ⟨⟨B.S, fun a => if Gh a then H a else B.H a⟩, fun a => if Ow a then H a else S a, sm, ⟨⟨fun a o e => ?_, h.kp.up.trans sm, fun a o h1 h2 h3 => ?_⟩, E.mono sm (fun a ha hn => ?_) (fun _ _ _ e => e) h.ef, fun _ _ => False, ⟨fun _ _ z => z.elim, fun _ _ _ z => z.elim⟩, fun i s e => ?_⟩, fun b1 S2 H2 s2 h2 => ?_⟩
  · have e : (if Ow a then H a else S a) = some o := e
    by_cases ha : Ow a
    · rw [if_pos ha] at e; exact e
    · rw [if_neg ha] at e; exact h.same _ _ e
  · by_cases hg : Gh a
    · rw [b1H a hg] at h2
      exact ⟨by show (if Ow a then H a else S a) = none; rw [if_neg (gO a hg)]; exact gS a hg, h2⟩
    · rw [b2H a hg] at h2
      have n : ¬ Ow a := fun z => by rw [nB a z] at h2; cases h2
      obtain ⟨r1, r2⟩ := h.kp.kp a o h1 h2 h3
      exact ⟨by show (if Ow a then H a else S a) = none; rw [if_neg n]; exact r1, r2⟩
  · show (if Ow a then H a else S a) = none
    rw [if_neg fun z => nE a z ha]; exact hn
  · rcases fz.get e with rfl | ⟨p, rfl, e'⟩ | ⟨p, q, rfl, one, e'⟩
    · trivial
    · obtain ⟨x, e1, e2⟩ := hs i _ e'; exact ⟨x, e1, p.mono sm e2⟩
    · obtain ⟨x, e1, e2⟩ := hs i _ e'
      refine ⟨_, e1, one.at_ e2 _ sm fun a o z e => ?_⟩
      show (if Ow a then H a else S a) = some o
      rw [if_pos ⟨i, p, e', z⟩]; exact e
  · have kk : ∀ a o, Ow a → H a = some o → H2 a = some o := fun a o ha e => h2.same _ _ (s2 _ _ (by show (if Ow a then H a else S a) = some o; rw [if_pos ha]; exact e))
    have kg : ∀ a o, Gh a → H a = some o → S2 a = none ∧ H2 a = some o := fun a o ha e => h2.kp.kp a o (bS a ha) (by rw [b1H a ha]; exact e) (gE a ha)
    have sm2 : Same S (fun a => if Ow a then none else S2 a) := fun a o e => by
      have n : ¬ Ow a := fun z => by rw [nS a z] at e; cases e
      show (if Ow a then none else S2 a) = some o
      rw [if_neg n]; exact s2 _ _ (sm _ _ e)
    have hOG : ∀ i p a, Γ[i]? = some (.ow p) → Fs i a → Ow a := fun i p a ep e => ⟨i, p, ep, e⟩
    refine ⟨fun a => if Ow a then none else S2 a, sm2, ⟨⟨fun a o e => ?_, h.kp.up.trans sm2, fun a o h1 h2' h3 => ?_⟩, fr.h (fun a ha => ?_) h2.ef, fun i a => ((∃ p, Γ[i]? = some (.ow p)) ∨ ∃ p, Γ[i]? = some (.gh p)) ∧ Fs i a, ⟨fun i a ⟨ep, e⟩ => ?_, fun i j a e1 e2 => hF.ds _ _ a e1.2 e2.2⟩, fun i s e => ?_⟩⟩
    · have e : (if Ow a then none else S2 a) = some o := e
      by_cases ha : Ow a
      · rw [if_pos ha] at e; cases e
      · rw [if_neg ha] at e; exact h2.same _ _ e
    · have n : ¬ Ow a := fun z => by rw [nB a z] at h2'; cases h2'
      have n2 : ¬ Gh a := fun z => by rw [gB a z] at h2'; cases h2'
      obtain ⟨r1, r2⟩ := h2.kp.kp a o h1 (by rw [b2H a n2]; exact h2') h3
      exact ⟨by show (if Ow a then none else S2 a) = none; rw [if_neg n]; exact r1, r2⟩
    · show (if Ow a then none else S2 a) = none
      rw [if_neg fun z => nE a z ha]; exact (E.th h2.ef ha).1
    · obtain ⟨r1, r2, r3, o, r4⟩ := hF.at_ i a e
      rcases ep with ⟨p, ep⟩ | ⟨p, ep⟩
      · refine ⟨?_, r2, r3, o, kk a o ⟨i, p, ep, e⟩ r4⟩
        show (if Ow a then none else S2 a) = none
        rw [if_pos ⟨i, p, ep, e⟩]
      · obtain ⟨z1, z2⟩ := kg a o ⟨i, p, ep, e⟩ r4
        refine ⟨?_, r2, r3, o, z2⟩
        show (if Ow a then none else S2 a) = none
        split
        · rfl
        · exact z1
    · have q := hs i s e
      cases s with
      | no => trivial
      | st p => obtain ⟨x, e1, e2⟩ := q; exact ⟨x, e1, p.mono sm2 e2⟩
      | ow p =>
        obtain ⟨x, e1, e2⟩ := q
        refine ⟨x, e1, ?_⟩
        have ef : (fun a => ((∃ p, Γ[i]? = some (.ow p)) ∨ ∃ p, Γ[i]? = some (.gh p)) ∧ Fs i a) = Fs i := funext fun a => propext ⟨fun z => z.2, fun z => ⟨.inl ⟨p, e⟩, z⟩⟩
        show p.p _ H2 x (fun a => ((∃ p, Γ[i]? = some (.ow p)) ∨ ∃ p, Γ[i]? = some (.gh p)) ∧ Fs i a)
        rw [ef]
        exact p.mono sm2 (fun a o ha e' => kk a o ⟨i, p, e, ha⟩ e') e2
      | gh p =>
        have ef : (fun a => ((∃ p, Γ[i]? = some (.ow p)) ∨ ∃ p, Γ[i]? = some (.gh p)) ∧ Fs i a) = Fs i := funext fun a => propext ⟨fun z => z.2, fun z => ⟨.inr ⟨p, e⟩, z⟩⟩
        show p.p _ H2 .non (fun a => ((∃ p, Γ[i]? = some (.ow p)) ∨ ∃ p, Γ[i]? = some (.gh p)) ∧ Fs i a)
        rw [ef]
        exact p.mono sm2 (fun a o ha e' => (kg a o ⟨i, p, e, ha⟩ e').2) q
theorem z_lend {e : Expr} {m : M τ α} {R : Rel α} (fz : Frz Γ Γ') (fr : Free E) (fl : Flat R) (h : ZE G c E W Γ' e m R) : ZE G c E W Γ e m R := fun X C => pe_wk (h X C) fun σ H Q _ ⟨B, S, b, hh, q⟩ => by
  obtain ⟨B1, Sp, s, hp, back⟩ := hh.lend fz fr
  refine ⟨B1, Sp, b, hp, ?_⟩
  cases e : m b with
  | stuck => rw [e] at q; exact q.elim
  | exc x b1 => rw [e] at q; exact fun c d S' H' s' h' xa => let ⟨S3, s3, h3⟩ := back b1 S' H' s' h'; q c d S3 H' s3 h3 xa
  | ok a b1 => rw [e] at q; exact fun v S' H' s' h' r => let ⟨S3, s3, h3⟩ := back b1 S' H' s' h'; q v S3 H' s3 h3 (fl.h r)
end
end Zk

namespace Zk
open PySem L2

section
variable {τ α β γ δ κ ρ ι θ : Type} {G : Gx} {c : Sc} {E : Eff τ} {W : WX} {Γ Γ' : Env} {B : Bs} {σ : St} {S S1 S' H H' : Hp} {b b' : τ} {L : Ls κ ρ}
/-! ### new things that are one's own -/
def aftF (G : Gx) (E : Eff τ) (W : WX) (B : Bs) (Γ : Env) (σ : St) (S : Hp) (P : α → PrO) (Q : VK) : Out τ α → Prop
  | .ok a b' => ∀ v S' H1 H' F, Same S S' → Hold E B Γ b' σ S' H1 → (∀ x, F x → H1 x = none ∧ ∃ o, H' x = some o) → (∀ x, ¬ F x → H' x = H1 x) → (P a).p S' H' v F → Q v H'
  | .exc x b' => ∀ c d S' H', Same S S' → Hold E B Γ b' σ S' H' → XAt G x H' c d → W c d σ H'
  | .stuck => False
theorem aftF.same {P : α → PrO} {Q : VK} (s : Same S S1) : ∀ {o : Out τ α}, aftF G E W B Γ σ S P Q o → aftF G E W B Γ σ S1 P Q o
  | .ok _ _, h => fun v S' H1 H' F s2 => h v S' H1 H' F (s.trans s2)
  | .exc _ _, h => fun c d S' H' s2 => h c d S' H' (s.trans s2)
  | .stuck, h => h
def tzF (G : Gx) (E : Eff τ) (W : WX) (Γ : Env) (m : M τ α) (P : α → PrO) : TE := fun σ H Q => ∃ B S b, Hold E B Γ b σ S H ∧ aftF G E W B Γ σ S P Q (m b)
def ZF (G : Gx) (c : Sc) (E : Eff τ) (W : WX) (Γ : Env) (e : Expr) (m : M τ α) (P : α → PrO) : Prop := ∀ X, CtxOk G c W X → PE X e (tzF G E W Γ m P)
theorem tz_AbndF {m : M τ α} {f : α → M τ β} {A : α → List Pr} {P : β → PrO} {Q : VK} {Q' : List V → Hp → Prop} (hh : Hold E B Γ b σ S H) (h : aftF G E W B Γ σ S P Q (bnd m f b))
    (k : ∀ x b1 vs S1 H1, Same S S1 → Hold E B Γ b1 σ S1 H1 → All2 (fun (p : Pr) v => p.p S1 v) (A x) vs → aftF G E W B Γ σ S1 P Q (f x b1) → Q' vs H1) : tzA G E W Γ m A σ H Q' := by
  refine ⟨B, S, b, hh, ?_⟩
  unfold bnd at h
  cases e : m b with
  | ok a b1 => rw [e] at h; exact fun v S1 H1 s h1 r => k a b1 v S1 H1 s h1 r (h.same s)
  | exc x b1 => rw [e] at h; exact h
  | stuck => rw [e] at h; exact h.elim
theorem aftF_chk {P : α → PrO} {Q : VK} {p : Prop} [Decidable p] {m : M τ α} (h : aftF G E W B Γ σ S P Q (chk p m b)) : p ∧ aftF G E W B Γ σ S P Q (m b) := by
  unfold chk at h
  by_cases hp : p
  · rw [if_pos hp] at h; exact ⟨hp, h⟩
  · rw [if_neg hp] at h; exact h.elim
/-- one new object -/
theorem aftF_new {P : α → PrO} {Q : VK} {a : α} {p : Addr} {o : HO} (hh : Hold E B Γ b σ S H) (h : aftF G E W B Γ σ S P Q (ret a b)) (hp : H p = none) (r : (P a).p S (upd H p o) (.ref p) (fun x => x = p)) : Q (.ref p) (upd H p o) :=
  h _ S H _ (fun x => x = p) (Same.refl _) hh (fun x e => by subst e; exact ⟨hp, o, upd_same⟩) (fun x n => upd_ne n) r
theorem ownL_new {R : Rel α} {p : Addr} {xs : List α} {vs : List V} (h : All2 (fun x v => R.is x S v) xs vs) : (ownL R xs).p S (upd H p (.lst vs)) (.ref p) (fun x => x = p) := ⟨p, vs, rfl, fun _ => Iff.rfl, upd_same, h⟩
theorem zf_list {es : List Expr} {m : M τ (List α)} {R : Rel α} {pos : Pos} (h : ZA G c E W Γ es m R.all) : ZF G c E W Γ (.List es pos) (zlist m) (ownL R) := fun X C => pe_wk (pe_lst (h X C)) fun σ H Q _ ⟨B, S, b, hh, q⟩ => by
  refine tz_AbndF hh q fun x b1 vs S1 H1 s1 h1 r1 q1 => ?_
  obtain ⟨hl, q2⟩ := aftF_chk q1
  have r2 := all_of r1
  exact ⟨by rw [← r2.length]; exact hl, fun p hp => aftF_new h1 q2 hp (ownL_new r2)⟩
theorem zs_setF {i : Nat} {x : Str} {e : Expr} {m : M τ α} {P : α → PrO} {p pos : Pos} (n : Ns c i x) (h : ZF G c E W Γ e m P) (sx : Sub E Γ L.x) (hs : NoSwap e := by intro _ _ _; rfl) : ZS G c E W L Γ (.Assign [.Name x p] e pos) (zset m) (fun a => Γ.set i (.ow (P a))) := fun X C =>
  ps_wk (ps_set C.set_hN (C.hi n.n) (by rw [C.sc]; exact n.l) (h X C) (hs _ _ _) (C.hf n)) fun D σ H hl ⟨B, S, b, hh, q⟩ => by
    refine ⟨B, S, b, hh, ?_⟩
    unfold zset bnd at q
    cases e : m b with
    | stuck => rw [e] at q; exact q.elim
    | exc x b1 => rw [e] at q; exact fun c d S1 H1 _ h1 xa => let ⟨S2, _, h2⟩ := sx h1; q c d σ S2 H1 h2 xa
    | ok a b1 =>
      rw [e] at q
      intro v S1 H1 H2 F s1 h1 hF hk hp
      exact q _ S1 H2 s1 (h1.mut (C.lt n.n hl) hk (fun y hy => ⟨(hF y hy).2, .inl ⟨(hF y hy).1, h1.fr (hF y hy).1⟩⟩) hp)
/-- the value of a slot -/
theorem slot_get {i : Nat} {v : V} (e : σ[i]?.join = some v) : σ[i]? = some (some v) := by
  cases z : σ[i]? with
  | none => rw [z] at e; cases e
  | some o => rw [z] at e; cases o with
    | none => cases e
    | some u => cases e; rfl
theorem slot_set {i : Nat} {v : V} (e : σ[i]? = some (some v)) : σ.set i (some v) = σ := by
  obtain ⟨h, e⟩ := List.getElem?_eq_some_iff.mp e
  rw [← e]; exact List.set_getElem_self h
/-- what is owned at one address is changed -/
theorem Hold.chg {i : Nat} {l : Addr} {o : HO} {p p' : PrO} (h : Hold E B Γ b σ S H) (hi : Γ[i]? = some (.ow p)) (hp : ∀ {S H v F}, p.p S H v F → v = .ref l → ∀ a, F a ↔ a = l) (hv : σ[i]? = some (some (.ref l))) (hp' : p'.p S (upd H l o) (.ref l) (fun a => a = l)) : Hold E B (Γ.set i (.ow p')) b σ S (upd H l o) := by
  have hlt := (List.getElem?_eq_some_iff.mp hv).1
  rw [show σ = σ.set i (some (.ref l)) from (slot_set hv).symm]
  refine Hold.mut h hlt (F' := fun a => a = l) (fun a n => upd_ne n) (fun a e => ?_) hp'
  subst e
  refine ⟨⟨o, upd_same⟩, .inr fun Fs hF hs => ?_⟩
  obtain ⟨v, e1, e2⟩ := hs i _ hi
  rw [hv] at e1; cases e1
  exact (hp e2 rfl a).mpr rfl
theorem own_at {R : Rel α} {xs : List α} {i : Nat} (h : Hold E B Γ b σ S H) (hi : Γ[i]? = some (.ow (ownL R xs))) : ∃ l vs, σ[i]? = some (some (.ref l)) ∧ H l = some (.lst vs) ∧ All2 (fun x v => R.is x S v) xs vs := by
  obtain ⟨Fs, hF, hs⟩ := h.sl
  obtain ⟨v, e1, l, vs, rfl, hf, hu, hq⟩ := hs i _ hi
  exact ⟨l, vs, slot_get e1, hu, hq⟩
theorem ownL_feet {R : Rel α} {xs : List α} {l : Addr} {S H : Hp} {v : V} {F : Addr → Prop} (h : (ownL R xs).p S H v F) (e : v = .ref l) : ∀ a, F a ↔ a = l := by
  obtain ⟨l', vs, rfl, hf, _⟩ := h; cases e; exact hf
structure BmEnv (o : Expr) (name : Str) (es : List Expr) (apos cpos : Pos) : Prop where
  base : ∀ env : PySem.Env, attributeBase o name env (eval o env) = eval o env
  few : ∀ env : PySem.Env, ((backTo cpos (starEach es env)).all (fun x => !x.1) && (backToKw cpos (keywordEach [] env)).all (fun x => x.1.isSome)
      && decide (es.length + ([] : List Keyword).length + (if ([] : List Keyword).isEmpty then 0 else 1) < 30)) = true
  line : (apos.endLine == cpos.line) = true
  star : ∀ env : PySem.Env, ∀ e r, es = e :: r → starEach es env = (false, eval e env) :: starEach r env ∧ (backTo cpos (starEach r env)).any (·.1) = false
theorem zs_app {i : Nat} {x : Str} {e : Expr} {p1 apos cpos pos : Pos} {R : Rel α} {xs : List α} {m : M τ α} (n : Nm c i x) (hi : Γ[i]? = some (.ow (ownL R xs))) (h : ZE G c E W Γ e m R) (sx : Sub E Γ L.x)
    (hb : BmEnv (.Name x p1) "append" [e] apos cpos := by exact ⟨fun _ => rfl, fun _ => rfl, rfl, fun _ _ _ h => by cases h; exact ⟨rfl, rfl⟩⟩) (hs : Star e [] := by intro _; rfl) :
    ZS G c E W L Γ (.Expr (.Call (.Attribute (.Name x p1) "append" apos) [e] [] cpos) pos) (bnd m fun v => chk (xs.length < sizeLine) (ret (.nx v))) (fun v => Γ.set i (.ow (ownL R (xs ++ [v])))) := fun X C =>
  ps_wk (ps_expr (pe_bm PySem.F.plainAttrs_list PySem.F.slot_list_append PySem.F.type_list_append mt_append (pe_var (C.hi n.n) (by rw [C.sc]; exact n.v) n.d n.cd) (za_one h hs X C) (hb.base _) (hb.few _) hb.line (hb.star _ _ _ rfl).1 (hb.star _ _ _ rfl).2) rfl) fun D σ H hl ⟨B, S, b, hh, q⟩ => by
    obtain ⟨l, vs, e1, e2, e3⟩ := own_at hh hi
    refine ⟨.ref l, e1, .inl ⟨rfl, vs, .of e2⟩, ?_⟩
    refine tzS_bndA (A := fun x => [R.pr x]) sx hh q fun y b1 us S1 H1 s1 h1 r1 q1 => ?_
    match us, r1 with
    | [u], ⟨r, _⟩ =>
      obtain ⟨l', vs', e1', e2', e3'⟩ := own_at h1 hi
      rw [e1] at e1'; cases e1'
      unfold chk at q1
      by_cases hz : xs.length < sizeLine
      · rw [if_pos hz] at q1
        exact ⟨l, vs', u, rfl, rfl, e2', by rw [← e3'.length]; exact hz, q1 σ S1 _ (Same.refl _) (h1.chg hi ownL_feet e1 ⟨l, _, rfl, fun _ => Iff.rfl, upd_same, e3'.append ⟨r, trivial⟩⟩)⟩
      · rw [if_neg hz] at q1; exact q1.elim

/-! ### own classes -/
/-- an instance of the class at C whose fields are fs (no other name is a field) -/
def rObj (C : Addr) (fs : α → List (Str × Pr)) : Rel α :=
  ⟨fun x S v => ∃ a dx vs, v = .ref a ∧ S a = some (.ins C dx vs) ∧ (∀ k, (fs x).lookup k = none → vs.lookup k = none) ∧ ∀ f p, (fs x).lookup f = some p → ∃ u, vs.lookup f = some u ∧ p.p S u,
   fun s ⟨a, dx, vs, e, h, n, q⟩ => ⟨a, dx, vs, e, s _ _ h, n, fun f p e => let ⟨u, h1, h2⟩ := q f p e; ⟨u, h1, p.mono s h2⟩⟩⟩
theorem one_O {q0 : Addr → Prop} {C : Addr} {fs : α → List (Str × Pr)} {x : α} {gs : List (Str × Pr)} (h : ∀ k, (fs x).lookup k = gs.lookup k) : One (ownO q0 C gs) ((rObj C fs).pr x) :=
  ⟨fun ⟨l, dx, vs, e, _, f, hh, hl, hn, q⟩ S' s k => ⟨l, dx, vs, e, k _ _ ((f l).mpr rfl) hh, fun k hk => hn k (by rw [← h]; exact hk), fun f p e => by
    obtain ⟨u, h1, h2⟩ := q f p (by rw [← h]; exact e)
    exact ⟨u, h1, p.mono s h2⟩⟩⟩
/-- the field f of what R tells is what R2 tells of g -/
structure FldAt (R : Rel α) (C : Addr) (f : Str) (g : α → β) (R2 : Rel β) : Prop where
  h : ∀ {x : α} {S : Hp} {v : V}, R.is x S v → ∃ a dx vs u, v = .ref a ∧ S a = some (.ins C dx vs) ∧ vs.lookup f = some u ∧ R2.is (g x) S u
theorem fld_at {C : Addr} {fs : α → List (Str × Pr)} {f : Str} {g : α → β} {R2 : Rel β} (h : ∀ x, (fs x).lookup f = some (R2.pr (g x))) : FldAt (rObj C fs) C f g R2 :=
  ⟨fun {x S v} ⟨a, dx, vs, e, hh, n, q⟩ => let ⟨u, h1, h2⟩ := q f _ (h x); ⟨a, dx, vs, u, e, hh, h1, h2⟩⟩
theorem z_attr {e : Expr} {f : Str} {pos : Pos} {C : Addr} {R : Rel α} {g : α → β} {R2 : Rel β} {m : M τ α} (t : FldAt R C f g R2) (cl : Cls G.K C) (na : NoAttr G.K C f) (h : ZE G c E W Γ e m R) (hb : ∀ env : PySem.Env, attributeBase e f env (eval e env) = eval e env := by intro _; rfl) :
    ZE G c E W Γ (.Attribute e f pos) (zget g m) R2 := fun X C => pe_wk (pe_fld (h X C) (hb _)) fun σ H Q _ ⟨B, S, b, hh, q⟩ => by
  refine tz_bnd hh q fun x b1 v S1 H1 s1 h1 r1 q1 => ?_
  obtain ⟨a, dx, vs, u, e1, e2, e3, e4⟩ := t.h r1
  exact ⟨a, _, dx, vs, u, e1, h1.same _ _ e2, by rw [C.K]; exact cl, by rw [C.K]; exact na, e3, aft_ret h1 q1 e4⟩
/-- self.f = e -/
theorem zs_fld {i : Nat} {x f : Str} {e : Expr} {p1 apos pos : Pos} {q0 : Addr → Prop} {C0 : Addr} {fs : List (Str × Pr)} {R : Rel α} {m : M τ α} (n : Nm c i x) (hi : Γ[i]? = some (.ow (ownO q0 C0 fs))) (cl : Cls G.K C0) (na : NoAttr G.K C0 f) (hn : fs.length < 900) (h : ZE G c E W Γ e m R) (sx : Sub E Γ L.x) (hs : NoSwap e := by intro _ _ _; rfl) :
    ZS G c E W L Γ (.Assign [.Attribute (.Name x p1) f apos] e pos) (zset m) (fun v => Γ.set i (.ow (ownO q0 C0 ((f, R.pr v) :: fs)))) := fun X C =>
  ps_wk (ps_fld (pe_var (C.hi n.n) (by rw [C.sc]; exact n.v) n.d n.cd) (h X C) (hs _ _ _)) fun D σ H hl ⟨B, S, b, hh, q⟩ => by
    refine tzS_bnd (R := R) sx hh q fun y b1 v S1 H1 s1 h1 r1 q1 => ?_
    obtain ⟨Fs, hF, hs⟩ := id h1.sl
    obtain ⟨v0, e1, l, dx, vs, rfl, e0, hf, hu, hlen, hno, hq⟩ := hs i _ hi
    have e1 := slot_get e1
    refine ⟨.ref l, e1, l, C0, dx, vs, rfl, hu, by rw [C.K]; exact cl, by rw [C.K]; exact na, by omega, q1 σ S1 _ (Same.refl _) (h1.chg hi (fun {S H v F} h e => by obtain ⟨l', _, _, rfl, _, hf, _⟩ := h; cases e; exact hf) e1 ⟨l, dx, _, rfl, e0, fun _ => Iff.rfl, upd_same, ?_, fun k hk => ?_, fun k p hk => ?_⟩)⟩
    · have := length_putF f v vs; simp only [List.length_cons]; omega
    · rw [lookup_putF]
      rw [List.lookup_cons] at hk
      by_cases hkf : k = f
      · subst hkf; simp at hk
      · have : (k == f) = false := beq_eq_false_iff_ne.mpr hkf
        rw [this] at hk
        rw [if_neg hkf]; exact hno k hk
    · rw [lookup_putF]
      rw [List.lookup_cons] at hk
      by_cases hkf : k = f
      · subst hkf
        simp at hk
        subst hk
        exact ⟨v, by rw [if_pos rfl], r1⟩
      · have : (k == f) = false := beq_eq_false_iff_ne.mpr hkf
        rw [this] at hk
        rw [if_neg hkf]; exact hq k p hk
end
end Zk

namespace Zk
open PySem L2

section
variable {τ α β γ δ κ ρ ι θ : Type} {G : Gx} {c : Sc} {E : Eff τ} {W : WX} {Γ Γ' : Env} {B : Bs} {σ : St} {S S1 S' H H' : Hp} {b b' : τ} {L : Ls κ ρ}
/-! ### exceptions of own classes -/
/-- A.__init__(self, ..), A an own class over ValueError that has no __init__ of its own -/
structure AIn (K : PySem.W.Frag) (A : Addr) (mc : Value) : Prop where
  rd : ClX.CRead K A mc
  at_ : PySem.W.findCls K (.ref A) mc "__init__" = some (.val (.builtin "ValueError.__init__"))
theorem pe_ainit {X : Cx} {e : Expr} {es : List Expr} {ta : TA} {x : Str} {A : Addr} {mc : Value} {p1 p2 pos : Pos} {pl : Sem Bool} (T : AIn X.K A mc) (hg : Gl X x) (hm : X.mg x = some (.ref A)) (ha : PA X (e :: es) ta)
    (hc : eval (.Call (.Attribute (.Name x p1) "__init__" p2) (e :: es) [] pos) X.env = (do
      let ov ← eval (.Name x p1) X.env
      standAt p2.atName
      let (f, first) ← holding [ov] (getMethod ov "__init__" pl)
      callWith pos f first (backTo pos (starEach (e :: es) X.env)) (backToKw pos (keywordEach [] X.env))))
    (he : starEach (e :: es) X.env = (false, eval e X.env) :: starEach es X.env) (hpl : (backTo pos (starEach es X.env)).any (·.1) = false) (hd : (x == ("__debug__" : Str)) = false) :
    PE X (.Call (.Attribute (.Name x p1) "__init__" p2) (e :: es) [] pos) (tVeI X.K ta) := by
  refine ⟨fun pins s σ H Q I h => ?_⟩
  refine PySem.W.methodCall_KW (ld_glob I hg hm ?_ hd) hc
  refine PySem.W.method_cls I.kIn T.rd.ga (PySem.W.cls_value I.kIn T.rd.rd T.at_ rfl ?_)
  show wpAny _ _ (callWith pos (Value.builtin "ValueError.__init__") [] (backTo pos (starEach (e :: es) X.env)) []) _ _ _
  refine PyProof.Rows.callWith_method1 (thn (ha.run pos pins _ σ H _ (I.tok _) h) fun us s1 ⟨vs, H1, I1, r1, a, C, ws, ev, hl, T, ea, q⟩ => ?_) he hpl
  subst ev
  cases r1 with
  | @cons _ u0 _ ur ra rw' =>
    obtain rfl : u0 = Value.ref a := ra
    have hlen : ur.length ≤ sizeLine := by
      rw [← Paired.length rw', sizeLine_eq]
      omega
    exact oinit_ok T I1 ea hlen fun s' J => ⟨.non, H1, J, rfl, q⟩
/-- the promise of an __init__ that keeps its one argument as the field f -/
def spX1 (K : PySem.W.Frag) (f : Str) : Sp := fun vs H Q _ => ∃ a v C, vs = [.ref a, v] ∧ OexC K C ∧ PySem.W.findIn K (.ref C) f = some none ∧ H a = some (exo a C none) ∧ ∀ d, H d = none → d ≠ a → Q .non (upd (upd H d (exd d [(f, v)])) a (exo a C (some d)))
/-- what the written part says of a class of exceptions, and of its __init__ -/
structure XAtC (G : Gx) (x : Str) (k : Nat) (ps : List Str) (sp : Sp) (C : Addr) : Prop where
  mg : G.mg x = some (.ref C)
  ox : OexC G.K C
  ini : ∃ f fd, PySem.W.findIn G.K (.ref C) "__init__" = some (some (.ref f)) ∧ PySem.W.typeIn G.K (.ref f) = some (.type "function") ∧ Binds G.K fd ps [] ∧ FnOk G.P G.w G.K G.mg G.base (L2.CX G.P G.w) k f fd ps sp
theorem del_upd {H : Hp} {a d : Addr} {o o1 o2 o3 : HO} (ha : H a = none) (hda : d ≠ a) : upd (del (upd (upd (upd H a o) d o1) a o2) a) d o3 = upd H d o3 := by
  funext x
  by_cases hx : x = d
  · subst hx; rw [upd_same, upd_same]
  · rw [upd_ne hx, upd_ne hx]
    by_cases hxa : x = a
    · subst hxa; rw [del_same, ha]
    · rw [del_ne hxa, upd_ne hxa, upd_ne hx, upd_ne hxa]
def zraise (cl f : Str) (v : α → V) (m : M τ α) : M τ β := bnd m fun x => rse ⟨cl, [(f, v x)]⟩
/-- raise X(e), X with one field -/
theorem zs_raise1 {x f : Str} {k : Nat} {ps : List Str} {C0 : Addr} {e : Expr} {p pos pos' : Pos} {R : Rel α} {v : α → V} {m : M τ α} {Γn : β → Env} (XA : XAtC G x k ps (spX1 G.K f) C0) (hf : PySem.W.findIn G.K (.ref C0) f = some none) (hk : k + 1 ≤ c.k) (g : Gb c x) (sc : ScalR R v) (h : ZE G c E W Γ e m R) (sx : Sub E Γ L.x)
    (hd : (x == ("__debug__" : Str)) = false := by decide) (hs : Star e [] := by intro _; rfl) (hpl : Plain1 [] := by intro _ _; rfl) : ZS G c E W L Γ (.Raise (some (.Call (.Name x p) [e] [] pos')) none pos) (zraise x f v m) Γn := fun X C => by
  obtain ⟨fi, fd, i1, i2, i3, i4⟩ := XA.ini
  have i4' := i4
  rw [← C.prog, ← C.w, ← C.K, ← C.mg, ← C.base] at i4'
  have hm : X.mg x = some (.ref C0) := by rw [C.mg]; exact XA.mg
  have ox : OexC X.K C0 := by rw [C.K]; exact XA.ox
  rw [← C.K] at i1 i2 i3
  refine ps_wk (ps_raise C.calm C.takes (pmk_oex ox i1 i2 i4' (C.room.mono hk) i3 .nil passL (C.gl g) hm (za_one h hs X C) hd (hs _) (hpl _ _))) fun D σ H hl ⟨B, S, b, hh, q⟩ => ?_
  refine tzS_bndA (A := fun x => [R.pr x]) sx hh q fun y b1 us S1 H1 s1 h1 r1 q1 => ?_
  match us, r1 with
  | [u], ⟨r, _⟩ =>
    refine ⟨by simp, fun a ha => ⟨a, u, C0, rfl, ox, by rw [C.K]; exact hf, upd_same, fun d hd hda => ?_⟩⟩
    have hd1 : H1 d = none := by rw [upd_ne hda] at hd; exact hd
    refine ⟨rfl, d, [(f, u)], upd_same, by rw [upd_ne hda, upd_same], hd1, ?_⟩
    rw [del_upd ha hda]
    have sd := h1.same.free hd1
    have h2 : Hold E B Γ b1 σ S1 (upd H1 d (.xd [(f, u)])) := h1.grow (Same.refl _) (fun a o e => by rw [upd_ne (ne_of_none (h1.same _ _ e) hd1)]; exact h1.same _ _ e) (fun a o e1 e2 => ⟨e1, by rw [upd_ne (ne_of_none e2 hd1)]; exact e2⟩) fun a _ e => e
    obtain ⟨S3, _, h3⟩ := sx h2
    exact q1 _ _ σ S3 _ h3 ⟨C0, XA.mg, rfl, .inr ⟨d, rfl, by rw [upd_same, sc.is r]⟩⟩

/-! ### methods -/
section
variable {X : Cx} {CX : CXT} {k : Nat} {f C : Addr} {fd : FuncData} {ps : List Str} {sp : Sp} {dvs : List V} {ds : List Value} {Ex : St → XK} {m : Str} {pos apos : Pos} {e o : Expr} {es : List Expr} {ta : TE} {t : TA} {g : Bool}
def tMethS (C : Addr) (m : Str) (sp : Sp) (Ex : St → XK) (ta : TE) (t : TA) : TE := fun σ H Q => ta σ H fun x H1 => ∃ a dx fs, x = .ref a ∧ H1 a = some (.ins C dx fs) ∧ fs.lookup m = none ∧
  t σ H1 fun vs H2 => sp (x :: vs) H2 Q (Ex σ)
theorem pe_methS {pl : Sem Bool} (he : PE X o ta) (c : Cls X.K C) (hm : Meth X.K C m f) (F : FnX g X k f fd ps sp) (hr : Room k X.A) (hg : g = true → X.A.guards = some []) (hb : Binds X.K fd ps []) (hx : ∀ σ, PassesAt (L2.CX X.prog X.w) X σ (Ex σ)) (ha : PA X (e :: es) t)
    (hst : starEach (e :: es) X.env = (false, eval e X.env) :: starEach es X.env) (hpl : (backTo pos (starEach es X.env)).any (·.1) = false)
    (ht : eval (.Call (.Attribute o m apos) (e :: es) [] pos) X.env = (do
      let ov ← eval o X.env
      standAt apos.atName
      let (f, first) ← holding [ov] (getMethod ov m pl)
      callWith pos f first (backTo pos (starEach (e :: es) X.env)) (backToKw pos (keywordEach [] X.env)))) :
    PE X (.Call (.Attribute o m apos) (e :: es) [] pos) (tMethS C m sp Ex ta t) := by
  refine ⟨fun pins s σ H Q I h => ?_⟩
  refine PySem.W.methodCall_KW (pl := pl) (thn (he.run pins s σ H _ I h) fun u s1 ⟨x, H1, I1, rx, a, dx, fs, ex, ea, l, q⟩ => ?_) ht
  subst ex
  obtain rfl : u = Value.ref a := rx
  refine getmeth_ok I1 ea c hm l ?_
  refine PySem.W.callWith_K (first := [.ref a]) (h₀ := X.base) I.ok.mod.kin hm.kp (thn (ha.run pos pins s1 σ H1 _ I1 q) fun us s2 ⟨vs, H2, I2, r, q2⟩ => ⟨I2.kIn, ?_⟩) hst hpl
  exact F.run_ (us := .ref a :: us) (vs := .ref a :: vs) hr hg hb .nil (hx σ) I2 (.cons rfl r) (by rw [List.append_nil]; exact q2)
theorem pe_methS0 {pl : Sem Bool} (he : PE X o ta) (c : Cls X.K C) (hm : Meth X.K C m f) (F : FnX g X k f fd ps sp) (hr : Room k X.A) (hg : g = true → X.A.guards = some []) (hb : Binds X.K fd ps []) (hx : ∀ σ, PassesAt (L2.CX X.prog X.w) X σ (Ex σ))
    (ht : eval (.Call (.Attribute o m apos) [] [] pos) X.env = (do
      let ov ← eval o X.env
      standAt apos.atName
      let (f, first) ← holding [ov] (getMethod ov m pl)
      callWith pos f first (backTo pos (starEach [] X.env)) (backToKw pos (keywordEach [] X.env)))) :
    PE X (.Call (.Attribute o m apos) [] [] pos) (tMethS C m sp Ex ta tNil) := by
  refine ⟨fun pins s σ H Q I h => ?_⟩
  refine PySem.W.methodCall_KW (pl := pl) (thn (he.run pins s σ H _ I h) fun u s1 ⟨x, H1, I1, rx, a, dx, fs, ex, ea, l, q⟩ => ?_) ht
  subst ex
  obtain rfl : u = Value.ref a := rx
  refine getmeth_ok I1 ea c hm l ?_
  exact PySem.W.callWith_K0 (first := [.ref a]) I1.kIn hm.kp (F.run_ (us := [.ref a]) (vs := [.ref a]) hr hg hb .nil (hx σ) I1 (.cons rfl .nil) q)
end
structure MethAt (g : Bool) (G : Gx) (C : Addr) (m : Str) (k : Nat) (ps : List Str) (sp : Sp) : Prop where
  ex : ∃ f fd, Meth G.K C m f ∧ Binds G.K fd ps [] ∧ FnG g G.P G.w G.K G.mg G.base k f fd ps sp
/-- R tells instances of the class at C, of which m is no field -/
structure InsAt (R : Rel α) (C : Addr) (m : Str) : Prop where
  h : ∀ {x : α} {S : Hp} {v : V}, R.is x S v → ∃ a dx vs, v = .ref a ∧ S a = some (.ins C dx vs) ∧ vs.lookup m = none
theorem ins_at {C : Addr} {fs : α → List (Str × Pr)} {m : Str} (h : ∀ x, (fs x).lookup m = none) : InsAt (rObj C fs) C m := ⟨fun {x S v} ⟨a, dx, vs, e, hh, n, _⟩ => ⟨a, dx, vs, e, hh, n m (h x)⟩⟩
abbrev EvM (o : Expr) (m : Str) (es : List Expr) (apos pos : Pos) (pl : PySem.Env → Sem Bool) : Prop := ∀ env : PySem.Env, eval (.Call (.Attribute o m apos) es [] pos) env = (do
      let ov ← eval o env
      standAt apos.atName
      let (f, first) ← holding [ov] (getMethod ov m (pl env))
      callWith pos f first (backTo pos (starEach es env)) (backToKw pos (keywordEach [] env)))
def zmeth (f : α × β → M τ γ) (m : M τ α) (n : M τ β) : M τ γ := bnd m fun x => bnd n fun y => f (x, y)
theorem z_methP {g : Bool} {C0 : Addr} {me : Str} {k : Nat} {ps : List Str} {Ro : Rel α} {A : β → List Pr} {f : α × β → M Unit ρ} {R : Rel ρ} {o e : Expr} {es : List Expr} {mo : M τ α} {m : M τ β} {pos apos : Pos} {pl : PySem.Env → Sem Bool} (F : MethAt g G C0 me k ps (spZ G (fun _ : Unit => noE) (fun _ (x : α × β) => Ro.pr x.1 :: A x.2) f R)) (cl : Cls G.K C0) (ia : InsAt Ro C0 me) (hk : k ≤ c.k) (hg : g = true → c.gd = true)
    (ho : ZE G c E W Γ o mo Ro) (ha : ZA G c E W Γ (e :: es) m A) (he : Star e es := by intro _; rfl) (hpl : Plain1 es := by intro _ _; rfl) (ht : EvM o me (e :: es) apos pos pl := by intro _; rfl) : ZE G c E W Γ (.Call (.Attribute o me apos) (e :: es) [] pos) (zmeth (fun x => lft (f x)) mo m) R := fun X C => by
  obtain ⟨f0, fd, h1, h2, h3⟩ := F.ex
  rw [← C.prog, ← C.w, ← C.K, ← C.mg, ← C.base] at h3
  rw [← C.K] at h1 h2 cl
  exact pe_wk (pe_methS (Ex := WE W) (ho X C) cl h1 h3 (C.room.mono hk) (fun z => C.gds (hg z)) h2 (passAt C.takes) (ha X C) (he _) (hpl _ _) (ht _)) fun σ H Q _ ⟨B, S, b, hh, qq⟩ =>
    tz_bnd hh qq fun x b1 v S1 H1 s1 hh1 r1 q1 => by
      obtain ⟨a, dx, vs, e1, e2, e3⟩ := ia.h r1
      exact ⟨a, dx, vs, e1, hh1.same _ _ e2, e3, tz_Abnd hh1 q1 fun y b2 us S2 H2 s2 hh2 r2 q2 => tz_spP (q := ()) (x := (x, y)) hh2 ⟨Ro.mono s2 r1, r2⟩ q2⟩
theorem z_methP0 {g : Bool} {C0 : Addr} {me : Str} {k : Nat} {ps : List Str} {Ro : Rel α} {f : α → M Unit ρ} {R : Rel ρ} {o : Expr} {mo : M τ α} {pos apos : Pos} {pl : PySem.Env → Sem Bool} (F : MethAt g G C0 me k ps (spZ G (fun _ : Unit => noE) (fun _ (x : α) => [Ro.pr x]) f R)) (cl : Cls G.K C0) (ia : InsAt Ro C0 me) (hk : k ≤ c.k) (hg : g = true → c.gd = true)
    (ho : ZE G c E W Γ o mo Ro) (ht : EvM o me [] apos pos pl := by intro _; rfl) : ZE G c E W Γ (.Call (.Attribute o me apos) [] [] pos) (zapp (fun x => lft (f x)) mo) R := fun X C => by
  obtain ⟨f0, fd, h1, h2, h3⟩ := F.ex
  rw [← C.prog, ← C.w, ← C.K, ← C.mg, ← C.base] at h3
  rw [← C.K] at h1 h2 cl
  exact pe_wk (pe_methS0 (Ex := WE W) (ho X C) cl h1 h3 (C.room.mono hk) (fun z => C.gds (hg z)) h2 (passAt C.takes) (ht _)) fun σ H Q _ ⟨B, S, b, hh, qq⟩ =>
    tz_bnd hh qq fun x b1 v S1 H1 s1 hh1 r1 q1 => by
      obtain ⟨a, dx, vs, e1, e2, e3⟩ := ia.h r1
      exact ⟨a, dx, vs, e1, hh1.same _ _ e2, e3, tz_spP (q := ()) (x := x) hh1 ⟨r1, trivial⟩ q1⟩
end
end Zk

namespace Zk
open PySem L2

section
variable {τ α β γ δ κ ρ ι θ : Type} {G : Gx} {c : Sc} {E : Eff τ} {W : WX} {Γ Γ' : Env} {B : Bs} {σ : St} {S S1 S' H H' : Hp} {b b' : τ} {L : Ls κ ρ}
/-! ### list comprehensions -/
def nox (m : M τ α) : M τ α := fun s => match m s with | .ok a s' => .ok a s' | .exc _ _ => .stuck | .stuck => .stuck
def zcomp (t : β → M τ Bool) (f : β → M τ γ) : List γ → List β → M τ (List γ)
  | acc, [] => ret acc
  | acc, x :: xs => bnd (nox (t x)) fun k => if k = true then bnd (nox (f x)) fun y => chk (acc.length < sizeLine) (zcomp t f (acc ++ [y]) xs) else zcomp t f acc xs
def zlc (t : β → M τ Bool) (f : β → M τ γ) (m : M τ (List β)) : M τ (List γ) := bnd m fun xs => zcomp t f [] xs
def Wf : WX := fun _ _ _ _ => False
def wipeE (Γ : Env) : List Nat → Env
  | [] => Γ
  | v :: vs => (wipeE Γ vs).set v .no
theorem Hold.wipe (h : Hold E B Γ b σ S H) : ∀ vs : List Nat, Hold E B (wipeE Γ vs) b (wipe σ vs) S H
  | [] => h
  | v :: vs => (h.wipe vs).unset
/-- the context of a comprehension's block -/
abbrev Sc.blk (c : Sc) (scope : Scope) : Sc := ⟨c.N, relS scope c.sc, c.k, false, fun x => scope.names.lookup x == some .cell, c.gd⟩
theorem CtxOk.blk {X : Cx} (C : CtxOk G c W X) (s : Shared) (H : Hp) (scope : Scope) (A : Addr) (cl : List (Str × Addr)) (fp : List Addr) : CtxOk G (c.blk scope) Wf (X.blk s H scope (compEnvC scope cl A X.env) fp) where
  prog := C.prog
  w := C.w
  K := C.K
  mg := C.mg
  base := C.base
  N := C.N
  nd := C.nd
  sc := by show relS scope X.env.scope = _; rw [C.sc]
  calm := C.calm
  room := C.room
  gds := C.gds
  takes := takes0
  owns := PassesOwn.never
  fx := rfl
  isfn := fun h => nomatch h
/-- a new list, filled, seen from outside -/
def Bd (B : Bs) (D : Addr) (o : HO) : Bs := ⟨B.S, upd B.H D o⟩
theorem Hold.cell0 {D : Addr} {o : HO} (h : Hold E B Γ b σ S H) (hD : H D = none) : Hold E (Bd B D o) Γ b σ S (upd H D o) := by
  have hS : S D = none := h.same.free hD
  obtain ⟨Fs, hF, hs⟩ := h.sl
  have ne : ∀ a o, H a = some o → a ≠ D := fun a o e => ne_of_none e hD
  refine ⟨⟨fun a u e => by rw [upd_ne (ne a u (h.same _ _ e))]; exact h.same _ _ e, h.kp.up, fun a u h1 h2 h3 => ?_⟩, E.mono (Same.refl _) (fun _ _ z => z) (fun a u _ e => by rw [upd_ne (ne a u e)]; exact e) h.ef, Fs, ⟨fun i a e => ?_, hF.ds⟩, fun i s e => ?_⟩
  · by_cases ha : a = D
    · subst ha
      have h2 : upd B.H a o a = some u := h2
      rw [upd_same] at h2 ⊢; exact ⟨hS, h2⟩
    · have h2 : upd B.H D o a = some u := h2
      rw [upd_ne ha] at h2 ⊢; exact h.kp.kp a u h1 h2 h3
  · obtain ⟨r1, r2, r3, u, r4⟩ := hF.at_ i a e
    exact ⟨r1, by show upd B.H D o a = none; rw [upd_ne (ne a u r4)]; exact r2, r3, u, by rw [upd_ne (ne a u r4)]; exact r4⟩
  · have q := hs i s e
    cases s with
    | no => trivial
    | st p => exact q
    | ow p => obtain ⟨x, e1, e2⟩ := q; exact ⟨x, e1, p.mono (Same.refl _) (fun a u _ e => by rw [upd_ne (ne a u e)]; exact e) e2⟩
    | gh p => exact p.mono (Same.refl _) (fun a u _ e => by rw [upd_ne (ne a u e)]; exact e) q
theorem Hold.cellAt {D : Addr} {o : HO} (h : Hold E (Bd B D o) Γ b σ S H) (hB : B.S D = none) (hE : ¬ E.own D) : S D = none ∧ H D = some o := h.kp.kp D o hB upd_same hE
theorem Hold.cellSet {D : Addr} {o o' : HO} (h : Hold E (Bd B D o) Γ b σ S H) (hB : B.S D = none) (hE : ¬ E.own D) : Hold E (Bd B D o') Γ b σ S (upd H D o') := by
  obtain ⟨hS, _⟩ := h.cellAt hB hE
  obtain ⟨Fs, hF, hs⟩ := h.sl
  have nF : ∀ i a, Fs i a → a ≠ D := fun i a e z => by
    have := (hF.at_ i a e).2.1
    rw [z] at this
    have this : upd B.H D o D = none := this
    rw [upd_same] at this; cases this
  refine ⟨⟨fun a u e => by rw [upd_ne (fun z => by rw [z, hS] at e; cases e)]; exact h.same _ _ e, h.kp.up, fun a u h1 h2 h3 => ?_⟩, E.mono (Same.refl _) (fun _ _ z => z) (fun a u ha e => by rw [upd_ne (fun z => hE (by rw [← z]; exact ha))]; exact e) h.ef, Fs, ⟨fun i a e => ?_, hF.ds⟩, fun i s e => ?_⟩
  · by_cases ha : a = D
    · subst ha
      have h2 : upd B.H a o' a = some u := h2
      rw [upd_same] at h2 ⊢; exact ⟨hS, h2⟩
    · have h2 : upd B.H D o' a = some u := h2
      rw [upd_ne ha] at h2 ⊢; exact h.kp.kp a u h1 (by show upd B.H D o a = some u; rw [upd_ne ha]; exact h2) h3
  · obtain ⟨r1, r2, r3, u, r4⟩ := hF.at_ i a e
    have n := nF i a e
    have r2 : upd B.H D o a = none := r2
    rw [upd_ne n] at r2
    exact ⟨r1, by show upd B.H D o' a = none; rw [upd_ne n]; exact r2, r3, u, by rw [upd_ne n]; exact r4⟩
  · have q := hs i s e
    cases s with
    | no => trivial
    | st p => exact q
    | ow p => obtain ⟨x, e1, e2⟩ := q; exact ⟨x, e1, p.mono (Same.refl _) (fun a u ha e => by rw [upd_ne (nF i a ha)]; exact e) e2⟩
    | gh p => exact p.mono (Same.refl _) (fun a u ha e => by rw [upd_ne (nF i a ha)]; exact e) q
/-- .. the list left out of the heap -/
theorem Hold.cellOff {D : Addr} {o : HO} (h : Hold E (Bd B D o) Γ b σ S H) (hB : B.S D = none) (hBH : B.H D = none) (hE : ¬ E.own D) : Hold E B Γ b σ S (del H D) := by
  obtain ⟨hS, _⟩ := h.cellAt hB hE
  obtain ⟨Fs, hF, hs⟩ := h.sl
  have nF : ∀ i a, Fs i a → a ≠ D := fun i a e z => by
    have := (hF.at_ i a e).2.1
    rw [z] at this
    have this : upd B.H D o D = none := this
    rw [upd_same] at this; cases this
  refine ⟨⟨fun a u e => by rw [del_ne (fun z => by rw [z, hS] at e; cases e)]; exact h.same _ _ e, h.kp.up, fun a u h1 h2 h3 => ?_⟩, E.mono (Same.refl _) (fun _ _ z => z) (fun a u ha e => by rw [del_ne (fun z => hE (by rw [← z]; exact ha))]; exact e) h.ef, Fs, ⟨fun i a e => ?_, hF.ds⟩, fun i s e => ?_⟩
  · have ha : a ≠ D := fun z => by rw [z, hBH] at h2; cases h2
    rw [del_ne ha]; exact h.kp.kp a u h1 (by show upd B.H D o a = some u; rw [upd_ne ha]; exact h2) h3
  · obtain ⟨r1, r2, r3, u, r4⟩ := hF.at_ i a e
    have n := nF i a e
    have r2 : upd B.H D o a = none := r2
    rw [upd_ne n] at r2
    exact ⟨r1, r2, r3, u, by rw [del_ne n]; exact r4⟩
  · have q := hs i s e
    cases s with
    | no => trivial
    | st p => exact q
    | ow p => obtain ⟨x, e1, e2⟩ := q; exact ⟨x, e1, p.mono (Same.refl _) (fun a u ha e => by rw [del_ne (nF i a ha)]; exact e) e2⟩
    | gh p => exact p.mono (Same.refl _) (fun a u ha e => by rw [del_ne (nF i a ha)]; exact e) q
theorem lc_src {P : Hp → Hp → Prop} {J : It} {xs : List β} {R : Rel β} {I : Hp → Prop} (src : Src P J xs R I) {g : TG} {tt : TT} {te : TE} {vs : List Nat} {σ : St} {H1 : Hp} {D : Addr} {Qd : Hp → Prop} (Pv : Nat → Hp → Prop) (h0 : Pv 0 (upd H1 D (.lst []))) (hl : ∀ i H, i ≤ xs.length → Pv i H → ∃ S, Same S H ∧ P S H ∧ I S)
    (hs : ∀ i y H, xs[i]? = some y → Pv i H → ∀ x H', J.yld i H x H' → g x (wipe σ vs) H' fun σ2 H2 => wipe σ2 vs = wipe σ vs ∧ tt σ2 H2 fun b H3 =>
      if b = true then te σ2 H3 fun y H4 => ∃ acc, H4 D = some (.lst acc) ∧ acc.length < sizeLine ∧ Pv (i + 1) (upd H4 D (.lst (acc ++ [y]))) else Pv (i + 1) H3) (hd : ∀ H, Pv xs.length H → Qd H) :
    ∃ W : Nat → Nat → Hp → Prop, (∃ m, W 0 m (upd H1 D (.lst []))) ∧ ∀ i m H, W i m H →
      (J.stop i H ∧ Qd H) ∨ (J.go i H ∧ ∃ Nx : Hp → Prop, (∀ H', Nx H' → ∃ m', m' < m ∧ W (i + 1) m' H') ∧ ∀ x H', J.yld i H x H' → g x (wipe σ vs) H' fun σ2 H2 => wipe σ2 vs = wipe σ vs ∧ tt σ2 H2 fun b H3 =>
        if b = true then te σ2 H3 fun y H4 => ∃ acc, H4 D = some (.lst acc) ∧ acc.length < sizeLine ∧ Nx (upd H4 D (.lst (acc ++ [y]))) else Nx H3) := by
  refine ⟨fun i m H => m = xs.length - i ∧ i ≤ xs.length ∧ Pv i H, ⟨xs.length, by simp, Nat.zero_le _, h0⟩, ?_⟩
  rintro i m H ⟨rfl, hi, p⟩
  obtain ⟨S, s, hP, hI⟩ := hl i H hi p
  by_cases hlt : i < xs.length
  · exact .inr ⟨src.go s hP hI hlt, Pv (i + 1), fun H' p' => ⟨xs.length - (i + 1), by omega, rfl, hlt, p'⟩, fun x H' y => hs i xs[i] H (by simp [hlt]) p x H' y⟩
  · have e : i = xs.length := by omega
    subst e
    exact .inl ⟨src.st s hP hI, hd H p⟩
/-- the tests of a comprehension's clause -/
def ZTs (G : Gx) (c : Sc) (E : Eff τ) (W : WX) (Γ : Env) (es : List Expr) (m : M τ Bool) : Prop := ∀ X, CtxOk G c W X → PTs X es (tzT G E W Γ m)
theorem pts_wk {X : Cx} {es : List Expr} {t t' : TT} (h : PTs X es t) (w : ∀ σ H Q, t' σ H Q → t σ H Q) : PTs X es t' := ⟨fun pins s σ H Q I q => h.run pins s σ H Q I (w σ H Q q)⟩
theorem pts_ex {ι : Type} {X : Cx} {e : List Expr} {t : ι → TT} (h : ∀ i, PTs X e (t i)) : PTs X e (fun σ H Q => ∃ i, t i σ H Q) := ⟨fun pins s σ H Q I ⟨i, q⟩ => (h i).run pins s σ H Q I q⟩
theorem zts_nil : ZTs G c E W Γ [] (ret true) := fun X C => pts_wk pts_nil fun σ H Q ⟨B, S, b, hh, q⟩ => q S H (Same.refl _) hh
theorem zts_one {e : Expr} {m : M τ Bool} (h : ZT G c E W Γ e m) : ZTs G c E W Γ [e] m := fun X C => pts_one (h X C)
def lcEnd (E : Eff τ) (B : Bs) (Γ : Env) (σ : St) (S : Hp) (R' : Rel γ) (Q : VK) : Out τ (List γ) → Prop
  | .ok ys b' => ∀ D S' H' us, Same S S' → Hold E (Bd B D (.lst us)) Γ b' σ S' H' → B.S D = none → B.H D = none → ¬ E.own D → All2 (fun x v => R'.is x S' v) ys us → Q (.ref D) H'
  | _ => False
theorem lcEnd.same {R' : Rel γ} {Q : VK} (s : Same S S1) : ∀ {o : Out τ (List γ)}, lcEnd E B Γ σ S R' Q o → lcEnd E B Γ σ S1 R' Q o
  | .ok _ _, h => fun D S' H' us s2 => h D S' H' us (s.trans s2)
  | .exc _ _, h => h
  | .stuck, h => h
theorem lcEnd_bnd {m : M τ α} {f : α → M τ (List γ)} {R' : Rel γ} {Q : VK} (h : lcEnd E B Γ σ S R' Q (bnd (nox m) f b)) : ∃ a b1, m b = .ok a b1 ∧ lcEnd E B Γ σ S R' Q (f a b1) := by
  unfold bnd nox at h
  cases e : m b with
  | ok a b1 => rw [e] at h; exact ⟨a, b1, rfl, h⟩
  | exc x b1 => rw [e] at h; exact h.elim
  | stuck => rw [e] at h; exact h.elim
theorem wipe_wipe {vs : List Nat} {σ : St} : ∀ {ws : List Nat}, (∀ w ∈ ws, w ∈ vs) → L2.wipe (L2.wipe σ ws) vs = L2.wipe σ vs
  | [], _ => rfl
  | w :: ws, h => by
    have e : L2.wipe σ (w :: ws) = (L2.wipe σ ws).set w none := rfl
    rw [e, wipe_set (h w (by simp))]
    exact wipe_wipe fun x hx => h x (by simp [hx])
theorem wipeE_in {i : Nat} {s : Sl} : ∀ {vs : List Nat}, i ∈ vs → (wipeE Γ vs)[i]? = some s → s = .no
  | v :: vs, h, e => by
    unfold wipeE at e
    rcases set_get e with ⟨_, r⟩ | ⟨n, e⟩
    · exact r
    · exact wipeE_in (by simpa [n] using h) e
theorem wipe_out' {i : Nat} {σ : St} : ∀ {vs : List Nat}, i ∉ vs → (L2.wipe σ vs)[i]? = σ[i]?
  | [], _ => rfl
  | v :: vs, h => by
    have e : L2.wipe σ (v :: vs) = (L2.wipe σ vs).set v none := rfl
    simp only [List.mem_cons, not_or] at h
    rw [e, List.getElem?_set_ne (Ne.symm h.1)]
    exact wipe_out' h.2
/-- a slot of the block, seen from the def -/
theorem Hold.unwipe {vs : List Nat} {σ σ2 : St} {Γ1 : Env} (hΓ : ∀ (i : Nat), i ∉ vs → Γ1[i]? = (wipeE Γ vs)[i]?) (hw : L2.wipe σ2 vs = L2.wipe σ vs) (h : Hold E B Γ1 b σ2 S H) : Hold E B (wipeE Γ vs) b (L2.wipe σ vs) S H := by
  obtain ⟨Fs, hF, hs⟩ := h.sl
  refine ⟨h.kp, h.ef, Fs, hF, fun i s e => ?_⟩
  by_cases hi : i ∈ vs
  · have := wipeE_in hi e
    subst this; trivial
  · have q := hs i s (by rw [hΓ i hi]; exact e)
    have e1 : (L2.wipe σ vs)[i]? = σ2[i]? := by rw [← hw]; exact wipe_out' hi
    rw [e1]; exact q
/-- the reading of a comprehension: the list D with ys is there -/
theorem lc_core {m : M τ (List β)} {t : β → M τ Bool} {f : β → M τ γ} {R : Rel β} {R' : Rel γ} {Γ1 : β → Env} {vs : List Nat} {σ : St} {H : Hp} {Q : VK} (hh : Hold E B Γ b σ S H) (hk : ∀ x (i : Nat), i ∉ vs → (Γ1 x)[i]? = (wipeE Γ vs)[i]?)
    (q : match m b with
      | .ok xs b1 => ∀ S1, Same S S1 → lcEnd E B (wipeE Γ vs) (L2.wipe σ vs) S1 R' Q (zcomp t f [] xs b1)
      | .exc x b' => ∀ c d S' H', Same S S' → Hold E B Γ b' σ S' H' → XAt G x H' c d → W c d σ H'
      | .stuck => False) :
    tLc (tzI G E W Γ m R) (tzG E (wipeE Γ vs) vs Γ1 R) (fun σ H Q => ∃ x, tzT G E Wf (Γ1 x) (t x) σ H Q) (fun σ H Q => ∃ x, tzE G E Wf (Γ1 x) (f x) R' σ H Q) vs σ H Q := by
  refine ⟨B, S, b, hh, ?_⟩
  cases e : m b with
  | stuck => rw [e] at q; exact q.elim
  | exc x b1 => rw [e] at q; exact q
  | ok xs b1 =>
    rw [e] at q
    intro J I S1 H1 s1 h1 src hI D hD
    have hE := h1.fr hD
    have hS1 : S1 D = none := h1.same.free hD
    have hBS : B.S D = none := h1.kp.up.free hS1
    have hBH : B.H D = none := by
      cases z : B.H D with
      | none => rfl
      | some o => have := (h1.kp.kp D o hBS z hE).2; rw [hD] at this; cases this
    have hw := (h1.cell0 (o := .lst []) hD).wipe vs
    refine lc_src (g := tzG E (wipeE Γ vs) vs Γ1 R) (tt := fun σ H Q => ∃ x, tzT G E Wf (Γ1 x) (t x) σ H Q) (te := fun σ H Q => ∃ x, tzE G E Wf (Γ1 x) (f x) R' σ H Q) (vs := vs) (σ := σ) (Qd := fun H => Q (.ref D) H) src
      (fun i H => ∃ S b us acc, Same S1 S ∧ Hold E (Bd B D (.lst us)) (wipeE Γ vs) b (L2.wipe σ vs) S H ∧ All2 (fun x v => R'.is x S v) acc us ∧ lcEnd E B (wipeE Γ vs) (L2.wipe σ vs) S R' Q (zcomp t f acc (xs.drop i) b))
      ⟨S1, b1, [], [], Same.refl _, hw, trivial, by rw [List.drop_zero]; exact q S1 s1⟩ (fun i H _ ⟨S, _, _, _, s, h, _⟩ => ⟨S, h.same, ⟨_, h.ef⟩, src.mono s hI⟩) ?_ ?_
    · rintro i y H hy ⟨S2, b2, us, acc, s2, h2, r2, q2⟩ x H' yl
      have hd : xs.drop i = y :: xs.drop (i + 1) := by
        obtain ⟨h1, h2⟩ := List.getElem?_eq_some_iff.mp hy
        rw [List.drop_eq_getElem_cons h1, h2]
      rw [hd] at q2
      obtain ⟨k, b3, ek, q3⟩ := lcEnd_bnd q2
      have go : ∀ S' H', Same S2 S' → Hold E (Bd B D (.lst us)) (wipeE Γ vs) b2 (L2.wipe σ vs) S' H' → R.is y S' x → tzG E (wipeE Γ vs) vs Γ1 R x (L2.wipe σ vs) H' fun σ2 H2 => L2.wipe σ2 vs = L2.wipe σ vs ∧ (∃ x, tzT G E Wf (Γ1 x) (t x) σ2 H2 fun b H3 =>
          if b = true then ∃ x, tzE G E Wf (Γ1 x) (f x) R' σ2 H3 fun y H4 => ∃ vacc, H4 D = some (.lst vacc) ∧ vacc.length < sizeLine ∧ (∃ S b us, ∃ acc : List γ, Same S1 S ∧ Hold E (Bd B D (.lst us)) (wipeE Γ vs) b (L2.wipe σ vs) S (upd H4 D (.lst (vacc ++ [y]))) ∧ All2 (fun x v => R'.is x S v) acc us ∧ lcEnd E B (wipeE Γ vs) (L2.wipe σ vs) S R' Q (zcomp t f acc (xs.drop (i + 1)) b))
          else (∃ S b us acc, Same S1 S ∧ Hold E (Bd B D (.lst us)) (wipeE Γ vs) b (L2.wipe σ vs) S H3 ∧ All2 (fun x v => R'.is x S v) acc us ∧ lcEnd E B (wipeE Γ vs) (L2.wipe σ vs) S R' Q (zcomp t f acc (xs.drop (i + 1)) b))) := by
        intro S' H' s' h' r'
        refine ⟨_, S', b2, y, h', r', fun σ' hwσ h'' => ?_⟩
        have hw' : L2.wipe σ' vs = L2.wipe σ vs := hwσ.trans (wipe_wipe fun _ h => h)
        refine ⟨hw', y, _, S', b2, h'', ?_⟩
        rw [ek]
        intro S3 H3 s3 h3
        have q3 := q3.same (s'.trans s3)
        cases k with
        | false =>
          rw [if_neg (by decide)] at q3 ⊢
          exact ⟨S3, b3, us, acc, (s2.trans s').trans s3, h3.unwipe (hk y) hw', All2.rel (s'.trans s3) r2, q3⟩
        | true =>
          rw [if_pos rfl] at q3 ⊢
          obtain ⟨z, b4, ez, q4⟩ := lcEnd_bnd q3
          refine ⟨y, _, S3, b3, h3, ?_⟩
          rw [ez]
          intro v S4 H4 s4 h4 rz
          obtain ⟨_, hD4⟩ := h4.cellAt hBS hE
          unfold chk at q4
          by_cases hz : acc.length < sizeLine
          · rw [if_pos hz] at q4
            exact ⟨us, hD4, by rw [← r2.length]; exact hz, S4, b4, us ++ [v], acc ++ [z], ((s2.trans s').trans s3).trans s4, (h4.unwipe (hk y) hw').cellSet hBS hE, (All2.rel ((s'.trans s3).trans s4) r2).append ⟨rz, trivial⟩, q4.same s4⟩
          · rw [if_neg hz] at q4; exact q4.elim
      rcases src.yl h2.same ⟨_, h2.ef⟩ (src.mono s2 hI) hy yl with ⟨e1, r⟩ | ⟨p, o, hp, e1, r⟩
      · subst e1; exact go S2 _ (Same.refl _) h2 r
      · subst e1; exact go (upd S2 p o) _ (same_new (h2.same.free hp)) (h2.new hp) r
    · rintro H ⟨S2, b2, us, acc, s2, h2, r2, q2⟩
      rw [List.drop_length] at q2
      exact q2 D S2 H us (Same.refl _) h2 hBS hBH hE r2
theorem wipe_back {vs : List Nat} (hΓ : ∀ (i : Nat) s, Γ[i]? = some s → s = .no ∨ i ∉ vs) (h : Hold E B (wipeE Γ vs) b (L2.wipe σ vs) S H) : Hold E B Γ b σ S H := by
  obtain ⟨Fs, hF, hs⟩ := h.sl
  refine ⟨h.kp, h.ef, Fs, hF, fun i s e => ?_⟩
  rcases hΓ i s e with r | r
  · subst r; trivial
  · have e2 : (wipeE Γ vs)[i]? = some s := by
      have : ∀ {vs : List Nat}, i ∉ vs → (wipeE Γ vs)[i]? = Γ[i]? := by
        intro vs
        induction vs with
        | nil => intro _; rfl
        | cons v vs ih => intro h; simp only [List.mem_cons, not_or] at h; unfold wipeE; rw [List.getElem?_set_ne (Ne.symm h.1)]; exact ih h.2
      rw [this r]; exact e
    have q := hs i s e2
    rw [wipe_out' r] at q; exact q
theorem bnd_noexc {m : M τ α} {f : α → M τ γ} {x : Exc} {b' : τ} (h : ∀ a b1, f a b1 ≠ .exc x b') : bnd (nox m) f b ≠ .exc x b' := by
  unfold bnd nox
  cases m b with
  | stuck => intro h; cases h
  | exc e b1 => intro h; cases h
  | ok k b1 => exact h k b1
theorem zcomp_noexc {t : β → M τ Bool} {f : β → M τ γ} : ∀ {xs : List β} {acc : List γ} {b : τ} {x : Exc} {b' : τ}, zcomp t f acc xs b ≠ .exc x b'
  | [], acc, b, x, b' => by unfold zcomp; intro h; cases h
  | y :: xs, acc, b, x, b' => by
    unfold zcomp
    refine bnd_noexc fun k b1 => ?_
    cases k with
    | false => exact zcomp_noexc
    | true =>
      refine bnd_noexc (f := fun z => chk (acc.length < sizeLine) (zcomp t f (acc ++ [z]) xs)) fun z b2 => ?_
      unfold chk
      split
      · exact zcomp_noexc
      · intro h; cases h
theorem del_back {D : Addr} {o : HO} {H : Hp} (h : H D = some o) : upd (del H D) D o = H := by
  funext a
  by_cases ha : a = D
  · subst ha; rw [upd_same, h]
  · rw [upd_ne ha, del_ne ha]
theorem lc_stable {m : M τ (List β)} {t : β → M τ Bool} {f : β → M τ γ} {R' : Rel γ} {vs : List Nat} {Q : VK} (hΓ : ∀ (i : Nat) s, Γ[i]? = some s → s = .no ∨ i ∉ vs) (q : aft G E W B Γ σ S (rLst R') Q (zlc t f m b)) :
    match m b with
      | .ok xs b1 => ∀ S1, Same S S1 → lcEnd E B (wipeE Γ vs) (L2.wipe σ vs) S1 R' Q (zcomp t f [] xs b1)
      | .exc x b' => ∀ c d S' H', Same S S' → Hold E B Γ b' σ S' H' → XAt G x H' c d → W c d σ H'
      | .stuck => False := by
  unfold zlc bnd at q
  cases e : m b with
  | stuck => rw [e] at q; exact q
  | exc x b1 => rw [e] at q; exact q
  | ok xs b1 =>
    rw [e] at q
    intro S1 s1
    dsimp only at q
    cases e2 : zcomp t f [] xs b1 with
    | stuck => rw [e2] at q; exact q
    | exc x b2 => exact absurd e2 zcomp_noexc
    | ok ys b2 =>
      rw [e2] at q
      intro D S' H' us s' h hBS hBH hE r
      obtain ⟨hS, hD⟩ := h.cellAt hBS hE
      have h2 := h.cellOff hBS hBH hE
      have h3 := h2.new (o := .lst us) (p := D) del_same
      rw [del_back hD] at h3
      exact q _ (upd S' D (.lst us)) H' ((s1.trans s').trans (same_new hS)) (wipe_back hΓ h3) (rLst_new hS r)
theorem lc_own {m : M τ (List β)} {t : β → M τ Bool} {f : β → M τ γ} {R' : Rel γ} {vs : List Nat} {Q : VK} (hΓ : ∀ (i : Nat) s, Γ[i]? = some s → s = .no ∨ i ∉ vs) (q : aftF G E W B Γ σ S (ownL R') Q (zlc t f m b)) :
    match m b with
      | .ok xs b1 => ∀ S1, Same S S1 → lcEnd E B (wipeE Γ vs) (L2.wipe σ vs) S1 R' Q (zcomp t f [] xs b1)
      | .exc x b' => ∀ c d S' H', Same S S' → Hold E B Γ b' σ S' H' → XAt G x H' c d → W c d σ H'
      | .stuck => False := by
  unfold zlc bnd at q
  cases e : m b with
  | stuck => rw [e] at q; exact q
  | exc x b1 => rw [e] at q; exact q
  | ok xs b1 =>
    rw [e] at q
    intro S1 s1
    dsimp only at q
    cases e2 : zcomp t f [] xs b1 with
    | stuck => rw [e2] at q; exact q
    | exc x b2 => exact absurd e2 zcomp_noexc
    | ok ys b2 =>
      rw [e2] at q
      intro D S' H' us s' h hBS hBH hE r
      obtain ⟨hS, hD⟩ := h.cellAt hBS hE
      have h2 := h.cellOff hBS hBH hE
      exact q _ S' (del H' D) H' (fun x => x = D) (s1.trans s') (wipe_back hΓ h2) (fun x e => by subst e; exact ⟨del_same, _, hD⟩) (fun x n => (del_ne n).symm) ⟨D, us, rfl, fun _ => Iff.rfl, hD, r⟩
/-- a comprehension's parts: its scope, its own names' slots -/
structure Lc (G : Gx) (c : Sc) (E : Eff τ) (W : WX) (Γ : Env) (elt tg iter : Expr) (ifs : List Expr) (scope : Scope) (own : List (Str × Nat)) (m : M τ (List β)) (t : β → M τ Bool) (f : β → M τ γ) (R : Rel β) (R' : Rel γ) (Γ1 : β → Env) : Prop where
  ok : BlkOk c.N c.sc scope own
  hi : ZI G c E W Γ tg iter m R
  hg : ZG G (c.blk scope) E Wf (wipeE Γ (own.map (·.2))) (own.map (·.2)) tg Γ1 R
  ht : ∀ x, ZTs G (c.blk scope) E Wf (Γ1 x) ifs (t x)
  he : ∀ x, ZE G (c.blk scope) E Wf (Γ1 x) elt (f x) R'
  no : ∀ (i : Nat) s, Γ[i]? = some s → s = .no ∨ i ∉ own.map (·.2)
  fs : ∀ (env : PySem.Env) x, foldedSetIterable iter env x = pure x
theorem Lc.pe {elt tg iter : Expr} {ifs : List Expr} {scope : Scope} {own : List (Str × Nat)} {pos : Pos} {m : M τ (List β)} {t : β → M τ Bool} {f : β → M τ γ} {R : Rel β} {R' : Rel γ} {Γ1 : β → Env} (l : Lc G c E W Γ elt tg iter ifs scope own m t f R R' Γ1) {X : Cx} (C : CtxOk G c W X) :
    PE X (.ListComp elt [⟨tg, iter, ifs, 0⟩] scope pos) (tLc (tzI G E W Γ m R) (tzG E (wipeE Γ (own.map (·.2))) (own.map (·.2)) Γ1 R) (fun σ H Q => ∃ x, tzT G E Wf (Γ1 x) (t x) σ H Q) (fun σ H Q => ∃ x, tzE G E Wf (Γ1 x) (f x) R' σ H Q) (own.map (·.2))) :=
  pe_lc C.calm C.set_hN (l.hi X C) (by rw [C.N, C.sc]; exact l.ok) (fun s H A cl fp => l.hg.1 _ (C.blk s H scope A cl fp)) (fun s H A cl fp => pts_ex fun x => l.ht x _ (C.blk s H scope A cl fp)) (fun s H A cl fp => pe_ex fun x => l.he x _ (C.blk s H scope A cl fp)) (l.fs _)
theorem z_lc {elt tg iter : Expr} {ifs : List Expr} {scope : Scope} {own : List (Str × Nat)} {pos : Pos} {m : M τ (List β)} {t : β → M τ Bool} {f : β → M τ γ} {R : Rel β} {R' : Rel γ} {Γ1 : β → Env} (l : Lc G c E W Γ elt tg iter ifs scope own m t f R R' Γ1) : ZE G c E W Γ (.ListComp elt [⟨tg, iter, ifs, 0⟩] scope pos) (zlc t f m) (rLst R') := fun X C =>
  pe_wk (l.pe C) fun σ H Q _ ⟨B, S, b, hh, q⟩ => lc_core hh l.hg.2 (lc_stable l.no q)
theorem zf_lc {elt tg iter : Expr} {ifs : List Expr} {scope : Scope} {own : List (Str × Nat)} {pos : Pos} {m : M τ (List β)} {t : β → M τ Bool} {f : β → M τ γ} {R : Rel β} {R' : Rel γ} {Γ1 : β → Env} (l : Lc G c E W Γ elt tg iter ifs scope own m t f R R' Γ1) : ZF G c E W Γ (.ListComp elt [⟨tg, iter, ifs, 0⟩] scope pos) (zlc t f m) (ownL R') := fun X C =>
  pe_wk (l.pe C) fun σ H Q _ ⟨B, S, b, hh, q⟩ => lc_core hh l.hg.2 (lc_own l.no q)
theorem Lc.ps {i : Nat} {y : Str} {py spos : Pos} {elt tg iter : Expr} {ifs : List Expr} {scope : Scope} {own : List (Str × Nat)} {pos : Pos} {m : M τ (List β)} {t : β → M τ Bool} {f : β → M τ γ} {R : Rel β} {R' : Rel γ} {Γ1 : β → Env} (l : Lc G c E W Γ elt tg iter ifs scope own m t f R R' Γ1) (n : c.N[i]? = some y) (hy : c.sc.names.lookup y = some .local) (hk : c.sc.kind = .function)
    (hl : (py.line == pos.line) = true) (ha : (scope.names.any fun (n, k) => n == y && (k == .local || k == .cell)) = false) {X : Cx} (C : CtxOk G c W X) :
    PS X (.Assign [.Name y py] (.ListComp elt [⟨tg, iter, ifs, 0⟩] scope pos) spos) (tAsg (tLc (tzI G E W Γ m R) (tzG E (wipeE Γ (own.map (·.2))) (own.map (·.2)) Γ1 R) (fun σ H Q => ∃ x, tzT G E Wf (Γ1 x) (t x) σ H Q) (fun σ H Q => ∃ x, tzE G E Wf (Γ1 x) (f x) R' σ H Q) (own.map (·.2))) (gName i)) :=
  ps_setLc C.calm C.set_hN (C.hi n) (by rw [C.sc]; exact hy) (sw_true (by rw [C.sc]; exact hk) (by rw [C.sc]; exact hy) hl ha) (l.hi X C) (by rw [C.N, C.sc]; exact l.ok) (fun s H A cl fp => l.hg.1 _ (C.blk s H scope A cl fp)) (fun s H A cl fp => pts_ex fun x => l.ht x _ (C.blk s H scope A cl fp)) (fun s H A cl fp => pe_ex fun x => l.he x _ (C.blk s H scope A cl fp)) (l.fs _)
theorem zs_setLc {i : Nat} {y : Str} {py spos : Pos} {elt tg iter : Expr} {ifs : List Expr} {scope : Scope} {own : List (Str × Nat)} {pos : Pos} {m : M τ (List β)} {t : β → M τ Bool} {f : β → M τ γ} {R : Rel β} {R' : Rel γ} {Γ1 : β → Env} (l : Lc G c E W Γ elt tg iter ifs scope own m t f R R' Γ1) (n : c.N[i]? = some y) (hy : c.sc.names.lookup y = some .local) (hk : c.sc.kind = .function) (sx : Sub E Γ L.x)
    (hl : (py.line == pos.line) = true) (ha : (scope.names.any fun (n, k) => n == y && (k == .local || k == .cell)) = false) : ZS G c E W L Γ (.Assign [.Name y py] (.ListComp elt [⟨tg, iter, ifs, 0⟩] scope pos) spos) (zset (zlc t f m)) (fun v => Γ.set i (.st ((rLst R').pr v))) := fun X C =>
  ps_wk (l.ps n hy hk hl ha C) fun D σ H hlen ⟨B, S, b, hh, q⟩ => lc_core hh l.hg.2 (lc_stable l.no (by
    show aft G E W B Γ σ S (rLst R') (fun x H1 => gName i x σ H1 D.nx) (zlc t f m b)
    unfold zset bnd at q
    cases e : zlc t f m b with
    | stuck => rw [e] at q; exact q
    | exc x b1 => rw [e] at q; exact fun c d S1 H1 _ h1 xa => let ⟨S2, _, h2⟩ := sx h1; q c d σ S2 H1 h2 xa
    | ok ys b1 => rw [e] at q; exact fun v S1 H1 s1 h1 r => q _ S1 H1 s1 (h1.set (C.lt n hlen) r)))
end
end Zk

namespace Zk
open PySem L2

section
variable {X : Cx} {CX : CXT} {k n : Nat} {f C : Addr} {fd : FuncData} {ps ks : List Str} {sp : Sp} {dvs : List V} {ds : List Value} {Ex : St → XK} {x : Str} {p pos : Pos} {e : Expr} {es : List Expr} {kws : List Keyword} {t tk : TA} {g : List Value → List Value → List Value} {gV : List V → List V → List V} {gd : Bool}
theorem mk_gd {A : Around} {C : Addr} {us : List Value} {kw : List (Str × Value)} (h : gd = true → A.guards = some []) : gd = true → (A.under (.builtin "type.__call__" ⟨.ref C :: us, kw⟩)).guards = some [] := fun z => by
  simp [Around.under, Code.guards, Code.isGuard, guardIds, pushGuards, h z]
theorem run_makeS {pins : List (Addr × Obj)} {σ : St} {H : Hp} {s : Shared} {Q : VK} {us : List Value} {vs : List V} (M : Mk X.K C f) (F : FnX gd X k f fd ps sp) (hr : Room (k + 1) X.A) (hgd : gd = true → X.A.guards = some []) (hb : Binds X.K fd ps ds) (hd : Vals dvs ds)
    (hx : PassesAt (L2.CX X.prog X.w) X σ (Ex σ)) (I : Inv X pins σ H s) (r : Vals vs us)
    (h : ∀ x dx, H x = none → H dx = none → dx ≠ x → sp (.ref x :: (vs ++ dvs)) (upd (upd H dx (.own x)) x (.ins C dx [])) (fun v H2 => v = .non ∧ Q (.ref x) H2) (Ex σ)) :
    wpAny (model X.prog X.w) X.A (call (.ref C) us) (EP X pins σ Q) X.xe s := by
  have hq := h (s.heap.objs.size + 1) s.heap.objs.size (I.hok.fresh (Nat.le_succ _)) (I.hok.fresh (Nat.le_refl _)) (Nat.ne_of_lt (Nat.lt_succ_self _))
  have I2 := Inv.made (C := C) I
  have r2 : Vals (V.ref (s.heap.objs.size + 1) :: (vs ++ dvs)) (Value.ref (s.heap.objs.size + 1) :: (us ++ ds)) := .cons rfl (r.append hd)
  have hl : (Value.ref (s.heap.objs.size + 1) :: us ++ ds).length = ps.length := by
    have e := r2.length
    rw [F.len _ _ _ _ hq] at e
    exact e.symm
  refine wpAny_call (make_map (f := f) I.kIn M.makes M.init (beq_iff_eq.mp M.fn) (codeAny_mono (F.go _ X.stack _ _ ⟨Value.ref (s.heap.objs.size + 1) :: us, []⟩ (Value.ref (s.heap.objs.size + 1) :: (us ++ ds)) _ _ (Ex σ) (hr.make C us []) (mk_gd hgd)
    (I2.env0.make C us []) (hb _ (Value.ref (s.heap.objs.size + 1) :: us) I2.kIn hl) r2 hq) fun r s' hq' => ?_))
  cases r with
  | error e => exact hx pins _ _ e s' I2 hq'
  | ok fl =>
    cases fl with
    | ret u =>
      obtain ⟨v, H', I3, rv, ev, q3⟩ := I2.after hq'
      subst ev
      exact ⟨rv, ⟨V.ref (s.heap.objs.size + 1), H', I3, rfl, q3⟩⟩
    | next => exact False.elim hq'
    | brk => exact False.elim hq'
    | cont => exact False.elim hq'
def tMakeS (C : Addr) (sp : Sp) (dvs : List V) (Ex : St → XK) (t : TA) : TE := fun σ H Q => t σ H fun vs H1 => ∀ x dx, H1 x = none → H1 dx = none → dx ≠ x →
  sp (.ref x :: (vs ++ dvs)) (upd (upd H1 dx (.own x)) x (.ins C dx [])) (fun v H2 => v = .non ∧ Q (.ref x) H2) (Ex σ)
theorem pe_makeS (M : Mk X.K C f) (F : FnX gd X k f fd ps sp) (hr : Room (k + 1) X.A) (hgd : gd = true → X.A.guards = some []) (hg : Gl X x) (hm : X.mg x = some (.ref C)) (hb : Binds X.K fd ps ds) (hd : Vals dvs ds) (hx : ∀ σ, PassesAt (L2.CX X.prog X.w) X σ (Ex σ))
    (ha : PA X (e :: es) t) (hdb : (x == ("__debug__" : Str)) = false) (he : starEach (e :: es) X.env = (false, eval e X.env) :: starEach es X.env) (hpl : (backTo pos (starEach es X.env)).any (·.1) = false) :
    PE X (.Call (.Name x p) (e :: es) [] pos) (tMakeS C sp dvs Ex t) := by
  refine ⟨fun pins s σ H Q I h => ?_⟩
  refine wpAny_Call_Name_kw (ld_glob I hg hm ?_ hdb)
  refine PySem.W.callWith_K (h₀ := X.base) I.ok.mod.kin M.kp (thn (ha.run pos pins s σ H _ I h) fun us s1 ⟨vs, H1, I1, r, q⟩ => ⟨I1.kIn, ?_⟩) he hpl
  exact run_makeS M F hr hgd hb hd (hx σ) I1 r q
theorem run_makeKS {pins : List (Addr × Obj)} {σ : St} {H : Hp} {s : Shared} {Q : VK} {us ws : List Value} {vs zs : List V} (M : Mk X.K C f) (F : FnX gd X k f fd ps sp) (hr : Room (k + 1) X.A) (hgd : gd = true → X.A.guards = some []) (hb : KBn X.K fd ps (n + 1) ks g gV) (hx : PassesAt (L2.CX X.prog X.w) X σ (Ex σ))
    (I : Inv X pins σ H s) (r : Vals vs us) (rz : Vals zs ws) (l1 : vs.length = n) (l2 : zs.length = ks.length)
    (h : ∀ x dx, H x = none → H dx = none → dx ≠ x → sp (gV (.ref x :: vs) zs) (upd (upd H dx (.own x)) x (.ins C dx [])) (fun v H2 => v = .non ∧ Q (.ref x) H2) (Ex σ)) :
    wpAny (model X.prog X.w) X.A (call (.ref C) us (ks.zip ws)) (EP X pins σ Q) X.xe s := by
  have hq := h (s.heap.objs.size + 1) s.heap.objs.size (I.hok.fresh (Nat.le_succ _)) (I.hok.fresh (Nat.le_refl _)) (Nat.ne_of_lt (Nat.lt_succ_self _))
  have I2 := Inv.made (C := C) I
  have r1 : Vals (V.ref (s.heap.objs.size + 1) :: vs) (Value.ref (s.heap.objs.size + 1) :: us) := .cons rfl r
  have r2 := hb.rel r1 rz
  have n1 : (Value.ref (s.heap.objs.size + 1) :: us).length = n + 1 := by
    rw [List.length_cons, ← r.length, l1]
  refine wpAny_call (make_map (f := f) I.kIn M.makes M.init (beq_iff_eq.mp M.fn) (codeAny_mono (F.go _ X.stack _ _ ⟨Value.ref (s.heap.objs.size + 1) :: us, ks.zip ws⟩ (g (Value.ref (s.heap.objs.size + 1) :: us) ws) _ _ (Ex σ) (hr.make C us (ks.zip ws)) (mk_gd hgd)
    (I2.env0.make C us (ks.zip ws)) (hb.to _ (Value.ref (s.heap.objs.size + 1) :: us) ws I2.kIn n1 (rz.length.symm.trans l2)) r2 hq) fun r s' hq' => ?_))
  cases r with
  | error e => exact hx pins _ _ e s' I2 hq'
  | ok fl =>
    cases fl with
    | ret u =>
      obtain ⟨v, H', I3, rv, ev, q3⟩ := I2.after hq'
      subst ev
      exact ⟨rv, ⟨V.ref (s.heap.objs.size + 1), H', I3, rfl, q3⟩⟩
    | next => exact False.elim hq'
    | brk => exact False.elim hq'
    | cont => exact False.elim hq'
def tMakeKS (C : Addr) (n m : Nat) (sp : Sp) (gV : List V → List V → List V) (Ex : St → XK) (t tk : TA) : TE := fun σ H Q => t σ H fun vs H1 => tk σ H1 fun zs H2 => vs.length = n ∧ zs.length = m ∧ ∀ x dx, H2 x = none → H2 dx = none → dx ≠ x →
  sp (gV (.ref x :: vs) zs) (upd (upd H2 dx (.own x)) x (.ins C dx [])) (fun v H3 => v = .non ∧ Q (.ref x) H3) (Ex σ)
theorem pe_makeKS (M : Mk X.K C f) (F : FnX gd X k f fd ps sp) (hr : Room (k + 1) X.A) (hgd : gd = true → X.A.guards = some []) (hg : Gl X x) (hm : X.mg x = some (.ref C)) (hb : KBn X.K fd ps (n + 1) ks g gV) (hx : ∀ σ, PassesAt (L2.CX X.prog X.w) X σ (Ex σ)) (ha : PA X (e :: es) t) (hkw : PK X kws tk)
    (hall : (backToKw pos (keywordEach kws X.env)).all (·.1.isSome) = true) (hks : (backToKw pos (keywordEach kws X.env)).filterMap (·.1) = ks) (hdb : (x == ("__debug__" : Str)) = false)
    (he : starEach (e :: es) X.env = (false, eval e X.env) :: starEach es X.env) (hpl : ((backTo pos (starEach (e :: es) X.env)).any (·.1) || (backToKw pos (keywordEach kws X.env)).any (·.1.isNone)) = false) :
    PE X (.Call (.Name x p) (e :: es) kws pos) (tMakeKS C n ks.length sp gV Ex t tk) := by
  refine ⟨fun pins s σ H Q I h => ?_⟩
  refine wpAny_Call_Name_kw (ld_glob I hg hm ?_ hdb)
  refine PySem.W.callWith_KW (h₀ := X.base) I.ok.mod.kin M.kp hall (thn (ha.run pos pins s σ H _ I h) fun us s1 ⟨vs, H1, I1, r, q⟩ => ?_) hpl he
  refine thn (hkw.run pos pins s1 σ H1 _ I1 q) fun ws s2 ⟨zs, H2, I2, rz, l1, l2, q2⟩ => ⟨I2.kIn, ?_⟩
  rw [hks]
  exact run_makeKS M F hr hgd hb (hx σ) I2 r rz l1 l2 q2
end

section
variable {τ α β γ δ κ ρ ι θ : Type} {G : Gx} {c : Sc} {E : Eff τ} {W : WX} {Γ Γ' : Env} {B : Bs} {σ : St} {S S1 S' H H' : Hp} {b b' : τ} {L : Ls κ ρ}
def zini (n : α → ρ) (m : M τ (Fl α Empty Empty)) : M τ ρ := fun s => match m s with
  | .ok (.nx y) s' => .ok (n y) s'
  | .ok _ _ => .stuck
  | .exc e s' => .exc e s'
  | .stuck => .stuck
def finI (G : Gx) (C : Addr) (S H : Hp) (l : Addr) (fs : ρ → List (Str × Pr)) (Q : VK) (XE : XK) : Out Unit ρ → Prop
  | .ok r _ => ∀ S' H', Keep (fun _ => False) ⟨S, del H l⟩ S' H' → S' l = none → (ownO (fun _ => True) C (fs r)).p S' H' (.ref l) (fun x => x = l) → Q .non H'
  | .exc e _ => ∀ c d S' H', Keep (fun _ => False) ⟨S, del H l⟩ S' H' → XAt G e H' c d → XE c d H'
  | .stuck => False
/-- the promise of an __init__: the new instance at l has then the fields fs r -/
def spI (G : Gx) (C : Addr) (A : α → List Pr) (m : α → M Unit ρ) (fs : ρ → List (Str × Pr)) : Sp := fun vs H Q XE => ∃ a l dx S us, vs = .ref l :: us ∧ All2 (fun (p : Pr) v => p.p S v) (A a) us ∧ Same S H ∧ S l = none ∧ H l = some (.ins C dx []) ∧ finI G C S H l fs Q XE (m a ())
theorem init_ok {g : Bool} {x qual : Str} {st : Stmt} {f : Addr} {fd : FuncData} {N ps : List Str} {k : Nat} {C : Addr} {A : α → List Pr} {fs : ρ → List (Str × Pr)} {mb : α → M Unit (Fl β Empty Empty)} {Γn : Addr → α → β → Env} {n : α → β → ρ} {kws : List (Str × V)} (F : FunD G.K x qual (defArgs st) (defBody st) (defScope st) [] kws f fd) (sc : FnScope N ps (defScope st))
    (hA : ∀ a, (A a).length + 1 = ps.length) (hn : ∀ l a y, (Γn l a y)[0]? = some (.ow (ownO (fun x => x = l) C (fs (n a y)))))
    (hb : ∀ l a (W : WX), ZB G ⟨N, defScope st, k, true, fun _ => true, g⟩ noE W ⟨fun e : Empty => e.elim, [], (⟨fun e => e.elim, fun {e} => e.elim⟩ : Rel Empty), fun e => e.elim⟩ (.ow (ownO (fun x => x = l) C []) :: ((A a).map .st ++ List.replicate (N.length - ((A a).length + 1)) .no)) (defBody st) (mb a) (Γn l a)) :
    FnG g G.P G.w G.K G.mg G.base (k + 1) f fd ps (spI G C A (fun a => zini (n a) (mb a)) fs) := by
  refine fng_D F sc (fun vs H Q XE h => ?_) (fun cdv A0 outer s H vs Q XE hr hgd h => ?_)
  · obtain ⟨a, l, dx, S, us, rfl, r, _⟩ := h
    rw [List.length_cons, ← r.length, hA]
  · obtain ⟨a, l, dx, S, us, rfl, r, hs, hl, hH, fz⟩ := h
    let W : WX := fun cls d _ H => XE cls d H
    have Cc : CtxOk G ⟨N, defScope st, k, true, fun _ => true, g⟩ W (cxOf (L2.CX G.P G.w) G.P G.w G.K G.mg G.base N qual (defScope st) f cdv A0 outer s H XE) :=
      ⟨rfl, rfl, rfl, rfl, rfl, rfl, sc.nd, rfl, rfl, hr, hgd, takes_of rfl rfl rfl rfl, passes_of rfl, rfl, fun _ => ⟨rfl, rfl⟩⟩
    have hh : Hold noE ⟨S, del H l⟩ (.ow (ownO (fun x => x = l) C []) :: ((A a).map .st ++ List.replicate (N.length - ((A a).length + 1)) .no)) () (L2.start N (.ref l :: us)) S H := by
      refine ⟨⟨hs, Same.refl _, fun x o h1 h2 _ => ⟨h1, ?_⟩⟩, trivial, fun i x => i = 0 ∧ x = l, ⟨fun i x ⟨e1, e2⟩ => ?_, fun i j x e1 e2 => e1.1.trans e2.1.symm⟩, fun i sl e => ?_⟩
      · have hx : x ≠ l := fun z => by rw [z] at h2; have h2 : del H l l = some o := h2; rw [del_same] at h2; cases h2
        have h2 : del H l x = some o := h2
        rw [del_ne hx] at h2; exact h2
      · subst e1 e2
        exact ⟨hl, del_same, fun z => z, _, hH⟩
      · unfold L2.start
        cases i with
        | zero =>
          cases e
          exact ⟨.ref l, rfl, l, dx, [], rfl, rfl, fun x => ⟨fun z => z.2, fun z => ⟨rfl, z⟩⟩, hH, Nat.le_refl _, fun _ _ => rfl, fun f p z => nomatch z⟩
        | succ i =>
          simp only [List.getElem?_cons_succ] at e
          simp only [List.map_cons, List.cons_append, List.getElem?_cons_succ]
          by_cases hi : i < (A a).length
          · rw [List.getElem?_append_left (by simpa using hi), List.getElem?_map] at e
            cases e2 : (A a)[i]? with
            | none => rw [e2] at e; cases e
            | some p =>
              rw [e2] at e; cases e
              obtain ⟨v, h1, h2⟩ := r.get e2
              rw [List.getElem?_append_left (by rw [List.length_map, ← r.length]; exact hi), List.getElem?_map, h1]
              exact ⟨v, rfl, h2⟩
          · rw [List.getElem?_append_right (by simpa using hi), List.getElem?_replicate] at e
            split at e
            · cases e; trivial
            · cases e
    refine ⟨_, hb l a W _ Cc, ⟨S, del H l⟩, S, (), hh, ?_⟩
    have fz : finI G C S H l fs Q XE (zini (n a) (mb a) ()) := fz
    unfold zini at fz
    cases e : mb a () with
    | stuck => rw [e] at fz; exact fz.elim
    | exc e b' => rw [e] at fz; exact fun c d σ' S' H' h xa => fz c d S' H' h.kp xa
    | ok r b' =>
      rw [e] at fz
      cases r with
      | bk k => exact k.elim
      | ct k => exact k.elim
      | rt r => exact r.elim
      | nx y =>
        intro σ' S' H' _ h
        obtain ⟨Fs, hF, hsl⟩ := id h.sl
        obtain ⟨v, e1, l', dx', vs', rfl, e0, hf, hu, h2, h3, h4⟩ := hsl 0 _ (hn l a y)
        have e0 : l' = l := e0
        subst e0
        obtain ⟨q1, _, _, _⟩ := hF.at_ 0 l' ((hf l').mpr rfl)
        exact fz S' H' h.kp q1 ⟨l', dx', vs', rfl, trivial, fun _ => Iff.rfl, hu, h2, h3, h4⟩
structure MkAt (g : Bool) (G : Gx) (C : Addr) (k : Nat) (ps : List Str) (sp : Sp) (dvs : List V) : Prop where
  ex : ∃ f fd ds, Mk G.K C f ∧ Binds G.K fd ps ds ∧ Vals dvs ds ∧ FnG g G.P G.w G.K G.mg G.base k f fd ps sp
/-- what is one's own at the end is handed on as stable -/
theorem zf_e {e : Expr} {m : M τ α} {P : α → PrO} {R : Rel α} (one : ∀ a, One (P a) (R.pr a)) (h : ZF G c E W Γ e m P) : ZE G c E W Γ e m R := fun X C => pe_wk (h X C) fun σ H Q _ ⟨B, S, b, hh, q⟩ => by
  refine ⟨B, S, b, hh, ?_⟩
  cases e : m b with
  | stuck => rw [e] at q; exact q.elim
  | exc x b1 => rw [e] at q; exact q
  | ok a b1 =>
    rw [e] at q
    intro v S1 H1 H2 F s1 h1 hF hk hp
    classical
    let T : Hp := fun a => if F a then H2 a else S1 a
    have ti : ∀ a, F a → T a = H2 a := fun a z => if_pos z
    have tn : ∀ a, ¬ F a → T a = S1 a := fun a z => if_neg z
    have fr : ∀ a o, H1 a = some o → ¬ F a := fun a o e z => by rw [(hF a z).1] at e; cases e
    have sm : Same S1 T := fun a o e => by rw [tn a (fr a o (h1.same _ _ e))]; exact e
    have h2 : Hold E B Γ b1 σ T H2 := h1.grow sm (fun a o e => by
      by_cases z : F a
      · rw [ti a z] at e; exact e
      · rw [tn a z] at e; rw [hk a z]; exact h1.same _ _ e) (fun a o e1 e2 => ⟨by rw [tn a (fr a o e2)]; exact e1, by rw [hk a (fr a o e2)]; exact e2⟩) fun a ha hn => by
        rw [tn a fun z => h1.fr (hF a z).1 ha]; exact hn
    exact q v T H2 (s1.trans sm) h2 ((one a).at_ hp T sm fun a o z e => by rw [ti a z]; exact e)
end
end Zk

namespace Zk
open PySem L2

/-! ### ranges of any size -/
theorem turn_long {P : Program} {w : World} {K : PySem.W.Frag} {tg : Expr} (it : Addr) (lo : Int) (n : Nat) : Turn P w K tg (Itr lo n) [it] it (fun i h => IsLongIter h it (lo + (i : Nat) * 1) ((n : Int) - (i : Nat)) 1) where
  mem := by simp
  obj := fun i h st b hb => by
    have e : b = it := by simpa using hb
    subst e
    exact ⟨_, st, fun v z => by cases z⟩
  keep := fun i h h' st k => k it (by simp) _ st
  item := by
    intro X hP hw hK hc i pins s σ H E I hf st hg
    subst hP hw hK
    obtain ⟨f0, f1, f2, f3, f4, f5⟩ := hf it (by simp)
    have hg' : i < n := hg
    refine wpAny_pyNext_long_item st (by omega) fun h' st' sb => ?_
    have I1 : Inv X pins σ H { s with heap := h', toks := s.toks + 1 } := I.turned (fun b o hb e => sb.extBut b o (by simpa using hb) e) f0 f1 f3 f4 f5
    have e1 : lo + ((i + 1 : Nat) : Int) * 1 = lo + (i : Int) * 1 + 1 := by push_cast; omega
    have e2 : (n : Int) - ((i + 1 : Nat) : Int) = (n : Int) - (i : Int) - 1 := by push_cast; omega
    have st2 : IsLongIter h' it (lo + ((i + 1 : Nat) : Int) * 1) ((n : Int) - ((i + 1 : Nat) : Int)) 1 := by rw [e1, e2]; exact st'
    refine ⟨_, rfl, go_of (s := { s with heap := h', toks := s.toks + 1 }) (n := "longrange_iterator") st' rfl rfl (by decide) ⟨.int (lo + i), H, I1, ⟨s.toks, ?_⟩, ⟨rfl, rfl⟩, st2, fun b hb => (hf b hb).1⟩⟩
    rw [Int.mul_one]
  done := by
    intro X hP hw hK hc i pins s σ H E I hf st hg
    subst hP hw hK
    obtain ⟨f0, f1, f2, f3, f4, f5⟩ := hf it (by simp)
    have hg' : n ≤ i := hg
    exact wpAny_pyNext_long_end (I.ok.hd hc) st (by omega) fun h' eb => ⟨rfl, I.turned (t' := s.toks) (fun b o hb e => eb b o (by simpa using hb) e) f0 f1 f3 f4 f5⟩
  self := fun _ _ _ _ _ st h => wpAny_pyIter_longiter st h
theorem range_itA {X : Cx} {tg : Expr} {pins : List (Addr × Obj)} {σ : St} {H : Hp} {s : Shared} {R : It → Hp → Prop} {E : Value → Shared → Prop} {lo hi : Int} {t u v : Tok} {tk : Nat} (I : Inv X pins σ H s)
    (q : R (Itr lo (hi - lo).toNat) H) : wpAny (model X.prog X.w) X.A (pyIter (.ref s.heap.objs.size)) (PIE X pins σ tg R) E { s with heap := s.heap.push { cls := .type "range", data := .fields #[.int lo t, .int hi u, .int 1 v] }, toks := tk } := by
  have I1 : Inv X pins σ H { s with heap := s.heap.push { cls := .type "range", data := .fields #[.int lo t, .int hi u, .int 1 v] }, toks := tk } := I.kept fun b o e => Heap.get?_push_of_some _ e
  have e1 : lo + ((0 : Nat) : Int) * 1 = lo := by simp
  have e2 : (((hi - lo).toNat : Nat) : Int) - ((0 : Nat) : Int) = Builtin.Range.rangeSize lo hi 1 := by rw [rangeSize_one]; split <;> omega
  cases hs : Builtin.Range.small lo hi 1 with
  | true =>
    refine wpAny_pyIter_range (IsRange.new ..) hs ?_
    refine ⟨(s.heap.push { cls := .type "range", data := .fields #[.int lo t, .int hi u, .int 1 v] }).objs.size, [(s.heap.push { cls := .type "range", data := .fields #[.int lo t, .int hi u, .int 1 v] }).objs.size], _, _, H, rfl,
      I1.kept (t' := tk) fun b o e => Heap.get?_push_of_some _ e, turn_range _ lo (hi - lo).toNat, ?_, fun b hb => ?_, q⟩
    · show IsRangeIter _ _ (lo + ((0 : Nat) : Int) * 1) ((((hi - lo).toNat : Nat) : Int) - ((0 : Nat) : Int)) 1
      rw [e1, e2]
      exact Heap.get?_push_size _ rfl
    · have e : b = (s.heap.push { cls := .type "range", data := .fields #[.int lo t, .int hi u, .int 1 v] }).objs.size := by simpa using hb
      subst e
      exact I1.fpOk (Nat.le_refl _) (I1.hok.fresh (Nat.le_refl _))
  | false =>
    refine wpAny_pyIter_longrange (IsRange.new ..) hs ?_
    refine ⟨(s.heap.push { cls := .type "range", data := .fields #[.int lo t, .int hi u, .int 1 v] }).objs.size, [(s.heap.push { cls := .type "range", data := .fields #[.int lo t, .int hi u, .int 1 v] }).objs.size], _, _, H, rfl,
      I1.kept (t' := tk) fun b o e => Heap.get?_push_of_some _ e, turn_long _ lo (hi - lo).toNat, ?_, fun b hb => ?_, q⟩
    · show IsLongIter _ _ (lo + ((0 : Nat) : Int) * 1) ((((hi - lo).toNat : Nat) : Int) - ((0 : Nat) : Int)) 1
      rw [e1, e2]
      exact Heap.get?_push_size _ rfl
    · have e : b = (s.heap.push { cls := .type "range", data := .fields #[.int lo t, .int hi u, .int 1 v] }).objs.size := by simpa using hb
      subst e
      exact I1.fpOk (Nat.le_refl _) (I1.hok.fresh (Nat.le_refl _))
def iRng1A (ta : TA) : TI := fun σ H R => ta σ H fun vs H1 => ∃ j : Int, vs = [.int j] ∧ R (Itr 0 j.toNat) H1
theorem pi_range1A {X : Cx} {tg a : Expr} {ta : TA} {p pos : Pos} (hg : Gl X "range") (hm : X.mg "range" = none) (ha : PA X [a] ta) (hs : starEach [a] X.env = [(false, eval a X.env)]) : PI X tg (.Call (.Name "range" p) [a] [] pos) (iRng1A ta) := by
  refine ⟨fun pins s σ H R I h => ?_⟩
  refine PyProof.Rows.Call_ (ld_blt I hg hm PyProof.Rows.boot_range (PyProof.Rows.callWith_type1 (thn (ha.run pos pins s σ H _ I h) fun us s1 ⟨vs, H1, I1, r1, q1⟩ => ?_) hs rfl))
  obtain ⟨j, e, q⟩ := q1
  subst e
  cases r1 with
  | cons r rr =>
    cases rr
    obtain ⟨t, rfl⟩ := r
    exact call_range_1 (range_itA I1 (by simpa using q))
section
variable {τ α β γ δ κ ρ ι θ : Type} {G : Gx} {c : Sc} {E : Eff τ} {W : WX} {Γ Γ' : Env} {B : Bs} {σ : St} {S S1 S' H H' : Hp} {b b' : τ} {L : Ls κ ρ}
def frA1 (j : Int) : M τ (List Int) := ret (rng 0 j.toNat)
def frA2 (x : Int × Int) : M τ (List Int) := ret (rng x.1 (x.2 - x.1).toNat)
theorem zi_r1 {tg e : Expr} {m : M τ Int} {p pos : Pos} (bl : Blt G c "range" (.type "range")) (h : ZE G c E W Γ e m rInt) (hs : ∀ env : PySem.Env, starEach [e] env = [(false, eval e env)] := by intro _; rfl) : ZI G c E W Γ tg (.Call (.Name "range" p) [e] [] pos) (zapp frA1 m) rInt := fun X C =>
  pi_wk (pi_range1A (C.gl bl.g) (by rw [C.mg]; exact bl.m) (za_one h (fun env => hs env) X C) (hs X.env)) fun σ H Q ⟨B, S, b, hh, q⟩ => by
    refine tzI_bndA (A := fun x => [rInt.pr x]) hh q fun x b1 vs S1 H1 s1 h1 r1 q1 => ?_
    match vs, r1 with
    | [v], ⟨r, _⟩ => exact ⟨x, by rw [show v = V.int x from r], q1 _ _ S1 H1 (Same.refl _) h1 src_rng trivial⟩
/-! ### while -/
open Classical in
end
end Zk

namespace Zk
open PySem L2

theorem get_list {X : Cx} : PGet X (rIxL X.K) := by
  intro pins s σ H x y v u Q I rx ry h
  obtain ⟨p, xs, i, z, rfl, rfl, hq, he, q⟩ := h
  cases rx
  obtain ⟨t, rfl⟩ := ry
  obtain ⟨its, r, pl, hz⟩ := I.list hq
  obtain ⟨j, h1, h2, h3, h4, h5⟩ := atI_get he
  obtain ⟨w, ew, rw'⟩ := r.get h2
  have hl := r.length
  have hn := line63
  have fin : EP X pins σ Q w s := ⟨z, H, I, rw', q⟩
  by_cases h0 : 0 ≤ i
  · have hj : i.toNat = j := by
      rw [seqIndex_of h0 h5] at h1
      exact Option.some.inj h1
    exact wpAny_getItem_list pl.isList h0 (by omega) (by rw [hj]; simpa using ew) fin
  · have hj : (i + (its.toArray.size : Int)).toNat = j := by
      rw [seqIndex_neg (by omega) h4] at h1
      rw [List.size_toArray, ← hl]
      exact Option.some.inj h1
    exact wpAny_getItem_list_neg pl.isList (by omega) (by rw [List.size_toArray] <;> omega) (by omega) (by rw [hj]; simpa using ew) fin

/-! ### the bag of a law -/
structure Bag where
  big : Int
  mix : Int
  pos : Int
  cells : List Int
def Bag.row (s : Bag) (c : Addr) : List V := [.int s.big, .int s.mix, .int s.pos, .ref c]
def bagE (b c : Addr) : Eff Bag where
  own a := a = b ∨ a = c
  is s S H := b ≠ c ∧ S b = none ∧ S c = none ∧ H b = some (.lst (s.row c)) ∧ H c = some (.lst (s.cells.map V.int))
  mono := fun s f k ⟨h0, h1, h2, h3, h4⟩ => ⟨h0, f _ (.inl rfl) h1, f _ (.inr rfl) h2, k _ _ (.inl rfl) h3, k _ _ (.inr rfl) h4⟩
  th := fun ⟨h0, h1, h2, h3, h4⟩ h => by
    rcases h with h | h
    · subst h; exact ⟨h1, _, h3⟩
    · subst h; exact ⟨h2, _, h4⟩
section
variable {α β γ δ κ ρ : Type} {G : Gx} {c : Sc} {W : WX} {Γ Γ' : Env} {B : Bs} {σ : St} {S S1 S' H H' : Hp} {s s' : Bag} {b d : Addr} {L : Ls κ ρ}
/-- the bag's row is written -/
theorem Hold.bag (h : Hold (bagE b d) B Γ s σ S H) (e : s'.cells = s.cells) : Hold (bagE b d) B Γ s' σ S (upd H b (.lst (s'.row d))) := by
  obtain ⟨Fs, hF, hs⟩ := h.sl
  obtain ⟨h0, h1, h2, h3, h4⟩ := h.ef
  refine ⟨⟨fun a o e => ?_, h.kp.up, fun a o e1 e2 e3 => ?_⟩, ⟨h0, h1, h2, upd_same, by rw [upd_ne (Ne.symm h0), e]; exact h4⟩, Fs, ⟨fun i a e => ?_, hF.ds⟩, fun i t e => ?_⟩
  · have n : a ≠ b := fun z => by rw [z, h1] at e; cases e
    rw [upd_ne n]; exact h.same _ _ e
  · have n : a ≠ b := fun z => e3 (.inl z)
    rw [upd_ne n]; exact h.kp.kp a o e1 e2 e3
  · obtain ⟨q1, q2, q3, o, q4⟩ := hF.at_ i a e
    have n : a ≠ b := fun z => q3 (.inl z)
    exact ⟨q1, q2, q3, o, by rw [upd_ne n]; exact q4⟩
  · have q := hs i t e
    cases t with
    | no => trivial
    | st p => exact q
    | ow p => obtain ⟨x, e1, e2⟩ := q; exact ⟨x, e1, p.mono (Same.refl _) (fun a o ha e => by
        have n : a ≠ b := fun z => (hF.at_ i a ha).2.2.1 (.inl z)
        rw [upd_ne n]; exact e) e2⟩
    | gh p => exact p.mono (Same.refl _) (fun a o ha e => by
        have n : a ≠ b := fun z => (hF.at_ i a ha).2.2.1 (.inl z)
        rw [upd_ne n]; exact e) q
def bget (f : Bag → α) : M Bag α := fun s => .ok (f s) s
variable {i : Nat} {x : Str} {p1 p2 p3 p4 p5 p6 pos : Pos} {j j2 j3 : Nat}
theorem ref_slot {E : Eff δ} {t : δ} {p : Addr} (h : Hold E B Γ t σ S H) (hi : Γ[i]? = some (.st ((rRef p).pr ()))) : σ[i]? = some (some (.ref p)) := by
  obtain ⟨Fs, hF, hs⟩ := h.sl
  obtain ⟨v, e1, e2⟩ := hs i _ hi
  have : v = .ref p := e2
  subst this
  exact slot_get e1
theorem z_bag {k : Int} {f : Bag → Int} (n : Nm c i x) (hi : Γ[i]? = some (.st ((rRef b).pr ()))) (hf : ∀ s : Bag, atI (s.row d) k = some (.int (f s))) (hs : PIx (.Constant (.int k) j p2) := by intro _ _; rfl) :
    ZE G c (bagE b d) W Γ (.Subscript (.Name x p1) (.Constant (.int k) j p2) pos) (bget f) rInt := fun X C =>
  pe_wk (pe_ix ix_list (pe_var (C.hi n.n) (by rw [C.sc]; exact n.v) n.d n.cd) pe_int hs) fun σ H Q _ ⟨B, S, s, hh, q⟩ =>
    ⟨.ref b, ref_slot hh hi, b, s.row d, k, _, rfl, rfl, .of hh.ef.2.2.2.1, hf s, q _ S H (Same.refl _) hh rfl⟩
theorem z_bag3 (n : Nm c i x) (hi : Γ[i]? = some (.st ((rRef b).pr ()))) (hs : PIx (.Constant (.int 3) j p2) := by intro _ _; rfl) :
    ZE G c (bagE b d) W Γ (.Subscript (.Name x p1) (.Constant (.int 3) j p2) pos) (ret ()) (rRef d) := fun X C =>
  pe_wk (pe_ix ix_list (pe_var (C.hi n.n) (by rw [C.sc]; exact n.v) n.d n.cd) pe_int hs) fun σ H Q _ ⟨B, S, s, hh, q⟩ =>
    ⟨.ref b, ref_slot hh hi, b, s.row d, 3, .ref d, rfl, rfl, .of hh.ef.2.2.2.1, rfl, q _ S H (Same.refl _) hh rfl⟩
def bcell (m : M Bag Unit) (n : M Bag Int) : M Bag Int := bnd m fun _ => bnd n fun i => fun s => match atI s.cells i with | some x => .ok x s | none => .stuck
theorem atI_map {xs : List Int} {i : Int} {x : Int} (h : atI xs i = some x) : atI (xs.map V.int) i = some (.int x) := by
  unfold atI at *
  rw [List.length_map]
  cases e : ixN xs.length i with
  | none => rw [e] at h; cases h
  | some j =>
    rw [e] at h
    have h : xs[j]? = some x := h
    show (xs.map V.int)[j]? = _
    rw [List.getElem?_map, h]; rfl
theorem z_bcell {ea eb : Expr} {m : M Bag Unit} {n : M Bag Int} (ha : ZE G c (bagE b d) W Γ ea m (rRef d)) (hb : ZE G c (bagE b d) W Γ eb n rInt) (hs : PIx eb := by intro _ _; rfl) : ZE G c (bagE b d) W Γ (.Subscript ea eb pos) (bcell m n) rInt := fun X C =>
  pe_wk (pe_ix ix_list (ha X C) (hb X C) hs) fun σ H Q _ ⟨B, S, s, hh, q⟩ => by
    refine tz_bnd hh q fun _ s1 v S1 H1 m1 h1 r1 q1 => ?_
    refine tz_bnd h1 q1 fun y s2 w S2 H2 m2 h2 r2 q2 => ?_
    cases e : atI s2.cells y with
    | none => rw [e] at q2; exact q2.elim
    | some z => rw [e] at q2; exact ⟨d, _, y, _, r1, r2, .of h2.ef.2.2.2.2, atI_map e, q2 _ S2 H2 (Same.refl _) h2 rfl⟩
def blen (_ : Unit) : M Bag Int := fun s => .ok (s.cells.length : Int) s
theorem z_blen {e : Expr} {y : Str} {m : M Bag Unit} (bl : Blt G c y (.builtin "len")) (ha : ZE G c (bagE b d) W Γ e m (rRef d)) (hs : Star e [] := by intro _; rfl) : ZE G c (bagE b d) W Γ (.Call (.Name y p1) [e] [] pos) (zapp blen m) rInt :=
  z_b1 bl (R := rRef d) (r := fun xs H Q => ∃ p ys, xs = [.ref p] ∧ (SqL G.K H p ys ∨ SqT G.K H p ys) ∧ Q (.int ys.length) H) (fun X C => by rw [← C.K]; exact call_len_seq) (fun B σ S H t x v Q hh e q => ⟨d, _, by rw [show v = .ref d from e], .inl (.of hh.ef.2.2.2.2), by rw [List.length_map]; exact q _ S H (Same.refl _) hh rfl⟩) ha hs
/-- bag[k] = e -/
def bput (f : Bag → Int → Bag) (m : M Bag Int) : M Bag (Fl Unit κ ρ) := bnd m fun v s => .ok (.nx ()) (f s v)
theorem zs_bput {k : Int} {kj : Nat} {f : Bag → Int → Bag} {e : Expr} {m : M Bag Int} (n : Nm c i x) (hi : Γ[i]? = some (.st ((rRef b).pr ()))) (hk : ixN 4 k = some kj) (hf : ∀ s v, (s.row d).set kj (.int v) = (f s v).row d) (hc : ∀ s v, (f s v).cells = s.cells) (h : ZE G c (bagE b d) W Γ e m rInt) (sx : Sub (bagE b d) Γ L.x)
    (hs : ∀ (l : Nat) (env : PySem.Env), swapsWithSole [.Subscript (.Name x p1) (.Constant (.int k) j p2) p3] e l env = pure false := by intro _ _; rfl)
    (hw : ∀ env : PySem.Env, swappedStores [.Subscript (.Name x p1) (.Constant (.int k) j p2) p3] e env = pure none := by intro _; rfl) :
    ZS G c (bagE b d) W L Γ (.Assign [.Subscript (.Name x p1) (.Constant (.int k) j p2) p3] e pos) (bput f m) (fun _ => Γ) := fun X C =>
  ps_wk (ps_asg (h X C) (pg_sub (pe_var (C.hi n.n) (by rw [C.sc]; exact n.v) n.d n.cd) pe_int set_list) (hs _ _) (hw _)) fun D σ H hl ⟨B, S, s, hh, q⟩ => by
    refine tzS_bnd (R := rInt) sx hh q fun y s1 v S1 H1 m1 h1 r1 q1 => ?_
    have r1 : v = .int y := r1
    subst r1
    exact ⟨.ref b, ref_slot h1 hi, b, s1.row d, k, kj, rfl, rfl, h1.ef.2.2.2.1, hk, by rw [hf]; exact q1 σ S1 _ (Same.refl _) (h1.bag (hc _ _))⟩
/-- bag[k] += e -/
theorem zs_binc {k : Int} {kj : Nat} {g : Bag → Int} {f : Bag → Int → Bag} {e : Expr} {m : M Bag Int} (n : Nm c i x) (hi : Γ[i]? = some (.st ((rRef b).pr ()))) (hg : ∀ s : Bag, atI (s.row d) k = some (.int (g s))) (hk : ixN 4 k = some kj) (hf : ∀ s v, (s.row d).set kj (.int v) = (f s v).row d) (hc : ∀ s v, (f s v).cells = s.cells) (h : ZE G c (bagE b d) W Γ e m rInt) (sx : Sub (bagE b d) Γ L.x)
    (ha : ∀ ov iv new, augStore (.Constant (.int k) j p2) ov iv new = (do holding [new, ov, iv] (setItem ov iv new); release [new, ov, iv] []; pure .next) := by intros; rfl) :
    ZS G c (bagE b d) W L Γ (.AugAssign (.Subscript (.Name x p1) (.Constant (.int k) j p2) p3) .Add e pos) (bput f (zop2 iadd (bget g) m)) (fun _ => Γ) := fun X C =>
  ps_wk (ps_augS (pe_var (C.hi n.n) (by rw [C.sc]; exact n.v) n.d n.cd) pe_int get_list (h X C) ip_add set_list ha) fun D σ H hl ⟨B, S, s, hh, q⟩ => by
    refine ⟨.ref b, ref_slot hh hi, b, s.row d, k, _, rfl, rfl, .of hh.ef.2.2.2.1, hg s, ?_⟩
    have q : aftS G (bagE b d) W L B S (fun _ => Γ) D ((bnd m fun v s2 => .ok (.nx ()) (f s2 (g s + v)) : M Bag (Fl Unit κ ρ)) s) := by
      have : (bput f (zop2 iadd (bget g) m) : M Bag (Fl Unit κ ρ)) s = (bnd m fun v s2 => .ok (.nx ()) (f s2 (g s + v)) : M Bag (Fl Unit κ ρ)) s := by
        simp only [bput, zop2, bget, bnd, iadd, ret]
        cases m s <;> rfl
      rw [← this]; exact q
    refine tzS_bnd (R := rInt) sx hh q fun y s1 v S1 H1 m1 h1 r1 q1 => ?_
    have r1 : v = .int y := r1
    subst r1
    exact ⟨g s, y, rfl, rfl, b, s1.row d, k, kj, rfl, rfl, h1.ef.2.2.2.1, hk, by rw [hf]; exact q1 σ S1 _ (Same.refl _) (h1.bag (hc _ _))⟩
end
end Zk

namespace Zk
open PySem L2

section
variable {τ α β γ δ κ ρ ι θ : Type} {G : Gx} {c : Sc} {E : Eff τ} {W : WX} {Γ Γ' : Env} {B : Bs} {σ : St} {S S1 S' H H' : Hp} {b b' : τ} {L : Ls κ ρ}

/-! ### several targets at once -/
theorem zs_asgS {tg e : Expr} {m : M τ α} {R : Rel α} {f : α → Env} {vs : List Nat} {pos : Pos} (h : ZE G c E W Γ e m R) (g : ZG G c E W Γ vs tg f R) (sx : Sub E Γ L.x) (hs : ∀ (l : Nat) (env : PySem.Env), swapsWithSole [tg] e l env = pure false := by intro _ _; rfl)
    (hw : ∀ env : PySem.Env, env.scope = c.sc → swappedStores [tg] e env = pure none := by intro env h; cases env; cases h; rfl) (h1 : ∀ env : PySem.Env, (assignEach [tg] env).map (·.2) = [assign tg env] := by intro _; rfl) : ZS G c E W L Γ (.Assign [tg] e pos) (zset m) f := fun X C =>
  ps_wk (ps_asg (h X C) (g.1 X C) (hs _ _) (hw _ C.sc) (h1 _)) fun D σ H hl ⟨B, S, b, hh, q⟩ => by
    refine tzS_bnd (R := R) sx hh q fun x b1 v S1 H1 s1 h1 r1 q1 => ?_
    exact ⟨B, S1, b1, x, h1, r1, fun σ' w h' => q1 σ' S1 H1 (Same.refl _) h'⟩
theorem zs_par2 {i j : Nat} {x y : Str} {ea eb : Expr} {m : M τ (α × β)} {R : Rel α} {R2 : Rel β} {px py pt pos : Pos} {kt k2 pt2} (nx : c.N[i]? = some x) (ny : c.N[j]? = some y) (lx : c.sc.names.lookup x = some .local) (ly : c.sc.names.lookup y = some .local) (hij : i ≠ j)
    (h : ZA G c E W Γ [ea, eb] m (fun p => [R.pr p.1, R2.pr p.2])) (sx : Sub E Γ L.x) (hw : ∀ env : PySem.Env, env.scope = c.sc → swappedStores [.Tuple [.Name x px, .Name y py] kt pt] (.Tuple [ea, eb] k2 pt2) env = pure (some [x, y]) := by intro env h; cases env; cases h; rfl)
    (hs : ∀ (l : Nat) (env : PySem.Env), swapsWithSole [.Tuple [.Name x px, .Name y py] kt pt] (.Tuple [ea, eb] k2 pt2) l env = pure false := by intro _ _; rfl) :
    ZS G c E W L Γ (.Assign [.Tuple [.Name x px, .Name y py] kt pt] (.Tuple [ea, eb] k2 pt2) pos) (zset m) (fun p => (Γ.set i (.st (R.pr p.1))).set j (.st (R2.pr p.2))) := fun X C =>
  ps_wk (ps_par C.calm C.set_hN (C.hi nx) (C.hi ny) hij (by rw [C.sc]; exact lx) (by rw [C.sc]; exact ly) (h X C) (hw _ C.sc) (hs _ _)) fun D σ H hl ⟨B, S, b, hh, q⟩ => by
    refine tzS_bndA (A := fun p => [R.pr p.1, R2.pr p.2]) sx hh q fun y b1 us S1 H1 s1 h1 r1 q1 => ?_
    match us, r1 with
    | [u, w], ⟨r, r2, _⟩ => exact ⟨u, w, rfl, q1 _ S1 H1 (Same.refl _) ((h1.set (C.lt nx hl) r).set (by rw [List.length_set]; exact C.lt ny hl) r2)⟩
/-- (a, b, ..) = a list of that length -/
structure LstOf (R : Rel α) (n : Nat) (A : α → List Pr) : Prop where
  h : ∀ {x : α} {S : Hp} {v : V}, R.is x S v → ∃ a us, v = .ref a ∧ S a = some (.lst us) ∧ us.length = n ∧ All2 (fun (p : Pr) v => p.p S v) (A x) us
theorem aft_bnd_ret {f : α → M τ β} {R : Rel α} {R' : Rel β} {Q : VK} (hf : ∀ x, (∃ y, f x = ret y ∧ ∀ S v, R.is x S v → R'.is y S v) ∨ f x = stk) : ∀ {m : M τ α}, aft G E W B Γ σ S R' Q (bnd m f b) → aft G E W B Γ σ S R Q (m b) := fun {m} h => by
  unfold bnd at h
  cases e : m b with
  | stuck => rw [e] at h; exact h.elim
  | exc x b1 => rw [e] at h; exact h
  | ok x b1 =>
    rw [e] at h
    rcases hf x with ⟨y, hy, hr⟩ | hy
    · have h : aft G E W B Γ σ S R' Q (f x b1) := h
      rw [hy] at h
      exact fun v S' H' s hh r => h v S' H' s hh (hr _ _ r)
    · have h : aft G E W B Γ σ S R' Q (f x b1) := h
      rw [hy] at h; exact h.elim
/-! ### self.f, self.g = .. -/
def gAttr (K : PySem.W.Frag) (to : TE) (f : Str) : TG := fun v σ H Q => to σ H fun x H1 => ∃ a C dx fs, x = .ref a ∧ H1 a = some (.ins C dx fs) ∧ Cls K C ∧ NoAttr K C f ∧ fs.length < 1000 ∧ Q σ (upd H1 a (.ins C dx (putF f v fs)))
theorem pg_attr {X : Cx} {o : Expr} {f : Str} {to : TE} {pos : Pos} (ho : PE X o to) : PG X (.Attribute o f pos) (gAttr X.K to f) := by
  refine ⟨fun pins s σ H v u Q I r h => ?_⟩
  rw [assign_Attribute]
  refine wpAny_bind (wpAny_holding (thn (ho.run pins s σ H _ I h) fun ov s1 ⟨x, H1, I1, r1, a, C, dx, fs, e, ea, c, n, l, q⟩ => ?_))
  subst e
  obtain rfl : ov = Value.ref a := r1
  refine wpAny_bind (wpAny_standAt (wpAny_bind (wpAny_holding ?_)))
  exact setattr_ok I1 ea c n l r fun s2 I2 => wpAny_release ⟨σ, _, I2, q⟩
def putFs : List Str → List Pr → List (Str × Pr) → List (Str × Pr)
  | f :: fs, p :: ps, acc => putFs fs ps ((f, p) :: acc)
  | _, _, acc => acc
def tgs (x : Str) (l : List (Str × Pos × Pos)) : List Expr := l.map fun t => .Attribute (.Name x t.2.1) t.1 t.2.2
theorem set_set {l : Env} {i : Nat} {a b : Sl} : (l.set i a).set i b = l.set i b := by rw [List.set_set]
theorem get_set {l : Env} {i : Nat} {a : Sl} (h : i < l.length) : (l.set i a)[i]? = some a := List.getElem?_set_self h
theorem zs_fld_step {i : Nat} {q0 : Addr → Prop} {C0 : Addr} {fs : List (Str × Pr)} {f : Str} {p : Pr} {v : V} (hi : Γ[i]? = some (.ow (ownO q0 C0 fs))) (hn : fs.length < 900) (h1 : Hold E B Γ b σ S H) (r1 : p.p S v) :
    ∃ l dx vs, σ[i]? = some (some (.ref l)) ∧ H l = some (.ins C0 dx vs) ∧ vs.length < 1000 ∧ Hold E B (Γ.set i (.ow (ownO q0 C0 ((f, p) :: fs)))) b σ S (upd H l (.ins C0 dx (putF f v vs))) := by
  obtain ⟨Fs, hF, hs⟩ := id h1.sl
  obtain ⟨v0, e1, l, dx, vs, rfl, e0, hf, hu, hlen, hno, hq⟩ := hs i _ hi
  have e1 := slot_get e1
  refine ⟨l, dx, vs, e1, hu, by omega, h1.chg hi (fun {S H v F} h e => by obtain ⟨l', _, _, rfl, _, hf, _⟩ := h; cases e; exact hf) e1 ⟨l, dx, _, rfl, e0, fun _ => Iff.rfl, upd_same, ?_, fun k hk => ?_, fun k p hk => ?_⟩⟩
  · have := length_putF f v vs; simp only [List.length_cons]; omega
  · rw [lookup_putF]
    rw [List.lookup_cons] at hk
    by_cases hkf : k = f
    · subst hkf; simp at hk
    · have : (k == f) = false := beq_eq_false_iff_ne.mpr hkf
      rw [this] at hk
      rw [if_neg hkf]; exact hno k hk
  · rw [lookup_putF]
    rw [List.lookup_cons] at hk
    by_cases hkf : k = f
    · subst hkf
      simp at hk
      subst hk
      exact ⟨v, by rw [if_pos rfl], r1⟩
    · have : (k == f) = false := beq_eq_false_iff_ne.mpr hkf
      rw [this] at hk
      rw [if_neg hkf]; exact hq k p hk
def tFlds (E : Eff τ) (Γ : Env) (i : Nat) (q0 : Addr → Prop) (C0 : Addr) (n : Nat) (fns : List Str) : TGs := fun us σ H Q => ∃ B S b ps fs, Γ[i]? = some (.ow (ownO q0 C0 fs)) ∧ Hold E B Γ b σ S H ∧ All2 (fun (p : Pr) v => p.p S v) ps us ∧ ps.length = fns.length ∧ fs.length + fns.length < n ∧ ∀ H', Hold E B (Γ.set i (.ow (ownO q0 C0 (putFs fns ps fs)))) b σ S H' → Q σ H'
theorem set_same {l : Env} {i : Nat} {a : Sl} (h : l[i]? = some a) : l.set i a = l := by
  obtain ⟨h1, h2⟩ := List.getElem?_eq_some_iff.mp h
  rw [← h2]; exact List.set_getElem_self h1
theorem pgs_flds {i : Nat} {x : Str} {q0 : Addr → Prop} {C0 : Addr} (n : Nm c i x) (cl : Cls G.K C0) {X : Cx} (C : CtxOk G c W X) : ∀ (l : List (Str × Pos × Pos)) (Γ : Env), (∀ t ∈ l, NoAttr G.K C0 t.1) → PGs X (tgs x l) (tFlds E Γ i q0 C0 900 (l.map (·.1)))
  | [], Γ, _ => pgs_wk pgs_nil fun us σ H Q hl ⟨B, S, b, ps, fs, hi, hh, r, e, _, q⟩ => by
    have e : ps = [] := List.length_eq_zero_iff.mp e
    subst e
    match us, r with
    | [], _ => exact ⟨rfl, q H (by rw [show Γ.set i (.ow (ownO q0 C0 (putFs (([] : List (Str × Pos × Pos)).map (·.1)) [] fs))) = Γ from set_same hi]; exact hh)⟩
  | t :: l, Γ, ha => pgs_wk (pgs_cons (pg_attr (pe_var (C.hi n.n) (by rw [C.sc]; exact n.v) n.d n.cd)) (pgs_ex fun p : Pr × List (Str × Pr) => pgs_flds (q0 := q0) (C0 := C0) n cl C l (Γ.set i (.ow (ownO q0 C0 ((t.1, p.1) :: p.2)))) fun t ht => ha t (by simp [ht])) rfl) fun us σ H Q hl ⟨B, S, b, ps, fs, hi, hh, r, e, hn, q⟩ => by
    cases ps with
    | nil => simp at e
    | cons p ps =>
    cases us with
    | nil => exact r.elim
    | cons u us =>
      obtain ⟨r1, r2⟩ := r
      have hlt : i < Γ.length := (List.getElem?_eq_some_iff.mp hi).1
      simp only [List.map_cons, List.length_cons] at hn e
      obtain ⟨l0, dx, vs, e1, e2, e3, h2⟩ := zs_fld_step (f := t.1) hi (by omega) hh r1
      refine ⟨u, us, rfl, .ref l0, e1, l0, C0, dx, vs, rfl, e2, by rw [C.K]; exact cl, by rw [C.K]; exact ha t (by simp), e3, (p, fs), B, S, b, ps, _, get_set hlt, h2, r2, by simpa using e, ?_, fun H' h' => q H' ?_⟩
      · simp only [List.length_cons]; omega
      · rw [set_set] at h'; exact h'
theorem zs_flds {i : Nat} {x : Str} {es : List Expr} {l : List (Str × Pos × Pos)} {q0 : Addr → Prop} {C0 : Addr} {fs : List (Str × Pr)} {m : M τ α} {A : α → List Pr} {kt k2 pt pt2 pos} {n : Nat} (nm : Nm c i x) (hi : Γ[i]? = some (.ow (ownO q0 C0 fs))) (cl : Cls G.K C0) (na : ∀ t ∈ l, NoAttr G.K C0 t.1) (hn : fs.length + n < 900) (hl : l.length = n) (hA : ∀ a, (A a).length = n) (hz : n ≤ sizeLine) (h : ZA G c E W Γ es m A) (sx : Sub E Γ L.x)
    (hs : ∀ (n : Nat) (env : PySem.Env), swapsWithSole [.Tuple (tgs x l) kt pt] (.Tuple es k2 pt2) n env = pure false := by intro _ _; rfl) (hw : ∀ env : PySem.Env, env.scope = c.sc → swappedStores [.Tuple (tgs x l) kt pt] (.Tuple es k2 pt2) env = pure none := by intro env h; cases env; cases h; rfl)
    (hn' : ∀ env : PySem.Env, (assignEach (tgs x l) env).length = n := by intro _; rfl) (hst : ∀ env : PySem.Env, (assignEach (tgs x l) env).findIdx? (·.1) = none := by intro _; rfl) :
    ZS G c E W L Γ (.Assign [.Tuple (tgs x l) kt pt] (.Tuple es k2 pt2) pos) (zset m) (fun a => Γ.set i (.ow (ownO q0 C0 (putFs (l.map (·.1)) (A a) fs)))) := fun X C =>
  ps_wk (ps_asg (pe_tup (h X C)) (pg_tup C.calm (pgs_flds (E := E) (q0 := q0) (C0 := C0) nm cl C l Γ na) (hn' X.env) (hst X.env)) (hs _ _) (hw _ C.sc)) fun D σ H hlen ⟨B, S, b, hh, q⟩ => by
    refine tzS_bndA (A := A) sx hh q fun y b1 us S1 H1 s1 h1 r1 q1 => ?_
    have e := r1.length
    rw [hA] at e
    refine ⟨by omega, fun p hp => ⟨p, us, rfl, .of upd_same, by omega, B, upd S1 p (.tup us), b1, A y, fs, hi, h1.new hp, r1.imp (fun p v z => p.mono (same_new (h1.same.free hp)) z), by rw [hA, List.length_map, hl], by rw [List.length_map, hl]; exact hn, fun H' h' => q1 _ _ H' (same_new (h1.same.free hp)) h'⟩⟩
inductive Tgs (x : Str) : List Expr → List (Str × Pos × Pos) → Prop
  | nil : Tgs x [] []
  | cons {f : Str} {p1 p2 : Pos} {es : List Expr} {l : List (Str × Pos × Pos)} : Tgs x es l → Tgs x (.Attribute (.Name x p1) f p2 :: es) ((f, p1, p2) :: l)
theorem Tgs.eq {x : Str} : ∀ {es : List Expr} {l : List (Str × Pos × Pos)}, Tgs x es l → es = tgs x l
  | _, _, .nil => rfl
  | _, _, .cons h => by rw [h.eq]; rfl
theorem zs_fldT {i : Nat} {x : Str} {tg es : List Expr} {l : List (Str × Pos × Pos)} {q0 : Addr → Prop} {C0 : Addr} {fs : List (Str × Pr)} {m : M τ α} {A : α → List Pr} {kt k2 pt pt2 pos} {n : Nat} (t : Tgs x tg l) (nm : Nm c i x) (hi : Γ[i]? = some (.ow (ownO q0 C0 fs))) (cl : Cls G.K C0) (na : ∀ t ∈ l, NoAttr G.K C0 t.1) (hn : fs.length + n < 900) (hl : l.length = n) (hA : ∀ a, (A a).length = n) (hz : n ≤ sizeLine) (h : ZA G c E W Γ es m A) (sx : Sub E Γ L.x)
    (hs : ∀ (n : Nat) (env : PySem.Env), swapsWithSole [.Tuple tg kt pt] (.Tuple es k2 pt2) n env = pure false := by intro _ _; rfl) (hw : ∀ env : PySem.Env, env.scope = c.sc → swappedStores [.Tuple tg kt pt] (.Tuple es k2 pt2) env = pure none := by intro env h; cases env; cases h; rfl)
    (hn' : ∀ env : PySem.Env, (assignEach tg env).length = n := by intro _; rfl) (hst : ∀ env : PySem.Env, (assignEach tg env).findIdx? (·.1) = none := by intro _; rfl) :
    ZS G c E W L Γ (.Assign [.Tuple tg kt pt] (.Tuple es k2 pt2) pos) (zset m) (fun a => Γ.set i (.ow (ownO q0 C0 (putFs (l.map (·.1)) (A a) fs)))) := by
  have e := t.eq
  subst e
  exact zs_flds nm hi cl na hn hl hA hz h sx hs hw hn' hst
/-! ### name += e -/
/-! ### slices -/
def cut (xs : List α) (lo hi : Option Int) : List α := (xs.drop (HT.sIx xs.length 0 lo)).take (HT.sIx xs.length xs.length hi - HT.sIx xs.length 0 lo)
theorem All2.cut {r : α → V → Prop} {xs : List α} {vs : List V} (h : All2 r xs vs) (lo hi : Option Int) : All2 r (Zk.cut xs lo hi) (cutV vs lo hi) := by
  unfold Zk.cut cutV
  rw [← h.length]
  exact (h.drop _).take _
/-- a written bound of a slice -/
def ZP (G : Gx) (c : Sc) (E : Eff τ) (W : WX) (Γ : Env) (e : Option Expr) (m : M τ (Option Int)) : Prop := ∀ X, CtxOk G c W X → PO X e fun σ H Q => ∃ B S b, Hold E B Γ b σ S H ∧ (match m b with | .ok a b' => ∀ S' H', Same S S' → Hold E B Γ b' σ S' H' → Q a H' | .exc x b' => ∀ c d S' H', Same S S' → Hold E B Γ b' σ S' H' → XAt G x H' c d → W c d σ H' | .stuck => False)
theorem po_wk {X : Cx} {e : Option Expr} {t t' : TO} (h : PO X e t) (w : ∀ σ H Q, t' σ H Q → t σ H Q) : PO X e t' := ⟨fun pins s σ H Q I q => h.run pins s σ H Q I (w σ H Q q)⟩
theorem zp_no : ZP G c E W Γ none (ret none) := fun X C => po_wk po_none fun σ H Q ⟨B, S, b, hh, q⟩ => q S H (Same.refl _) hh
def zsome (m : M τ Int) : M τ (Option Int) := bnd m fun i => ret (some i)
theorem zp_so {e : Expr} {m : M τ Int} (h : ZE G c E W Γ e m rInt) : ZP G c E W Γ (some e) (zsome m) := fun X C => po_wk (po_some (h X C)) fun σ H Q ⟨B, S, b, hh, q⟩ => by
  refine ⟨B, S, b, hh, ?_⟩
  unfold zsome bnd at q
  cases e : m b with
  | stuck => rw [e] at q; exact q.elim
  | exc x b1 => rw [e] at q; exact q
  | ok a b1 => rw [e] at q; exact fun v S1 H1 s1 h1 r1 => ⟨a, r1, q S1 H1 s1 h1⟩
def zsl (m : M τ (List α)) (l h : M τ (Option Int)) : M τ (List α) := bnd m fun xs => bnd l fun lo => bnd h fun hi => ret (cut xs lo hi)
theorem tz_sl {r : V → Option Int → Option Int → Hp → VK → Prop} {R R' : Rel (List α)} {m : M τ (List α)} {l h : M τ (Option Int)} {e : Expr} {lo hi : Option Expr} {p2 pos : Pos} (hr : ∀ X, CtxOk G c W X → SlR X r) (he : ZE G c E W Γ e m R) (hl : ZP G c E W Γ lo l) (hh : ZP G c E W Γ hi h)
    (hq : ∀ {xs : List α} {v : V} {lo hi : Option Int} {B : Bs} {S H : Hp} {b : τ} {σ : St} {Q : VK}, Hold E B Γ b σ S H → R.is xs S v → aft G E W B Γ σ S R' Q (ret (cut xs lo hi) b) → r v lo hi H Q) : ZE G c E W Γ (.Subscript e (.Slice lo hi none p2) pos) (zsl m l h) R' := fun X C =>
  pe_wk (pe_slice (hr X C) (he X C) (hl X C) (hh X C)) fun σ H Q _ ⟨B, S, b, hh, q⟩ => by
    refine tz_bnd hh q fun xs b1 v S1 H1 s1 h1 r1 q1 => ?_
    refine ⟨B, S1, b1, h1, ?_⟩
    unfold bnd at q1
    cases e : l b1 with
    | stuck => rw [e] at q1; exact q1.elim
    | exc x b1 => rw [e] at q1; exact q1
    | ok lo b2 =>
      rw [e] at q1
      intro S2 H2 s2 h2
      refine ⟨B, S2, b2, h2, ?_⟩
      dsimp only at q1
      cases e : h b2 with
      | stuck => rw [e] at q1; exact q1.elim
      | exc x b1 => rw [e] at q1; exact fun c d S' H' s' h' xa => q1 c d S' H' (s2.trans s') h' xa
      | ok hi b3 =>
        rw [e] at q1
        exact fun S3 H3 s3 h3 => hq h3 (R.mono (s2.trans s3) r1) (aft.same (s2.trans s3) q1)
theorem z_slL {R : Rel α} {m : M τ (List α)} {l h : M τ (Option Int)} {e : Expr} {lo hi : Option Expr} {p2 pos : Pos} (he : ZE G c E W Γ e m (rLst R)) (hl : ZP G c E W Γ lo l) (hh : ZP G c E W Γ hi h) : ZE G c E W Γ (.Subscript e (.Slice lo hi none p2) pos) (zsl m l h) (rLst R) :=
  tz_sl (r := rSlL G.K) (fun X C => by rw [← C.K]; exact sl_list) he hl hh fun hh ⟨a, vs, e1, e2, e3⟩ q => ⟨a, vs, e1, .of (hh.same _ _ e2), fun p hp => aft_new hh q hp (rLst_new (hh.same.free hp) (e3.cut _ _))⟩
theorem z_slSc {R : Rel α} {m : M τ (List α)} {l h : M τ (Option Int)} {e : Expr} {lo hi : Option Expr} {p2 pos : Pos} (he : ZE G c E W Γ e m (rSc G.K R)) (hl : ZP G c E W Γ lo l) (hh : ZP G c E W Γ hi h) : ZE G c E W Γ (.Subscript e (.Slice lo hi none p2) pos) (zsl m l h) (rLst R) :=
  tz_sl (r := rSlL G.K) (fun X C => by rw [← C.K]; exact sl_list) he hl hh fun hh ⟨a, vs, e1, e2, e3⟩ q => ⟨a, vs, e1, e2.elim (fun z => .inl (z.elim (fun z => .inl (hh.same _ _ z)) fun ⟨o, z⟩ => .inr ⟨o, hh.same _ _ z⟩)) .inr, fun p hp => aft_new hh q hp (rLst_new (hh.same.free hp) (e3.cut _ _))⟩
/-! ### tuples added -/
/-! ### sorted -/
end
end Zk

namespace Zk
open PySem L2

section
variable {τ α β γ δ κ ρ ι θ : Type} {G : Gx} {c : Sc} {E : Eff τ} {W : WX} {Γ Γ' : Env} {B : Bs} {σ : St} {S S1 S' H H' : Hp} {b b' : τ} {L : Ls κ ρ}

/-! ### an __init__ of an own exception -/
theorem xini1 {qual fld pn bn : Str} {st : Stmt} {f A0 : Addr} {fd : FuncData} {mc : Value} {z : Str} {jz : Nat} {p1 p2 p3 p4 p5 p6 p7 p8 p9 p10 : Pos} {pl : PySem.Env → Sem Bool} (F : Fun G.K "__init__" qual st f fd) (sc : FnScope ["self", pn] ["self", pn] (defScope st))
    (hb : defBody st = [.Expr (.Call (.Attribute (.Name bn p1) "__init__" p2) [.Name "self" p3, .Constant (.str z) jz p4] [] p5) p6, .Assign [.Attribute (.Name "self" p7) fld p8] (.Name pn p9) p10]) (T : AIn G.K A0 mc) (hm : G.mg bn = some (.ref A0))
    (gb : (defScope st).names.lookup bn = some .globalImplicit) (v0 : Vis (defScope st) "self") (v1 : Vis (defScope st) pn) (hd : (bn == ("__debug__" : Str)) = false := by decide) (hd1 : (pn == ("__debug__" : Str)) = false := by decide) (hd2 : (pn == ("__classdict__" : Str)) = false := by decide)
    (ht : EvM (.Name bn p1) "__init__" [.Name "self" p3, .Constant (.str z) jz p4] p2 p5 pl := by intro _; rfl)
    (hsw : ∀ env : PySem.Env, swapsWith (.Name pn p9) (some (.Attribute (.Name "self" p7) fld p8)) p10.line env = pure false := by intro _; rfl) :
    FnOk G.P G.w G.K G.mg G.base (L2.CX G.P G.w) 1 f fd ["self", pn] (spX1 G.K fld) := by
  refine F.okX sc (fun vs H Q XE ⟨a, v, C, e, _⟩ => by rw [e]; rfl) (fun cdv A outer s H vs Q XE hr h => ?_)
  obtain ⟨a, v, C, rfl, ox, hn, ha, q⟩ := h
  rw [hb]
  refine ⟨_, pss_cons (ps_expr (pe_ainit T gb hm (pa_cons (pe_var (i := 0) rfl v0 (by decide) (by decide)) (pa_cons pe_str pa_nil)) (ht _) rfl rfl hd)) (pss_one (ps_ost (pe_var (i := 0) rfl v0 (by decide) (by decide)) (pe_var (i := 1) rfl v1 hd1 hd2) (hsw _))), ?_⟩
  exact ⟨_, rfl, a, C, _, rfl, by simp, ox, ha, _, rfl, _, rfl, a, C, rfl, ox, hn, .inl ⟨ha, fun d hd hne => q d hd hne⟩⟩

/-! ### repr of data -/
def frepr {R : Rel α} (D : DatR R) (x : α) : M τ Str := chk ((D.d x).showable = true ∧ (D.d x).canLay0 = true ∧ D.n ≤ 60 ∧ (D.d x).shown.length ≤ sizeLine) (ret (D.d x).shown)
structure RefR (R : Rel α) : Prop where
  h : ∀ {x : α} {S : Hp} {v : V}, R.is x S v → ∃ a, v = .ref a
theorem rf2 {R : Rel α} {R2 : Rel β} : RefR (rT2 R R2) := ⟨fun ⟨a, _, _, e, _⟩ => ⟨a, e⟩⟩
def rReprD (K : PySem.W.Frag) : List V → Hp → VK → Prop := fun xs H Q => ∃ a d, xs = [.ref a] ∧ Dp K H (.ref a) d ∧ d.showable = true ∧ d.hasDict = false ∧ d.depth ≤ 60 ∧ d.shown.length ≤ sizeLine ∧ Q (.str d.shown) H
theorem cr_reprD {X : Cx} (hg : X.A.guards = some []) (hu : X.A.units + 64 < cLine) : CallR X (.builtin "repr") (rReprD X.K) := by
  intro pins s σ H vs us Q I r h
  obtain ⟨a, d, rfl, hd, h1, h2, h3, h4, q⟩ := h
  rw [Vals.ref1 r]
  obtain ⟨as, rd⟩ := Dp.reads I d _ (.ref a) hd rfl
  exact repr_of_reads' rd h1 (PyData.noDict_hsm h2) hg (by omega) (fun _ _ z => z) (fun h' u tk k => ⟨.str _, H, I.kept (t' := tk) k, ⟨_, rfl⟩, q⟩) h4
theorem z_repr {R : Rel α} (D : DatR R) (rf : RefR R) {x : Str} {p pos : Pos} {e : Expr} {m : M τ α} (hgd : c.gd = true) (bl : Blt G c x (.builtin "repr")) (ha : ZE G c E W Γ e m R) (hs : Star e [] := by intro _; rfl) : ZE G c E W Γ (.Call (.Name x p) [e] [] pos) (zapp (frepr D) m) rStr :=
  z_b1 bl (R := R) (r := rReprD G.K) (fun X C => by rw [← C.K]; exact cr_reprD (C.gds hgd) C.room.units) (fun B σ S H b x v Q hh hx q => by
    obtain ⟨⟨h1, h2, h3, h4⟩, q⟩ := aft_chk q
    obtain ⟨a, rfl⟩ := rf.h hx
    exact ⟨a, _, rfl, D.dp hh.same hx, h1, PyData.hasDict_of_canLay _ h2, Nat.le_trans (D.dep x) h3, h4, aft_ret hh q rfl⟩) ha hs
theorem z_reprI {x : Str} {p pos : Pos} {e : Expr} {m : M τ Int} (bl : Blt G c x (.builtin "repr")) (ha : ZE G c E W Γ e m rInt) (hs : Star e [] := by intro _; rfl) : ZE G c E W Γ (.Call (.Name x p) [e] [] pos) (zapp (frepr datI) m) rStr :=
  z_b1 bl (R := rInt) (r := fun xs H Q => ∃ i, xs = [.int i] ∧ i.natAbs.log2 < 1920 ∧ Q (.str (toString i)) H) (fun X C => SkE.call_repr_int) (fun B σ S H b x v Q hh hx q => by
    obtain ⟨⟨h1, h2, h3, h4⟩, q⟩ := aft_chk q
    have h1 : x.natAbs.log2 < 1920 := by simpa [datI, PyData.showable] using h1
    refine ⟨x, by rw [show v = .int x from hx], h1, aft_ret hh q ?_⟩
    show V.str _ = V.str _
    simp [datI, PyData.shown]) ha hs

/-! ### C(e, .., k = e) -/
structure MkAtK (g : Bool) (G : Gx) (C : Addr) (k n : Nat) (ps ks : List Str) (sp : Sp) (gV : List V → List V → List V) : Prop where
  ex : ∃ f fd gg, Mk G.K C f ∧ KBn G.K fd ps (n + 1) ks gg gV ∧ FnG g G.P G.w G.K G.mg G.base k f fd ps sp
/-! ### the bag's making -/
def spBag (K : PySem.W.Frag) (mk : List Int → M Unit (List Int)) : Sp := fun vs H Q _ => ∃ xs v S, vs = [v] ∧ (rSc K rInt).is xs S v ∧ Same S H ∧ match mk xs () with
  | .ok cs _ => ∀ p l S' H', Keep (fun _ => False) ⟨S, H⟩ S' H' → S' p = none → S' l = none → H p = none → H l = none → p ≠ l → H' p = some (.lst (Bag.row ⟨0, 1234567891, 0, cs⟩ l)) → H' l = some (.lst (cs.map V.int)) → Q (.ref p) H'
  | _ => False
theorem bag_ok {g : Bool} {x qual pn : Str} {st : Stmt} {f : Addr} {fd : FuncData} {N : List Str} {e : Expr} {j1 j2 j3 : Nat} {p1 p2 p3 p4 p5 : Pos} {mk : List Int → M Unit (List Int)} (F : Fun G.K x qual st f fd) (sc : FnScope N [pn] (defScope st))
    (hb : defBody st = [.Return (some (.List [.Constant (.int 0) j1 p1, .Constant (.int 1234567891) j2 p2, .Constant (.int 0) j3 p3, e] p4)) p5])
    (h : ∀ xs W, ZF G ⟨N, defScope st, 0, true, fun _ => true, g⟩ noE W (envOf N.length [(rSc G.K rInt).pr xs]) e (mk xs) (ownL rInt))
    (hs : ∀ env : PySem.Env, swapsWith (.List [.Constant (.int 0) j1 p1, .Constant (.int 1234567891) j2 p2, .Constant (.int 0) j3 p3, e] p4) none p5.line env = pure false := by intro _; rfl)
    (h1 : Star (.Constant (.int 0) j1 p1) [.Constant (.int 1234567891) j2 p2, .Constant (.int 0) j3 p3, e] := by intro _; rfl) (h2 : Star (.Constant (.int 1234567891) j2 p2) [.Constant (.int 0) j3 p3, e] := by intro _; rfl) (h3 : Star (.Constant (.int 0) j3 p3) [e] := by intro _; rfl) (h4 : Star e [] := by intro _; rfl) :
    FnG g G.P G.w G.K G.mg G.base 1 f fd [pn] (spBag G.K mk) := by
  refine fng_F F sc (fun vs H Q XE h => ?_) (fun cdv A0 outer s H vs Q XE hr hgd hq => ?_)
  · obtain ⟨xs, v, S, rfl, _⟩ := h; rfl
  · obtain ⟨xs, v, S, rfl, hv, sm, q⟩ := hq
    let W : WX := fun cls d _ H => XE cls d H
    have C : CtxOk G ⟨N, defScope st, 0, true, fun _ => true, g⟩ W (cxOf (L2.CX G.P G.w) G.P G.w G.K G.mg G.base N qual (defScope st) f cdv A0 outer s H XE) :=
      ⟨rfl, rfl, rfl, rfl, rfl, rfl, sc.nd, rfl, rfl, hr, hgd, takes_of rfl rfl rfl rfl, passes_of rfl, rfl, fun _ => ⟨rfl, rfl⟩⟩
    rw [hb]
    refine ⟨_, pss_one (ps_ret (pe_lst (pa_cons pe_int (pa_cons pe_int (pa_cons pe_int (pa_cons (h xs W _ C) pa_nil (h4 _)) (h3 _)) (h2 _)) (h1 _)))), ?_⟩
    have hh : Hold noE ⟨S, H⟩ (envOf N.length [(rSc G.K rInt).pr xs]) () (start N [v]) S H := hold_start sm trivial ⟨hv, trivial⟩
    refine ⟨⟨S, H⟩, S, (), hh, ?_⟩
    cases e : mk xs () with
    | stuck => rw [e] at q; exact q.elim
    | exc x b => rw [e] at q; exact q.elim
    | ok cs u =>
      rw [e] at q
      intro w S1 H1 H2 F s1 hh1 hF hk ⟨l, ws, ew, hf, hl, hw⟩
      subst ew
      obtain ⟨n1, _⟩ := hF l ((hf l).mpr rfl)
      refine ⟨by show 4 ≤ _; decide, fun p hp => ?_⟩
      have npl : p ≠ l := fun z => by rw [z, hl] at hp; cases hp
      have hp1 : H1 p = none := by rw [← hk p fun z => npl ((hf p).mp z)]; exact hp
      have oldH : ∀ a o, S a = none → H a = some o → a ≠ p ∧ a ≠ l := fun a o e1 e2 => by
        have := (hh1.kp.kp a o e1 e2 id).2
        exact ⟨ne_of_none this hp1, ne_of_none this n1⟩
      have fr : ∀ a, H1 a = none → H a = none := fun a z => by
        cases y : H a with
        | none => rfl
        | some o =>
          cases t : S a with
          | none => have := (hh1.kp.kp a o t y id).2; rw [z] at this; cases this
          | some o' => have := hh1.same _ _ (hh1.kp.up _ _ t); rw [z] at this; cases this
      refine q p l S1 _ ⟨fun a o e => ?_, hh1.kp.up, fun a o e1 e2 _ => ?_⟩ (hh1.same.free hp1) (hh1.same.free n1) (fr p hp1) (fr l n1) npl upd_same ?_
      · have e := hh1.same _ _ e
        rw [upd_ne (ne_of_none e hp1), hk a fun z => ne_of_none e n1 ((hf a).mp z)]; exact e
      · obtain ⟨y1, y2⟩ := oldH a o e1 e2
        obtain ⟨z1, z2⟩ := hh1.kp.kp a o e1 e2 id
        exact ⟨z1, by rw [upd_ne y1, hk a fun z => y2 ((hf a).mp z)]; exact z2⟩
      · rw [upd_ne (Ne.symm npl), hl, All2.ints hw]
theorem Hold.unbag {Γ : Env} {B : Bs} {σ : St} {S H : Hp} {s : Bag} {p l : Addr} (h : Hold (bagE p l) B Γ s σ S H) (f : ∀ a o, B.S a = none → B.H a = some o → a ≠ p ∧ a ≠ l) : Hold noE B Γ () σ S H := by
  obtain ⟨Fs, hF, hs⟩ := h.sl
  exact ⟨⟨h.kp.same, h.kp.up, fun a o e1 e2 _ => h.kp.kp a o e1 e2 fun z => z.elim (f a o e1 e2).1 (f a o e1 e2).2⟩, trivial, Fs, ⟨fun i a e => let ⟨q1, q2, _, q4⟩ := hF.at_ i a e; ⟨q1, q2, id, q4⟩, hF.ds⟩, hs⟩
theorem Hold.inbag {Γ : Env} {B : Bs} {σ : St} {S H S' H' : Hp} {s : Bag} {p l : Addr} (h : Hold noE B Γ () σ S H) (k : Keep (fun _ => False) ⟨S, H⟩ S' H') (e : (bagE p l).is s S' H') (hp : H p = none) (hl : H l = none) : Hold (bagE p l) B Γ s σ S' H' := by
  obtain ⟨Fs, hF, hs⟩ := h.sl
  refine ⟨⟨k.same, h.kp.up.trans k.up, fun a o h1 h2 _ => ?_⟩, e, Fs, ⟨fun i a e => ?_, hF.ds⟩, fun i t e => ?_⟩
  · obtain ⟨q1, q2⟩ := h.kp.kp a o h1 h2 id
    exact k.kp a o q1 q2 id
  · obtain ⟨q1, q2, q3, o, q4⟩ := hF.at_ i a e
    exact ⟨(k.kp a o q1 q4 id).1, q2, fun z => z.elim (ne_of_none q4 hp) (ne_of_none q4 hl), o, (k.kp a o q1 q4 id).2⟩
  · have q := hs i t e
    cases t with
    | no => trivial
    | st p => obtain ⟨x, e1, e2⟩ := q; exact ⟨x, e1, p.mono k.up e2⟩
    | ow p => obtain ⟨x, e1, e2⟩ := q; exact ⟨x, e1, p.mono k.up (fun a o ha e => (k.kp a o (hF.at_ i a ha).1 e id).2) e2⟩
    | gh p => exact p.mono k.up (fun a o ha e => (k.kp a o (hF.at_ i a ha).1 e id).2) q
def unb (o : Out Bag α) : Out Unit α := match o with | .ok a _ => .ok a () | .exc e _ => .exc e () | .stuck => .stuck
def zbag (mk : List Int → M Unit (List Int)) (xs : List Int) (m : M Bag α) : M Unit α := fun _ => match mk xs () with
  | .ok cs _ => unb (m ⟨0, 1234567891, 0, cs⟩)
  | _ => .stuck
/-- bag = _law_bag(script), then the rest -/
theorem zb_bag {g : Bool} {i j k : Nat} {x y fn : Str} {ps : List Str} {rest : List Stmt} {p p2 p3 pos pos2 : Pos} {mk : List Int → M Unit (List Int)} {xs : List Int} {m : M Bag (Fl α κ ρ)} {Γn : α → Env} (F : FnAt g G fn k ps (spBag G.K mk)) (hk : k ≤ c.k) (hg : g = true → c.gd = true) (gb : Gb c fn)
    (nx : Nm c i x) (hi : Γ[i]? = some (.st ((rSc G.K rInt).pr xs))) (ny : Ns c j y) (h : ∀ p l, ZB G c (bagE p l) W L (Γ.set j (.st ((rRef p).pr ()))) rest m Γn)
    (hd : (fn == ("__debug__" : Str)) = false := by decide) (hs : NoSwap (.Call (.Name fn p2) [.Name x p3] [] pos2) := by intro _ _ _; rfl) :
    ZB G c noE W L Γ (.Assign [.Name y p] (.Call (.Name fn p2) [.Name x p3] [] pos2) pos :: rest) (zbag mk xs m) Γn := fun X C => by
  obtain ⟨f0, fd, h1, h2, h3, h4⟩ := F.ex
  rw [← C.prog, ← C.w, ← C.K, ← C.mg, ← C.base] at h4
  rw [← C.mg] at h1
  rw [← C.K] at h2 h3
  refine pss_wk (pss_cons (ps_set C.set_hN (C.hi ny.n) (by rw [C.sc]; exact ny.l) (pe_callG (Ex := WE W) h4 (C.room.mono hk) (fun z => C.gds (hg z)) (C.gl gb) h1 h2 h3 .nil (passAt C.takes) (pa_cons (pe_var (C.hi nx.n) (by rw [C.sc]; exact nx.v) nx.d nx.cd) pa_nil rfl) hd rfl rfl) (hs _ _ _) (C.hf ny)) (pss_ex fun p : Addr × Addr => h p.1 p.2 X C)) fun D σ H hl ⟨B, S, b, hh, q⟩ => ?_
  obtain ⟨Fs, hF, hsl⟩ := id hh.sl
  obtain ⟨v, e1, e2⟩ := hsl i _ hi
  refine ⟨v, slot_get e1, xs, v, S, rfl, by rw [C.K]; exact e2, hh.same, ?_⟩
  unfold zbag at q
  cases e : mk xs () with
  | stuck => rw [e] at q; exact q.elim
  | exc x b => rw [e] at q; exact q.elim
  | ok cs u =>
    rw [e] at q
    intro p l S' H' k s1 s2 f1 f2 hne e3 e4
    have h' : Hold (bagE p l) B (Γ.set j (.st ((rRef p).pr ()))) ⟨0, 1234567891, 0, cs⟩ (σ.set j (some (.ref p))) S' H' := (hh.inbag (s := ⟨0, 1234567891, 0, cs⟩) k ⟨hne, s1, s2, e3, e4⟩ f1 f2).set (C.lt ny.n hl) rfl
    refine ⟨(p, l), B, S', _, h', ?_⟩
    have ff : ∀ a o, B.S a = none → B.H a = some o → a ≠ p ∧ a ≠ l := fun a o e1 e2 => by
      have := (hh.kp.kp a o e1 e2 id).2
      exact ⟨ne_of_none this f1, ne_of_none this f2⟩
    dsimp only at q
    cases e : m ⟨0, 1234567891, 0, cs⟩ with
    | stuck => rw [e] at q; exact q.elim
    | exc x b => rw [e] at q; exact fun c d σ' S1 H1 h1 xa => q c d σ' S1 H1 (h1.unbag ff) xa
    | ok r b =>
      rw [e] at q
      cases r with
      | nx a => exact fun σ' S1 H1 s h1 => q σ' S1 H1 (k.up.trans s) (h1.unbag ff)
      | rt r => exact fun v σ' S1 H1 h1 rr => q v σ' S1 H1 (h1.unbag ff) rr
      | bk r => exact fun σ' S1 H1 s h1 => q σ' S1 H1 (k.up.trans s) (h1.unbag ff)
      | ct r => exact fun σ' S1 H1 s h1 => q σ' S1 H1 (k.up.trans s) (h1.unbag ff)
end
end Zk

namespace Zk
open PySem L2
/-! ### small checks, for printed walks -/
def visB (k : Option NameKind) : Bool := match k with | some .local => true | some .cell => true | some .free => true | _ => false
def nmB (c : Sc) (i : Nat) (x : Str) : Bool := (c.N[i]? == some x) && visB (c.sc.names.lookup x) && !(x == ("__debug__" : Str)) && !(x == ("__classdict__" : Str))
theorem nm_of {c : Sc} {i : Nat} {x : Str} (h : nmB c i x = true) : Nm c i x := by
  unfold nmB at h
  simp only [Bool.and_eq_true, Bool.not_eq_true', beq_iff_eq] at h
  obtain ⟨⟨⟨h1, h2⟩, h3⟩, h4⟩ := h
  refine ⟨h1, ?_, h3, h4⟩
  cases e : c.sc.names.lookup x with
  | none => rw [e] at h2; cases h2
  | some k =>
    rw [e] at h2
    cases k with
    | «local» => exact .inl e
    | cell => exact .inr (.inl e)
    | free => exact .inr (.inr e)
    | _ => cases h2
def nsB (c : Sc) (i : Nat) (x : Str) : Bool := (c.N[i]? == some x) && (match c.sc.names.lookup x with | some .local => true | some .cell => c.fx x | _ => false)
theorem ns_of {c : Sc} {i : Nat} {x : Str} (h : nsB c i x = true) : Ns c i x := by
  unfold nsB at h
  simp only [Bool.and_eq_true, beq_iff_eq] at h
  obtain ⟨h1, h2⟩ := h
  cases e : c.sc.names.lookup x with
  | none => rw [e] at h2; cases h2
  | some k =>
    rw [e] at h2
    cases k with
    | «local» => exact ⟨h1, .inl e, .inr e⟩
    | cell => exact ⟨h1, .inr e, .inl h2⟩
    | _ => cases h2
theorem blt_of {G : Gx} {c : Sc} {x : Str} {u : Value} (m : G.mg x = none) (h : (c.sc.names.lookup x = some .globalImplicit ∧ bootBuiltins x = some u) ∧ x ≠ "__name__" ∧ (x == ("__debug__" : Str)) = false) : Blt G c x u := ⟨h.1.1, m, h.1.2, h.2.1, h.2.2⟩
theorem blk_of {N : List Str} {sc scope : Scope} {own : List (Str × Nat)} (k : scope.kind = .function) (h : (∀ y ∈ scope.names, scope.names.lookup y.1 = some y.2) ∧ (∀ p ∈ own, N[p.2]? = some p.1) ∧ (∀ y ∈ scope.names, y.2 = .free → sc.names.lookup y.1 = some .cell ∨ sc.names.lookup y.1 = some .free) ∧ ∀ y ∈ scope.names, y.2 = .local ∨ y.2 = .cell → y.1 ∈ own.map (·.1) ∨ y.1 ∉ N) : BlkOk N sc scope own := ⟨k, h.1, h.2.1, h.2.2.1, h.2.2.2⟩
theorem z_obj {τ ρ : Type} {G : Gx} {c : Sc} {E : Eff τ} {W : WX} {Γ : Env} {e : Expr} {m : M τ ρ} {C : Addr} (fs : ρ → List (Str × Pr)) (h : ZF G c E W Γ e m (fun r => ownO (fun _ => True) C (fs r))) : ZE G c E W Γ e m (rObj C fs) := zf_e (fun _ => one_O fun _ => rfl) h
def NoAt (Γ : Env) : List Nat → Prop
  | [] => True
  | v :: vs => Γ[v]? = some .no ∧ NoAt Γ vs
theorem lc_no {Γ : Env} : ∀ {vs : List Nat}, NoAt Γ vs → ∀ (i : Nat) s, Γ[i]? = some s → s = .no ∨ i ∉ vs
  | [], _, _, _, _ => .inr (by simp)
  | v :: vs, ⟨h1, h2⟩, i, s, h => by
    by_cases e : i = v
    · subst e; rw [h1] at h; cases h; exact .inl rfl
    · rcases lc_no h2 i s h with z | z
      · exact .inl z
      · exact .inr (by simp [e, z])
theorem z_gintE {τ : Type} {G : Gx} {c : Sc} {E : Eff τ} {W : WX} {Γ : Env} {x : Str} {i : Int} {pos : Pos} (g : Gb c x) (h : ∃ u, G.mg x = some u ∧ RelV (.int i) u) (hd : (x == ("__debug__" : Str)) = false := by decide) : ZE G c E W Γ (.Name x pos) (ret i) rInt := let ⟨_, h1, h2⟩ := h; z_gint g h1 h2 hd
theorem nas_nil {K : PySem.W.Frag} {C : Addr} : ∀ t ∈ ([] : List (Str × Pos × Pos)), NoAttr K C t.1 := fun t h => by cases h
theorem nas_cons {K : PySem.W.Frag} {C : Addr} {f : Str} {p : Pos × Pos} {l : List (Str × Pos × Pos)} (h : NoAttr K C f) (h2 : ∀ t ∈ l, NoAttr K C t.1) : ∀ t ∈ (f, p) :: l, NoAttr K C t.1 := fun t ht => by
  rcases List.mem_cons.mp ht with e | e
  · rw [e]; exact h
  · exact h2 t e
section
variable {α β γ δ ε : Type} {R1 : Rel α} {R2 : Rel β} {R3 : Rel γ} {R4 : Rel δ}
end
end Zk

namespace Zk
open PySem L2 PySem.Spec PyProof.Rows
/-! ### the end: a law whose def is known with the guards -/
section
variable {P : Program} {w : World} {K : PySem.W.Frag} {mg mb : Str → Option Value} {k : Nat} {fa a : Addr} {fd : FuncData} {x : Str} {sp : Sp} {s : Shared} {vs : List Value} {ns : List Int} {H : Hp}
/-- the call, where nothing but the script may be tracked -/
theorem enter_law (KX : K.In s.heap) (hns : s.heap.Ns mainGlobals mg) (hb : s.heap.Ns builtinsNs mb) (hbb : ∀ x : Str, x ≠ "__name__" → mb x = bootBuiltins x) (hlim : s.heap.NoLimit) (hg : s.gens = #[])
    (ha : s.heap.get? a = some { cls := .type "list", data := .seq vs.toArray }) (hr : Room k callerA) (F : ∀ base : Heap, K.In base → base.Ns mainGlobals mg → FnG true P w K mg base k fa fd [x] sp) (hbind : ∀ (s : Shared) (u : Value), BindsTo s fd ⟨[u], []⟩ [(x, u)])
    (hO : Only H) (hok : HOk P w H s.heap) (hA : ∀ b u, H b = some u → b = a ∧ K.lookup a = none) (hsp : sp [.ref a] H (fun v _ => v = .bl true) fun _ _ _ => False) :
    codeAny (model P w) callerA (.call (.ref fa) ⟨[.ref a], []⟩) (fun r s' => r = .ok (.ret (.bool true)) ∧ OldK s.heap s'.heap ∧ s'.os = s.os ∧ AllBare s'.gens) s := by
  have keepNs : ∀ b (m : Str → Option Value), s.heap.Ns b m → (hidT s.heap H).Ns b m := by
    rintro b m ⟨o, es, ep, e, d, r⟩
    have hn : H b = none := by
      cases q : H b with
      | none => rfl
      | some u =>
        obtain ⟨rfl, _⟩ := hA b u q
        rw [ha] at e
        cases e
        exact nomatch d
    exact ⟨o, es, ep, hidT_get e hn, d, r⟩
  have kin : K.In (hidT s.heap H) := by
    intro b o e
    cases q : H b with
    | none => exact hidT_get (KX b o e) q
    | some u =>
      obtain ⟨rfl, z⟩ := hA b u q
      rw [z] at e
      exact nomatch e
  obtain ⟨ml, l1, l2⟩ := hlim
  have md : Mod K mg (hidT s.heap H) := ⟨kin, keepNs _ _ hns, ⟨mb, keepNs _ _ hb, hbb⟩, ⟨ml, keepNs _ _ l1, l2⟩⟩
  have noMem : ∀ b : Addr, b ∉ ([] : List Addr) := by simp
  refine codeAny_mono ((F _ kin (keepNs _ _ hns)).go callerA [] s H ⟨[.ref a], []⟩ [.ref a] [.ref a] _ _ hr (fun _ => rfl) ⟨rfl, md, fun b o e => of_hidT e, Nat.le_of_eq (hidT_size _ _), trivial, fun b hb => absurd hb (noMem b), hok, .of_eq hg⟩ (hbind s (.ref a)) (.cons rfl .nil) hsp) fun r s' h => ?_
  match r, h with
  | .error e, h =>
    obtain ⟨_, _, _, _, _, _, _, _, _, _, _, _, z⟩ := h
    exact z.elim
  | .ok .next, h => exact False.elim h
  | .ok .brk, h => exact False.elim h
  | .ok .cont, h => exact False.elim h
  | .ok (.ret u), h =>
    obtain ⟨v, H', os, bare, un, hok', rv, q⟩ := h
    have q : v = .bl true := q
    subst q
    have rv : u = Value.bool true := rv
    subst rv
    refine ⟨rfl, OldK.of_keep fun b o e => ?_, os, bare⟩
    rcases hO b with z | ⟨ob, xs, z⟩
    · exact un.keep b o e z (fun y => absurd y (noMem b)) (by simp)
    · obtain ⟨e1, _⟩ := hok b _ z
      obtain ⟨e2, _⟩ := hok' b _ (un.frzs b ob _ z)
      rw [e1] at e
      cases e
      exact e2
open Classical in
theorem enter_lawS (KX : K.In s.heap) (hns : s.heap.Ns mainGlobals mg) (hb : s.heap.Ns builtinsNs mb) (hbb : ∀ x : Str, x ≠ "__name__" → mb x = bootBuiltins x) (hlim : s.heap.NoLimit) (hg : s.gens = #[])
    (ha : s.heap.get? a = some { cls := .type "list", data := .seq vs.toArray }) (hi : IntsAre vs ns) (hl : ns.length ≤ sizeLine) (hr : Room k callerA) (F : ∀ base : Heap, K.In base → base.Ns mainGlobals mg → FnG true P w K mg base k fa fd [x] sp) (hbind : ∀ (s : Shared) (u : Value), BindsTo s fd ⟨[u], []⟩ [(x, u)])
    (hsp : ∀ H, SqL K H a (ns.map V.int) → sp [.ref a] H (fun v _ => v = .bl true) fun _ _ _ => False) :
    codeAny (model P w) callerA (.call (.ref fa) ⟨[.ref a], []⟩) (fun r s' => r = .ok (.ret (.bool true)) ∧ OldK s.heap s'.heap ∧ s'.os = s.os ∧ AllBare s'.gens) s := by
  have rv : Vals (ns.map V.int) vs := vals_ints hi
  have lv : vs.length = ns.length := hi.length
  by_cases hk : K.lookup a = none
  · let u : HO := .frz { cls := .type "list", data := .seq vs.toArray } (.lst (ns.map V.int))
    have at_ : ∀ b z, (fun b => if b = a then some u else none : Hp) b = some z → b = a ∧ z = u := fun b z e => by
      by_cases hba : b = a
      · simp only [hba, if_true] at e; cases e; exact ⟨hba, rfl⟩
      · simp only [if_neg hba] at e; cases e
    refine enter_law (H := fun b => if b = a then some u else none) KX hns hb hbb hlim hg ha hr F hbind (fun b => ?_) (fun b z e => ?_) (fun b z e => ⟨(at_ b z e).1, hk⟩) (hsp _ (.inl (.inr ⟨_, if_pos rfl⟩)))
    · by_cases hba : b = a
      · exact .inr ⟨_, _, if_pos hba⟩
      · exact .inl (if_neg hba)
    · obtain ⟨rfl, rfl⟩ := at_ b z e
      exact ⟨ha, by rw [List.length_map]; exact hl, vs, _, rv, ha⟩
  · obtain ⟨o, e⟩ : ∃ o, K.lookup a = some o := Option.ne_none_iff_exists'.mp hk
    have e2 := KX a o e
    rw [ha] at e2
    cases e2
    exact enter_law (H := fun _ => none) KX hns hb hbb hlim hg ha hr F hbind (fun _ => .inl rfl) (fun b z e => nomatch e) (fun b z e => nomatch e) (hsp _ (.inr ⟨_, vs.toArray, _, e, rfl, rfl, rfl, by rw [List.size_toArray, lv]; exact hl, by simpa using rv⟩))
end
theorem walk_G {l : PySem.W.OpenLaw} {n k : Nat} {q : Program} {loose : List Str} {XP : (Str → Option Value) → Heap → Prop} {YP : World → Heap → Prop} {d : DefRec} {K : Params → PySem.W.Frag} {x : Str} {m : List Int → M Unit Bool}
    (hn : l.most = some n) (hn2 : n ≤ sizeLine) (hdf : d.params.defaults = []) (hr : Room k callerA) (hY : ∀ (w : World) (h : Heap), YP w h → (K w.params).In h)
    (F : ∀ (w : World) (mg : Str → Option Value) (fa : Addr) (h : Heap), (K w.params).In h → h.Ns mainGlobals mg → mg d.name = some (.ref fa) →
      ∃ fd : FuncData, (∀ (s : Shared) (u : Value), BindsTo s fd ⟨[u], []⟩ [(x, u)]) ∧ ∀ base : Heap, (K w.params).In base → base.Ns mainGlobals mg →
        FnG true l.prog w (K w.params) mg base k fa fd [x] (spZ ⟨l.prog, w, K w.params, mg, base⟩ (fun _ : Unit => noE) (fun (_ : Unit) (p : List Int) => [(rSc (K w.params) rInt).pr p]) m rBl))
    (hm : ∀ ns : List Int, ns.length ≤ n → m ns () = .ok true ()) : PySem.W.WalkO q loose XP YP l.row.toRowW d [] (fun f vs => PySem.call f vs) := by
  refine Att.attach_call hn hdf fun w s₀ s₁ mg mb fa o pm cd doc a vs ns G Y ho hd hcd hmg hobj hints hlen hg => ?_
  obtain ⟨fd, hb, hF⟩ := F w mg fa _ (hY w _ Y) G.T.g hmg
  refine enter_lawS (sp := spZ ⟨l.prog, w, K w.params, mg, s₁.heap⟩ (fun _ : Unit => noE) (fun (_ : Unit) (p : List Int) => [(rSc (K w.params) rInt).pr p]) m rBl) (hY w _ Y) G.T.g G.T.b G.T.builtins G.T.nolimit hg hobj hints (Nat.le_trans hlen hn2) hr (fun base k1 k2 => hF base k1 k2) hb fun H hS => ?_
  refine ⟨(), ns, H, (), ⟨⟨a, _, rfl, hS, All2.of_ints ns⟩, trivial⟩, Same.refl _, trivial, ?_⟩
  rw [hm ns hlen]
  exact fun v S' H' _ _ r => r
end Zk

namespace Zk
open PySem L2 PySem.Spec PyProof.Rows
/-! ### mirrors reckoned -/
section
variable {τ α β γ δ κ ρ : Type}
@[simp] theorem bnd_ret {a : α} {f : α → M τ β} : bnd (ret a) f = f a := rfl
@[simp] theorem ret_at {a : α} {s : τ} : (ret a : M τ α) s = .ok a s := rfl
@[simp] theorem zop1_ret {f : α → M τ β} {a : α} : zop1 f (ret a) = f a := rfl
@[simp] theorem zop2_ret {f : α → β → M τ γ} {a : α} {b : β} : zop2 f (ret a) (ret b) = f a b := rfl
@[simp] theorem zapp_ret {f : α → M τ β} {a : α} : zapp f (ret a) = f a := rfl
@[simp] theorem zpair_ret {a : α} {b : β} : zpair (ret a) (ret b) = (ret (a, b) : M τ _) := rfl
@[simp] theorem zcons_ret {a : α} {b : List α} : zcons (ret a) (ret b) = (ret (a :: b) : M τ _) := rfl
@[simp] theorem zget_ret {f : α → β} {a : α} : zget f (ret a) = (ret (f a) : M τ _) := rfl
@[simp] theorem zis_ret {k : Bool} {a : α} : zis k (ret a) = (ret k : M τ _) := rfl
@[simp] theorem zset_ret {a : α} : zset (ret a) = (ret (.nx a) : M τ (Fl α κ ρ)) := rfl
@[simp] theorem zrt_ret {a : ρ} : zrt (ret a) = (ret (.rt a) : M τ (Fl α κ ρ)) := rfl
@[simp] theorem znx_ret {a : α} : znx a = (ret (.nx a) : M τ (Fl α κ ρ)) := rfl
@[simp] theorem zseq_nx {a : α} {f : α → M τ (Fl β κ ρ)} : zseq (ret (.nx a)) f = f a := rfl
@[simp] theorem zseq_rt {r : ρ} {f : α → M τ (Fl β κ ρ)} : zseq (ret (.rt r)) f = ret (.rt r) := rfl
@[simp] theorem zseq_bk {r : κ} {f : α → M τ (Fl β κ ρ)} : zseq (ret (.bk r)) f = ret (.bk r) := rfl
@[simp] theorem zseq_ct {r : κ} {f : α → M τ (Fl β κ ρ)} : zseq (ret (.ct r)) f = ret (.ct r) := rfl
@[simp] theorem zseq_rse {e : Exc} {f : α → M τ (Fl β κ ρ)} : zseq (rse e) f = rse e := rfl
@[simp] theorem zifS_ret {b : Bool} {n o : M τ (Fl α κ ρ)} : zifS (ret b) n o = if b = true then n else o := rfl
@[simp] theorem zif_ret {b : Bool} {n o : M τ α} : zif (ret b) n o = if b = true then n else o := rfl
@[simp] theorem zbody_rt {r : ρ} : zbody (ret (.rt r) : M τ (Fl α κ ρ)) = ret r := rfl
@[simp] theorem zbody_rse {e : Exc} : zbody (rse e : M τ (Fl α κ ρ)) = rse e := rfl
@[simp] theorem zfin_rt {r : ρ} {n : α → M τ ρ} : zfin n (ret (.rt r) : M τ (Fl α κ ρ)) = ret r := rfl
@[simp] theorem zfin_nx {a : α} {n : α → M τ ρ} : zfin n (ret (.nx a) : M τ (Fl α κ ρ)) = n a := rfl
@[simp] theorem zini_nx {y : α} {n : α → ρ} : zini n (ret (.nx y) : M τ (Fl α Empty Empty)) = ret (n y) := rfl
@[simp] theorem lft_ret {a : α} : lft (ret a) = (ret a : M τ α) := rfl
@[simp] theorem lft_rse {e : Exc} : lft (rse e) = (rse e : M τ α) := rfl
@[simp] theorem znot_ret {b : Bool} : znot (ret b) = (ret (!b) : M τ _) := rfl
@[simp] theorem zand_rr {b c : Bool} : zand (ret b) (ret c) = (ret (b && c) : M τ _) := by cases b <;> rfl
@[simp] theorem zor_rr {b c : Bool} : zor (ret b) (ret c) = (ret (b || c) : M τ _) := by cases b <;> rfl
@[simp] theorem zand_t {n : M τ Bool} : zand (ret true) n = n := rfl
@[simp] theorem zand_f {n : M τ Bool} : zand (ret false) n = ret false := rfl
@[simp] theorem zor_t {n : M τ Bool} : zor (ret true) n = ret true := rfl
@[simp] theorem zor_f {n : M τ Bool} : zor (ret false) n = n := rfl
@[simp] theorem iadd_eq {x y : Int} : (iadd x y : M τ Int) = ret (x + y) := rfl
@[simp] theorem isub_eq {x y : Int} : (isub x y : M τ Int) = ret (x - y) := rfl
@[simp] theorem ineg_eq {x : Int} : (ineg x : M τ Int) = ret (-x) := rfl
@[simp] theorem ilt_eq {x y : Int} : (ilt x y : M τ Bool) = ret (decide (x < y)) := rfl
@[simp] theorem ile_eq {x y : Int} : (ile x y : M τ Bool) = ret (decide (x ≤ y)) := rfl
@[simp] theorem igt_eq {x y : Int} : (igt x y : M τ Bool) = ret (decide (x > y)) := rfl
@[simp] theorem ige_eq {x y : Int} : (ige x y : M τ Bool) = ret (decide (x ≥ y)) := rfl
@[simp] theorem feq_eq [DecidableEq α] {x y : α} : (feq x y : M τ Bool) = ret (decide (x = y)) := rfl
@[simp] theorem fne_eq [DecidableEq α] {x y : α} : (fne x y : M τ Bool) = ret (!decide (x = y)) := rfl
@[simp] theorem flen_eq {xs : List α} : (flen xs : M τ Int) = ret (xs.length : Int) := rfl
@[simp] theorem fsum_eq {xs : List Int} : (fsum xs : M τ Int) = ret xs.sum := rfl
@[simp] theorem fabs_eq {x : Int} : (fabs x : M τ Int) = ret (if x < 0 then -x else x) := rfl
@[simp] theorem fall_eq {xs : List Bool} : (fall xs : M τ Bool) = ret (xs.all id) := rfl
@[simp] theorem fany_eq {xs : List Bool} : (fany xs : M τ Bool) = ret (xs.any id) := rfl
@[simp] theorem frA1_eq {j : Int} : (frA1 j : M τ (List Int)) = ret (rng 0 j.toNat) := rfl
@[simp] theorem frA2_eq {x : Int × Int} : (frA2 x : M τ (List Int)) = ret (rng x.1 (x.2 - x.1).toNat) := rfl
@[simp] theorem zenum_ret {xs : List α} : zenum (ret xs) = (ret (fenum xs) : M τ _) := rfl
@[simp] theorem zsome_ret {i : Int} : zsome (ret i) = (ret (some i) : M τ _) := rfl
@[simp] theorem zsl_ret {xs : List α} {l h : Option Int} : zsl (ret xs) (ret l) (ret h) = (ret (cut xs l h) : M τ _) := rfl
theorem chk_pos {c : Prop} [Decidable c] {m : M τ α} (h : c) : chk c m = m := if_pos h
theorem zchain_ret {f : α → β → M τ Bool} {g : β → γ → M τ Bool} {a : α} {b : β} {c : γ} : zchain f g (ret a) (ret b) (ret c) = zand (f a b) (g b c) := rfl
@[simp] theorem zchain_ll {x y z : Int} : zchain ile ile (ret x) (ret y) (ret z) = (ret (decide (x ≤ y) && decide (y ≤ z)) : M τ _) := by rw [zchain_ret]; simp
@[simp] theorem zmeth_ret {f : α × β → M τ γ} {a : α} {b : β} : zmeth f (ret a) (ret b) = f (a, b) := rfl
theorem zlist_ret {xs : List α} (h : xs.length ≤ sizeLine) : zlist (ret xs) = (ret xs : M τ _) := by unfold zlist; rw [bnd_ret, chk_pos h]
theorem imod_eq {x y : Int} (h : 0 < y) : (imod x y : M τ Int) = ret (x % y) := chk_pos h
theorem imul_eq {x y : Int} (h : mulOk x y) : (imul x y : M τ Int) = ret (x * y) := chk_pos h
theorem idiv_eq {x y : Int} (h : divOk x y) : (idiv x y : M τ Int) = ret (x / y) := chk_pos h
theorem mul_small {x y : Int} (h : -(2 ^ 64) < y ∧ y < 2 ^ 64) : mulOk x y := .inr (.inr h)
theorem mul_smallL {x y : Int} (h : -(2 ^ 64) < x ∧ x < 2 ^ 64) : mulOk x y := .inr (.inl h)
theorem div_ok {x y : Int} (h : 0 < y) (hy : y < 2 ^ 9000) : divOk x y := wide_div (b := 9000) h (by omega) (by omega) (by omega)
theorem ixat_eq {xs : List α} {i : Int} {x : α} (h : atI xs i = some x) : (ixat xs i : M τ α) = ret x := by unfold ixat; rw [h]
theorem atI_nat {xs : List α} {i : Int} (h0 : 0 ≤ i) (h : i.toNat < xs.length) : atI xs i = some (xs[i.toNat]'h) := by
  unfold atI ixN
  have : i < xs.length := by omega
  simp [h0, this, h]
theorem ixat_nat {xs : List α} {i : Int} (h0 : 0 ≤ i) (h : i.toNat < xs.length) : (ixat xs i : M τ α) = ret (xs[i.toNat]'h) := ixat_eq (atI_nat h0 h)
theorem atI_last {xs : List α} (h : xs ≠ []) : atI xs (-1) = some (xs.getLast h) := by
  have hl : 0 < xs.length := List.length_pos_iff.mpr h
  unfold atI ixN
  rw [if_neg (by omega), if_pos (by omega)]
  show xs[(-1 + (xs.length : Int)).toNat]? = _
  rw [show (-1 + (xs.length : Int)).toNat = xs.length - 1 by omega, List.getLast_eq_getElem, List.getElem?_eq_getElem (by omega)]
theorem ixat_last {xs : List α} (h : xs ≠ []) : (ixat xs (-1) : M τ α) = ret (xs.getLast h) := ixat_eq (atI_last h)
theorem zforI_ret {xs : List β} {a : α} {f : α → β → M τ (Fl α α ρ)} : zforI (ret xs) a f = (zfor f a xs : M τ (Fl α κ ρ)) := rfl
theorem zfor_nil {a : α} {f : α → β → M τ (Fl α α ρ)} : zfor f a [] = (ret (.nx a) : M τ (Fl α κ ρ)) := rfl
theorem zfor_cons_nx {a a' : α} {x : β} {xs : List β} {f : α → β → M τ (Fl α α ρ)} (h : f a x = ret (.nx a')) : zfor f a (x :: xs) = (zfor f a' xs : M τ (Fl α κ ρ)) := by
  funext s; conv => lhs; unfold zfor
  rw [h]; rfl
theorem zfor_cons_rt {a : α} {x : β} {xs : List β} {r : ρ} {f : α → β → M τ (Fl α α ρ)} (h : f a x = ret (.rt r)) : zfor f a (x :: xs) = (ret (.rt r) : M τ (Fl α κ ρ)) := by
  funext s; conv => lhs; unfold zfor
  rw [h]; rfl
/-- a comprehension of pure parts -/
theorem zcomp_map {f : β → M τ γ} {g : β → γ} : ∀ (xs : List β) (acc : List γ), (∀ x ∈ xs, f x = ret (g x)) → acc.length + xs.length ≤ sizeLine → zcomp (fun _ => ret true) f acc xs = (ret (acc ++ xs.map g) : M τ _)
  | [], acc, _, _ => by simp [zcomp]
  | x :: xs, acc, h, hl => by
    unfold zcomp
    rw [show nox (ret true : M τ Bool) = ret true from rfl, bnd_ret, if_pos rfl, h x (by simp), show nox (ret (g x) : M τ γ) = ret (g x) from rfl, bnd_ret, chk_pos (by simp at hl; omega), zcomp_map xs (acc ++ [g x]) (fun y hy => h y (by simp [hy])) (by simp at hl ⊢; omega)]
    simp
theorem zlc_map {f : β → M τ γ} {g : β → γ} {xs : List β} (h : ∀ x ∈ xs, f x = ret (g x)) (hl : xs.length ≤ sizeLine) : zlc (fun _ => ret true) f (ret xs) = (ret (xs.map g) : M τ _) := by
  unfold zlc
  rw [bnd_ret, zcomp_map xs [] h (by simpa using hl)]; rfl
theorem frepr_eq {R : Rel α} {D : DatR R} {x : α} (h : (D.d x).showable = true ∧ (D.d x).canLay0 = true ∧ D.n ≤ 60 ∧ (D.d x).shown.length ≤ sizeLine) : (frepr D x : M τ Str) = ret (D.d x).shown := chk_pos h
theorem deq_eq {R : Rel α} {D : DatR R} [DecidableEq α] {x y : α} (h : deqOk D x y) : (deq D x y : M τ Bool) = ret (decide (x = y)) := chk_pos h
/-! ### what a mirror with draws answers -/
def Ok (I : τ → Prop) (m : M τ α) (Q : α → Prop) : Prop := ∀ s, I s → ∃ a s', m s = .ok a s' ∧ I s' ∧ Q a
def OkS (I : τ → Prop) (m : M τ (Fl α κ ρ)) (N : α → Prop) (R : ρ → Prop) (Kb Kc : κ → Prop) : Prop := ∀ s, I s → ∃ o s', m s = .ok o s' ∧ I s' ∧ (match o with | .nx a => N a | .rt r => R r | .bk k => Kb k | .ct k => Kc k)
variable {I : τ → Prop}
theorem ok_ret {a : α} {Q : α → Prop} (h : Q a) : Ok I (ret a) Q := fun s hs => ⟨a, s, rfl, hs, h⟩
theorem Ok.mono {m : M τ α} {P Q : α → Prop} (h : Ok I m P) (k : ∀ a, P a → Q a) : Ok I m Q := fun s hs => let ⟨a, s', e, i, p⟩ := h s hs; ⟨a, s', e, i, k a p⟩
theorem ok_bnd {m : M τ α} {f : α → M τ β} {P : α → Prop} {Q : β → Prop} (h : Ok I m P) (k : ∀ a, P a → Ok I (f a) Q) : Ok I (bnd m f) Q := fun s hs => by
  obtain ⟨a, s', e, i, p⟩ := h s hs
  unfold bnd; rw [e]; exact k a p s' i
theorem ok_op2 {m : M τ α} {n : M τ β} {f : α → β → M τ γ} {P1 : α → Prop} {P2 : β → Prop} {Q : γ → Prop} (h : Ok I m P1) (h2 : Ok I n P2) (k : ∀ a b, P1 a → P2 b → Ok I (f a b) Q) : Ok I (zop2 f m n) Q := ok_bnd h fun a pa => ok_bnd h2 fun b pb => k a b pa pb
theorem ok_app {m : M τ α} {f : α → M τ β} {P : α → Prop} {Q : β → Prop} (h : Ok I m P) (k : ∀ a, P a → Ok I (f a) Q) : Ok I (zapp f m) Q := ok_bnd h k
theorem ok_pair {m : M τ α} {n : M τ β} {P1 : α → Prop} {P2 : β → Prop} (h : Ok I m P1) (h2 : Ok I n P2) : Ok I (zpair m n) (fun p => P1 p.1 ∧ P2 p.2) := ok_bnd h fun a pa => ok_bnd h2 fun b pb => ok_ret ⟨pa, pb⟩
theorem ok_get {m : M τ α} {f : α → β} {P : α → Prop} (h : Ok I m P) : Ok I (zget f m) (fun y => ∃ x, P x ∧ y = f x) := ok_bnd h fun a pa => ok_ret ⟨a, pa, rfl⟩
/-- a list of k things that all keep Q -/
def LOf (k : Nat) (Q : α → Prop) (xs : List α) : Prop := xs.length = k ∧ ∀ x ∈ xs, Q x
theorem ok_nil {Q : α → Prop} : Ok I (ret ([] : List α)) (LOf 0 Q) := ok_ret ⟨rfl, by simp⟩
theorem ok_cons {m : M τ α} {n : M τ (List α)} {k : Nat} {Q : α → Prop} (h : Ok I m Q) (h2 : Ok I n (LOf k Q)) : Ok I (zcons m n) (LOf (k + 1) Q) := ok_bnd h fun a pa => ok_bnd h2 fun b pb => ok_ret ⟨by simp [pb.1], fun x hx => by
  rcases List.mem_cons.mp hx with e | e
  · rw [e]; exact pa
  · exact pb.2 x e⟩
theorem ok_list {m : M τ (List α)} {P : List α → Prop} (h : Ok I m P) (k : ∀ xs, P xs → xs.length ≤ sizeLine) : Ok I (zlist m) P := ok_bnd h fun a pa => by rw [chk_pos (k a pa)]; exact ok_ret pa
theorem ok_listN {m : M τ (List α)} {k : Nat} {Q : α → Prop} (h : Ok I m (LOf k Q)) (hk : k ≤ 1000) : Ok I (zlist m) (LOf k Q) := ok_list h fun xs p => by rw [p.1]; exact Nat.le_trans hk (by decide)
theorem ok_ix {m : M τ (List α)} {n : M τ Int} {k : Nat} {Q : α → Prop} (h : Ok I m (LOf k Q)) (h2 : Ok I n (fun i => 0 ≤ i ∧ i < (k : Int))) : Ok I (zop2 ixat m n) Q := ok_op2 h h2 fun xs i p q => by
  have hi : i.toNat < xs.length := by rw [p.1]; omega
  rw [ixat_nat q.1 hi]
  exact ok_ret (p.2 _ (List.getElem_mem hi))
section
variable {N N' : α → Prop} {N2 : β → Prop} {R : ρ → Prop} {Kb Kc : κ → Prop}
theorem oks_seq {m : M τ (Fl α κ ρ)} {f : α → M τ (Fl β κ ρ)} (h : OkS I m N R Kb Kc) (k : ∀ a, N a → OkS I (f a) N2 R Kb Kc) : OkS I (zseq m f) N2 R Kb Kc := fun s hs => by
  obtain ⟨o, s', e, i, p⟩ := h s hs
  unfold zseq; rw [e]
  cases o with
  | nx a => exact k a p s' i
  | rt r => exact ⟨_, _, rfl, i, p⟩
  | bk r => exact ⟨_, _, rfl, i, p⟩
  | ct r => exact ⟨_, _, rfl, i, p⟩
theorem oks_set {m : M τ α} (h : Ok I m N) : OkS I (zset m) N R Kb Kc := fun s hs => by
  obtain ⟨o, s', e, i, p⟩ := h s hs
  exact ⟨.nx o, s', by unfold zset bnd; rw [e]; rfl, i, p⟩
theorem oks_rt {m : M τ ρ} (h : Ok I m R) : OkS I (zrt m : M τ (Fl α κ ρ)) N R Kb Kc := fun s hs => by
  obtain ⟨o, s', e, i, p⟩ := h s hs
  exact ⟨.rt o, s', by unfold zrt bnd; rw [e]; rfl, i, p⟩
theorem oks_nx {a : α} (h : N a) : OkS I (znx a : M τ (Fl α κ ρ)) N R Kb Kc := fun s hs => ⟨.nx a, s, rfl, hs, h⟩
theorem oks_if {m : M τ Bool} {n o : M τ (Fl α κ ρ)} {P : Bool → Prop} (h : Ok I m P) (ht : P true → OkS I n N R Kb Kc) (hf : P false → OkS I o N R Kb Kc) : OkS I (zifS m n o) N R Kb Kc := fun s hs => by
  obtain ⟨b, s', e, i, p⟩ := h s hs
  unfold zifS bnd; rw [e]
  cases b with
  | true => exact ht p s' i
  | false => exact hf p s' i
theorem oks_zfor {f : α → β → M τ (Fl α α ρ)} {J : List β → α → Prop} (step : ∀ x xs a, J (x :: xs) a → OkS I (f a x) (fun a' => J xs a') R N (fun a' => J xs a')) (fin : ∀ a, J [] a → N a) : ∀ (xs : List β) (a : α), J xs a → OkS I (zfor f a xs : M τ (Fl α κ ρ)) N R Kb Kc
  | [], a, h => fun s hs => ⟨.nx a, s, rfl, hs, fin a h⟩
  | x :: xs, a, h => fun s hs => by
    obtain ⟨o, s', e, i, p⟩ := step x xs a h s hs
    unfold zfor; rw [e]
    cases o with
    | nx a' => exact oks_zfor step fin xs a' p s' i
    | ct a' => exact oks_zfor step fin xs a' p s' i
    | bk a' => exact ⟨_, _, rfl, i, p⟩
    | rt r => exact ⟨_, _, rfl, i, p⟩
theorem oks_for {f : α → β → M τ (Fl α α ρ)} {xs : List β} {a0 : α} {J : List β → α → Prop} (h0 : J xs a0) (step : ∀ x xs a, J (x :: xs) a → OkS I (f a x) (fun a' => J xs a') R N (fun a' => J xs a')) (fin : ∀ a, J [] a → N a) : OkS I (zforI (ret xs) a0 f : M τ (Fl α κ ρ)) N R Kb Kc := oks_zfor step fin xs a0 h0
theorem ok_body {m : M τ (Fl α κ ρ)} (h : OkS I m (fun _ => False) R (fun _ => False) (fun _ => False)) : Ok I (zbody m) R := fun s hs => by
  obtain ⟨o, s', e, i, p⟩ := h s hs
  unfold zbody zfin; rw [e]
  cases o with
  | rt r => exact ⟨r, s', rfl, i, p⟩
  | nx a => exact p.elim
  | bk a => exact p.elim
  | ct a => exact p.elim
end
/-! ### repr of lists of ints -/
theorem int_small {i : Int} (h : i.natAbs < 2 ^ 1900) : i.natAbs.log2 < 1920 := by
  by_cases z : i.natAbs = 0
  · rw [z]; decide
  · exact Nat.lt_trans ((Nat.log2_lt z).mpr h) (by omega)
theorem show_int {i : Int} (h : i.natAbs < 2 ^ 1900) : (PyData.shown (.int i)).length ≤ 1921 := by
  simp only [PyData.shown]
  exact PyProof.Rows.int_text_len_1921 (int_small h)
theorem frepr_int {x : Int} (h : x.natAbs < 2 ^ 1900) : (datI.d x).showable = true ∧ (datI.d x).canLay0 = true ∧ datI.n ≤ 60 ∧ (datI.d x).shown.length ≤ sizeLine := by
  refine ⟨?_, ?_, by decide, ?_⟩
  · show (PyData.int x).showable = true
    simp only [PyData.showable, decide_eq_true_eq]; exact int_small h
  · show (PyData.int x).canLay0 = true
    simp only [PyData.canLay0]
  · exact Nat.le_trans (show_int h) (by decide)
/-! ### the bag -/
def Bok (s : Bag) : Prop := 0 ≤ s.big ∧ 0 ≤ s.mix ∧ 0 ≤ s.pos ∧ ∀ x ∈ s.cells, 0 ≤ x
theorem ok_bget {I : Bag → Prop} {f : Bag → α} {P : α → Prop} (h : ∀ s, I s → P (f s)) : Ok I (bget f) P := fun s hs => ⟨f s, s, rfl, hs, h s hs⟩
theorem oks_bput {I : Bag → Prop} {f : Bag → Int → Bag} {m : M Bag Int} {P : Int → Prop} {R : ρ → Prop} {Kb Kc : κ → Prop} (h : Ok I m P) (k : ∀ s v, I s → P v → I (f s v)) : OkS I (bput f m : M Bag (Fl Unit κ ρ)) (fun _ => True) R Kb Kc := fun s hs => by
  obtain ⟨v, s', e, i, p⟩ := h s hs
  exact ⟨.nx (), f s' v, by unfold bput bnd; rw [e], k s' v i p, trivial⟩
/-- the law's end: from the bag's beginning -/
theorem law_end {mk : List Int → M Unit (List Int)} {xs cs : List Int} {m : M Bag (Fl Unit Empty Bool)} {I : Bag → Prop} (h1 : mk xs = ret cs) (h2 : I ⟨0, 1234567891, 0, cs⟩) (h : OkS I m (fun _ => False) (fun b => b = true) (fun _ => False) (fun _ => False)) : zbody (zbag mk xs m) () = .ok true () := by
  obtain ⟨o, s', e, i, p⟩ := h _ h2
  unfold zbody zfin zbag
  rw [h1]
  simp only [ret_at]
  rw [e]
  cases o with
  | rt r => have p : r = true := p; rw [p]; rfl
  | nx a => exact p.elim
  | bk a => exact p.elim
  | ct a => exact p.elim
end
end Zk

namespace Zk
open PySem L2 PySem.W PyProof.Rows
/-! ### == and != of own classes, by values -/
section
variable {prog : Program} {w : World} {A : Around} {E : Value → Shared → Prop} {s : Shared} {K : PySem.W.Frag} {x C L f : Addr} {h₀ : Heap} {m : Str → Option Value} {ox : Obj} {od : Option Obj} {tb b : Value}
end
section
variable {X : Cx} {k : Nat} {f C : Addr} {fd : FuncData} {ps : List Str} {sp : Sp} {g : Bool}
end
end Zk

namespace Zk
open PySem L2
section
variable {τ α β γ δ κ ρ ι θ : Type} {G : Gx} {c : Sc} {E : Eff τ} {W : WX} {Γ Γ' : Env} {B : Bs} {σ : St} {S S1 S' H H' : Hp} {b b' : τ} {L : Ls κ ρ}
/-- what the written part says of an own class that has __eq__ -/
structure EqAt (g : Bool) (G : Gx) (C : Addr) (k : Nat) (ps : List Str) (sp : Sp) : Prop where
  ex : ∃ f fd, PySem.W.findIn G.K (.ref C) "__eq__" = some (some (.ref f)) ∧ PySem.W.isFn G.K (.ref f) = true ∧ Binds G.K fd ps [] ∧ FnG g G.P G.w G.K G.mg G.base k f fd ps sp
section
variable {C0 : Addr} {k : Nat} {g : Bool} {ps : List Str} {fs : α → List (Str × Pr)} {m : α × α → M Unit Bool} {ea eb : Expr} {ma mb : M τ α} {pos : Pos}
end
/-! ### own __repr__ -/
structure RpAt (g : Bool) (G : Gx) (C : Addr) (k : Nat) (ps : List Str) (sp : Sp) : Prop where
  ex : ∃ f fd, PySem.W.findIn G.K (.ref C) "__repr__" = some (some (.ref f)) ∧ PySem.W.isFn G.K (.ref f) = true ∧ Binds G.K fd ps [] ∧ FnG g G.P G.w G.K G.mg G.base k f fd ps sp
end
end Zk

namespace Zk
open PySem L2
section
variable {τ α β γ δ κ ρ ι θ : Type} {G : Gx} {c : Sc} {E : Eff τ} {W : WX} {Γ Γ' : Env} {B : Bs} {σ : St} {S S1 S' H H' : Hp} {b b' : τ} {L : Ls κ ρ}
/-! ### f-strings -/
/-! ### C(e, ..), what lacks has a default -/
theorem zf_makeK0 {gd : Bool} {x : Str} {C0 : Addr} {k n : Nat} {ps : List Str} {A : α → List Pr} {f : α → M Unit ρ} {fs : ρ → List (Str × Pr)} {Ad : β → List Pr} {gV : List V → List V → List V} {g : β → α} {e : Expr} {es : List Expr} {m : M τ β} {p pos : Pos} (F : MkAtK gd G C0 k n ps [] (spI G C0 A f fs) gV) (hm : G.mg x = some (.ref C0)) (hk : k + 1 ≤ c.k) (hg : gd = true → c.gd = true) (gb : Gb c x)
    (hA : ∀ y, (Ad y).length = n) (hd : ∀ y S l us, All2 (fun (p : Pr) v => p.p S v) (Ad y) us → ∃ ws, gV (.ref l :: us) [] = .ref l :: ws ∧ All2 (fun (p : Pr) v => p.p S v) (A (g y)) ws) (ha : ZA G c E W Γ (e :: es) m Ad)
    (hdb : (x == ("__debug__" : Str)) = false := by decide) (he : Star e es := by intro _; rfl)
    (hpl : ∀ env : PySem.Env, ((backTo pos (starEach (e :: es) env)).any (·.1) || (backToKw pos (keywordEach [] env)).any (·.1.isNone)) = false := by intro _; rfl) :
    ZF G c E W Γ (.Call (.Name x p) (e :: es) [] pos) (bnd m fun y => lft (f (g y))) (fun r => ownO (fun _ => True) C0 (fs r)) := fun X C => by
  obtain ⟨f0, fd, gg, h1, h2, h4⟩ := F.ex
  rw [← C.prog, ← C.w, ← C.K, ← C.mg, ← C.base] at h4
  rw [← C.K] at h1 h2
  rw [← C.mg] at hm
  refine pe_wk (pe_makeKS (Ex := WE W) h1 h4 (C.room.mono hk) (fun z => C.gds (hg z)) (C.gl gb) hm h2 (passAt C.takes) (ha X C) pk_nil rfl rfl hdb (he _) (hpl _)) fun σ H Q _ ⟨B, S, b, hh, qq⟩ => ?_
  refine tz_AbndF hh qq fun y b2 us S2 H2 s2 hh2 r1 q2 => ?_
  refine ⟨by rw [← r1.length]; exact hA y, rfl, fun l dx hl hdx hne => ?_⟩
  obtain ⟨ws, e0, rw'⟩ := hd y S2 l us r1
  rw [e0]
  refine ⟨g y, l, dx, S2, ws, rfl, rw', fun a o e => ?_, hh2.same.free hl, upd_same, ?_⟩
  · have e := hh2.same _ _ e
    rw [upd_ne (ne_of_none e hl), upd_ne (ne_of_none e hdx)]; exact e
  have old : ∀ a o, H2 a = some o → del (upd (upd H2 dx (.own l)) l (.ins C0 dx [])) l a = some o := fun a o e => by
    rw [del_ne (ne_of_none e hl), upd_ne (ne_of_none e hl), upd_ne (ne_of_none e hdx)]; exact e
  unfold lft at q2
  cases e : f (g y) () with
  | stuck => rw [e] at q2; exact q2.elim
  | exc e b' =>
    rw [e] at q2
    exact fun c d S' H' k xa => q2 c d S' H' k.up (hh2.grow k.up k.same (fun a o e1 e2 => k.kp a o e1 (old a o e2) id) fun a ha hn => by
      obtain ⟨_, o, ho⟩ := E.th hh2.ef ha
      exact (k.kp a o hn (old a o ho) id).1) xa
  | ok r b' =>
    rw [e] at q2
    intro S' H' k hS' hO
    refine ⟨rfl, q2 (.ref l) S' (del H' l) H' (fun x => x = l) k.up (hh2.grow k.up (fun a o e => ?_) (fun a o e1 e2 => ?_) fun a ha hn => ?_) (fun x e => ?_) (fun x n => (del_ne n).symm) hO⟩
    · rw [del_ne (fun z => by rw [z, hS'] at e; cases e)]; exact k.same _ _ e
    · rw [del_ne (ne_of_none e2 hl)]; exact k.kp a o e1 (old a o e2) id
    · obtain ⟨_, o, ho⟩ := E.th hh2.ef ha
      exact (k.kp a o hn (old a o ho) id).1
    · subst e
      obtain ⟨l', dx', vs', e', _, _, hu, _⟩ := hO
      cases e'
      exact ⟨del_same, _, hu⟩

/-! ### an instance of one's own in a slot: a field stored again -/
def updF (f : Str) (p : Pr) (l : List (Str × Pr)) : List (Str × Pr) := l.map fun q => if q.1 = f then (q.1, p) else q
theorem lookup_updF {f : Str} {p : Pr} : ∀ {l : List (Str × Pr)}, l.any (fun q => q.1 == f) = true → ∀ k, (updF f p l).lookup k = ((f, p) :: l).lookup k := by
  have other : ∀ (l : List (Str × Pr)) k, (k == f) = false → (updF f p l).lookup k = l.lookup k := by
    intro l k hk
    induction l with
    | nil => rfl
    | cons q l ih =>
      have hkf : k ≠ f := by simpa using hk
      show List.lookup k ((if q.1 = f then (q.1, p) else q) :: updF f p l) = _
      by_cases hq : q.1 = f
      · rw [if_pos hq, List.lookup_cons, List.lookup_cons, hq, hk]; exact ih
      · rw [if_neg hq, List.lookup_cons, List.lookup_cons, ih]
  intro l h k
  rw [List.lookup_cons]
  by_cases hk : (k == f) = true
  · rw [hk]
    have e : k = f := by simpa using hk
    subst e
    clear hk
    induction l with
    | nil => simp at h
    | cons q l ih =>
      show List.lookup k ((if q.1 = k then (q.1, p) else q) :: updF k p l) = some p
      by_cases hq : q.1 = k
      · rw [if_pos hq, List.lookup_cons, hq]; simp
      · rw [if_neg hq, List.lookup_cons]
        have : (k == q.1) = false := by simp [Ne.symm hq]
        rw [this]
        refine ih ?_
        simp only [List.any_cons, Bool.or_eq_true, beq_iff_eq] at h
        rcases h with h | h
        · exact absurd h hq
        · exact h
  · have hk : (k == f) = false := by simpa using hk
    rw [hk]; exact other l k hk
end
end Zk

namespace Zk
open PySem L2
section
variable {α β γ δ ε : Type} {R1 : Rel α} {R2 : Rel β} {R3 : Rel γ} {i : Int}
theorem gw3 : ∀ (y : α × β × γ) (S : Hp) (l : Addr) (us : List V), All2 (fun (p : Pr) v => p.p S v) [R1.pr y.1, R2.pr y.2.1, R3.pr y.2.2] us → ∃ ws, (V.ref l :: us) ++ [V.int i] = .ref l :: ws ∧ All2 (fun (p : Pr) v => p.p S v) [R1.pr y.1, R2.pr y.2.1, R3.pr y.2.2, rInt.pr i] ws
  | y, S, l, [a, b, c], ⟨h1, h2, h3, _⟩ => ⟨[a, b, c, .int i], rfl, h1, h2, h3, rfl, trivial⟩
structure Ic (K : PySem.W.Frag) (C : Addr) : Prop where
  cl : Cls K C
  a : PySem.W.findIn K (.ref C) "__class__" = some (some (.builtin "object.__class__"))
  n : PySem.W.specialIn K (.builtin "object.__class__") "__get__" = some (some (.builtin "getset_descriptor.__get__"))
  t : PySem.W.takesIn K (.builtin "object.__class__") = some true
  m : PySem.W.mroIn K C (.type "object") = some true
theorem isO {G : Gx} {C : Addr} {fs : α → List (Str × Pr)} (ic : Ic G.K C) : IsT G (rObj C fs) (.ref C) := ⟨fun s ⟨a, dx, vs, e, h, _⟩ => by cases e; exact .base (.ins (s _ _ h) ic.cl ic.a ic.n ic.t ic.m)⟩
end
end Zk

namespace Zk
open PySem L2 PySem.Spec PyProof.Rows
/-! ### how many things are apart -/
section
variable {τ : Type} {G : Gx} {c : Sc} {E : Eff τ} {W : WX} {Γ : Env}
end
end Zk

namespace Zk
open PySem L2
/-! ### lists of things of several kinds -/
section
variable {τ α β : Type} {G : Gx} {c : Sc} {E : Eff τ} {W : WX} {Γ : Env}
structure DH (A : α → List Pr) where
  d : α → List PyData
  n : Nat
  dep : ∀ x, PyData.depthAll (d x) ≤ n
  dp : ∀ {K : PySem.W.Frag} {x : α} {S H : Hp} {vs : List V}, Same S H → All2 (fun (p : Pr) v => p.p S v) (A x) vs → DpAll K H vs (d x)
  eq : ∀ x y, PyData.eqvAll (d x) (d y) = true ↔ x = y
end
end Zk

namespace Zk
open PySem L2 PySem.Spec PyProof.Rows RT
/-! ### list(reversed(a tuple)) -/
section
variable {prog : Program} {w : World} {A : Around} {E : Value → Shared → Prop} {s : Shared}
theorem IsTup.at' {h h' : Heap} {t : Addr} {items : Array Value} (x : IsTup h t items) (e : ∀ o, h.get? t = some o → h'.get? t = some o) : IsTup h' t items := let ⟨o, ho, r⟩ := x; ⟨o, e _ ho, r⟩
theorem walks_rt (hh : A.handled = none) (it t : Addr) (hne : t ≠ it) (items : Array Value) (hsz : items.size ≤ sizeLine) :
    Walks prog w A it [it, t] [it] items.size (fun i v => items[items.size - 1 - i]? = some v) (fun i h => i ≤ items.size ∧ IsRt h it t ((items.size : Int) - 1 - (i : Nat)) ∧ IsTup h t items) where
  sub := by simp
  frame := fun i h h' ⟨h1, h2, h3⟩ k => ⟨h1, h2.at fun o e => k it (by simp) o e, IsTup.at' h3 fun o e => k t (by simp) o e⟩
  item := by
    intro i s Q E hi ⟨h1, h2, h3⟩ hq
    have e1 : (items.size : Int) - 1 - (i : Nat) = ((items.size - 1 - i : Nat) : Int) := by omega
    rw [e1] at h2
    have hx : items[items.size - 1 - i]? = some (items[items.size - 1 - i]'(by omega)) := Array.getElem?_eq_getElem (by omega)
    refine next_rt_item h2 h3 hx hsz fun h' h2' sb => hq _ h' _ hx ⟨by omega, ?_, IsTup.at' h3 fun o e => sb.2 t hne |>.trans e⟩ fun b o hb e => (sb.2 b (by simpa using hb)).trans e
    rw [show (items.size : Int) - 1 - ((i + 1 : Nat) : Int) = ((items.size - 1 - i : Nat) : Int) - 1 by omega]; exact h2'
  done := by
    intro s Q E ⟨h1, h2, h3⟩ hq
    rw [show (items.size : Int) - 1 - (items.size : Nat) = -1 by omega] at h2
    exact next_rt_end hh h2 fun h' eb => hq h' s.toks fun b o hb e => eb b o (by simpa using hb) e
  self := fun i s Q E ⟨_, h2, _⟩ q => iter_rt h2 q
theorem nolen_rt : typeLookup (.type "reversed") "__len__" = pure none := by rw [typeLookup_type, builtinLookup_eq_fast]; kernel_rfl
theorem hint_rt : typeLookup (.type "reversed") "__length_hint__" = pure (some (.builtin "reversed.__length_hint__")) := by rw [typeLookup_type, builtinLookup_eq_fast]; kernel_rfl
theorem slot_rt_hint : Slot "reversed" "__length_hint__" "reversed.__length_hint__" :=
  .of (owner := "reversed") (n := "__length_hint__") hint_rt (by decide +kernel) (by decide +kernel) (by decide +kernel) (by first | exact .inl (by decide +kernel) | exact .inr (by decide +kernel)) (by rw [isSubtype_type]; kernel_rfl)
theorem entry_rt_hint : entryFor table "reversed.__length_hint__" = some Builtin.«reversed.__length_hint__» := entryFor_of_tree (by kernel_rfl)
theorem args_rt_hint (a : Value) : argsOk "reversed.__length_hint__" ⟨[a], []⟩ := by
  unfold argsOk; rw [signature?_of (id := "reversed.__length_hint__") (n := "__length_hint__".toList.reverse) (o := "reversed".toList.reverse) (by kernel_rfl) owner_rt]; kernel_rfl
theorem call_rt_hint {it t : Addr} {items : Array Value} {Q : Value → Shared → Prop} (hit : IsRt s.heap it t ((items.size : Int) - 1)) (ht : IsTup s.heap t items) (hsz : items.size ≤ sizeLine) (h : ∀ tk, Q (.int items.size tk) { s with toks := tk + 1 }) : wpAny (model prog w) A (call (.builtin "reversed.__length_hint__") [.ref it]) Q E s := by
  obtain ⟨o, ho, hc, hd⟩ := id hit
  rw [sizeLine_eq] at hsz
  refine wpAny_call_entry slot_rt_hint hit.typeIs entry_rt_hint ?_ (args_rt_hint _)
  unfold Builtin.«reversed.__length_hint__»
  refine wpAny_bind (wpAny_of_eq (a := Value.ref it) rfl ?_)
  refine wpAny_bind (wpAny_field ho hd (x := .ref t) rfl ?_)
  try dsimp only
  rw [if_neg (by simp)]
  refine wpAny_bind (len_tuple ht (by omega) ?_)
  refine wpAny_bind (wpAny_of_eq (a := some (items.size : Int)) rfl ?_)
  try dsimp only
  refine wpAny_bind (wpAny_field (s := { s with toks := s.toks + 1 + 1 }) ho hd (x := rawInt ((items.size : Int) - 1)) rfl ?_)
  show wpAny _ _ (if (items.size : Int) < (items.size : Int) - 1 + 1 then _ else _) _ _ _
  rw [if_neg (by omega)]
  rw [show (items.size : Int) - 1 + 1 = items.size by omega]
  unfold retInt
  exact wpAny_bind (wpAny_mkInt (wpAny_pure ⟨_, rfl, h _⟩))
theorem hint_of_rt {it t : Addr} {items : Array Value} {Q : Bool → Shared → Prop} (x : IsRt s.heap it t ((items.size : Int) - 1)) (ht : IsTup s.heap t items) (hsz : items.size ≤ sizeLine) (h : ∀ b tk, Q b { s with toks := tk }) : wpAny (model prog w) A (Builtin.List.listLengthHint (.ref it)) Q E s := by
  have hT := x.typeIs
  have hz := hsz
  rw [sizeLine_eq] at hz
  unfold Builtin.List.listLengthHint
  refine wpAny_bind (wpAny_specialOf hT nolen_rt ?_)
  show wpAny _ A (specialOf (Value.ref it) (Str.ofString "__length_hint__") >>= _) _ _ _
  refine wpAny_bind (wpAny_specialOf hT hint_rt ?_)
  generalize hid : ("reversed.__length_hint__" : String) = id0
  wp_delta
  rw [show splitId id0 = some ("reversed", "__length_hint__") from by subst hid; decide +kernel]
  subst hid
  refine wpAny_bind (wpAny_isInstance (b := true) hT (by rw [isSubtype_type]; kernel_rfl) ?_)
  rw [if_neg (by decide)]
  try dsimp only
  rw [if_neg (by decide +kernel)]
  refine wpAny_bind (wpAny_rule ?_)
  refine wpAny_bind (wpAny_of_eq (slot_rt_hint.bind _) ?_)
  try dsimp only
  refine wpAny_bind (wpAny_attempt (call_rt_hint x ht hsz fun tk => ?_))
  try dsimp only

  have e : asInt? (Value.int (items.size : Int) tk) = pure (some (items.size : Int)) := by first | rfl | simp [asInt?] | kernel_rfl
  have e2 : Builtin.List.listFitsIndex (items.size : Int) = true := by unfold Builtin.List.listFitsIndex; simp; omega
  have e3 : Builtin.List.listTooLong ((items.size : Int)).toNat = false := by unfold Builtin.List.listTooLong; simp; exact hsz
  rw [e, pure_bind]
  have e4 : ¬ (items.size : Int) < 0 := by omega
  generalize (items.size : Int) = k at *
  simp only [e2, e3]
  rw [if_neg (by decide), if_neg e4, if_neg (by decide)]
  exact wpAny_pure (h _ _)
theorem touch_list {S : Addr} {c : Nat} {Q : Unit → Shared → Prop} (hS : s.heap.get? S = some { cls := .type "list", data := .seq #[] c }) (h : ∀ h' c', (∀ b o, b ≠ S → s.heap.get? b = some o → h'.get? b = some o) → h'.get? S = some { cls := .type "list", data := .seq #[] c' } → Q () { s with heap := h' }) : wpAny (model prog w) A (Builtin.List.listTouch (.ref S)) Q E s := by
  unfold Builtin.List.listTouch
  show wpAny _ _ (updateSeq S (·.push .none) >>= fun _ => updateSeq S (·.pop)) _ _ s
  refine wpAny_bind (wpAny_updateSeq hS rfl ?_)
  have h1 := Heap.get?_update_self (Obj.mapSeq (fun x => x.push Value.none)) hS rfl
  refine wpAny_updateSeq h1 rfl ?_
  have h2 := Heap.get?_update_self (Obj.mapSeq (fun x => x.pop)) h1 rfl
  exact h _ _ (fun b o hb e => (Heap.get?_update_other _ _ (Ne.symm hb)).trans ((Heap.get?_update_other _ _ (Ne.symm hb)).trans e)) h2
theorem extend_rt {R : Result → Shared → Prop} (hh : A.handled = none) {it t : Addr} (hne : t ≠ it) {items : Array Value} (S : Addr) (res : Value) (c₀ : Nat) (hit : IsRt s.heap it t ((items.size : Int) - 1)) (ht : IsTup s.heap t items) (hSi : S ≠ it) (hSt : S ≠ t) (hS : s.heap.get? S = some { cls := .type "list", data := .seq #[] c₀ })
    (hR : ∀ h' tk acc c', (∀ b o, b ≠ S → b ≠ it → s.heap.get? b = some o → h'.get? b = some o) → h'.get? S = some { cls := .type "list", dict := none, data := .seq acc c', slots := #[] } → ItemsOf (fun i v => items[items.size - 1 - i]? = some v) acc items.size → R (.ok (.ret res)) { s with heap := h', toks := tk }) (hn : items.size ≤ sizeLine) :
    wpAny (model prog w) A.in1 (Builtin.List.listExtendWith (.ref S) (.ref it) res)
      (fun fin s' => match fin with | .done f => R (.ok f) s' | .again c' => c'.quiet = true ∧ codeAny (model prog w) A c' R s') (fun e s' => R (.error e) s') s := by
  have hSf : S ∉ [it, t] := by simp [hSi, hSt]
  unfold Builtin.List.listExtendWith
  refine wpAny_bind (wpAny_typeOf hit.typeIs ?_)
  have h1 : Builtin.List.listSameRef (.ref S) (.ref it) = false := by simp [Builtin.List.listSameRef, hSi]
  have h2 : (Value.type "reversed" == Value.type "list") = false := by decide
  have h3 : (Value.type "reversed" == Value.type "tuple") = false := by decide
  simp only [h1, h2, h3, Bool.or_false, Bool.false_eq_true, if_false]
  refine wpAny_bind (iter_rt hit ?_)
  refine wpAny_bind (wpAny_holding (hint_of_rt hit ht hn fun b tk => ?_))
  have W := (walks_rt (prog := prog) (w := w) (A := A.in1) hh it t hne items hn).toS
  have loop : ∀ (h0 : Heap) (c' : Nat) (tk : Nat), (∀ b o, b ≠ S → s.heap.get? b = some o → h0.get? b = some o) → h0.get? S = some { cls := .type "list", data := .seq #[] c' } →
      wpAny (model prog w) A.in1 (again (.builtin "list.extend.loop" ⟨[.ref S, .ref it, res], []⟩)) (fun fin s' => match fin with | .done f => R (.ok f) s' | .again c' => c'.quiet = true ∧ codeAny (model prog w) A c' R s') (fun e s' => R (.error e) s') { s with heap := h0, toks := tk } := by
    intro h0 c' tk hk0 hS0
    refine wpAny_pure ⟨plainId_quiet PySem.F.plain_extend_loop _, codeAny_extend_loopS W hn _ hSf _ items.size 0 _ _ _ rfl (Nat.zero_le _) ⟨Nat.zero_le _, by rw [show (items.size : Int) - 1 - ((0 : Nat) : Int) = (items.size : Int) - 1 by omega]; exact hit.at fun o e => hk0 _ o (Ne.symm hSi) e, IsTup.at' ht fun o e => hk0 _ o (Ne.symm hSt) e⟩ hS0 (ItemsOf.nil _) fun s' acc c2 hm hS' hacc => ?_⟩
    rw [Moved.eq_with hm]
    refine hR s'.heap s'.toks acc c2 (fun b o hb hb2 e => hm.heap b o (fun hmem => ?_) (hk0 b o hb e)) hS' hacc
    rcases List.mem_cons.mp hmem with e' | hmem
    · exact hb e'
    · exact hb2 (List.mem_singleton.mp hmem)
  split
  · refine wpAny_bind (wpAny_rule (wpAny_bind (touch_list (s := { s with toks := tk }) hS fun h0 c0 hk0 hS0 => ?_)))
    exact loop h0 c0 tk hk0 hS0
  · exact loop s.heap _ tk (fun _ _ _ e => e) hS
theorem init_rt {R : Result → Shared → Prop} (hh : A.handled = none) {it t : Addr} (hne : t ≠ it) {items : Array Value} (S : Addr) (hit : IsRt s.heap it t ((items.size : Int) - 1)) (ht : IsTup s.heap t items) (hSi : S ≠ it) (hSt : S ≠ t) (hS : s.heap.get? S = some { cls := .type "list", data := .seq #[] })
    (hR : ∀ h' tk acc c', (∀ b o, b ≠ S → b ≠ it → s.heap.get? b = some o → h'.get? b = some o) → h'.get? S = some { cls := .type "list", dict := none, data := .seq acc c', slots := #[] } → ItemsOf (fun i v => items[items.size - 1 - i]? = some v) acc items.size → R (.ok (.ret .none)) { s with heap := h', toks := tk }) (hn : items.size ≤ sizeLine) :
    wpAny (model prog w) A.in1 (Builtin.«list.__init__» ⟨[.ref S, .ref it], []⟩)
      (fun fin s' => match fin with | .done f => R (.ok f) s' | .again c' => c'.quiet = true ∧ codeAny (model prog w) A c' R s') (fun e s' => R (.error e) s') s := by
  show wpAny _ _ (do let old ← Builtin.List.listItems (.ref S); Builtin.List.listUpdate (.ref S) (fun _ => #[]); letGo old.toList.reverse; Builtin.List.listExtendWith (.ref S) (.ref it) .none) _ _ s
  refine wpAny_bind ?_
  unfold Builtin.List.listItems
  refine wpAny_bind (wpAny_seqItems hS rfl (wpAny_pure ?_))
  show wpAny _ _ (updateSeq S (fun _ => #[]) >>= fun _ => letGo (#[] : Array Value).toList.reverse >>= fun _ => Builtin.List.listExtendWith (.ref S) (.ref it) .none) _ _ s
  refine wpAny_bind (wpAny_updateSeq hS rfl ?_)
  have hS2 := Heap.get?_update_self (Obj.mapSeq (fun _ => (#[] : Array Value))) hS rfl
  have oth : ∀ b o, b ≠ S → s.heap.get? b = some o → (s.heap.update S (Obj.mapSeq (fun _ => (#[] : Array Value)))).get? b = some o := fun b o hb e => (Heap.get?_update_other _ _ (Ne.symm hb)).trans e
  refine wpAny_bind (wpAny_letGo ?_)
  exact extend_rt hh hne S .none _ (hit.at fun o e => oth _ o (Ne.symm hSi) e) (IsTup.at' ht fun o e => oth _ o (Ne.symm hSt) e) hSi hSt hS2 (fun h' tk acc c' hk hS' ha => hR h' tk acc c' (fun b o h1 h2 e => hk b o h1 h2 (oth b o h1 e)) hS' ha) hn
theorem call_list_rt {it t : Addr} {items : Array Value} {Q : Value → Shared → Prop} (hh : A.handled = none) (hne : t ≠ it) (hit : IsRt s.heap it t ((items.size : Int) - 1)) (ht : IsTup s.heap t items) (hn : items.size ≤ sizeLine)
    (hQ : ∀ h' tk acc c', (∀ b o, b ≠ it → s.heap.get? b = some o → h'.get? b = some o) → h'.get? s.heap.objs.size = some { cls := .type "list", dict := none, data := .seq acc c', slots := #[] } → ItemsOf (fun i v => items[items.size - 1 - i]? = some v) acc items.size → Q (.ref s.heap.objs.size) { s with heap := h', toks := tk }) :
    wpAny (model prog w) A (call (.type "list") [.ref it]) Q E s := by
  refine callType_codes (Q₁ := fun obj s₁ => obj = .ref s.heap.objs.size ∧ s₁ = { s with heap := s.heap.push { cls := .type "list", data := .seq #[] } }) PySem.F.called_list (PySem.F.typeCall_list_1 _) PySem.F.entry_list_init (code_list_new _ ⟨rfl, rfl⟩) fun obj s1 h1 => ?_
  obtain ⟨rfl, rfl⟩ := h1
  obtain ⟨oi, hoi, _⟩ := id hit
  obtain ⟨ot, hot, _⟩ := id ht
  have hS : (s.heap.push { cls := .type "list", data := .seq #[] }).get? s.heap.objs.size = some { cls := .type "list", data := .seq #[] } := Heap.get?_push_size _ rfl
  have old : ∀ b o, s.heap.get? b = some o → (s.heap.push { cls := .type "list", data := .seq #[] }).get? b = some o := fun b o e => Heap.get?_push_of_some _ e
  refine ⟨⟨_, hS, rfl⟩, PySem.F.args_list_init_2 _ _, init_rt (A := A.in1) hh hne _ (hit.at fun o e => old _ o e) (IsTup.at' ht fun o e => old _ o e) (Nat.ne_of_gt (Heap.lt_size hoi)) (Nat.ne_of_gt (Heap.lt_size hot)) hS (fun h' tk acc c' hk hS' ha => ?_) hn⟩
  exact ⟨rfl, hQ h' tk acc c' (fun b o hb e => hk b o (Nat.ne_of_lt (Heap.lt_size e)) hb (old b o e)) hS' ha⟩
end
def tListRev (K : PySem.W.Frag) (te : TE) : TE := fun σ H Q => te σ H fun v H1 => ∃ (a : Addr) (xs : List V), v = .ref a ∧ SqT K H1 a xs ∧ ∀ q, H1 q = none → Q (.ref q) (upd H1 q (.lst xs.reverse))
theorem pe_listRev {X : Cx} {e : Expr} {te : TE} {p p2 pos pos2 : Pos} (hc : X.calm = true) (hg : Gl X "list") (hm : X.mg "list" = none) (hg2 : Gl X "reversed") (hm2 : X.mg "reversed" = none) (he : PE X e te)
    (hs : starEach [e] X.env = (false, eval e X.env) :: starEach [] X.env) (hs2 : starEach [.Call (.Name "reversed" p2) [e] [] pos2] X.env = (false, eval (.Call (.Name "reversed" p2) [e] [] pos2) X.env) :: starEach [] X.env) :
    PE X (.Call (.Name "list" p) [.Call (.Name "reversed" p2) [e] [] pos2] [] pos) (tListRev X.K te) := by
  refine ⟨fun pins s σ H Q I h => ?_⟩
  refine Call_ (ld_blt I hg hm PyProof.Rows.boot_list (PyProof.Rows.callWith_type1 (args_cons (Call_ (ld_blt I hg2 hm2 PyProof.Rows.boot_reversed (PyProof.Rows.callWith_type1 (args_cons (thn (he.run pins s σ H _ I h) fun u s1 ⟨v, H1, I1, r1, q1⟩ => args_nil ?_) hs) hs rfl))) hs2) hs2 rfl))
  obtain ⟨a, xs, ev, hq, q⟩ := q1
  subst ev
  obtain rfl : u = Value.ref a := r1
  obtain ⟨its, rv, p', hz⟩ := I1.tuple hq
  have hn : its.toArray.size ≤ sizeLine := by rw [List.size_toArray, ← rv.length]; exact hz
  obtain ⟨ot, hot, _⟩ := id p'
  refine call_reversed_tup p' (fun A E Q k => len_tuple p' (by rw [sizeLine_eq] at hn; omega) k) (args_nil ?_)
  have k0 : ∀ b o, s1.heap.get? b = some o → (s1.heap.push (rtObj a ((its.toArray.size : Int) - 1))).get? b = some o := fun b o e => Heap.get?_push_of_some _ e
  have I2 : Inv X pins σ H1 { s1 with heap := s1.heap.push (rtObj a ((its.toArray.size : Int) - 1)), toks := s1.toks + 1 + 1 } := I1.kept (t' := s1.toks + 1 + 1) k0
  obtain ⟨f0, f1, f2, f3, f4, f5⟩ := I1.fpOk (H' := H1) (b := s1.heap.objs.size) (Nat.le_refl _) (I1.hok.fresh (Nat.le_refl _))
  have hne : a ≠ s1.heap.objs.size := Nat.ne_of_lt (Heap.lt_size hot)
  refine call_list_rt (s := { s1 with heap := s1.heap.push (rtObj a ((its.toArray.size : Int) - 1)), toks := s1.toks + 1 + 1 }) (I1.ok.hd hc) hne ⟨_, Heap.get?_push_size _ rfl, rfl, rfl⟩ (IsTup.at' p' fun o e => k0 _ o e) hn fun h' tk acc c' hk hS ha => ?_
  have keep : ∀ b o, s1.heap.get? b = some o → h'.get? b = some o := fun b o e => hk b o (Nat.ne_of_lt (Heap.lt_size e)) (k0 b o e)
  have hle : s1.heap.objs.size ≤ (s1.heap.push (rtObj a ((its.toArray.size : Int) - 1))).objs.size := by simp [Heap.push]
  refine ⟨.ref _, upd H1 _ (.lst xs.reverse), I1.laid (t' := tk) keep hle (show ObjOk X.prog X.w _ _ _ (.lst xs.reverse) from ⟨by rw [List.length_reverse]; exact hz, acc.toList, c', vals_rev rv ha, ?_⟩), rfl, q _ (I1.hok.fresh hle)⟩
  rw [Array.toArray_toList]; exact hS
end Zk

namespace Zk
open PySem L2
section
variable {τ α : Type} {G : Gx} {c : Sc} {E : Eff τ} {W : WX} {Γ : Env}
def frev (xs : List α) : M τ (List α) := ret xs.reverse
theorem z_listRev {R : Rel α} {e : Expr} {m : M τ (List α)} {p p2 pos pos2 : Pos} (g1 : Gb c "list") (m1 : G.mg "list" = none) (g2 : Gb c "reversed") (m2 : G.mg "reversed" = none) (h : ZE G c E W Γ e m (rVT R)) (hs : Star e [] := by intro _; rfl) (hs2 : Star (.Call (.Name "reversed" p2) [e] [] pos2) [] := by intro _; rfl) :
    ZE G c E W Γ (.Call (.Name "list" p) [.Call (.Name "reversed" p2) [e] [] pos2] [] pos) (zapp frev m) (rLst R) := fun X C =>
  pe_wk (pe_listRev C.calm (C.gl g1) (by rw [C.mg]; exact m1) (C.gl g2) (by rw [C.mg]; exact m2) (h X C) (hs _) (hs2 _)) fun σ H Q _ ⟨B, S, b, hh, q⟩ => by
    refine tz_bnd hh q fun x b1 v S1 H1 s1 h1 r1 q1 => ?_
    obtain ⟨a, vs, e1, e2, e3⟩ := r1
    exact ⟨a, vs, e1, .of (h1.same _ _ e2), fun l hl => aft_new h1 q1 hl (rLst_new (h1.same.free hl) e3.reverse)⟩
end
end Zk

namespace Zk
open PySem L2

section
variable {τ α β γ δ κ ρ ι θ : Type} {G : Gx} {c : Sc} {E : Eff τ} {W : WX} {Γ Γ' : Env} {B : Bs} {σ : St} {S S1 S' H H' : Hp} {b b' : τ} {L : Ls κ ρ}
/-! ### own lists of own lists -/
/-- the lists at rs are what xss tells -/
def Rows (R : Rel α) (S H : Hp) (rs : List Addr) (xss : List (List α)) : Prop := All2 (fun xs r => ∃ vs, H r = some (.lst vs) ∧ All2 (fun x v => R.is x S v) xs vs) xss rs
theorem ne_mem {a p : Addr} {rs : List Addr} (h : p ∉ rs) (ha : a ∈ rs) : a ≠ p := fun z => h (by rw [← z]; exact ha)
theorem Rows.mono {R : Rel α} {rs : List Addr} (s : Same S S') (k : ∀ a o, a ∈ rs → H a = some o → H' a = some o) : ∀ {rs' : List Addr} {xss : List (List α)}, (∀ a, a ∈ rs' → a ∈ rs) → Rows R S H rs' xss → Rows R S' H' rs' xss
  | [], [], _, _ => trivial
  | r :: rs', xs :: xss, hm, ⟨⟨vs, e, q⟩, h⟩ => ⟨⟨vs, k _ _ (hm r (by simp)) e, All2.rel s q⟩, Rows.mono s k (fun a ha => hm a (by simp [ha])) h⟩
  | [], _ :: _, _, h => h.elim
  | _ :: _, [], _, h => h.elim
def ownLL (R : Rel α) (rs : List Addr) (xss : List (List α)) : PrO := ⟨fun S H v F => ∃ l, v = .ref l ∧ l ∉ rs ∧ rs.Nodup ∧ (∀ a, F a ↔ a = l ∨ a ∈ rs) ∧ H l = some (.lst (rs.map V.ref)) ∧ Rows R S H rs xss,
  fun s k ⟨l, e, n, d, f, h, q⟩ => ⟨l, e, n, d, f, k _ _ ((f l).mpr (.inl rfl)) h, Rows.mono s (fun a o ha e => k a o ((f a).mpr (.inr ha)) e) (fun _ z => z) q⟩⟩
/-! making: a display of new lists -/
def aftAL (G : Gx) (E : Eff τ) (W : WX) (B : Bs) (Γ : Env) (σ : St) (S : Hp) (R : Rel α) (Q : List V → Hp → Prop) : Out τ (List (List α)) → Prop
  | .ok xss b' => ∀ rs S' H1 H', Same S S' → Hold E B Γ b' σ S' H1 → rs.Nodup → (∀ r ∈ rs, H1 r = none) → (∀ x, x ∉ rs → H' x = H1 x) → Rows R S' H' rs xss → Q (rs.map V.ref) H'
  | .exc x b' => ∀ c d S' H', Same S S' → Hold E B Γ b' σ S' H' → XAt G x H' c d → W c d σ H'
  | .stuck => False
theorem aftAL.same {R : Rel α} {Q : List V → Hp → Prop} (s : Same S S1) : ∀ {o : Out τ (List (List α))}, aftAL G E W B Γ σ S R Q o → aftAL G E W B Γ σ S1 R Q o
  | .ok _ _, h => fun v S' H1 H' s2 => h v S' H1 H' (s.trans s2)
  | .exc _ _, h => fun c d S' H' s2 => h c d S' H' (s.trans s2)
  | .stuck, h => h
theorem Hold.unBd {D : Addr} {o : HO} (h : Hold E (Bd B D o) Γ b σ S H) (hBH : B.H D = none) : Hold E B Γ b σ S H := by
  obtain ⟨Fs, hF, hs⟩ := h.sl
  refine ⟨⟨h.kp.same, h.kp.up, fun a u h1 h2 h3 => ?_⟩, h.ef, Fs, ⟨fun i a e => ?_, hF.ds⟩, hs⟩
  · have ha : a ≠ D := fun z => by rw [z, hBH] at h2; cases h2
    exact h.kp.kp a u h1 (by show upd B.H D o a = some u; rw [upd_ne ha]; exact h2) h3
  · obtain ⟨r1, r2, r3, r4⟩ := hF.at_ i a e
    have r2 : upd B.H D o a = none := r2
    have ha : a ≠ D := fun z => by rw [z, upd_same] at r2; cases r2
    rw [upd_ne ha] at r2
    exact ⟨r1, r2, r3, r4⟩
/-- what a slot owns -/
theorem ll_at {R : Rel α} {rs : List Addr} {xss : List (List α)} {i : Nat} (h : Hold E B Γ b σ S H) (hi : Γ[i]? = some (.ow (ownLL R rs xss))) : ∃ l, σ[i]? = some (some (.ref l)) ∧ l ∉ rs ∧ rs.Nodup ∧ H l = some (.lst (rs.map V.ref)) ∧ Rows R S H rs xss := by
  obtain ⟨Fs, hF, hs⟩ := h.sl
  obtain ⟨v, e1, l, rfl, n, d, f, hl, q⟩ := hs i _ hi
  exact ⟨l, slot_get e1, n, d, hl, q⟩
theorem Rows.at_ {R : Rel α} : ∀ {rs : List Addr} {xss : List (List α)} {j : Nat} {xs : List α}, Rows R S H rs xss → xss[j]? = some xs → ∃ r vs, rs[j]? = some r ∧ H r = some (.lst vs) ∧ All2 (fun x v => R.is x S v) xs vs := fun {rs xss j xs} h e => by
  obtain ⟨r, e2, vs, e3, e4⟩ := All2.get (β := Addr) h e
  exact ⟨r, vs, e2, e3, e4⟩
/-- one of the own lists is written -/
theorem Hold.row {R : Rel α} {rs : List Addr} {xss : List (List α)} {i j : Nat} {r : Addr} {ys : List α} {vs : List V} (h : Hold E B Γ b σ S H) (hi : Γ[i]? = some (.ow (ownLL R rs xss))) (hr : rs[j]? = some r) (hv : All2 (fun x v => R.is x S v) ys vs) :
    Hold E B (Γ.set i (.ow (ownLL R rs (xss.set j ys)))) b σ S (upd H r (.lst vs)) := by
  obtain ⟨l, e1, n, d, hl, q⟩ := ll_at h hi
  have hlt := (List.getElem?_eq_some_iff.mp e1).1
  have hm : r ∈ rs := by obtain ⟨hj, e⟩ := List.getElem?_eq_some_iff.mp hr; rw [← e]; exact List.getElem_mem hj
  rw [show σ = σ.set i (some (.ref l)) from (slot_set e1).symm]
  refine Hold.mut h hlt (F' := fun a => a = l ∨ a ∈ rs) (fun a hn => upd_ne fun z => hn (.inr (z ▸ hm))) (fun a ha => ?_) ⟨l, rfl, n, d, fun _ => Iff.rfl, ?_, ?_⟩
  · constructor
    · by_cases z : a = r
      · subst z; exact ⟨_, upd_same⟩
      · rw [upd_ne z]
        rcases ha with rfl | ha
        · exact ⟨_, hl⟩
        · obtain ⟨k, hk, rfl⟩ := List.mem_iff_getElem.mp ha
          obtain ⟨_, _, vs, e, _⟩ := All2.get' (β := Addr) q (List.getElem?_eq_getElem hk)
          exact ⟨_, e⟩
    · refine .inr fun Fs hF hs => ?_
      obtain ⟨v, z1, l', rfl, n', d', f', hl', q'⟩ := hs i _ hi
      rw [e1] at z1; cases z1
      exact (f' a).mpr ha
  · rw [upd_ne fun z => n (by rw [z]; exact hm)]; exact hl
  · have : ∀ (rs : List Addr) (xss : List (List α)) (j : Nat), rs.Nodup → rs[j]? = some r → Rows R S H rs xss → Rows R S (upd H r (.lst vs)) rs (xss.set j ys) := by
      intro rs
      induction rs with
      | nil => intro xss j _ e; simp at e
      | cons r0 rs ih =>
        intro xss j nd e q
        match xss, q with
        | xs :: xss, ⟨⟨us, e1, e2⟩, q⟩ =>
          obtain ⟨n0, nd⟩ := List.nodup_cons.mp nd
          cases j with
          | zero =>
            simp at e
            subst e
            exact ⟨⟨vs, upd_same, hv⟩, Rows.mono (rs := rs) (Same.refl _) (fun a o ha e => by rw [upd_ne (ne_mem n0 ha)]; exact e) (fun _ z => z) q⟩
          | succ j =>
            simp at e
            have hm : r ∈ rs := by obtain ⟨hj, e⟩ := List.getElem?_eq_some_iff.mp e; rw [← e]; exact List.getElem_mem hj
            exact ⟨⟨us, by rw [upd_ne (Ne.symm (ne_mem n0 hm))]; exact e1, e2⟩, ih xss j nd e q⟩
    exact this rs xss j d hr q
/-! one of the lists, by its place -/
end
end Zk

namespace Zk
open PySem L2

section
variable {τ α β γ δ κ ρ ι θ : Type} {G : Gx} {c : Sc} {E : Eff τ} {W : WX} {Γ Γ' : Env} {B : Bs} {σ : St} {S S1 S' H H' : Hp} {b b' : τ} {L : Ls κ ρ}
/-! ### among -/
structure ScalIn (R : Rel α) (f : α → V) : Prop where
  s : ScalR R f
  fl : ∀ x, flatV (f x) = true
  eq : ∀ x y, eqV (f x) (f y) = true ↔ x = y
theorem inI : ScalIn rInt V.int := ⟨scI, fun _ => rfl, fun x y => by simp [eqV]⟩
theorem inS : ScalIn rStr V.str := ⟨scS, fun _ => rfl, fun x y => by simp [eqV]⟩
theorem ScalIn.map {R : Rel α} {f : α → V} (D : ScalIn R f) : ∀ {xs : List α} {vs : List V}, All2 (fun x v => R.is x S v) xs vs → vs = xs.map f
  | [], [], _ => rfl
  | _ :: _, _ :: _, ⟨a, b⟩ => by rw [D.s.is a, D.map b]; rfl
  | [], _ :: _, h => h.elim
  | _ :: _, [], h => h.elim
theorem ScalIn.inV {R : Rel α} {f : α → V} [DecidableEq α] (D : ScalIn R f) (x : α) (xs : List α) : inV (f x) (xs.map f) = decide (x ∈ xs) := by
  unfold L2.inV
  rw [List.any_map]
  by_cases h : x ∈ xs
  · rw [decide_eq_true h, List.any_eq_true]; exact ⟨x, h, (D.eq x x).mpr rfl⟩
  · rw [decide_eq_false h, List.any_eq_false]
    intro y hy z
    exact h ((D.eq y x).mp z ▸ hy)
theorem ScalIn.all {R : Rel α} {f : α → V} (D : ScalIn R f) (xs : List α) : (xs.map f).all flatV = true := by
  rw [List.all_map, List.all_eq_true]; exact fun x _ => D.fl x
def fin_ [DecidableEq α] (x : α) (xs : List α) : M τ Bool := ret (decide (x ∈ xs))
def fnin [DecidableEq α] (x : α) (xs : List α) : M τ Bool := ret (!decide (x ∈ xs))
section
variable {ea eb : Expr} {pos : Pos}
theorem op_inL {R : Rel α} {f : α → V} (D : ScalIn R f) [DecidableEq α] : Op2 G E W Γ (rIn G.K false) R (rLst R) fin_ rBl := fun B σ S H b x xs v w Q hh hx ⟨a, vs, e1, e2, e3⟩ q => by
  have e := D.map e3
  subst e
  refine ⟨a, _, e1, .inl (.of (hh.same _ _ e2)), by rw [D.s.is hx]; exact D.fl x, D.all xs, ?_⟩
  rw [D.s.is hx, D.inV]; exact aft_ret hh q rfl
theorem op_ninL {R : Rel α} {f : α → V} (D : ScalIn R f) [DecidableEq α] : Op2 G E W Γ (rIn G.K true) R (rLst R) fnin rBl := fun B σ S H b x xs v w Q hh hx ⟨a, vs, e1, e2, e3⟩ q => by
  have e := D.map e3
  subst e
  refine ⟨a, _, e1, .inl (.of (hh.same _ _ e2)), by rw [D.s.is hx]; exact D.fl x, D.all xs, ?_⟩
  rw [D.s.is hx, D.inV]; exact aft_ret hh q rfl
theorem zt_inL {R : Rel α} {f : α → V} (D : ScalIn R f) [DecidableEq α] {ma : M τ α} {mb : M τ (List α)} (ha : ZE G c E W Γ ea ma R) (hb : ZE G c E W Γ eb mb (rLst R)) (hm : behindInMarks .In eb = false := by rfl) : ZT G c E W Γ (.Compare ea [.In] [eb] pos) (zop2 fin_ ma mb) := zt_cmp (fun X C => by rw [← C.K]; exact op_in_seq) (op_inL D) ha hb hm
theorem zt_ninL {R : Rel α} {f : α → V} (D : ScalIn R f) [DecidableEq α] {ma : M τ α} {mb : M τ (List α)} (ha : ZE G c E W Γ ea ma R) (hb : ZE G c E W Γ eb mb (rLst R)) (hm : behindInMarks .NotIn eb = false := by rfl) : ZT G c E W Γ (.Compare ea [.NotIn] [eb] pos) (zop2 fnin ma mb) := zt_cmp (fun X C => by rw [← C.K]; exact op_notIn_seq) (op_ninL D) ha hb hm
end
/-! ### int(..) -/
section
variable {e : Expr} {p pos : Pos} {x : Str}
def fint (k : Bool) : M τ Int := ret (if k = true then 1 else 0)
theorem z_intB {m : M τ Bool} (bl : Blt G c x (.type "int")) (ha : ZE G c E W Γ e m rBl) (hs : Star e [] := by intro _; rfl) : ZE G c E W Γ (.Call (.Name x p) [e] [] pos) (zapp fint m) rInt :=
  z_ty1 bl (fun X C => call_int1) (fun B σ S H b k v Q hh hx q => .inr ⟨k, by rw [hx], aft_ret hh q rfl⟩) ha hs
end
end
end Zk

namespace Zk
open PySem L2
/-! ### plain facts: texts, places -/
theorem mem_rng {lo d : Int} {n : Nat} : d ∈ rng lo n ↔ lo ≤ d ∧ d < lo + n := by
  unfold rng
  rw [List.mem_map]
  constructor
  · rintro ⟨i, hi, rfl⟩
    have := List.mem_range.mp hi
    omega
  · intro h
    exact ⟨(d - lo).toNat, List.mem_range.mpr (by omega), by omega⟩
theorem rng_length (lo : Int) (n : Nat) : (rng lo n).length = n := by unfold rng; rw [List.length_map, List.length_range]
end Zk

namespace Zk
open PySem L2

section
variable {τ α β γ δ κ ρ ι θ : Type} {G : Gx} {c : Sc} {E : Eff τ} {W : WX} {Γ Γ' : Env} {B : Bs} {σ : St} {S S1 S' H H' : Hp} {b b' : τ} {L : Ls κ ρ}
/-! ### things of any kind -/
/-- its type -/
def tyD : PyData → String
  | .none => "NoneType" | .bool _ => "bool" | .int _ => "int" | .str _ => "str" | .list _ => "list" | .tuple _ => "tuple" | .dict _ => "dict"
def isD (n : String) (d : PyData) : Bool := tyD d == n || (n == "int" && tyD d == "bool")
section
variable {e : Expr} {p pos : Pos} {x : Str}
theorem kit_no {K : PySem.W.Frag} {C : Addr} (h : PySem.W.kitOne K (.type "int") (.ref C) = some false) (d : PyData) : PySem.W.kitOne K (.type (tyD d)) (.ref C) = some false := by
  have h1 : ∀ T : String, PySem.W.kitOne K (.type T) (.ref C) = if ((PySem.W.clsIn K C).isSome && PySem.W.typeIn K (.ref C) == some (.type "type")) = true then PySem.W.subIn K (.type T) (.ref C) else none := fun T => by
    unfold PySem.W.kitOne
    rw [if_neg (show ¬ (Value.type T == Value.ref C) = true from fun h => nomatch (show false = true from h))]; rfl
  rw [h1] at h
  rw [h1]
  split at h
  · next q =>
    rw [if_pos q]
    cases d <;> rfl
  · cases h
end
/-! own == and != with a thing of any kind -/
section
variable {X : Cx} {k : Nat} {f C : Addr} {fd : FuncData} {ps : List Str} {sp : Sp} {g : Bool}
open PySem.W in
open PySem.W in
open PySem.W in
open PySem.W in
end
section
variable {C0 : Addr} {k : Nat} {g : Bool} {ps : List Str} {fs : α → List (Str × Pr)} {m : α × PyData → M Unit Bool} {ea eb : Expr} {pos : Pos} {ma : M τ α} {mb : M τ PyData}
end
/-- what is never come to -/
theorem zb_dead {sts : List Stmt} {Γn : α → Env} : ZB G c E W L Γ sts (stk : M τ (Fl α κ ρ)) Γn := fun X C => ⟨fun pins s σ H D I ⟨B, S, b, hh, q⟩ => q.elim⟩
theorem kit_self {K : PySem.W.Frag} {C : Addr} : PySem.W.kitOne K (.ref C) (.ref C) = some true := by
  unfold PySem.W.kitOne
  rw [if_pos (by simp)]
theorem kit_int {K : PySem.W.Frag} {C : Addr} (h1 : PySem.W.isClsIn K C = true) (h2 : PySem.W.typeIn K (.ref C) = some (.type "type")) : PySem.W.kitOne K (.type "int") (.ref C) = some false := by
  unfold PySem.W.kitOne
  rw [if_neg (show ¬ (Value.type "int" == Value.ref C) = true from fun h => nomatch (show false = true from h))]
  show (if ((PySem.W.clsIn K C).isSome && PySem.W.typeIn K (.ref C) == some (.type "type")) = true then PySem.W.subIn K (.type "int") (.ref C) else none) = some false
  rw [h2]
  have h1 : (PySem.W.clsIn K C).isSome = true := h1
  rw [h1]
  rfl
end
end Zk

namespace Zk
open PySem L2
/-! ### plain facts: the greatest, the least, parts of lists, comprehensions with a test -/
def minF (xs : List Int) : Int := match xs with | [] => 0 | x :: r => r.foldl min x
theorem fminL_eq {τ : Type} {xs : List Int} (h : xs ≠ []) : (fminL xs : M τ Int) = ret (minF xs) := by cases xs with | nil => exact absurd rfl h | cons x r => rfl
theorem minF_mem {xs : List Int} (h : xs ≠ []) : minF xs ∈ xs := by cases xs with | nil => exact absurd rfl h | cons x r => exact foldl_min_mem r x
section
variable {α β γ τ κ ρ : Type}
theorem cut_hi {xs : List α} (k : Nat) : cut xs none (some (k : Int)) = xs.take k := by
  unfold cut
  rw [HT.sIx_none, HT.sIx_nat, List.drop_zero, Nat.sub_zero]
  by_cases h : k ≤ xs.length
  · rw [Nat.min_eq_left h]
  · rw [Nat.min_eq_right (by omega), List.take_of_length_le (Nat.le_refl _), List.take_of_length_le (by omega)]
theorem cut_lo {xs : List α} (k : Nat) : cut xs (some (k : Int)) none = xs.drop k := by
  unfold cut
  rw [HT.sIx_none, HT.sIx_nat]
  by_cases h : k ≤ xs.length
  · rw [Nat.min_eq_left h, List.take_of_length_le (by rw [List.length_drop]; exact Nat.le_refl _)]
  · rw [Nat.min_eq_right (by omega), List.drop_of_length_le (Nat.le_refl _), List.drop_of_length_le (by omega)]; simp
theorem cut_hi' {xs : List α} {k : Int} (h : 0 ≤ k) : cut xs none (some k) = xs.take k.toNat := by
  obtain ⟨n, rfl⟩ := Int.eq_ofNat_of_zero_le h
  exact cut_hi n
theorem cut_lo' {xs : List α} {k : Int} (h : 0 ≤ k) : cut xs (some k) none = xs.drop k.toNat := by
  obtain ⟨n, rfl⟩ := Int.eq_ofNat_of_zero_le h
  exact cut_lo n
/-- a comprehension with a test, of pure parts -/
theorem zcomp_filter {t : β → M τ Bool} {f : β → M τ γ} {p : β → Bool} {g : β → γ} : ∀ (xs : List β) (acc : List γ), (∀ x ∈ xs, t x = ret (p x)) → (∀ x ∈ xs, f x = ret (g x)) → acc.length + xs.length ≤ sizeLine → zcomp t f acc xs = (ret (acc ++ (xs.filter p).map g) : M τ _)
  | [], acc, _, _, _ => by simp [zcomp]
  | x :: xs, acc, ht, h, hl => by
    simp only [List.length_cons] at hl
    unfold zcomp
    rw [ht x (by simp), show nox (ret (p x) : M τ Bool) = ret (p x) from rfl, bnd_ret]
    by_cases hp : p x = true
    · rw [if_pos hp, h x (by simp), show nox (ret (g x) : M τ γ) = ret (g x) from rfl, bnd_ret, chk_pos (by omega), zcomp_filter xs (acc ++ [g x]) (fun y hy => ht y (by simp [hy])) (fun y hy => h y (by simp [hy])) (by simp; omega), List.filter_cons_of_pos hp]
      simp
    · rw [if_neg hp, zcomp_filter xs acc (fun y hy => ht y (by simp [hy])) (fun y hy => h y (by simp [hy])) (by omega), List.filter_cons_of_neg hp]
theorem zlc_filter {t : β → M τ Bool} {f : β → M τ γ} {p : β → Bool} {g : β → γ} {xs : List β} (ht : ∀ x ∈ xs, t x = ret (p x)) (h : ∀ x ∈ xs, f x = ret (g x)) (hl : xs.length ≤ sizeLine) : zlc t f (ret xs) = (ret ((xs.filter p).map g) : M τ _) := by
  unfold zlc
  rw [bnd_ret, zcomp_filter xs [] ht h (by simpa using hl)]; rfl
/-- a loop that changes nothing -/
theorem zfor_same {f : α → β → M τ (Fl α α ρ)} {a : α} : ∀ {xs : List β}, (∀ x ∈ xs, f a x = ret (.nx a)) → zfor f a xs = (ret (.nx a) : M τ (Fl α κ ρ))
  | [], _ => rfl
  | x :: xs, h => by rw [zfor_cons_nx (h x (by simp))]; exact zfor_same fun y hy => h y (by simp [hy])
variable {I : τ → Prop}
theorem ok_any {m : M τ α} {P : α → Prop} (h : Ok I m P) : Ok I m fun _ => True := h.mono fun _ _ => trivial
theorem ok_catL {m n : M τ (List α)} {j k : Nat} {Q : α → Prop} (h1 : Ok I m (LOf j Q)) (h2 : Ok I n (LOf k Q)) (hk : j + k ≤ 1000000) : Ok I (zop2 lcat m n) (LOf (j + k) Q) := ok_op2 h1 h2 fun xs ys hx hy => by
  unfold lcat
  rw [chk_pos (by rw [hx.1, hy.1]; exact Nat.le_trans hk (by decide))]
  exact ok_ret ⟨by rw [List.length_append, hx.1, hy.1], fun z hz => (List.mem_append.mp hz).elim (hx.2 z) (hy.2 z)⟩
theorem lcat_eq {xs ys : List α} (h : xs.length + ys.length ≤ 16777216) : (lcat xs ys : M τ _) = ret (xs ++ ys) := chk_pos (by rw [show sizeLine = 16777216 by decide]; exact h)
theorem zlist_eq {xs : List α} (h : xs.length ≤ 16777216) : zlist (ret xs) = (ret xs : M τ _) := zlist_ret (by rw [show sizeLine = 16777216 by decide]; exact h)
theorem oks_forB {f : α → β → M τ (Fl α α ρ)} {m : M τ (List β)} {a : α} {P : List β → Prop} {N : α → Prop} {R : ρ → Prop} {Kb Kc : κ → Prop} (h : Ok I m P) (k : ∀ xs, P xs → OkS I (zfor f a xs : M τ (Fl α κ ρ)) N R Kb Kc) : OkS I (zforI m a f : M τ (Fl α κ ρ)) N R Kb Kc := fun s hs => by
  obtain ⟨xs, s', e, i, p⟩ := h s hs
  unfold zforI bnd; rw [e]
  exact k xs p s' i
end
end Zk

namespace Zk
open PySem L2

/-! ### what is lent: read, never changed -/
def Eff.lent {τ : Type} (E : Eff τ) (L : Hp) : Eff τ where
  own a := E.own a ∨ ∃ o, L a = some o
  is b S H := E.is b S H ∧ (∀ a o, L a = some o → S a = none ∧ H a = some o) ∧ ∀ a o, L a = some o → ¬ E.own a
  mono := fun s f k ⟨h1, h2, h3⟩ => ⟨E.mono s (fun a ha => f a (.inl ha)) (fun a o ha => k a o (.inl ha)) h1, fun a o e => ⟨f a (.inr ⟨o, e⟩) (h2 a o e).1, k a o (.inr ⟨o, e⟩) (h2 a o e).2⟩, h3⟩
  th := fun ⟨h1, h2, h3⟩ ha => ha.elim (fun ha => E.th h1 ha) fun ⟨o, e⟩ => ⟨(h2 _ o e).1, o, (h2 _ o e).2⟩
structure HasL {τ : Type} (E : Eff τ) (L : Hp) : Prop where
  h : ∀ {b : τ} {S H : Hp}, E.is b S H → ∀ a o, L a = some o → H a = some o
theorem hasL {τ : Type} {E : Eff τ} {L : Hp} : HasL (E.lent L) L := ⟨fun h a o e => (h.2.1 a o e).2⟩

section
variable {τ α β γ δ κ ρ ι θ : Type} {G : Gx} {c : Sc} {E : Eff τ} {W : WX} {Γ : Env} {B : Bs} {σ : St} {S S1 S' H H' : Hp} {b b' : τ} {Ls : Ls κ ρ} {L : Hp}
/-- a thing of one's own, as it is seen while it is lent -/
structure View (p : PrO) (q : Hp → Pr) : Prop where
  v : ∀ {S H : Hp} {v : V} {F : Addr → Prop}, p.p S H v F → ∀ L : Hp, (∀ a o, F a → H a = some o → L a = some o) → (q L).p S v
def rLF (L : Hp) (R : Rel α) : Rel (List α) :=
  ⟨fun xs S v => ∃ a vs, v = .ref a ∧ L a = some (.lst vs) ∧ All2 (fun x v => R.is x S v) xs vs, fun s ⟨a, vs, e, h, q⟩ => ⟨a, vs, e, h, All2.rel s q⟩⟩
theorem view_L {R : Rel α} {xs : List α} : View (ownL R xs) (fun L => (rLF L R).pr xs) := ⟨fun ⟨l, vs, e, f, h, q⟩ L k => ⟨l, vs, e, k _ _ ((f l).mpr rfl) h, q⟩⟩
inductive FrzX : Env → (Hp → Env) → Prop
  | nil : FrzX [] (fun _ => [])
  | no {l : Env} {l' : Hp → Env} : FrzX l l' → FrzX (.no :: l) (fun L => .no :: l' L)
  | st {p : Pr} {l : Env} {l' : Hp → Env} : FrzX l l' → FrzX (.st p :: l) (fun L => .st p :: l' L)
  | ow {p : PrO} {q : Hp → Pr} {l : Env} {l' : Hp → Env} : View p q → FrzX l l' → FrzX (.ow p :: l) (fun L => .st (q L) :: l' L)
  | gh {p : PrO} {l : Env} {l' : Hp → Env} : FrzX l l' → FrzX (.gh p :: l) (fun L => .no :: l' L)
theorem FrzX.get {L : Hp} : ∀ {l : Env} {l' : Hp → Env}, FrzX l l' → ∀ {i : Nat} {s : Sl}, (l' L)[i]? = some s → s = .no ∨ (∃ p, s = .st p ∧ l[i]? = some (.st p)) ∨ ∃ p q, s = .st (q L) ∧ View p q ∧ l[i]? = some (.ow p)
  | _, _, .nil, i, s, h => by simp at h
  | _, _, .no f, 0, s, h => by simp at h; exact .inl h.symm
  | _, _, .st f, 0, s, h => by simp at h; exact .inr (.inl ⟨_, h.symm, rfl⟩)
  | _, _, .ow v f, 0, s, h => by simp at h; exact .inr (.inr ⟨_, _, h.symm, v, rfl⟩)
  | _, _, .gh f, 0, s, h => by simp at h; exact .inl h.symm
  | _, _, .no f, i + 1, s, h => by simpa using f.get (i := i) (by simpa using h)
  | _, _, .st f, i + 1, s, h => by simpa using f.get (i := i) (by simpa using h)
  | _, _, .ow v f, i + 1, s, h => by simpa using f.get (i := i) (by simpa using h)
  | _, _, .gh f, i + 1, s, h => by simpa using f.get (i := i) (by simpa using h)
open Classical in
/-- all that is one's own is lent, then back -/
theorem Hold.lendX {Γ' : Hp → Env} (fz : FrzX Γ Γ') (h : Hold E B Γ b σ S H) : ∃ L, Hold (E.lent L) B (Γ' L) b σ S H ∧ ∀ b1 S2 H2, Same S S2 → Hold (E.lent L) B (Γ' L) b1 σ S2 H2 → Hold E B Γ b1 σ S2 H2 := by
  obtain ⟨Fs, hF, hs⟩ := h.sl
  let Ow : Addr → Prop := fun a => ∃ i, (∃ p, Γ[i]? = some (.ow p) ∨ Γ[i]? = some (.gh p)) ∧ Fs i a
  have lOw : ∀ a o, (if Ow a then H a else none) = some o → Ow a ∧ H a = some o := fun a o e => by
    by_cases z : Ow a
    · rw [if_pos z] at e; exact ⟨z, e⟩
    · rw [if_neg z] at e; cases e
  refine ⟨fun a => if Ow a then H a else none, ⟨⟨h.same, h.kp.up, fun a o h1 h2 h3 => h.kp.kp a o h1 h2 fun z => h3 (.inl z)⟩, ⟨h.ef, fun a o e => ?_, fun a o e => ?_⟩, fun _ _ => False, ⟨fun _ _ z => z.elim, fun _ _ _ z => z.elim⟩, fun i s e => ?_⟩, fun b1 S2 H2 s2 h2 => ?_⟩
  · obtain ⟨⟨i, _, z⟩, e⟩ := lOw a o e
    exact ⟨(hF.at_ i a z).1, e⟩
  · obtain ⟨⟨i, _, z⟩, e⟩ := lOw a o e
    exact (hF.at_ i a z).2.2.1
  · rcases fz.get e with rfl | ⟨p, rfl, e'⟩ | ⟨p, q, rfl, vw, e'⟩
    · trivial
    · obtain ⟨x, e1, e2⟩ := hs i _ e'; exact ⟨x, e1, e2⟩
    · obtain ⟨x, e1, e2⟩ := hs i _ e'
      exact ⟨x, e1, vw.v e2 _ fun a o z e => by show (if Ow a then H a else none) = some o; rw [if_pos ⟨i, ⟨p, .inl e'⟩, z⟩]; exact e⟩
  · have kk : ∀ a o, Ow a → H a = some o → S2 a = none ∧ H2 a = some o := fun a o z e => h2.ef.2.1 a o (by show (if Ow a then H a else none) = some o; rw [if_pos z]; exact e)
    refine ⟨⟨h2.same, h2.kp.up, fun a o e1 e2 e3 => h2.kp.kp a o e1 e2 fun z => z.elim e3 fun ⟨o', z⟩ => ?_⟩, h2.ef.1, fun i a => (∃ p, Γ[i]? = some (.ow p) ∨ Γ[i]? = some (.gh p)) ∧ Fs i a, ⟨fun i a ⟨ep, e⟩ => ?_, fun i j a e1 e2 => hF.ds _ _ a e1.2 e2.2⟩, fun i s e => ?_⟩
    · obtain ⟨⟨i, _, z⟩, _⟩ := lOw a o' z
      rw [(hF.at_ i a z).2.1] at e2; cases e2
    · obtain ⟨r1, r2, r3, o, r4⟩ := hF.at_ i a e
      have := kk a o ⟨i, ep, e⟩ r4
      exact ⟨this.1, r2, r3, o, this.2⟩
    · have q := hs i s e
      cases s with
      | no => trivial
      | st p => obtain ⟨x, e1, e2⟩ := q; exact ⟨x, e1, p.mono s2 e2⟩
      | ow p =>
        obtain ⟨x, e1, e2⟩ := q
        refine ⟨x, e1, ?_⟩
        have ef : (fun a => (∃ p, Γ[i]? = some (.ow p) ∨ Γ[i]? = some (.gh p)) ∧ Fs i a) = Fs i := funext fun a => propext ⟨fun z => z.2, fun z => ⟨⟨p, .inl e⟩, z⟩⟩
        show p.p S2 H2 x (fun a => (∃ p, Γ[i]? = some (.ow p) ∨ Γ[i]? = some (.gh p)) ∧ Fs i a)
        rw [ef]
        exact p.mono s2 (fun a o ha e' => (kk a o ⟨i, ⟨p, .inl e⟩, ha⟩ e').2) e2
      | gh p =>
        have ef : (fun a => (∃ p, Γ[i]? = some (.ow p) ∨ Γ[i]? = some (.gh p)) ∧ Fs i a) = Fs i := funext fun a => propext ⟨fun z => z.2, fun z => ⟨⟨p, .inr e⟩, z⟩⟩
        show p.p S2 H2 .non (fun a => (∃ p, Γ[i]? = some (.ow p) ∨ Γ[i]? = some (.gh p)) ∧ Fs i a)
        rw [ef]
        exact p.mono s2 (fun a o ha e' => (kk a o ⟨i, ⟨p, .inr e⟩, ha⟩ e').2) q
theorem z_lendX {Γ' : Hp → Env} {e : Expr} {m : M τ α} {R : Rel α} (fz : FrzX Γ Γ') (h : ∀ L, ZE G c (E.lent L) W (Γ' L) e m R) : ZE G c E W Γ e m R := fun X C => pe_wk (pe_ex fun L => h L X C) fun σ H Q _ ⟨B, S, b, hh, q⟩ => by
  obtain ⟨L, hp, back⟩ := hh.lendX fz
  refine ⟨L, B, S, b, hp, ?_⟩
  cases e : m b with
  | stuck => rw [e] at q; exact q.elim
  | exc x b1 => rw [e] at q; exact fun c d S' H' s' h' xa => q c d S' H' s' (back b1 S' H' s' h') xa
  | ok a b1 => rw [e] at q; exact fun v S' H' s' h' r => q v S' H' s' (back b1 S' H' s' h') r
/-! reading what is lent -/
theorem rlf_at {R : Rel α} {xs : List α} {v : V} (hl : HasL E L) (hh : Hold E B Γ b σ S H) (h : (rLF L R).is xs S v) : ∃ a vs, v = .ref a ∧ L a = some (.lst vs) ∧ H a = some (.lst vs) ∧ All2 (fun x v => R.is x S v) xs vs :=
  let ⟨a, vs, e, h1, q⟩ := h; ⟨a, vs, e, h1, hl.h hh.ef _ _ h1, q⟩
section
variable {ea eb e : Expr} {p pos : Pos} {x : Str}
theorem z_lenF {R : Rel α} {m : M τ (List α)} (hl : HasL E L) (bl : Blt G c x (.builtin "len")) (ha : ZE G c E W Γ e m (rLF L R)) (hs : Star e [] := by intro _; rfl) : ZE G c E W Γ (.Call (.Name x p) [e] [] pos) (zapp flen m) rInt :=
  z_b1 bl (R := rLF L R) (r := fun xs H Q => ∃ p ys, xs = [.ref p] ∧ (SqL G.K H p ys ∨ SqT G.K H p ys) ∧ Q (.int ys.length) H) (fun X C => by rw [← C.K]; exact call_len_seq) (fun B σ S H b x v Q hh hx q => by
    obtain ⟨a, vs, e1, _, e2, e3⟩ := rlf_at hl hh hx
    exact ⟨a, vs, by rw [e1], .inl (.of e2), by rw [← e3.length]; exact aft_ret hh q rfl⟩) ha hs
end

/-! calls where something is lent -/
theorem Hold.callE {E0 : Eff τ} (h : Hold (E0.lent L) B Γ b σ S H) (k : Keep E0.own ⟨S, H⟩ S' H') (e : E0.is b' S' H') : Hold (E0.lent L) B Γ b' σ S' H' :=
  h.call ⟨k.same, k.up, fun a o h1 h2 h3 => k.kp a o h1 h2 fun z => h3 (.inl z)⟩ ⟨e, fun a o z => k.kp a o (h.ef.2.1 a o z).1 (h.ef.2.1 a o z).2 (h.ef.2.2 a o z), h.ef.2.2⟩
/-- of a def of what else may change (the bag) -/
theorem tz_spE {E0 : Eff τ} {E' : θ → Eff τ} {A : θ → α → List Pr} {m : α → M τ ρ} {R : Rel ρ} {q : θ} {x : α} {vs : List V} {Q : VK} (hE : E' q = E0) (h : Hold (E0.lent L) B Γ b σ S H) (r : All2 (fun (p : Pr) v => p.p S v) (A q x) vs) (a : aft G (E0.lent L) W B Γ σ S R Q (m x b)) : spZ G E' A m R vs H Q (WE W σ) := by
  subst hE
  refine ⟨q, x, S, b, r, h.same, h.ef.1, ?_⟩
  cases e : m x b with
  | stuck => rw [e] at a; exact a.elim
  | exc e b' => rw [e] at a; exact fun c d S' H' k he xa => a c d S' H' k.up (h.callE k he) xa
  | ok r b' => rw [e] at a; exact fun v S' H' k he rr => a v S' H' k.up (h.callE k he) rr
theorem z_callU {E0 : Eff τ} {g : Bool} {x : Str} {k : Nat} {ps : List Str} {E' : θ → Eff τ} {A : θ → α → List Pr} {f : α → M τ ρ} {R : Rel ρ} {q : θ} {e : Expr} {es : List Expr} {m : M τ α} {p pos : Pos} (F : FnAt g G x k ps (spZ G E' A f R)) (hE : E' q = E0) (hk : k ≤ c.k) (hg : g = true → c.gd = true) (gb : Gb c x) (ha : ZA G c (E0.lent L) W Γ (e :: es) m (A q))
    (hd : (x == ("__debug__" : Str)) = false := by decide) (he : Star e es := by intro _; rfl) (hpl : ∀ env : PySem.Env, (backTo pos (starEach es env)).any (·.1) = false := by intro _; rfl) : ZE G c (E0.lent L) W Γ (.Call (.Name x p) (e :: es) [] pos) (zapp f m) R := fun X C => by
  obtain ⟨f0, fd, h1, h2, h3, h4⟩ := F.ex
  rw [← C.prog, ← C.w, ← C.K, ← C.mg, ← C.base] at h4
  rw [← C.mg] at h1
  rw [← C.K] at h2 h3
  exact pe_wk (pe_callG (Ex := WE W) h4 (C.room.mono hk) (fun z => C.gds (hg z)) (C.gl gb) h1 h2 h3 .nil (passAt C.takes) (ha X C) hd (he _) (hpl _)) fun σ H Q _ ⟨B, S, b, hh, qq⟩ =>
    tz_Abnd hh qq fun x b1 vs S1 H1 s1 hh1 r1 q1 => by rw [List.append_nil]; exact tz_spE hE hh1 r1 q1
end
end Zk

namespace Zk
open PySem L2

section
variable {τ α β γ δ κ ρ ι θ : Type} {G : Gx} {c : Sc} {E : Eff τ} {W : WX} {Γ : Env} {B : Bs} {σ : St} {S S1 S' H H' : Hp} {b b' : τ} {Ls : Ls κ ρ} {L : Hp}
/-! ### instances made of what is lent -/
/-- behind the making of an instance -/
theorem Hold.made {E : Eff Unit} {b : Unit} {C0 l dx : Addr} (hh : Hold E B Γ b σ S H) (hl : H l = none) (hdx : H dx = none) (k : Keep E.own ⟨S, del (upd (upd H dx (.own l)) l (.ins C0 dx [])) l⟩ S' H') (he : E.is () S' H') (hS' : S' l = none) : Hold E B Γ () σ S' (del H' l) := by
  have old : ∀ a o, H a = some o → del (upd (upd H dx (.own l)) l (.ins C0 dx [])) l a = some o := fun a o e => by
    rw [del_ne (ne_of_none e hl), upd_ne (ne_of_none e hl), upd_ne (ne_of_none e hdx)]; exact e
  have nl := hh.fr hl
  refine hh.call ⟨fun a o e => ?_, k.up, fun a o e1 e2 e3 => ?_⟩ (E.mono (Same.refl _) (fun _ _ z => z) (fun a o ha e => ?_) he)
  · rw [del_ne (fun z => by rw [z, hS'] at e; cases e)]; exact k.same _ _ e
  · rw [del_ne (ne_of_none e2 hl)]; exact k.kp a o e1 (old a o e2) e3
  · rw [del_ne (fun z => nl (by rw [← z]; exact ha))]; exact e
/-! ### a loop over an own list of own lists, each changed in its turn; then it is gone -/
/-- the list at l, and of its lists those at rs -/
def ownRest (R : Rel α) (l : Addr) (rs0 rs : List Addr) (xss : List (List α)) : PrO := ⟨fun S H v F => v = .ref l ∧ l ∉ rs ∧ rs.Nodup ∧ (∀ a, F a ↔ a = l ∨ a ∈ rs) ∧ H l = some (.lst (rs0.map V.ref)) ∧ Rows R S H rs xss,
  fun s k ⟨e, n, d, f, h, q⟩ => ⟨e, n, d, f, k _ _ ((f l).mpr (.inl rfl)) h, Rows.mono s (fun a o ha e => k a o ((f a).mpr (.inr ha)) e) (fun _ z => z) q⟩⟩
/-- one of the lists goes into a slot of its own -/
theorem Hold.split {R : Rel α} {l : Addr} {rs0 rs : List Addr} {r : Addr} {xs : List α} {xss : List (List α)} {i j : Nat} (h : Hold E B Γ b σ S H) (hi : Γ[i]? = some (.ow (ownRest R l rs0 (r :: rs) (xs :: xss)))) (hij : j ≠ i) (hj : j < σ.length) :
    Hold E B ((Γ.set i (.ow (ownRest R l rs0 rs xss))).set j (.ow (ownL R xs))) b (σ.set j (some (.ref r))) S H := by
  obtain ⟨Fs, hF, hs⟩ := h.sl
  obtain ⟨v, e1, rfl, n, d, f, hl, ⟨us, eu, hu⟩, q⟩ := hs i _ hi
  obtain ⟨nr, d⟩ := List.nodup_cons.mp d
  have nl : l ∉ rs := fun z => n (by simp [z])
  have hlr : l ≠ r := fun z => n (by simp [z])
  have fi : ∀ a, Fs i a ↔ a = l ∨ a = r ∨ a ∈ rs := fun a => (f a).trans (by simp)
  let Fn : Nat → Addr → Prop := fun k a => if k = j then a = r else if k = i then a = l ∨ a ∈ rs else Fs k a
  have sub : ∀ k a, Fn k a → ∃ k', Fs k' a ∧ (k' = k ∨ (k' = i ∧ (k = j ∨ k = i))) := fun k a e => by
    show ∃ k', Fs k' a ∧ _
    by_cases hk : k = j
    · have e : a = r := by have : (if k = j then a = r else if k = i then a = l ∨ a ∈ rs else Fs k a) := e; rwa [if_pos hk] at this
      exact ⟨i, (fi a).mpr (.inr (.inl e)), .inr ⟨rfl, .inl hk⟩⟩
    · have e : (if k = j then a = r else if k = i then a = l ∨ a ∈ rs else Fs k a) := e
      rw [if_neg hk] at e
      by_cases hk2 : k = i
      · rw [if_pos hk2] at e
        exact ⟨i, (fi a).mpr (e.elim .inl fun z => .inr (.inr z)), .inr ⟨rfl, .inr hk2⟩⟩
      · rw [if_neg hk2] at e
        exact ⟨k, e, .inl rfl⟩
  refine ⟨h.kp, h.ef, Fn, ⟨fun k a e => ?_, fun k m a e1 e2 => ?_⟩, fun k s e => ?_⟩
  · obtain ⟨k', e', _⟩ := sub k a e
    exact hF.at_ k' a e'
  · have g1 : ∀ k, Fn k a → k = j → a = r := fun k e hk => by have e : (if k = j then a = r else if k = i then a = l ∨ a ∈ rs else Fs k a) := e; rwa [if_pos hk] at e
    have g2 : ∀ k, Fn k a → k ≠ j → k = i → a = l ∨ a ∈ rs := fun k e hk hk2 => by have e : (if k = j then a = r else if k = i then a = l ∨ a ∈ rs else Fs k a) := e; rwa [if_neg hk, if_pos hk2] at e
    have g3 : ∀ k, Fn k a → k ≠ j → k ≠ i → Fs k a := fun k e hk hk2 => by have e : (if k = j then a = r else if k = i then a = l ∨ a ∈ rs else Fs k a) := e; rwa [if_neg hk, if_neg hk2] at e
    have nor : a = r → ¬ (a = l ∨ a ∈ rs) := fun z w => w.elim (fun w => hlr (w.symm.trans z)) fun w => nr (by rw [← z]; exact w)
    have inI : (a = r ∨ a = l ∨ a ∈ rs) → Fs i a := fun z => (fi a).mpr (by rcases z with z | z | z <;> simp [z])
    by_cases k1 : k = j <;> by_cases m1 : m = j
    · rw [k1, m1]
    · by_cases m2 : m = i
      · exact absurd (g2 m e2 m1 m2) (nor (g1 k e1 k1))
      · exact absurd (hF.ds _ _ a (g3 m e2 m1 m2) (inI (.inl (g1 k e1 k1)))) m2
    · by_cases k2 : k = i
      · exact absurd (g2 k e1 k1 k2) (nor (g1 m e2 m1))
      · exact absurd (hF.ds _ _ a (g3 k e1 k1 k2) (inI (.inl (g1 m e2 m1)))) k2
    · by_cases k2 : k = i <;> by_cases m2 : m = i
      · rw [k2, m2]
      · exact absurd (hF.ds _ _ a (g3 m e2 m1 m2) (inI (.inr (g2 k e1 k1 k2)))) m2
      · exact absurd (hF.ds _ _ a (g3 k e1 k1 k2) (inI (.inr (g2 m e2 m1 m2)))) k2
      · exact hF.ds _ _ a (g3 k e1 k1 k2) (g3 m e2 m1 m2)
  · rcases set_get e with ⟨rfl, rfl⟩ | ⟨nk, e⟩
    · rw [List.getElem?_set_self hj]
      refine ⟨.ref r, rfl, r, us, rfl, fun a => ?_, eu, hu⟩
      show (if k = k then a = r else _) ↔ a = r
      rw [if_pos rfl]
    · rw [List.getElem?_set_ne (Ne.symm nk)]
      rcases set_get e with ⟨rfl, rfl⟩ | ⟨ni, e⟩
      · refine ⟨.ref l, e1, rfl, nl, d, fun a => ?_, hl, q⟩
        show (if k = j then a = r else if k = k then a = l ∨ a ∈ rs else Fs k a) ↔ _
        rw [if_neg nk, if_pos rfl]
      · have hq := hs k s e
        have ef : Fn k = Fs k := funext fun a => by
          show (if k = j then a = r else if k = i then a = l ∨ a ∈ rs else Fs k a) = Fs k a
          rw [if_neg nk, if_neg ni]
        rw [ef]
        exact hq
end
end Zk

namespace Zk
open PySem L2

section
variable {τ α β γ δ κ ρ ι θ : Type} {G : Gx} {c : Sc} {E : Eff τ} {W : WX} {Γ : Env} {B : Bs} {σ : St} {S S1 S' H H' : Hp} {b b' : τ} {Ls : Ls κ ρ} {L : Hp}
end
end Zk

namespace Zk
open PySem L2

/-! ### sorted of data -/
section
variable {X : Cx} {β : Type}
def rSortD (K : PySem.W.Frag) (β : Type) (rev : Bool) : List V → Hp → VK → Prop := fun vs H Q => ∃ (a : Addr) (us : List V) (bs : List β) (enc : β → PyData), vs = [.ref a] ∧ SqL K H a us ∧ bs.length ≤ sizeLine ∧ All2 (fun b u => Dp K H u (enc b)) bs us ∧
  (∀ b b', PySem.W.alike (enc b) (enc b') = true) ∧ ((∀ b, ∃ x r, enc b = .tuple (x :: r)) ∨ ∀ b, enc b ≠ .none ∧ ∀ xs, enc b ≠ .tuple xs) ∧ (∀ b, (enc b).depth ≤ 60) ∧
  ∀ p ws, H p = none → (∀ Rv : β → V → Prop, All2 Rv bs us → All2 Rv (bs.mergeSort (PySem.W.dataLe rev enc)) ws) → Q (.ref p) (upd H p (.lst ws))
theorem each_of {X : Cx} {pins : List (Addr × Obj)} {σ : St} {H : Hp} {s : Shared} (I : Inv X pins σ H s) (enc : β → PyData) : ∀ {bs : List β} {us : List V} {its : List Value}, All2 (fun b u => Dp X.K H u (enc b)) bs us → Vals us its → PySem.W.EachIs (fun v b => ∃ as, Reads s.heap v (enc b) as) its bs
  | [], [], _, _, r => by cases r; exact .nil
  | b :: bs, u :: us, _, ⟨h, t⟩, r => by
    cases r with
    | cons r1 r2 => exact .cons (Dp.reads I _ _ _ h r1) (each_of I enc t r2)
  | [], _ :: _, _, h, _ => h.elim
  | _ :: _, [], _, h, _ => h.elim
theorem each_zip : ∀ {bs : List β} {us : List V} {its : List Value}, bs.length = us.length → Vals us its → ∀ T : List (β × V), (∀ p ∈ bs.zip us, p ∈ T) → PySem.W.EachIs (fun v b => ∃ u, RelV u v ∧ (b, u) ∈ T) its bs
  | [], [], _, _, r, T, _ => by cases r; exact .nil
  | b :: bs, u :: us, _, hl, r, T, hT => by
    cases r with
    | cons r1 r2 => exact .cons ⟨u, r1, hT _ (by simp)⟩ (each_zip (by simpa using hl) r2 T fun p hp => hT p (by simp [hp]))
  | [], _ :: _, _, h, _, _, _ => by simp at h
  | _ :: _, [], _, h, _, _, _ => by simp at h
theorem each_back {T : List (β × V)} : ∀ {its : List Value} {bs : List β}, PySem.W.EachIs (fun v b => ∃ u, RelV u v ∧ (b, u) ∈ T) its bs → ∃ ws, Vals ws its ∧ All2 (fun b u => (b, u) ∈ T) bs ws
  | _, _, .nil => ⟨[], .nil, trivial⟩
  | _, _, .cons ⟨u, h1, h2⟩ t => by
    obtain ⟨ws, h3, h4⟩ := each_back t
    exact ⟨u :: ws, .cons h1 h3, h2, h4⟩
theorem all2_zip {Rv : β → V → Prop} : ∀ {bs : List β} {us : List V}, All2 Rv bs us → ∀ p ∈ bs.zip us, Rv p.1 p.2
  | [], [], _, p, h => by simp at h
  | b :: bs, u :: us, ⟨h, t⟩, p, hp => by
    rw [List.zip_cons_cons] at hp
    rcases List.mem_cons.mp hp with rfl | hp
    · exact h
    · exact all2_zip t p hp
  | [], _ :: _, h, _, _ => h.elim
  | _ :: _, [], h, _, _ => h.elim
theorem cr_sortD (hu : X.A.units + 64 < cLine) : CallR X (.builtin "sorted") (rSortD X.K β false) := by
  intro pins s σ H vs us Q I r h
  obtain ⟨a, ws, bs, enc, rfl, hs, hz, hd, hal, hk, hn, q⟩ := h
  obtain ⟨its, rv, hl, hz'⟩ := I.list hs
  rw [Vals.ref1 r]
  refine PySem.W.sorted_data hl.isList (each_zip hd.length rv (bs.zip ws) fun _ h => h) (each_of I enc hd rv) (PySem.W.AllAlike.of hal) (hk.elim PySem.W.Sortable.tuples PySem.W.Sortable.others) hz (fun b _ => by have := hn b; omega) fun out ho he => ?_
  obtain ⟨ys, y1, y2⟩ := each_back he
  obtain ⟨ep, he'⟩ := PyProof.Rows.sortedAll_at s.heap its out.toArray
  exact ⟨.ref _, upd H (s.heap.objs.size + 1) (.lst ys), I.laid (t' := s.toks) (fun _ _ => PyProof.Rows.sortedAll_old) (Nat.le_succ _) ⟨by rw [y1.length, ho]; exact hz, out, ep, y1, he'⟩, rfl,
    q _ _ (I.hok.fresh (Nat.le_succ _)) fun Rv hR => y2.imp fun b u hm => all2_zip hR _ hm⟩
end
section
variable {τ α β γ δ κ ρ ι θ : Type} {G : Gx} {c : Sc} {E : Eff τ} {W : WX} {Γ Γ' : Env} {B : Bs} {σ : St} {S S1 S' H H' : Hp} {b b' : τ} {L : Ls κ ρ}
/-- data that can be compared -/
structure Srt {R : Rel α} (D : DatR R) : Prop where
  al : ∀ a b, PySem.W.alike (D.d a) (D.d b) = true
  nn : ∀ a, D.d a ≠ .none
structure SrtK {R : Rel α} (D : DatR R) : Prop extends Srt D where
  k : (∀ b, ∃ x r, D.d b = .tuple (x :: r)) ∨ ∀ b, D.d b ≠ .none ∧ ∀ xs, D.d b ≠ .tuple xs
theorem srtI : SrtK datI := ⟨⟨fun _ _ => by simp [datI, PySem.W.alike], fun _ e => by cases e⟩, .inr fun _ => ⟨fun e => (by cases e), fun _ e => by cases e⟩⟩
theorem srtS : SrtK datS := ⟨⟨fun _ _ => by simp [datS, PySem.W.alike], fun _ e => by cases e⟩, .inr fun _ => ⟨fun e => (by cases e), fun _ e => by cases e⟩⟩
theorem srt3 {R : Rel α} {D : DatR R} {R2 : Rel β} {D2 : DatR R2} {R3 : Rel γ} {D3 : DatR R3} (h : Srt D) (h2 : Srt D2) (h3 : Srt D3) : SrtK (dat3 D D2 D3) := ⟨⟨fun x y => by
  show PySem.W.alike (.tuple [D.d x.1, D2.d x.2.1, D3.d x.2.2]) (.tuple [D.d y.1, D2.d y.2.1, D3.d y.2.2]) = true
  simp [PySem.W.alike, PySem.W.alikeAll, h.al, h2.al, h3.al], fun _ e => by cases e⟩, .inl fun _ => ⟨_, _, rfl⟩⟩
def fsort {R : Rel α} (D : DatR R) (xs : List α) : M τ (List α) := chk (D.n ≤ 60 ∧ xs.length ≤ sizeLine) (ret (xs.mergeSort (PySem.W.dataLe false D.d)))
theorem z_sortD {R : Rel α} {D : DatR R} (srt : SrtK D) {x : Str} {p pos : Pos} {e : Expr} {m : M τ (List α)} (bl : Blt G c x (.builtin "sorted")) (ha : ZE G c E W Γ e m (rLst R)) (hs : Star e [] := by intro _; rfl) : ZE G c E W Γ (.Call (.Name x p) [e] [] pos) (zapp (fsort D) m) (rLst R) :=
  z_b1 bl (R := rLst R) (r := rSortD G.K α false) (fun X C => by rw [← C.K]; exact cr_sortD C.room.units) (fun B σ S H b xs v Q hh ⟨a, vs, e1, e2, e3⟩ q => by
    obtain ⟨⟨hn, hz⟩, q⟩ := aft_chk q
    exact ⟨a, vs, xs, D.d, by rw [e1], .of (hh.same _ _ e2), hz, e3.imp fun x u h => D.dp hh.same h, srt.al, srt.k, fun y => Nat.le_trans (D.dep y) hn, fun p ws hp hw =>
      aft_new hh q hp (rLst_new (hh.same.free hp) (hw _ e3))⟩) ha hs

/-! ### texts -/
theorem op_mul_str {X : Cx} : OpR X (binaryOp .Mult) (fun x y H Q => ∃ z i, x = .str z ∧ y = .int i ∧ -(2 ^ 63) ≤ i ∧ i < 2 ^ 63 ∧ z.length * i.toNat ≤ sizeLine ∧ Q (.str (Txt.mul z i)) H) := by
  intro pins s σ H x y v u Q I rx ry h
  obtain ⟨z, i, rfl, rfl, h1, h2, h3, q⟩ := h
  obtain ⟨t, rfl⟩ := rx
  obtain ⟨t2, rfl⟩ := ry
  refine SB.mul ⟨?_, fun h4 h5 => ?_, fun h4 h5 => ?_⟩ fun t' k => ⟨.str _, H, I.tok _, ⟨_, rfl⟩, q⟩
  · rw [Bool.or_eq_false_iff, decide_eq_false_iff_not, decide_eq_false_iff_not]; omega
  · intro h6
    have h7 : (2 ^ 63 - 1 : Int) < z.length * i := by
      have := Int.lt_mul_of_ediv_lt (by omega) h6
      exact this
    have h8 : ((z.length * i.toNat : Nat) : Int) = z.length * i := by
      push_cast
      rw [Int.toNat_of_nonneg (by omega)]
    have h9 : ((z.length * i.toNat : Nat) : Int) ≤ (sizeLine : Int) := by exact_mod_cast h3
    have : (sizeLine : Int) = 16777216 := by decide
    omega
  · show PySem.Builtin.Str.tooLong (z.length * i.toNat) = false
    unfold PySem.Builtin.Str.tooLong
    rw [decide_eq_false_iff_not]; omega
def smul (x : Str) (k : Int) : M τ Str := chk (-(2 ^ 63) ≤ k ∧ k < 2 ^ 63 ∧ x.length * k.toNat ≤ sizeLine) (ret (Txt.mul x k))
variable {ea eb e : Expr} {p pos : Pos}
theorem z_mulS {ma : M τ Str} {mb : M τ Int} (ha : ZE G c E W Γ ea ma rStr) (hb : ZE G c E W Γ eb mb rInt) : ZE G c E W Γ (.BinOp ea .Mult eb pos) (zop2 smul ma mb) rStr :=
  z_bin (Ra := rStr) (Rb := rInt) (fun _ _ => op_mul_str) (fun B σ S H b x y v w Q hh hx hy q => by
    obtain ⟨⟨h1, h2, h3⟩, q⟩ := aft_chk q
    exact ⟨x, y, hx, hy, h1, h2, h3, aft_ret hh q rfl⟩) ha hb
def sixat (x : Str) (i : Int) : M τ Str := chk (x.length ≤ sizeLine) (match atI x.cps.toList i with | some c => ret ⟨#[c]⟩ | none => stk)
theorem z_ixS {ma : M τ Str} {mb : M τ Int} (ha : ZE G c E W Γ ea ma rStr) (hb : ZE G c E W Γ eb mb rInt) (hs : PIx eb := by intro _ _; rfl) : ZE G c E W Γ (.Subscript ea eb pos) (zop2 sixat ma mb) rStr := fun X C =>
  pe_wk (pe_ix ix_str (ha X C) (hb X C) hs) fun _ _ _ _ q => by
    refine tz_op2 (fun B σ S H b x i v w Q hh hx hi q => ?_) q
    obtain ⟨h1, q⟩ := aft_chk q
    cases z : atI x.cps.toList i with
    | none => rw [z] at q; exact q.elim
    | some y =>
      rw [z] at q
      exact ⟨x, i, y, hx, hi, h1, z, aft_ret hh q rfl⟩
def zslS (m : M τ Str) (l h : M τ (Option Int)) : M τ Str := bnd m fun xs => bnd l fun lo => bnd h fun hi => chk (xs.length ≤ sizeLine) (ret (Txt.slice xs lo hi))
theorem z_slS {m : M τ Str} {l h : M τ (Option Int)} {lo hi : Option Expr} {p2 : Pos} (he : ZE G c E W Γ e m rStr) (hl : ZP G c E W Γ lo l) (hh : ZP G c E W Γ hi h) : ZE G c E W Γ (.Subscript e (.Slice lo hi none p2) pos) (zslS m l h) rStr := fun X C =>
  pe_wk (pe_slice C8.sl_txt (he X C) (hl X C) (hh X C)) fun σ H Q _ ⟨B, S, b, hh, q⟩ => by
    refine tz_bnd hh q fun xs b1 v S1 H1 s1 h1 r1 q1 => ?_
    refine ⟨B, S1, b1, h1, ?_⟩
    unfold bnd at q1
    cases e : l b1 with
    | stuck => rw [e] at q1; exact q1.elim
    | exc x b1 => rw [e] at q1; exact q1
    | ok lo b2 =>
      rw [e] at q1
      intro S2 H2 s2 h2
      refine ⟨B, S2, b2, h2, ?_⟩
      dsimp only at q1
      cases e : h b2 with
      | stuck => rw [e] at q1; exact q1.elim
      | exc x b1 => rw [e] at q1; exact fun c d S' H' s' h' xa => q1 c d S' H' (s2.trans s') h' xa
      | ok hi b3 =>
        rw [e] at q1
        intro S3 H3 s3 h3
        obtain ⟨hz, q2⟩ := aft_chk q1
        exact ⟨xs, r1, hz, aft_ret h3 (aft.same (s2.trans s3) q2) rfl⟩
def signs (x : Str) : List Str := x.cps.toList.map fun c => ⟨#[c]⟩
theorem src_str {P : Hp → Hp → Prop} {x : Str} : Src P (Its x) (signs x) rStr (fun _ => True) where
  mono := fun _ _ => trivial
  go := fun {i S H} s _ _ hi => by
    show i < x.cps.size
    simpa [signs] using hi
  yl := fun {i S H H' v y} s _ _ hy ⟨e1, c, e2, e3⟩ => .inl ⟨e1, by
    unfold signs at hy
    rw [List.getElem?_map, Array.getElem?_toList, e2] at hy
    cases hy; exact e3⟩
  st := fun s _ _ => by
    show x.cps.size ≤ (signs x).length
    simp [signs]
def fsigns (x : Str) : M τ (List Str) := ret (signs x)
theorem zi_str {tg : Expr} {m : M τ Str} (h : ZE G c E W Γ e m rStr) : ZI G c E W Γ tg e (zapp fsigns m) rStr := fun X C => pi_wk (pi_str (h X C)) fun σ H Q ⟨B, S, b, hh, q⟩ => by
  refine ⟨B, S, b, hh, ?_⟩
  unfold zapp bnd at q
  cases e : m b with
  | stuck => rw [e] at q; exact q.elim
  | exc x b1 => rw [e] at q; exact q
  | ok x b1 => rw [e] at q; exact fun v S' H' s h' hx => ⟨x, hx, q _ _ S' H' s h' src_str trivial⟩
def sin_ (x y : Str) : M τ Bool := match x.cps.toList with | [c] => ret (decide (c ∈ y.cps.toList)) | _ => stk
theorem sin_op : Op2 G E W Γ (fun x y H Q => ∃ (c : Nat) (z : Str), x = .str ⟨#[c]⟩ ∧ y = .str z ∧ Q (.bl (decide (c ∈ z.cps.toList))) H) rStr rStr sin_ rBl := fun B σ S H b x y v w Q hh hx hy q => by
  unfold sin_ at q
  match e : x.cps.toList with
  | [c] =>
    rw [e] at q
    have ex : x = ⟨#[c]⟩ := by
      cases x with
      | mk cps => simp only [Str.mk.injEq]; exact Array.toList_inj.mp e
    exact ⟨c, y, by rw [hx, ex], hy, aft_ret hh q rfl⟩
  | [] => rw [e] at q; exact q.elim
  | _ :: _ :: _ => rw [e] at q; exact q.elim
theorem z_inS {ma mb : M τ Str} (ha : ZE G c E W Γ ea ma rStr) (hb : ZE G c E W Γ eb mb rStr) (hm : behindInMarks .In eb = false := by rfl) : ZE G c E W Γ (.Compare ea [.In] [eb] pos) (zop2 sin_ ma mb) rBl := z_cmp (fun _ _ => op_in_sign) sin_op ha hb hm
theorem z_gstrE {x : Str} {i : Str} (g : Gb c x) (h : ∃ u, G.mg x = some u ∧ RelV (.str i) u) (hd : (x == ("__debug__" : Str)) = false := by decide) : ZE G c E W Γ (.Name x pos) (ret i) rStr := let ⟨_, h1, h2⟩ := h; z_gstr g h1 h2 hd
end
end Zk

namespace Zk
open PySem L2 PySem.Spec PyProof.Rows

/-! ### keys that are tuples: data without lists and dicts -/
mutual
def nkD : PyData → NestedKey
  | .none => .none
  | .bool b => .num (if b = true then 1 else 0)
  | .int i => .num i
  | .str x => .text x
  | .tuple xs => .tup (nkAll xs)
  | .list _ => .none
  | .dict _ => .none
def nkAll : List PyData → List NestedKey
  | [] => []
  | x :: xs => nkD x :: nkAll xs
end
mutual
def keyD : PyData → Bool
  | .none => true
  | .bool _ => true
  | .int _ => true
  | .str _ => true
  | .tuple xs => keyAll xs
  | .list _ => false
  | .dict _ => false
def keyAll : List PyData → Bool
  | [] => true
  | x :: xs => keyD x && keyAll xs
end
mutual
theorem nested_of {h : Heap} : ∀ (d : PyData) (v : Value) (as : List Addr), Reads h v d as → keyD d = true → NestedIs h (nkD d) v
  | .none, _, _, r, _ => by cases r; rw [nkD]; exact .none
  | .bool b, _, _, r, _ => by cases r; rw [nkD]; exact .bool rfl
  | .int i, _, _, r, _ => by cases r; rw [nkD]; exact .int _ _
  | .str x, _, _, r, _ => by cases r; rw [nkD]; exact .text _ _
  | .tuple xs, _, _, r, k => by
    cases r with
    | tuple h1 h2 h3 h4 => rw [nkD]; exact .tup h1 h2 h3 (nested_all xs _ _ h4 (by simpa [keyD] using k))
  | .list _, _, _, _, k => by simp [keyD] at k
  | .dict _, _, _, _, k => by simp [keyD] at k
theorem nested_all {h : Heap} : ∀ (ds : List PyData) (vs : List Value) (as : List Addr), ReadsAll h vs ds as → keyAll ds = true → NestedAll h (nkAll ds) vs
  | [], _, _, r, _ => by cases r; rw [nkAll]; exact .nil
  | d :: ds, _, _, r, k => by
    rw [keyAll, Bool.and_eq_true] at k
    cases r with
    | cons h1 h2 => rw [nkAll]; exact .cons (nested_of d _ _ h1 k.1) (nested_all ds _ _ h2 k.2)
end
mutual
theorem nk_eqv : ∀ d e : PyData, keyD d = true → keyD e = true → nkD d = nkD e → PyData.eqv d e = true
  | .none, e, _, k, h => by cases e <;> simp_all [nkD, keyD, PyData.eqv]
  | .bool b, e, _, k, h => by cases e <;> simp_all [nkD, keyD, PyData.eqv]
                              all_goals (cases b <;> simp_all)
                              all_goals (rename_i b'; cases b' <;> simp_all)
  | .int i, e, _, k, h => by cases e <;> simp_all [nkD, keyD, PyData.eqv]
  | .str x, e, _, k, h => by cases e <;> simp_all [nkD, keyD, PyData.eqv]
  | .tuple xs, e, k1, k, h => by
    cases e with
    | tuple ys =>
      simp only [nkD, NestedKey.tup.injEq] at h
      simp only [keyD] at k1 k
      simp only [PyData.eqv]
      exact nkAll_eqv xs ys k1 k h
    | _ => simp_all [nkD, keyD]
  | .list _, _, k, _, _ => by simp [keyD] at k
  | .dict _, _, k, _, _ => by simp [keyD] at k
theorem nkAll_eqv : ∀ ds es : List PyData, keyAll ds = true → keyAll es = true → nkAll ds = nkAll es → PyData.eqvAll ds es = true
  | [], [], _, _, _ => by simp [PyData.eqvAll]
  | d :: ds, e :: es, k1, k2, h => by
    rw [keyAll, Bool.and_eq_true] at k1 k2
    simp only [nkAll, List.cons.injEq] at h
    simp [PyData.eqvAll, nk_eqv d e k1.1 k2.1 h.1, nkAll_eqv ds es k1.2 k2.2 h.2]
  | [], _ :: _, _, _, h => by simp [nkAll] at h
  | _ :: _, [], _, _, h => by simp [nkAll] at h
end
/-- a kind whose things may be keys, all of them tuples -/
structure KyT {κ : Type} {R : Rel κ} (D : DatR R) : Prop where
  key : ∀ x, keyD (D.d x) = true
  tup : ∀ x, ∃ xs, D.d x = .tuple xs
  dep : ∀ x, (nkD (D.d x)).depth ≤ 8
theorem KyT.inj {κ : Type} {R : Rel κ} {D : DatR R} (h : KyT D) {x y : κ} (e : nkD (D.d x) = nkD (D.d y)) : x = y := (D.eq x y).mp (nk_eqv _ _ (h.key x) (h.key y) e)

/-! ### dicts of such keys -/
abbrev NE := NestedKey × Addr × V
def elook (es : List NE) (k : NestedKey) : Option V := (es.find? fun e => decide (e.1 = k)).map (·.2.2)
def ehas (es : List NE) (k : NestedKey) : Bool := es.any fun e => decide (e.1 = k)
def eput (es : List NE) (k : NestedKey) (b : Addr) (v : V) : List NE := if ehas es k = true then es.map (fun e => if e.1 = k then (e.1, e.2.1, v) else e) else es ++ [(k, b, v)]
abbrev NP : List NE → List (NestedKey × Addr × Value) → Prop := Paired fun e x => e.1 = x.1 ∧ e.2.1 = x.2.1 ∧ RelV e.2.2 x.2.2
def dxP (P : Program) (w : World) (a : Addr) (es : List NE) (h : Heap) : Prop := es.length ≤ sizeLine ∧ (a == sysModules) = false ∧ ∃ xs, NP es xs ∧ ∃ o ar ep, h.get? a = some o ∧ o.ExactDict ∧ o.data = .dict ar ep ∧ ar.toList = xs.map (entryOfKey (nestedKind P w)) ∧ (xs.map (·.1)).Nodup
def dxO (P : Program) (w : World) (a : Addr) (es : List NE) : HO := .ext (dxP P w a es)
/-- the keys' own tuples -/
def EKeys (K : PySem.W.Frag) (H : Hp) (es : List NE) : Prop := ∀ e ∈ es, ∃ d, Dp K H (.ref e.2.1) d ∧ nkD d = e.1 ∧ keyD d = true ∧ (nkD d).depth ≤ 8
theorem NP.look {k : NestedKey} : ∀ {es : List NE} {xs : List (NestedKey × Addr × Value)}, NP es xs → RelO (elook es k) ((atKey xs k).map (·.2)) := fun {es xs} r => by
  induction r with
  | nil => exact True.intro
  | @cons e x es xs h t ih =>
    obtain ⟨h1, _, h3⟩ := h
    by_cases z : e.1 = k
    · have z' : x.1 = k := h1.symm.trans z
      have a : elook (e :: es) k = some e.2.2 := by simp [elook, List.find?_cons, z]
      have b : atKey (x :: xs) k = some x.2 := by simp [atKey, List.find?_cons, z']
      rw [a, b]; exact h3
    · have z' : ¬ x.1 = k := fun y => z (h1.trans y)
      have a : elook (e :: es) k = elook es k := by simp [elook, List.find?_cons, z]
      have b : atKey (x :: xs) k = atKey xs k := by simp [atKey, List.find?_cons, z']
      rw [a, b]; exact ih
theorem ehas_look (k : NestedKey) : ∀ es : List NE, ehas es k = (elook es k).isSome
  | [] => rfl
  | e :: es => by
    have ih := ehas_look k es
    unfold ehas elook at *
    by_cases z : e.1 = k
    · simp [List.find?_cons, z]
    · simp only [List.any_cons, decide_eq_false z, Bool.false_or, List.find?_cons]; exact ih
theorem NP.repl {k : NestedKey} {v : V} {u : Value} (rv : RelV v u) {es : List NE} {xs : List (NestedKey × Addr × Value)} (r : NP es xs) : NP (es.map fun e => if e.1 = k then (e.1, e.2.1, v) else e) (xs.map (putAt k u)) := by
  induction r with
  | nil => exact .nil
  | @cons e x es xs h t ih =>
    rw [List.map_cons, List.map_cons]
    refine .cons ?_ ih
    obtain ⟨h1, h2, h3⟩ := h
    unfold putAt
    by_cases z : e.1 = k
    · rw [if_pos z, if_pos (h1.symm.trans z)]; exact ⟨h1, h2, rv⟩
    · rw [if_neg z, if_neg (fun y => z (h1.trans y))]; exact ⟨h1, h2, h3⟩
theorem NP.put {k : NestedKey} {b : Addr} {v : V} {u : Value} {es : List NE} {xs : List (NestedKey × Addr × Value)} (r : NP es xs) (rv : RelV v u) : NP (eput es k b v) (storedH xs k b u) := by
  have e : ehas es k = (atKey xs k).isSome := by rw [ehas_look, (r.look (k := k)).isSome_eq, Option.isSome_map]
  unfold eput storedH
  rw [e]
  by_cases q : (atKey xs k).isSome = true
  · rw [if_pos q, if_pos q]; exact r.repl rv
  · rw [if_neg q, if_neg q]; exact Paired.snoc r ⟨rfl, rfl, rv⟩
theorem eput_len (es : List NE) (k : NestedKey) (b : Addr) (v : V) : (eput es k b v).length ≤ es.length + 1 := by
  unfold eput
  split
  · rw [List.length_map]; omega
  · simp
theorem dxO_ok {P : Program} {w : World} {H : Hp} {h : Heap} {a : Addr} {es : List NE} (x : dxP P w a es h) : ObjOk P w H h a (dxO P w a es) :=
  ⟨x, let ⟨_, _, _, _, o, _, _, ho, _⟩ := x; ⟨o, ho⟩, fun h1 h2 ⟨z, y, xs, r, o, ar, ep, ho, q⟩ k => ⟨z, y, xs, r, o, ar, ep, k _ ho, q⟩⟩
theorem dx_new (P : Program) (w : World) (h : Heap) (hb : sysModules < h.objs.size) : dxP P w h.objs.size [] (h.push { cls := .type "dict", data := .dict #[] }) :=
  ⟨Nat.zero_le _, beq_eq_false_iff_ne.mpr (Ne.symm (Nat.ne_of_lt hb)), [], .nil, _, #[], 0, Heap.get?_push_size _ rfl, ⟨rfl, rfl, rfl⟩, rfl, rfl, List.nodup_nil⟩
section
variable {X : Cx} {pins : List (Addr × Obj)} {σ : L2.St} {H : Hp} {s : Shared} {a b : Addr} {es : List NE} {k : NestedKey} {A : Around} {EE : Value → Shared → Prop}
theorem dx_at (I : Inv X pins σ H s) (r : Rd H a (dxO X.prog X.w a es)) (hk : EKeys X.K H es) : es.length ≤ sizeLine ∧ (a == sysModules) = false ∧ ∃ xs, NP es xs ∧ s.heap.DictOfH (nestedKind X.prog X.w) a xs := by
  obtain ⟨⟨z, y, xs, r, o, ar, ep, ho, h1, h2, h3, h4⟩, _⟩ := (show ObjOk X.prog X.w H s.heap a (dxO X.prog X.w a es) from r.ok I.hok)
  refine ⟨z, y, xs, r, o, ar, ep, ho, h1, h2, h3, fun x hx => ?_, h4⟩
  have all : ∀ {l : List NE} {m : List (NestedKey × Addr × Value)}, NP l m → EKeys X.K H l → ∀ x ∈ m, (nestedKind X.prog X.w).is s.heap x.1 x.2.1 := by
    intro l m q
    induction q with
    | nil => intro _ x hx; exact nomatch hx
    | @cons p q ps qs hq t ih =>
      intro hk x hx
      rcases List.mem_cons.mp hx with e | hx
      · subst e
        obtain ⟨d, h1, h2, h3, h4⟩ := hk p (by simp)
        obtain ⟨as, hr⟩ := Dp.reads I d (.ref p.2.1) (.ref p.2.1) h1 rfl
        have := nested_of d _ _ hr h3
        rw [← hq.1, ← hq.2.1, ← h2]
        exact ⟨this, h4⟩
      · exact ih (fun e he => hk e (by simp [he])) x hx
  exact all r hk x hx
/-- .ref b is the key k -/
def KAt (K : PySem.W.Frag) (H : Hp) (b : Addr) (k : NestedKey) : Prop := ∃ d, Dp K H (.ref b) d ∧ nkD d = k ∧ keyD d = true ∧ (nkD d).depth ≤ 8
theorem KAt.is (I : Inv X pins σ H s) (h : KAt X.K H b k) : (nestedKind X.prog X.w).is s.heap k b := by
  obtain ⟨d, h1, h2, h3, h4⟩ := h
  obtain ⟨as, hr⟩ := Dp.reads I d (.ref b) (.ref b) h1 rfl
  rw [← h2]
  exact ⟨nested_of d _ _ hr h3, h4⟩
end
section
variable {X : Cx} {o i e value : Expr} {pos pos' tpos : Pos} {td ty tv : TE}
theorem pe_tget (hu : X.A.units + 64 < cLine) (ho : PE X o td) (hi : PE X i ty) (hs : NoSl i) : PE X (.Subscript o i pos) (fun σ H Q => td σ H fun x H1 => ty σ H1 fun y H2 => ∃ a es b k v, x = .ref a ∧ y = .ref b ∧ Rd H2 a (dxO X.prog X.w a es) ∧ EKeys X.K H2 es ∧ KAt X.K H2 b k ∧ elook es k = some v ∧ Q v H2) := by
  refine ⟨fun pins s σ H Q I h => ?_⟩
  refine subD_of PySem.F.slot_dict_getitem.lookup hs (thn (ho.run pins s σ H _ I h) fun u s1 ⟨x, H1, I1, rx, q1⟩ => thn (hi.run pins s1 σ H1 _ I1 q1) fun iv s2 ⟨y, H2, I2, ry, a, es, b, k, v, ex, ey, g1, g2, g3, g4, q2⟩ => ?_)
  subst ex ey
  obtain rfl : u = Value.ref a := rx
  obtain rfl : iv = Value.ref b := ry
  obtain ⟨z, hd, xs, rel, dd⟩ := dx_at I2 g1 g2
  obtain ⟨w', hw, rw'⟩ := RelO.some_of (v := v) (o := (atKey xs k).map (·.2)) (by rw [← g4]; exact rel.look)
  obtain ⟨p, hp, hp2⟩ := Option.map_eq_some_iff.mp hw
  refine ⟨dd.typeIs, wpAny_getItem_heap (by show X.A.units + 1 + 8 < cLine; omega) (g3.is I2) dd hp ?_⟩
  rw [hp2]
  exact ⟨v, H2, I2.tok _, rw', q2⟩
theorem pc_tin {neg : Bool} (hu : X.A.units + 64 < cLine) (hi : PE X i ty) (ho : PE X o td) : PC X (if neg = true then .NotIn else .In) i o (fun σ H Q => ty σ H fun y H1 => td σ H1 fun x H2 => ∃ a es b k, x = .ref a ∧ y = .ref b ∧ Rd H2 a (dxO X.prog X.w a es) ∧ EKeys X.K H2 es ∧ KAt X.K H2 b k ∧ Q (.bl (neg ^^ (elook es k).isSome)) H2) := by
  refine ⟨fun pins s σ H Q I h => ?_⟩
  refine thn (hi.run pins s σ H _ I h) fun iv s1 ⟨y, H1, I1, ry, q1⟩ => thn (ho.run pins s1 σ H1 _ I1 q1) fun u s2 ⟨x, H2, I2, rx, a, es, b, k, ex, ey, g1, g2, g3, q2⟩ => ?_
  subst ex ey
  obtain rfl : u = Value.ref a := rx
  obtain rfl : iv = Value.ref b := ry
  obtain ⟨z, hd, xs, rel, dd⟩ := dx_at I2 g1 g2
  have e : (elook es k).isSome = (atKey xs k).isSome := by rw [(rel.look (k := k)).isSome_eq, Option.isSome_map]
  rw [e] at q2
  cases neg with
  | false => exact wpAny_in_heap (by show X.A.units + 1 + 8 < cLine; omega) (g3.is I2) hd dd ⟨.bl (atKey xs k).isSome, H2, I2.tok _, rfl, by simpa using q2⟩
  | true => exact wpAny_notIn_heap (by show X.A.units + 1 + 8 < cLine; omega) (g3.is I2) hd dd ⟨.bl (!(atKey xs k).isSome), H2, I2.tok _, rfl, by simpa using q2⟩
theorem pe_tget2 {f : Expr} {apos cpos : Pos} {tx : TE} (hu : X.A.units + 64 < cLine) (ho : PE X o td) (he : PE X e ty) (hf : PE X f tx) (m : M2 X o "get" apos e f cpos) : PE X (.Call (.Attribute o "get" apos) [e, f] [] cpos) (fun σ H Q => td σ H fun x H1 => ∃ a es, x = .ref a ∧ Rd H1 a (dxO X.prog X.w a es) ∧ EKeys X.K H1 es ∧ ty σ H1 fun y H2 => tx σ H2 fun z H3 => ∃ es b k, y = .ref b ∧ Rd H3 a (dxO X.prog X.w a es) ∧ EKeys X.K H3 es ∧ KAt X.K H3 b k ∧ Q ((elook es k).getD z) H3) := by
  refine ⟨fun pins s σ H Q I h => ?_⟩
  refine wpAny_Call_method m.base m.few m.line PySem.F.plainAttrs_dict PySem.F.slot_dict_get PySem.F.type_dict_get (thn (ho.run pins s σ H _ I h) fun u s1 ⟨x, H1, I1, rx, a, es0, ex, g01, g02, q1⟩ => ?_)
  subst ex
  obtain rfl : u = Value.ref a := rx
  obtain ⟨z0, hd0, xs0, rel0, dd0⟩ := dx_at I1 g01 g02
  refine ⟨dd0.typeIs, fun b0 q => ?_, ?_⟩
  · cases q
    obtain ⟨ob, _, _, h1, h2, _⟩ := dd0
    exact ⟨ob, h1, h2.2.1⟩
  rw [m.trees]
  refine Calls.callWith_builtin rfl (Calls.evalArgs_plain (Calls.spliced_cons (thn (he.run pins s1 σ H1 _ I1 q1) fun iv s2 ⟨y, H2, I2, ry, q2⟩ =>
    Calls.spliced_cons (thn (hf.run pins s2 σ H2 _ I2 q2) fun fv s3 ⟨z, H3, I3, rz, es, b, k, ey, g1, g2, g3, q3⟩ => Calls.spliced_nil ?_))))
  subst ey
  obtain rfl : iv = Value.ref b := ry
  obtain ⟨zz, hd, xs, rel, dd⟩ := dx_at I3 g1 g2
  refine call_meetsIn PySem.F.slot_dict_get dd.typeIs PySem.F.entry_dict_get (PySem.F.args_dict_get_3 _ _ _) (meetsH_dict_get_default (nestedKind X.prog X.w) a b hd fv) ⟨by show X.A.units + 1 + 8 < cLine; omega, k, xs, g3.is I3, dd, ⟨_, H3, I3.tok _, (rel.look (k := k)).getD rz, q3⟩⟩
theorem ps_tput (hu : X.A.units + 64 < cLine) (ho : PE X o td) (hi : PE X i ty) (hv : PE X value tv) (hs : swapsWith value (some (.Subscript o i pos')) pos.line X.env = pure false) :
    PS X (.Assign [.Subscript o i pos'] value pos) (fun D σ H => tv σ H fun v H1 => td σ H1 fun x H2 => ty σ H2 fun y H3 => ∃ a es b k, x = .ref a ∧ y = .ref b ∧ H3 a = some (dxO X.prog X.w a es) ∧ EKeys X.K H3 es ∧ KAt X.K H3 b k ∧ es.length < sizeLine ∧ D.nx σ (upd H3 a (dxO X.prog X.w a (eput es k b v)))) := by
  refine ⟨fun pins s σ H D I h => ?_⟩
  refine wpAny_Assign_Subscript (thn (hv.run pins s σ H _ I h) fun r s1 ⟨v, H1, I1, rv, q1⟩ => thn (ho.run pins s1 σ H1 _ I1 q1) fun u s2 ⟨x, H2, I2, rx, q2⟩ => thn (hi.run pins s2 σ H2 _ I2 q2) fun iv s3 ⟨y, H3, I3, ry, a, es, b, k, ex, ey, g1, g2, g3, l, q3⟩ => ?_) hs
  subst ex ey
  obtain rfl : u = Value.ref a := rx
  obtain rfl : iv = Value.ref b := ry
  obtain ⟨z, hd, xs, rel, dd⟩ := dx_at I3 (.inl g1) g2
  have hz : xs.length ≤ sizeLine := by rw [← Paired.length rel]; exact z
  refine wpAny_setItem_heap (hsz := hz) (by show X.A.units + 1 + 8 < cLine; omega) (g3.is I3) dd fun h' dd' hs => ⟨σ, _, ?_, q3⟩
  obtain ⟨q, ar, ep, hq, h2, h3, h4, _, h5⟩ := dd'
  exact d_write I3 (by rw [g1]; exact True.intro) hs ⟨q, hq⟩ (dxO_ok ⟨by have := eput_len es k b v; omega, hd, _, rel.put rv, q, ar, ep, hq, h2, h3, h4, h5⟩)
theorem pe_tnew : PE X (.Dict [] [] pos) (fun _ H Q => ∀ p, H p = none → Q (.ref p) (upd H p (dxO X.prog X.w p []))) := ⟨fun pins s σ H Q I h =>
  wpAny_Dict_empty ⟨.ref s.heap.objs.size, _, I.laid (a := s.heap.objs.size) (o := dxO X.prog X.w s.heap.objs.size []) (t' := s.toks) (fun _ _ q => Heap.get?_push_of_some _ q) (Nat.le_refl _) (dxO_ok (dx_new _ _ s.heap I.big)), rfl, h _ (I.hok.fresh (Nat.le_refl _))⟩⟩
/-- the keys of the locked dict at d, each its own tuple -/
def Itx (P : Program) (w : World) (d : Addr) (o : Obj) (es : List NE) : It :=
  ⟨fun i H => H d = some (.frz o (dxO P w d es)) ∧ i < es.length, fun i H x H' => H' = H ∧ ∃ e, es[i]? = some e ∧ x = .ref e.2.1, fun i H => H d = some (.frz o (dxO P w d es)) ∧ es.length ≤ i⟩
end
section
variable {X : Cx} {pins : List (Addr × Obj)} {σ : L2.St} {H : Hp} {s : Shared} {d : Addr} {o : Obj} {es : List NE}
theorem dx_frz (I : Inv X pins σ H s) (h : H d = some (.frz o (dxO X.prog X.w d es))) :
    (d == sysModules) = false ∧ s.heap.get? d = some o ∧ o.ExactDict ∧ ∃ (ar : Array DictEntry) (ep : Nat), o.data = .dict ar ep ∧ ar.size = es.length ∧ ∀ (i : Nat) (e : NE), es[i]? = some e → ∃ en : DictEntry, ar[i]? = some en ∧ en.key = .ref e.2.1 := by
  obtain ⟨hd, ⟨z, hs, xs, pr, o', ar, ep, ho, hx, hdt, he, _⟩, _⟩ := (show ObjOk X.prog X.w H s.heap d (.frz o (dxO X.prog X.w d es)) from I.hok d _ h)
  rw [hd] at ho
  cases ho
  refine ⟨hs, hd, hx, ar, ep, hdt, ?_, fun i e hi => ?_⟩
  · have l1 : ar.size = xs.length := size_of_entries he
    have l2 : es.length = xs.length := Paired.length pr
    omega
  · obtain ⟨b, hb, e1, e2, _⟩ := paired_get pr hi
    have q := entry_at he i
    rw [hb] at q
    exact ⟨_, q, by rw [e2]; rfl⟩
end
theorem turn_x {P : Program} {w : World} {K : PySem.W.Frag} {tg : Expr} {d : Addr} {o : Obj} {ar : Array DictEntry} {ep : Nat} {es : List NE} (it : Addr) (hod : o.data = .dict ar ep) : Turn P w K tg (Itx P w d o es) [it] it (fun i h => h.IsKeyIter it d i es.length ep) where
  mem := by simp
  obj := fun i h st b hb => by
    have e : b = it := by simpa using hb
    subst e
    obtain ⟨oi, e, c, dd⟩ := st
    exact ⟨oi, e, fun v z => by rw [dd] at z; cases z⟩
  keep := fun i h h' st k => st.at fun oi e => k it (by simp) oi e
  item := by
    intro X hP hw hK hc i pins s σ H E I hf st hg
    subst hP hw hK
    obtain ⟨hd, hi⟩ := hg
    obtain ⟨f0, f1, f2, f3, f4, f5⟩ := hf it (by simp)
    obtain ⟨hs, hgd, hx, es', ep', hdt, hsz, ent⟩ := dx_frz I hd
    obtain ⟨rfl, rfl⟩ := dict_ep hod hdt
    obtain ⟨e, he⟩ : ∃ p, es[i]? = some p := ⟨es[i], List.getElem?_eq_getElem hi⟩
    obtain ⟨en, hen, hkey⟩ := ent i e he
    refine next_key_item st hgd hdt hsz hen fun h' st' sb => ?_
    have I1 : Inv X pins σ H { s with heap := h' } := I.turned (t' := s.toks) (fun b ob hb e => (sb.2 b hb).trans e) f0 f1 f3 f4 f5
    obtain ⟨oi, e', c, dd⟩ := id st'
    exact ⟨en.key, rfl, go_of (s := { s with heap := h' }) e' c dd (by decide) ⟨.ref e.2.1, H, I1, hkey, ⟨rfl, e, he, rfl⟩, st', fun b hb => (hf b hb).1⟩⟩
  done := by
    intro X hP hw hK hc i pins s σ H E I hf st hg
    subst hP hw hK
    obtain ⟨hd, hi⟩ := hg
    obtain ⟨f0, f1, f2, f3, f4, f5⟩ := hf it (by simp)
    obtain ⟨hs, hgd, hx, es', ep', hdt, hsz, ent⟩ := dx_frz I hd
    obtain ⟨rfl, rfl⟩ := dict_ep hod hdt
    exact next_key_end (I.ok.hd hc) st hgd hdt hsz hi fun h' eb => ⟨rfl, I.turned (t' := s.toks) (fun b ob hb e => eb b ob hb e) f0 f1 f3 f4 f5⟩
  self := fun A i s Q E st h => by
    refine wpAny_pyIter_slot st.typeIs F.slot_dict_keyiterator_iter (wpAny_call_entry F.slot_dict_keyiterator_iter st.typeIs F.entry_dict_keyiterator_iter ?_ (F.args_dict_keyiterator_iter_1 _))
    show wpAny _ _ (PySem.ret (Value.ref it)) _ _ s
    exact wpAny_pure ⟨_, rfl, "dict_keyiterator", _, st.typeIs, F.slot_dict_keyiterator_next.lookup, h⟩
theorem pi_x {X : Cx} {tg e : Expr} {td : TE} (he : PE X e td) : PI X tg e (fun σ H R => td σ H fun x H1 => ∃ d o es, x = .ref d ∧ H1 d = some (.frz o (dxO X.prog X.w d es)) ∧ R (Itx X.prog X.w d o es) H1) := by
  refine ⟨fun pins s σ H R I h => ?_⟩
  refine thn (he.run pins s σ H _ I h) fun u s1 ⟨x, H1, I1, rx, d, o, es, ex, hd, q⟩ => ?_
  subst ex
  obtain rfl : u = Value.ref d := rx
  obtain ⟨hs, hgd, hx, ar, ep, hdt, hsz, ent⟩ := dx_frz I1 hd
  refine iter_keys hs hgd hx hdt (pi_one (tk := s1.toks) I1 _ (turn_x _ hdt) ⟨_, Heap.get?_push_size _ rfl, rfl, ?_⟩ q)
  rw [hsz] <;> rfl
end Zk

namespace Zk
open PySem L2

/-! ### dicts as association lists -/
section
variable {κ α β : Type} [DecidableEq κ]
def dlook (xs : List (κ × α)) (k : κ) : Option α := (xs.find? fun p => decide (p.1 = k)).map (·.2)
def dput (xs : List (κ × α)) (k : κ) (v : α) : List (κ × α) := if xs.any (fun p => decide (p.1 = k)) = true then xs.map (fun p => if p.1 = k then (p.1, v) else p) else xs ++ [(k, v)]
structure MonoE (t : TE) : Prop where
  h : ∀ {σ : St} {H : Hp} {Q Q' : VK}, (∀ v H, Q v H → Q' v H) → t σ H Q → t σ H Q'
theorem pc_wk {X : Cx} {op : CmpOp} {a b : Expr} {t t' : TE} (h : PC X op a b t) (w : ∀ σ H Q, σ.length = X.N.length → t' σ H Q → t σ H Q) : PC X op a b t' := ⟨fun pins s σ H Q I q => h.run pins s σ H Q I (w σ H Q I.len q)⟩
structure CtxE (G : Gx) (X : Cx) : Prop where
  P : X.prog = G.P
  w : X.w = G.w
  K : X.K = G.K
  hu : X.A.units + 64 < cLine
  calm : X.calm = true
def klook {T : Type} (val : T → V) (ks : List κ) (es : List T) (k : κ) : Option V := ((ks.zip es).find? fun p => decide (p.1 = k)).map fun p => val p.2
def kput {T : Type} (rv : T → V → T) (t : T) (ks : List κ) (es : List T) (k : κ) (v : V) : List T := if ks.any (fun x => decide (x = k)) = true then (ks.zip es).map (fun p => if p.1 = k then rv p.2 v else p.2) else es ++ [t]
theorem klook_nil {T : Type} {val : T → V} {k : κ} {es : List T} : klook val ([] : List κ) es k = none := by simp [klook]
theorem klook_cons {T : Type} {val : T → V} {x k : κ} {ks : List κ} {t : T} {es : List T} : klook val (x :: ks) (t :: es) k = if x = k then some (val t) else klook val ks es k := by
  unfold klook
  rw [List.zip_cons_cons, List.find?_cons]
  by_cases h : x = k
  · simp [h]
  · simp [h]
end
/-- a kind of keys, and of the dicts that have such keys -/
structure Ky (G : Gx) (κ : Type) [DecidableEq κ] where
  R : Rel κ
  T : Type
  val : T → V
  kr : κ → Hp → T → Prop
  krm : ∀ {x : κ} {S S' : Hp} {t : T}, Same S S' → kr x S t → kr x S' t
  ob : Addr → List T → HO
  mu : ∀ a es, Mut (some (ob a es))
  nt : κ → V → V → T
  mkv : ∀ k y v, val (nt k y v) = v
  mkr : ∀ {k : κ} {S : Hp} {y v : V}, R.is k S y → kr k S (nt k y v)
  rv : T → V → T
  rvv : ∀ t v, val (rv t v) = v
  rvr : ∀ {x : κ} {S : Hp} {t : T} {v : V}, kr x S t → kr x S (rv t v)
  get : ∀ {X : Cx}, CtxE G X → ∀ {o i : Expr} {pos : Pos} {td ty : TE}, MonoE td → MonoE ty → PE X o td → PE X i ty → NoSl i → PE X (.Subscript o i pos) (fun σ H Q => td σ H fun x H1 => ty σ H1 fun y H2 => ∃ a es ks k S v, x = .ref a ∧ Rd H2 a (ob a es) ∧ Same S H2 ∧ All2 (fun x t => kr x S t) ks es ∧ R.is k S y ∧ klook val ks es k = some v ∧ Q v H2)
  has : ∀ {X : Cx}, CtxE G X → ∀ (neg : Bool) {o i : Expr} {td ty : TE}, MonoE td → MonoE ty → PE X i ty → PE X o td → PC X (if neg = true then .NotIn else .In) i o (fun σ H Q => ty σ H fun y H1 => td σ H1 fun x H2 => ∃ a es ks k S, x = .ref a ∧ Rd H2 a (ob a es) ∧ Same S H2 ∧ All2 (fun x t => kr x S t) ks es ∧ R.is k S y ∧ Q (.bl (neg ^^ (klook val ks es k).isSome)) H2)
  get2 : ∀ {X : Cx}, CtxE G X → ∀ {o e f : Expr} {apos cpos : Pos} {td ty tx : TE}, MonoE td → MonoE ty → MonoE tx → PE X o td → PE X e ty → PE X f tx → M2 X o "get" apos e f cpos → PE X (.Call (.Attribute o "get" apos) [e, f] [] cpos) (fun σ H Q => td σ H fun x H1 => ∃ a es0 ks0 S0, x = .ref a ∧ Rd H1 a (ob a es0) ∧ Same S0 H1 ∧ All2 (fun x t => kr x S0 t) ks0 es0 ∧ ty σ H1 fun y H2 => tx σ H2 fun z H3 => ∃ es ks k S, Rd H3 a (ob a es) ∧ Same S H3 ∧ All2 (fun x t => kr x S t) ks es ∧ R.is k S y ∧ Q ((klook val ks es k).getD z) H3)
  put : ∀ {X : Cx}, CtxE G X → ∀ {o i value : Expr} {pos pos' : Pos} {td ty tv : TE}, MonoE td → MonoE ty → MonoE tv → PE X o td → PE X i ty → PE X value tv → (swapsWith value (some (.Subscript o i pos')) pos.line X.env = pure false) → PS X (.Assign [.Subscript o i pos'] value pos) (fun D σ H => tv σ H fun v H1 => td σ H1 fun x H2 => ty σ H2 fun y H3 => ∃ a es ks k S, x = .ref a ∧ H3 a = some (ob a es) ∧ Same S H3 ∧ All2 (fun x t => kr x S t) ks es ∧ R.is k S y ∧ es.length < sizeLine ∧ D.nx σ (upd H3 a (ob a (kput rv (nt k y v) ks es k v))))
  aug : ∀ {X : Cx}, CtxE G X → ∀ {o i value : Expr} {op : Operator} {rd : V → V → Hp → VK → Prop} {pos pos' : Pos} {td ty tv : TE}, MonoE td → MonoE ty → MonoE tv → (∀ x y H, ∀ {Q Q' : VK}, (∀ v H, Q v H → Q' v H) → rd x y H Q → rd x y H Q') → PE X o td → PE X i ty → PE X value tv → InOp X op rd → (∀ ov iv new, augStore i ov iv new = (do holding [new, ov, iv] (setItem ov iv new); release [new, ov, iv] []; pure .next)) → PS X (.AugAssign (.Subscript o i pos') op value pos) (fun D σ H => td σ H fun x H1 => ty σ H1 fun y H2 => ∃ a es ks k S v, x = .ref a ∧ H2 a = some (ob a es) ∧ Same S H2 ∧ All2 (fun x t => kr x S t) ks es ∧ R.is k S y ∧ klook val ks es k = some v ∧
    tv σ H2 fun y2 H3 => rd v y2 H3 fun z H4 => ∃ es ks S, H4 a = some (ob a es) ∧ Same S H4 ∧ All2 (fun x t => kr x S t) ks es ∧ R.is k S y ∧ es.length < sizeLine ∧ D.nx σ (upd H4 a (ob a (kput rv (nt k y z) ks es k z))))
  nw : ∀ {X : Cx}, CtxE G X → ∀ {pos : Pos}, PE X (.Dict [] [] pos) (fun _ H Q => ∀ p, H p = none → Q (.ref p) (upd H p (ob p [])))
  it : Addr → Obj → List T → It
  pi : ∀ {X : Cx}, CtxE G X → ∀ {tg e : Expr} {td : TE}, MonoE td → PE X e td → PI X tg e (fun σ H Q => td σ H fun x H1 => ∃ d o es, x = .ref d ∧ H1 d = some (.frz o (ob d es)) ∧ Q (it d o es) H1)
  src : ∀ {P : Hp → Hp → Prop} {d : Addr} {o : Obj} {es : List T} {ks : List κ}, Src P (it d o es) ks R (fun S => S d = some (.frz o (ob d es)) ∧ All2 (fun x t => kr x S t) ks es)

/-! ### keys that are whole numbers or texts -/
structure KyF {κ : Type} (R : Rel κ) (f : κ → Key) : Prop where
  at_ : ∀ {x : κ} {S : Hp} {v : V}, R.is x S v ↔ v = kV (f x)
  inj : ∀ {x y : κ}, f x = f y → x = y
theorem kyfS : KyF rStr Sum.inr := ⟨Iff.rfl, fun h => Sum.inr.inj h⟩
section
variable {κ : Type} [DecidableEq κ] {R : Rel κ} {f : κ → Key}
theorem flat_look (F : KyF R f) (k : κ) : ∀ {ks : List κ} {es : List (Key × V)}, All2 (fun x t => t.1 = f x) ks es → valV es (f k) = klook (·.2) ks es k
  | [], [], _ => by rw [klook_nil]; rfl
  | x :: ks, t :: es, ⟨h, q⟩ => by
    rw [klook_cons]
    by_cases e : x = k
    · rw [if_pos e, valV_pos (by rw [h, e])]
    · rw [if_neg e, valV_neg (by rw [h]; exact fun z => e (F.inj z)), flat_look F k q]
  | [], _ :: _, h => h.elim
  | _ :: _, [], h => h.elim
theorem flat_any (F : KyF R f) (k : κ) : ∀ {ks : List κ} {es : List (Key × V)}, All2 (fun x t => t.1 = f x) ks es → (es.any fun kv => decide (kv.1 = f k)) = ks.any fun x => decide (x = k)
  | [], [], _ => rfl
  | x :: ks, t :: es, ⟨h, q⟩ => by
    rw [List.any_cons, List.any_cons, flat_any F k q, h]
    congr 1
    by_cases e : x = k
    · simp [e]
    · rw [decide_eq_false e, decide_eq_false fun z => e (F.inj z)]
  | [], _ :: _, h => h.elim
  | _ :: _, [], h => h.elim
theorem flat_map (F : KyF R f) (k : κ) (v : V) : ∀ {ks : List κ} {es : List (Key × V)}, All2 (fun x t => t.1 = f x) ks es → (es.map fun kv => if kv.1 = f k then (kv.1, v) else kv) = (ks.zip es).map fun p => if p.1 = k then (p.2.1, v) else p.2
  | [], [], _ => rfl
  | x :: ks, t :: es, ⟨h, q⟩ => by
    rw [List.map_cons, List.zip_cons_cons, List.map_cons, flat_map F k v q]
    congr 1
    by_cases e : x = k
    · rw [if_pos (by rw [h, e]), if_pos e]
    · rw [if_neg (by rw [h]; exact fun z => e (F.inj z)), if_neg e]
  | [], _ :: _, h => h.elim
  | _ :: _, [], h => h.elim
theorem flat_put (F : KyF R f) {k : κ} {v : V} {ks : List κ} {es : List (Key × V)} (h : All2 (fun x t => t.1 = f x) ks es) : putK es (f k) v = kput (fun t v => (t.1, v)) (f k, v) ks es k v := by
  unfold putK kput
  rw [flat_any F k h, flat_map F k v h]
def kyF (G : Gx) (F : KyF R f) : Ky G κ where
  R := R
  T := Key × V
  val := (·.2)
  kr x _ t := t.1 = f x
  krm := fun _ h => h
  ob := fun _ es => .dK es
  mu := fun _ _ => trivial
  nt k _ v := (f k, v)
  mkv := fun _ _ _ => rfl
  mkr := fun _ => rfl
  rv t v := (t.1, v)
  rvv := fun _ _ => rfl
  rvr := fun h => h
  get := fun {X} C {o i pos td ty} md my ho hi hs => pe_wk (pe_dget (by have := C.hu; omega) ho hi hs) fun σ H Q _ q => md.h (fun x H1 q => my.h (fun y H2 ⟨a, es, ks, k, S, v, e1, e2, e3, e4, e5, e6, q⟩ =>
    ⟨a, v, e1, .inl ⟨es, f k, e2, F.at_.mp e5, by rw [← e6]; exact (flat_look F k e4).symm⟩, q⟩) q) q
  has := fun {X} C neg {o i td ty} md my hi ho => by
    cases neg with
    | false => exact pc_wk (pc_din (by have := C.hu; omega) hi ho) fun σ H Q _ q => my.h (fun y H1 q => md.h (fun x H2 ⟨a, es, ks, k, S, e1, e2, e3, e4, e5, q⟩ =>
        ⟨a, _, e1, .inl ⟨es, f k, e2, F.at_.mp e5, rfl⟩, by rw [flat_look F k e4]; simpa using q⟩) q) q
    | true => exact pc_wk (pc_dnotin (by have := C.hu; omega) hi ho) fun σ H Q _ q => my.h (fun y H1 q => md.h (fun x H2 ⟨a, es, ks, k, S, e1, e2, e3, e4, e5, q⟩ =>
        ⟨a, _, e1, .inl ⟨es, f k, e2, F.at_.mp e5, rfl⟩, by rw [flat_look F k e4]; simpa using q⟩) q) q
  get2 := fun {X} C {o e f' apos cpos td ty tx} md my mx ho he hf m => pe_wk (pe_dget2 (by have := C.hu; omega) ho he hf m) fun σ H Q _ q => md.h (fun x H1 ⟨a, es0, ks0, S0, e1, e2, _, _, q⟩ =>
    ⟨a, e1, .inl ⟨es0, e2⟩, my.h (fun y H2 q => mx.h (fun z H3 ⟨es, ks, k, S, f1, f2, f3, f4, q⟩ => ⟨_, .inl ⟨es, f k, f1, F.at_.mp f4, rfl⟩, by rw [flat_look F k f3]; exact q⟩) q) q⟩) q
  put := fun {X} C {o i value pos pos' td ty tv} md my mv ho hi hv hs => ps_wk (ps_dput (by have := C.hu; omega) ho hi hv hs) fun D σ H _ q => mv.h (fun v H1 q => md.h (fun x H2 q => my.h (fun y H3 ⟨a, es, ks, k, S, e1, e2, e3, e4, e5, e6, q⟩ =>
    ⟨a, _, e1, .inl ⟨es, f k, e2, F.at_.mp e5, e6, rfl⟩, by rw [flat_put F e4]; exact q⟩) q) q) q
  aug := fun {X} C {o i value op rd pos pos' td ty tv} md my mv mr ho hi hv hop ha => ps_wk (ps_daug (by have := C.hu; omega) ho hi hv hop ha) fun D σ H _ q => md.h (fun x H1 q => my.h (fun y H2 ⟨a, es, ks, k, S, v, e1, e2, e3, e4, e5, e6, q⟩ =>
    ⟨a, v, e1, .inl ⟨es, f k, .inl e2, F.at_.mp e5, by rw [← e6]; exact (flat_look F k e4).symm⟩, mv.h (fun y2 H3 q => mr _ _ _ (fun z H4 ⟨es, ks, S, f1, f2, f3, f4, f5, q⟩ =>
      ⟨_, .inl ⟨es, f k, f1, F.at_.mp f4, f5, rfl⟩, by rw [flat_put F f3]; exact q⟩) q) q⟩) q) q
  nw := fun C {pos} => pe_dnewK
  it := Itk
  pi := fun {X} C {tg e td} md he => pi_wk (pi_keys he) fun σ H Q q => md.h (fun x H1 ⟨d, o, es, e1, e2, q⟩ => ⟨d, o, e1, .inl ⟨es, e2, q⟩⟩) q
  src := {
    mono := fun s ⟨e, q⟩ => ⟨s _ _ e, q⟩
    go := fun {i S H} s _ ⟨e, q⟩ hi => ⟨s _ _ e, by rw [← q.length]; exact hi⟩
    yl := fun {i S H H' x y} s _ ⟨e, q⟩ hy ⟨e1, k, v, e2, e3⟩ => .inl ⟨e1, by
      obtain ⟨t, h1, h2⟩ := q.get hy
      rw [e2] at h1; cases h1
      exact F.at_.mpr (by rw [e3]; exact congrArg kV h2)⟩
    st := fun s _ ⟨e, q⟩ => ⟨s _ _ e, by rw [q.length]; exact Nat.le_refl _⟩ }
end

/-! ### keys that are tuples -/
section
open PySem.Spec PyProof.Rows
variable {X : Cx} {o i e value : Expr} {pos pos' tpos : Pos} {td ty tv : TE}
theorem ps_taug {op : Operator} {rd : V → V → Hp → VK → Prop} (hu : X.A.units + 64 < cLine) (ho : PE X o td) (hi : PE X i ty) (hv : PE X value tv) (hop : InOp X op rd)
    (ha : ∀ ov iv new, augStore i ov iv new = (do holding [new, ov, iv] (setItem ov iv new); release [new, ov, iv] []; pure .next)) :
    PS X (.AugAssign (.Subscript o i tpos) op value pos) (fun D σ H => td σ H fun x H1 => ty σ H1 fun y H2 => ∃ a es b k v, x = .ref a ∧ y = .ref b ∧ H2 a = some (dxO X.prog X.w a es) ∧ EKeys X.K H2 es ∧ KAt X.K H2 b k ∧ elook es k = some v ∧
      tv σ H2 fun y2 H3 => rd v y2 H3 fun z H4 => ∃ es2, H4 a = some (dxO X.prog X.w a es2) ∧ EKeys X.K H4 es2 ∧ KAt X.K H4 b k ∧ es2.length < sizeLine ∧ D.nx σ (upd H4 a (dxO X.prog X.w a (eput es2 k b z)))) := by
  refine ⟨fun pins s σ H D I h => ?_⟩
  refine wpAny_AugAssign_SubscriptAny (thn (ho.run pins s σ H _ I h) fun u s1 ⟨x, H1, I1, rx, q1⟩ => thn (hi.run pins s1 σ H1 _ I1 q1) fun iv s2 ⟨y, H2, I2, ry, a, es, b, k, v, ex, ey, g1, g2, g3, g4, q2⟩ => ?_) ha
  subst ex ey
  obtain rfl : u = Value.ref a := rx
  obtain rfl : iv = Value.ref b := ry
  obtain ⟨z, hd, xs, rel, dd⟩ := dx_at I2 (.inl g1) g2
  obtain ⟨w', hw, rw'⟩ := RelO.some_of (v := v) (o := (atKey xs k).map (·.2)) (by rw [← g4]; exact rel.look)
  obtain ⟨p, hp, hp2⟩ := Option.map_eq_some_iff.mp hw
  refine wpAny_getItem_heap (by show X.A.units + 1 + 8 < cLine; omega) (g3.is I2) dd hp ?_
  rw [hp2]
  refine thn (hv.run pins _ σ H2 _ (I2.tok _) q2) fun w2 s4 ⟨y2, H3, I4, ry2, q3⟩ => thn (hop pins s4 σ H3 v y2 w' w2 _ I4 rw' ry2 q3) fun w3 s5 ⟨zv, H4, I5, rz, es2, f1, f2, f3, f4, q4⟩ => ?_
  obtain ⟨z5, hd5, xs5, rel5, dd5⟩ := dx_at I5 (.inl f1) f2
  have hz : xs5.length ≤ sizeLine := by rw [← Paired.length rel5]; exact z5
  refine wpAny_setItem_heap (hsz := hz) (by show X.A.units + 1 + 8 < cLine; omega) (f3.is I5) dd5 fun h' dd' hs => ⟨σ, _, ?_, q4⟩
  obtain ⟨q, ar, ep, hq, h2, h3, h4, _, h5⟩ := dd'
  exact d_write I5 (by rw [f1]; exact True.intro) hs ⟨q, hq⟩ (dxO_ok ⟨by have := eput_len es2 k b zv; omega, hd5, _, rel5.put rz, q, ar, ep, hq, h2, h3, h4, h5⟩)
end
section
variable {κ : Type} [DecidableEq κ] {R : Rel κ} {D : DatR R}
def refA : V → Addr | .ref b => b | _ => 0
theorem key_ref {x : κ} {S H : Hp} {v : V} {K : PySem.W.Frag} (F : KyT D) (s : Same S H) (h : R.is x S v) : ∃ b, v = .ref b ∧ KAt K H b (nkD (D.d x)) := by
  obtain ⟨xs, e⟩ := F.tup x
  have := D.dp (K := K) s h
  have hv : ∃ b, v = .ref b := by
    rw [e] at this
    cases this <;> exact ⟨_, rfl⟩
  obtain ⟨b, rfl⟩ := hv
  exact ⟨b, rfl, _, this, rfl, F.key x, F.dep x⟩
abbrev krT (D : DatR R) (x : κ) (S : Hp) (t : NE) : Prop := t.1 = nkD (D.d x) ∧ R.is x S (.ref t.2.1)
theorem tup_keys {K : PySem.W.Frag} {S H : Hp} (F : KyT D) (s : Same S H) : ∀ {ks : List κ} {es : List NE}, All2 (fun x t => krT D x S t) ks es → EKeys K H es
  | [], [], _ => fun e h => nomatch h
  | x :: ks, t :: es, ⟨h, q⟩ => fun e he => by
    rcases List.mem_cons.mp he with rfl | he
    · exact ⟨D.d x, D.dp s h.2, h.1.symm, F.key x, F.dep x⟩
    · exact tup_keys F s q e he
  | [], _ :: _, h => h.elim
  | _ :: _, [], h => h.elim
theorem tup_look {S : Hp} (F : KyT D) (k : κ) : ∀ {ks : List κ} {es : List NE}, All2 (fun x t => krT D x S t) ks es → elook es (nkD (D.d k)) = klook (·.2.2) ks es k
  | [], [], _ => by rw [klook_nil]; rfl
  | x :: ks, t :: es, ⟨h, q⟩ => by
    have ih := tup_look F k q
    rw [klook_cons]
    unfold elook at *
    rw [List.find?_cons]
    by_cases e : x = k
    · rw [if_pos e, decide_eq_true (by rw [h.1, e])]; rfl
    · rw [if_neg e, decide_eq_false (by rw [h.1]; exact fun z => e (F.inj z))]; exact ih
  | [], _ :: _, h => h.elim
  | _ :: _, [], h => h.elim
theorem tup_any {S : Hp} (F : KyT D) (k : κ) : ∀ {ks : List κ} {es : List NE}, All2 (fun x t => krT D x S t) ks es → ehas es (nkD (D.d k)) = ks.any fun x => decide (x = k)
  | [], [], _ => rfl
  | x :: ks, t :: es, ⟨h, q⟩ => by
    have ih := tup_any F k q
    unfold ehas at *
    rw [List.any_cons, List.any_cons, ih, h.1]
    congr 1
    by_cases e : x = k
    · simp [e]
    · rw [decide_eq_false e, decide_eq_false fun z => e (F.inj z)]
  | [], _ :: _, h => h.elim
  | _ :: _, [], h => h.elim
theorem tup_map {S : Hp} (F : KyT D) (k : κ) (v : V) : ∀ {ks : List κ} {es : List NE}, All2 (fun x t => krT D x S t) ks es → (es.map fun e => if e.1 = nkD (D.d k) then (e.1, e.2.1, v) else e) = (ks.zip es).map fun p => if p.1 = k then (p.2.1, p.2.2.1, v) else p.2
  | [], [], _ => rfl
  | x :: ks, t :: es, ⟨h, q⟩ => by
    rw [List.map_cons, List.zip_cons_cons, List.map_cons, tup_map F k v q]
    congr 1
    by_cases e : x = k
    · rw [if_pos (by rw [h.1, e]), if_pos e]
    · rw [if_neg (by rw [h.1]; exact fun z => e (F.inj z)), if_neg e]
  | [], _ :: _, h => h.elim
  | _ :: _, [], h => h.elim
theorem tup_put {S : Hp} (F : KyT D) {k : κ} {b : Addr} {v : V} {ks : List κ} {es : List NE} (h : All2 (fun x t => krT D x S t) ks es) : eput es (nkD (D.d k)) b v = kput (fun t v => (t.1, t.2.1, v)) (nkD (D.d k), b, v) ks es k v := by
  unfold eput kput
  rw [tup_any F k h, tup_map F k v h]
def kyT (G : Gx) (F : KyT D) : Ky G κ where
  R := R
  T := NE
  val := (·.2.2)
  kr := krT D
  krm := fun s ⟨h1, h2⟩ => ⟨h1, R.mono s h2⟩
  ob := dxO G.P G.w
  mu := fun _ _ => trivial
  nt k y v := (nkD (D.d k), refA y, v)
  mkv := fun _ _ _ => rfl
  mkr := fun {k S y v} h => by
    obtain ⟨b, rfl, _⟩ := key_ref (K := G.K) F (Same.refl _) h
    exact ⟨rfl, h⟩
  rv t v := (t.1, t.2.1, v)
  rvv := fun _ _ => rfl
  rvr := fun h => h
  get := fun {X} C {o i pos td ty} md my ho hi hs => pe_wk (pe_tget C.hu ho hi hs) fun σ H Q _ q => md.h (fun x H1 q => my.h (fun y H2 ⟨a, es, ks, k, S, v, e1, e2, e3, e4, e5, e6, q'⟩ => by
    obtain ⟨b, rfl, hb⟩ := key_ref (K := X.K) F e3 e5
    exact ⟨a, es, b, _, v, e1, rfl, by rw [C.P, C.w]; exact e2, tup_keys F e3 e4, hb, by rw [tup_look F k e4]; exact e6, q'⟩) q) q
  has := fun {X} C neg {o i td ty} md my hi ho => pc_wk (pc_tin (neg := neg) C.hu hi ho) fun σ H Q _ q => my.h (fun y H1 q => md.h (fun x H2 ⟨a, es, ks, k, S, e1, e2, e3, e4, e5, q'⟩ => by
    obtain ⟨b, rfl, hb⟩ := key_ref (K := X.K) F e3 e5
    exact ⟨a, es, b, _, e1, rfl, by rw [C.P, C.w]; exact e2, tup_keys F e3 e4, hb, by rw [tup_look F k e4]; exact q'⟩) q) q
  get2 := fun {X} C {o e f' apos cpos td ty tx} md my mx ho he hf m => pe_wk (pe_tget2 C.hu ho he hf m) fun σ H Q _ q => md.h (fun x H1 ⟨a, es0, ks0, S0, e1, e2, e3, e4, q⟩ =>
    ⟨a, es0, e1, by rw [C.P, C.w]; exact e2, tup_keys F e3 e4, my.h (fun y H2 q => mx.h (fun z H3 ⟨es, ks, k, S, f1, f2, f3, f4, q'⟩ => by
      obtain ⟨b, rfl, hb⟩ := key_ref (K := X.K) F f2 f4
      exact ⟨es, b, _, rfl, by rw [C.P, C.w]; exact f1, tup_keys F f2 f3, hb, by rw [tup_look F k f3]; exact q'⟩) q) q⟩) q
  put := fun {X} C {o i value pos pos' td ty tv} md my mv ho hi hv hs => ps_wk (ps_tput C.hu ho hi hv hs) fun D' σ H _ q => mv.h (fun v H1 q => md.h (fun x H2 q => my.h (fun y H3 ⟨a, es, ks, k, S, e1, e2, e3, e4, e5, e6, q'⟩ => by
    obtain ⟨b, rfl, hb⟩ := key_ref (K := X.K) F e3 e5
    exact ⟨a, es, b, _, e1, rfl, by rw [C.P, C.w]; exact e2, tup_keys F e3 e4, hb, e6, by rw [C.P, C.w, tup_put F e4]; exact q'⟩) q) q) q
  aug := fun {X} C {o i value op rd pos pos' td ty tv} md my mv mr ho hi hv hop ha => ps_wk (ps_taug C.hu ho hi hv hop ha) fun D' σ H _ q => md.h (fun x H1 q => my.h (fun y H2 ⟨a, es, ks, k, S, v, e1, e2, e3, e4, e5, e6, q'⟩ => by
    obtain ⟨b, rfl, hb⟩ := key_ref (K := X.K) F e3 e5
    exact ⟨a, es, b, _, v, e1, rfl, by rw [C.P, C.w]; exact e2, tup_keys F e3 e4, hb, by rw [tup_look F k e4]; exact e6, mv.h (fun y2 H3 q => mr _ _ _ (fun z H4 ⟨es2, ks2, S2, f1, f2, f3, f4, f5, q''⟩ => by
      obtain ⟨b2, e, hb2⟩ := key_ref (K := X.K) F f2 f4
      cases e
      exact ⟨es2, by rw [C.P, C.w]; exact f1, tup_keys F f2 f3, hb2, f5, by rw [C.P, C.w, tup_put F f3]; exact q''⟩) q) q'⟩) q) q
  nw := fun {X} C {pos} => by rw [← C.P, ← C.w]; exact pe_tnew
  it := Itx G.P G.w
  pi := fun {X} C {tg e td} md he => pi_wk (pi_x he) fun σ H Q q => md.h (fun x H1 ⟨d, o, es, e1, e2, q⟩ => by rw [C.P, C.w]; exact ⟨d, o, es, e1, e2, q⟩) q
  src := {
    mono := fun s ⟨e, q⟩ => ⟨s _ _ e, q.imp fun x t ⟨h1, h2⟩ => ⟨h1, R.mono s h2⟩⟩
    go := fun {i S H} s _ ⟨e, q⟩ hi => ⟨s _ _ e, by rw [← q.length]; exact hi⟩
    yl := fun {i S H H' x y} s _ ⟨e, q⟩ hy ⟨e1, t, e2, e3⟩ => .inl ⟨e1, by
      obtain ⟨t', h1, h2⟩ := q.get hy
      rw [e2] at h1; cases h1
      rw [e3]; exact h2.2⟩
    st := fun s _ ⟨e, q⟩ => ⟨s _ _ e, by rw [q.length]; exact Nat.le_refl _⟩ }
end
end Zk

namespace Zk
open PySem L2

section
variable {τ α β γ δ κ ρ ι θ υ : Type} {G : Gx} {c : Sc} {E : Eff τ} {W : WX} {Γ Γ' : Env} {B : Bs} {σ : St} {S S1 S' H H' : Hp} {b b' : τ} {L : Ls κ ρ}
theorem mono_tzE {m : M τ α} {R : Rel α} : MonoE (tzE G E W Γ m R) := ⟨fun {σ H Q Q'} k ⟨B, S, b, hh, q⟩ => ⟨B, S, b, hh, by
  cases e : m b with
  | stuck => rw [e] at q; exact q.elim
  | exc x b1 => rw [e] at q; exact q
  | ok a b1 => rw [e] at q; exact fun v S' H' s h r => k _ _ (q v S' H' s h r)⟩⟩
theorem CtxOk.e {X : Cx} (C : CtxOk G c W X) : CtxE G X := ⟨C.prog, C.w, C.K, C.room.units, C.calm⟩
/-! ### what a dict tells -/
section
variable [DecidableEq ι]
def DRel (K : Ky G ι) (R2 : Rel α) (S : Hp) (xs : List (ι × α)) (es : List K.T) : Prop := All2 (fun x t => K.kr x.1 S t ∧ R2.is x.2 S (K.val t)) xs es
variable {K : Ky G ι} {R2 : Rel α}
theorem DRel.mono (s : Same S S') {xs : List (ι × α)} {es : List K.T} (h : DRel K R2 S xs es) : DRel K R2 S' xs es := h.imp fun x t ⟨h1, h2⟩ => ⟨K.krm s h1, R2.mono s h2⟩
theorem DRel.keys : ∀ {xs : List (ι × α)} {es : List K.T}, DRel K R2 S xs es → All2 (fun x t => K.kr x S t) (xs.map (·.1)) es
  | [], [], _ => trivial
  | _ :: _, _ :: _, ⟨h, q⟩ => ⟨h.1, DRel.keys q⟩
  | [], _ :: _, h => h.elim
  | _ :: _, [], h => h.elim
theorem dlook_cons {x : ι × α} {xs : List (ι × α)} {k : ι} : dlook (x :: xs) k = if x.1 = k then some x.2 else dlook xs k := by
  unfold dlook
  rw [List.find?_cons]
  by_cases h : x.1 = k
  · simp [h]
  · simp [h]
theorem DRel.look {k : ι} : ∀ {xs : List (ι × α)} {es : List K.T}, DRel K R2 S xs es → match dlook xs k with | some y => ∃ v, klook K.val (xs.map (·.1)) es k = some v ∧ R2.is y S v | none => klook K.val (xs.map (·.1)) es k = none
  | [], [], _ => klook_nil
  | x :: xs, t :: es, ⟨h, q⟩ => by
    have ih := DRel.look (k := k) q
    rw [dlook_cons, List.map_cons, klook_cons]
    by_cases e : x.1 = k
    · rw [if_pos e, if_pos e]; exact ⟨_, rfl, h.2⟩
    · rw [if_neg e, if_neg e]; exact ih
  | [], _ :: _, h => h.elim
  | _ :: _, [], h => h.elim
theorem DRel.isSome {k : ι} {xs : List (ι × α)} {es : List K.T} (h : DRel K R2 S xs es) : (klook K.val (xs.map (·.1)) es k).isSome = (dlook xs k).isSome := by
  have := h.look (k := k)
  cases e : dlook xs k with
  | none => rw [e] at this; rw [this]; rfl
  | some y => rw [e] at this; obtain ⟨v, h1, _⟩ := this; rw [h1]; rfl
theorem DRel.repl {k : ι} {y : α} {v : V} (r : R2.is y S v) : ∀ {xs : List (ι × α)} {es : List K.T}, DRel K R2 S xs es → DRel K R2 S (xs.map fun p => if p.1 = k then (p.1, y) else p) (((xs.map (·.1)).zip es).map fun p => if p.1 = k then K.rv p.2 v else p.2)
  | [], [], _ => trivial
  | x :: xs, t :: es, ⟨h, q⟩ => by
    rw [List.map_cons, List.map_cons, List.zip_cons_cons, List.map_cons]
    refine ⟨?_, DRel.repl r q⟩
    by_cases e : x.1 = k
    · rw [if_pos e, if_pos e]; exact ⟨K.rvr h.1, by rw [K.rvv]; exact r⟩
    · rw [if_neg e, if_neg e]; exact h
  | [], _ :: _, h => h.elim
  | _ :: _, [], h => h.elim
theorem DRel.put {k : ι} {y : α} {v kv : V} {xs : List (ι × α)} {es : List K.T} (h : DRel K R2 S xs es) (hk : K.R.is k S kv) (r : R2.is y S v) : DRel K R2 S (dput xs k y) (kput K.rv (K.nt k kv v) (xs.map (·.1)) es k v) := by
  unfold dput kput
  have e : ((xs.map (·.1)).any fun x => decide (x = k)) = xs.any fun p => decide (p.1 = k) := by rw [List.any_map]; rfl
  rw [e]
  split
  · exact h.repl r
  · exact All2.append h ⟨⟨K.mkr hk, by rw [K.mkv]; exact r⟩, trivial⟩
/-- a dict that stays as it is -/
def rDct (K : Ky G ι) (R2 : Rel α) : Rel (List (ι × α)) := ⟨fun xs S v => ∃ a o es, v = .ref a ∧ S a = some (.frz o (K.ob a es)) ∧ DRel K R2 S xs es, fun s ⟨a, o, es, e, h, q⟩ => ⟨a, o, es, e, s _ _ h, q.mono s⟩⟩
/-- a dict that is one's own, at l -/
def ownDa (K : Ky G ι) (R2 : Rel α) (l : Addr) (xs : List (ι × α)) : PrO := ⟨fun S H v F => ∃ es, (∀ a, F a ↔ a = l) ∧ H l = some (K.ob l es) ∧ DRel K R2 S xs es, fun s k ⟨es, f, h, q⟩ => ⟨es, f, k _ _ ((f l).mpr rfl) h, q.mono s⟩⟩
def ownD (K : Ky G ι) (R2 : Rel α) (xs : List (ι × α)) : PrO := ⟨fun S H v F => ∃ l es, v = .ref l ∧ (∀ a, F a ↔ a = l) ∧ H l = some (K.ob l es) ∧ DRel K R2 S xs es, fun s k ⟨l, es, e, f, h, q⟩ => ⟨l, es, e, f, k _ _ ((f l).mpr rfl) h, q.mono s⟩⟩
/-! ### reading -/
def dix (xs : List (ι × α)) (k : ι) : M τ α := match dlook xs k with | some y => ret y | none => stk
def din (neg : Bool) (k : ι) (xs : List (ι × α)) : M τ Bool := ret (neg ^^ (dlook xs k).isSome)
def dkeys (xs : List (ι × α)) : M τ (List ι) := ret (xs.map (·.1))
variable {eo ei ed : Expr} {pos : Pos}
theorem z_dget {md : M τ (List (ι × α))} {mk : M τ ι} (hd : ZE G c E W Γ eo md (rDct K R2)) (hk : ZE G c E W Γ ei mk K.R) (hs : NoSl ei := by intro _ _; rfl) : ZE G c E W Γ (.Subscript eo ei pos) (zop2 dix md mk) R2 := fun X C =>
  pe_wk (K.get C.e mono_tzE mono_tzE (hd X C) (hk X C) hs) fun σ H Q _ q => tz_op2 (Ra := rDct K R2) (Rb := K.R) (f := dix) (r := fun x y H2 Q => ∃ a es ks k S v, x = .ref a ∧ Rd H2 a (K.ob a es) ∧ Same S H2 ∧ All2 (fun x t => K.kr x S t) ks es ∧ K.R.is k S y ∧ klook K.val ks es k = some v ∧ Q v H2) (fun B σ S H b xs k v w Q hh ⟨a, o, es, e1, e2, e3⟩ hk q => by
    have hl := e3.look (k := k)
    unfold dix at q
    cases e : dlook xs k with
    | none => rw [e] at q; exact q.elim
    | some y =>
      rw [e] at q hl
      obtain ⟨u, h1, h2⟩ := hl
      exact ⟨a, es, _, k, S, u, e1, .inr ⟨o, hh.same _ _ e2⟩, hh.same, e3.keys, hk, h1, aft_ret hh q h2⟩) q
theorem zt_ofB {m : M τ Bool} {e : Expr} (h : ∀ {X : Cx}, CtxOk G c W X → ∃ t : TE, PT X e (fun σ H Q => t σ H fun x H' => ∃ k, x = .bl k ∧ Q k H') ∧ ∀ σ H Q, tzE G E W Γ m rBl σ H Q → t σ H Q) : ZT G c E W Γ e m := fun X C => by
  obtain ⟨t, h1, h2⟩ := h C
  exact pt_wk h1 fun σ H Q _ ⟨B, S, b, hh, q⟩ => h2 _ _ _ ⟨B, S, b, hh, aft_T q⟩
/-! ### new ones -/
theorem zf_dnew : ZF G c E W Γ (.Dict [] [] pos) (ret ([] : List (ι × α))) (ownD K R2) := fun X C => pe_wk (K.nw C.e) fun σ H Q _ ⟨B, S, b, hh, q⟩ p hp =>
  aftF_new hh q hp ⟨p, [], rfl, fun _ => Iff.rfl, upd_same, trivial⟩
/-! ### what is in ghost slots -/
theorem Hold.gh {g : Nat} {p : PrO} (h : Hold E B Γ b σ S H) (hg : Γ[g]? = some (.gh p)) : ∃ F, p.p S H .non F ∧ ∀ a, F a → S a = none ∧ ∃ o, H a = some o := by
  obtain ⟨Fs, hF, hs⟩ := h.sl
  exact ⟨Fs g, hs g _ hg, fun a ha => ⟨(hF.at_ g a ha).1, (hF.at_ g a ha).2.2.2⟩⟩
/-- what is in a ghost slot is changed at l -/
theorem Hold.chgG {g : Nat} {l : Addr} {o : HO} {p p' : PrO} (h : Hold E B Γ b σ S H) (hg : Γ[g]? = some (.gh p)) (hf : ∀ {F : Addr → Prop}, p.p S H .non F → F l) (hp : ∀ {F : Addr → Prop}, p.p S H .non F → p'.p S (upd H l o) .non F) : Hold E B (Γ.set g (.gh p')) b σ S (upd H l o) := by
  obtain ⟨Fs, hF, hs⟩ := h.sl
  have hl := hf (hs g _ hg)
  obtain ⟨l1, l2, l3, u, l4⟩ := hF.at_ g l hl
  have ne : ∀ j a, j ≠ g → Fs j a → a ≠ l := fun j a n e z => n (hF.ds j g a e (z ▸ hl))
  refine ⟨⟨fun a u e => ?_, h.kp.up, fun a u h1 h2 h3 => ?_⟩, E.mono (Same.refl _) (fun _ _ z => z) (fun a u ha e => by rw [upd_ne (fun z => l3 (by rw [← z]; exact ha))]; exact e) h.ef, Fs, ⟨fun i a e => ?_, hF.ds⟩, fun j s e => ?_⟩
  · rw [upd_ne (fun z => by rw [z, l1] at e; cases e)]; exact h.same _ _ e
  · have n : a ≠ l := fun z => by rw [z, l2] at h2; cases h2
    rw [upd_ne n]; exact h.kp.kp a u h1 h2 h3
  · obtain ⟨r1, r2, r3, u, r4⟩ := hF.at_ i a e
    by_cases z : a = l
    · subst z; exact ⟨r1, r2, r3, o, upd_same⟩
    · exact ⟨r1, r2, r3, u, by rw [upd_ne z]; exact r4⟩
  · rcases set_get e with ⟨rfl, rfl⟩ | ⟨n, e⟩
    · exact hp (hs j _ hg)
    · have q := hs j s e
      cases s with
      | no => trivial
      | st p => exact q
      | ow p => obtain ⟨x, e1, e2⟩ := q; exact ⟨x, e1, p.mono (Same.refl _) (fun a u ha e => by rw [upd_ne (ne j a n ha)]; exact e) e2⟩
      | gh p => exact p.mono (Same.refl _) (fun a u ha e => by rw [upd_ne (ne j a n ha)]; exact e) q
theorem ghD {xs : List (ι × α)} : ∀ {S H : Hp} {v : V} {F : Addr → Prop}, (ownD K R2 xs).p S H v F → ∃ l, v = .ref l ∧ (ownDa K R2 l xs).p S H .non F := fun ⟨l, es, e, f, h, q⟩ => ⟨l, e, es, f, h, q⟩
variable {g : Nat} {l : Addr} {xs : List (ι × α)}
theorem zc_ginD {neg : Bool} {mo : M τ Unit} {mk : M τ ι} (hg : Γ[g]? = some (.gh (ownDa K R2 l xs))) (hk : ZE G c E W Γ ei mk K.R) (hd : ZE G c E W Γ eo mo (rRef l)) {X : Cx} (C : CtxOk G c W X) : PC X (if neg = true then .NotIn else .In) ei eo (tzE G E W Γ (zop2 (fun k _ => din neg k xs) mk mo) rBl) :=
  pc_wk (K.has C.e neg mono_tzE mono_tzE (hk X C) (hd X C)) fun σ H Q _ q => tz_op2 (r := fun y x H2 Q => ∃ a es ks k S, x = .ref a ∧ Rd H2 a (K.ob a es) ∧ Same S H2 ∧ All2 (fun x t => K.kr x S t) ks es ∧ K.R.is k S y ∧ Q (.bl (neg ^^ (klook K.val ks es k).isSome)) H2) (Ra := K.R) (Rb := rRef l) (f := fun k _ => din neg k xs) (fun B σ S H b k _ w v Q hh hk e1 q => by
    obtain ⟨F, ⟨es, f, e2, e3⟩, _⟩ := hh.gh hg
    exact ⟨l, es, _, k, S, e1, .inl e2, hh.same, e3.keys, hk, by rw [e3.isSome]; exact aft_ret hh q rfl⟩) q
theorem zt_ginD {mo : M τ Unit} {mk : M τ ι} (hg : Γ[g]? = some (.gh (ownDa K R2 l xs))) (hk : ZE G c E W Γ ei mk K.R) (hd : ZE G c E W Γ eo mo (rRef l)) (hm : behindInMarks .In eo = false := by rfl) : ZT G c E W Γ (.Compare ei [.In] [eo] pos) (zop2 (fun k _ => din false k xs) mk mo) := zt_ofB fun C => ⟨_, pt_cmp (zc_ginD (neg := false) hg hk hd C) hm, fun _ _ _ q => q⟩
def gputD (xs : List (ι × α)) (mv : M τ α) (mo : M τ Unit) (mk : M τ ι) : M τ (Fl (List (ι × α)) κ ρ) := bnd mv fun v => bnd mo fun _ => bnd mk fun k => chk (xs.length < sizeLine) (ret (.nx (dput xs k v)))
theorem ownDa_len {F : Addr → Prop} {v : V} (h : (ownDa K R2 l xs).p S H v F) : ∃ es, H l = some (K.ob l es) ∧ DRel K R2 S xs es ∧ F l := let ⟨es, f, h1, h2⟩ := h; ⟨es, h1, h2, (f l).mpr rfl⟩
theorem zs_gputD {e : Expr} {pos' : Pos} {mv : M τ α} {mo : M τ Unit} {mk : M τ ι} (hg : Γ[g]? = some (.gh (ownDa K R2 l xs))) (hv : ZE G c E W Γ e mv R2) (hd : ZE G c E W Γ eo mo (rRef l)) (hk : ZE G c E W Γ ei mk K.R) (sx : Sub E Γ L.x)
    (hs : ∀ (ln : Nat) (env : PySem.Env), swapsWith e (some (.Subscript eo ei pos')) ln env = pure false := by intro _ _; rfl) : ZS G c E W L Γ (.Assign [.Subscript eo ei pos'] e pos) (gputD xs mv mo mk) (fun ys => Γ.set g (.gh (ownDa K R2 l ys))) := fun X C =>
  ps_wk (K.put C.e mono_tzE mono_tzE mono_tzE (hd X C) (hk X C) (hv X C) (hs _ _)) fun D σ H hl ⟨B, S, b, hh, q⟩ => by
    refine tzS_bnd (R := R2) sx hh q fun y b1 v S1 H1 s1 h1 r1 q1 => ?_
    refine tzS_bnd (R := rRef l) sx h1 q1 fun _ b2 x S2 H2 s2 h2 e2 q2 => ?_
    refine tzS_bnd (R := K.R) sx h2 q2 fun k b3 kv S3 H3 s3 h3 r3 q3 => ?_
    obtain ⟨F, hp, _⟩ := h3.gh hg
    obtain ⟨es, f1, f2, _⟩ := ownDa_len hp
    unfold chk at q3
    by_cases hz : xs.length < sizeLine
    · rw [if_pos hz] at q3
      refine ⟨l, es, _, k, S3, e2, f1, h3.same, f2.keys, r3, by rw [← f2.length]; exact hz, q3 σ S3 _ (Same.refl _) (h3.chgG hg (fun hp => (ownDa_len hp).elim fun _ z => z.2.2) fun {F} ⟨es', f, g1, g2⟩ => ?_)⟩
      exact ⟨_, f, upd_same, f2.put r3 (R2.mono (s2.trans s3) r1)⟩
    · rw [if_neg hz] at q3; exact q3.elim
end
end
end Zk

namespace Zk
open PySem L2

section
variable {τ α β γ δ κ ρ ι θ υ : Type} {G : Gx} {c : Sc} {E : Eff τ} {W : WX} {Γ Γ' : Env} {B : Bs} {σ : St} {S S1 S' H H' : Hp} {b b' : τ} {L : Ls κ ρ}
/-! ### room for ghosts -/
theorem sub_more (k : Nat) : Sub E Γ (Γ ++ List.replicate k .no) := fun {B b σ S H} h => ⟨S, Same.refl _, h.wk fun i s e => by
  by_cases hi : i < Γ.length
  · rw [List.getElem?_append_left hi] at e; exact .inr e
  · rw [List.getElem?_append_right (by omega), List.getElem?_replicate] at e
    split at e
    · cases e; exact .inl rfl
    · cases e⟩
theorem sub_take (k : Nat) : Sub E Γ (Γ.take k) := fun {B b σ S H} h => ⟨S, Same.refl _, h.wk fun i s e => by
  rw [List.getElem?_take] at e
  split at e
  · exact .inr e
  · cases e⟩
/-! ### a dict becomes stable -/
theorem pss_frz {X : Cx} {sts : List Stmt} {t : TS} (h : PSs X sts t) : PSs X sts (fun D σ H => ∃ d u, H d = some u ∧ Mut (some u) ∧ ∀ od, t D σ (upd H d (.frz od u))) :=
  ⟨fun pins s σ H D I ⟨d, u, hd, mu, q⟩ => by obtain ⟨od, I1⟩ := I.lock hd mu; exact h.run pins s σ _ D I1 (q od)⟩
theorem pe_frz {X : Cx} {e : Expr} {t : TE} (h : PE X e t) : PE X e (fun σ H Q => t σ H fun v H1 => ∃ d u, H1 d = some u ∧ Mut (some u) ∧ ∀ od, Q v (upd H1 d (.frz od u))) :=
  ⟨fun pins s σ H Q I h1 => thn (h.run pins s σ H _ I h1) fun u s1 ⟨x, H1, I1, r, d, o, hd, mu, q⟩ => by
    obtain ⟨od, I2⟩ := I1.lock hd mu
    exact ⟨x, _, I2, r, q od⟩⟩
section
variable [DecidableEq ι] {K : Ky G ι} {R2 : Rel α} {l : Addr} {xs : List (ι × α)}
theorem Hold.frzG {g : Nat} (h : Hold E B Γ b σ S H) (hg : Γ[g]? = some (.gh (ownDa K R2 l xs))) : ∃ u, H l = some u ∧ Mut (some u) ∧ ∀ od, ∃ S', Same S S' ∧ Hold E B (Γ.set g .no) b σ S' (upd H l (.frz od u)) ∧ (rDct K R2).is xs S' (.ref l) := by
  obtain ⟨Fs, hF, hs⟩ := h.sl
  obtain ⟨es, f, e2, e3⟩ := hs g _ hg
  have hl := (f l).mpr rfl
  obtain ⟨l1, l2, l3, _⟩ := hF.at_ g l hl
  have ne : ∀ j a, j ≠ g → Fs j a → a ≠ l := fun j a n e z => n (hF.ds j g a e (z ▸ hl))
  refine ⟨_, e2, K.mu _ _, fun od => ⟨upd S l (.frz od (K.ob l es)), same_new l1, ⟨⟨fun a o e => ?_, h.kp.up.trans (same_new l1), fun a o h1 h2 h3 => ?_⟩, E.mono (same_new l1) (fun a ha hn => ?_) (fun a o ha e => ?_) h.ef, fun j a => j ≠ g ∧ Fs j a, ⟨fun j a ⟨n, e⟩ => ?_, fun j k a e1 e2 => hF.ds _ _ a e1.2 e2.2⟩, fun j s e => ?_⟩, l, od, es, rfl, upd_same, e3.mono (same_new l1)⟩⟩
  · by_cases ha : a = l
    · subst ha; rw [upd_same] at e ⊢; exact e
    · rw [upd_ne ha] at e ⊢; exact h.same _ _ e
  · have ha : a ≠ l := fun z => by rw [z, l2] at h2; cases h2
    rw [upd_ne ha, upd_ne ha]; exact h.kp.kp a o h1 h2 h3
  · rw [upd_ne (fun z => l3 (by rw [← z]; exact ha))]; exact hn
  · rw [upd_ne (fun z => l3 (by rw [← z]; exact ha))]; exact e
  · obtain ⟨r1, r2, r3, u, r4⟩ := hF.at_ j a e
    have ha := ne j a n e
    exact ⟨by rw [upd_ne ha]; exact r1, r2, r3, u, by rw [upd_ne ha]; exact r4⟩
  · rcases set_get e with ⟨rfl, rfl⟩ | ⟨n, e⟩
    · trivial
    · have q := hs j s e
      have ef : (fun a => j ≠ g ∧ Fs j a) = Fs j := funext fun a => propext ⟨fun z => z.2, fun z => ⟨n, z⟩⟩
      cases s with
      | no => trivial
      | st p => obtain ⟨x, e1, e2⟩ := q; exact ⟨x, e1, p.mono (same_new l1) e2⟩
      | ow p => obtain ⟨x, e1, e2⟩ := q; exact ⟨x, e1, by show p.p _ _ x (fun a => j ≠ g ∧ Fs j a); rw [ef]; exact p.mono (same_new l1) (fun a o ha e => by rw [upd_ne (ne j a n ha)]; exact e) e2⟩
      | gh p => show p.p _ _ .non (fun a => j ≠ g ∧ Fs j a); rw [ef]; exact p.mono (same_new l1) (fun a o ha e => by rw [upd_ne (ne j a n ha)]; exact e) q
theorem Hold.stw {i : Nat} {p p' : Pr} (h : Hold E B Γ b σ S H) (hi : Γ[i]? = some (.st p)) (w : ∀ v, p.p S v → p'.p S v) : Hold E B (Γ.set i (.st p')) b σ S H := by
  obtain ⟨Fs, hF, hs⟩ := h.sl
  refine ⟨h.kp, h.ef, Fs, hF, fun j s e => ?_⟩
  rcases set_get e with ⟨rfl, rfl⟩ | ⟨n, e⟩
  · obtain ⟨x, e1, e2⟩ := hs j _ hi; exact ⟨x, e1, w x e2⟩
  · exact hs j s e
/-- a dict in a ghost slot becomes stable; what the slot i tells of it then -/
theorem zb_frzG {g i : Nat} {p p' : Pr} {sts : List Stmt} {m : M τ (Fl β κ ρ)} {Γn : β → Env} (hg : Γ[g]? = some (.gh (ownDa K R2 l xs))) (hi : (Γ.set g .no)[i]? = some (.st p)) (w : ∀ S v, (rDct K R2).is xs S (.ref l) → p.p S v → p'.p S v) (h : ZB G c E W L ((Γ.set g .no).set i (.st p')) sts m Γn) : ZB G c E W L Γ sts m Γn := fun X C =>
  pss_wk (pss_frz (h X C)) fun D σ H _ ⟨B, S, b, hh, q⟩ => by
    obtain ⟨u, h1, h2, h3⟩ := hh.frzG hg
    refine ⟨l, u, h1, h2, fun od => ?_⟩
    obtain ⟨S', s', h4, h5⟩ := h3 od
    refine ⟨B, S', b, h4.stw hi (fun v hv => w S' v h5 hv), ?_⟩
    cases e : m b with
    | stuck => rw [e] at q; exact q
    | exc x b1 => rw [e] at q; exact q
    | ok a b1 =>
      rw [e] at q
      cases a with
      | nx a => exact fun σ' S2 H2 s2 => q σ' S2 H2 (s'.trans s2)
      | rt r => exact q
      | bk a => exact fun σ' S2 H2 s2 => q σ' S2 H2 (s'.trans s2)
      | ct a => exact fun σ' S2 H2 s2 => q σ' S2 H2 (s'.trans s2)
/-- a new dict, stable at once -/
theorem z_dict {e : Expr} {m : M τ (List (ι × α))} (h : ZF G c E W Γ e m (ownD K R2)) : ZE G c E W Γ e m (rDct K R2) := fun X C => pe_wk (pe_frz (h X C)) fun σ H Q _ ⟨B, S, b, hh, q⟩ => by
  refine ⟨B, S, b, hh, ?_⟩
  cases e : m b with
  | stuck => rw [e] at q; exact q
  | exc x b1 => rw [e] at q; exact q
  | ok xs b1 =>
    rw [e] at q
    intro v S' H1 H' F s' h1 hF hk ⟨l, es, e1, f, e2, e3⟩
    subst e1
    refine ⟨l, _, e2, K.mu _ _, fun od => ?_⟩
    have hl := hF l ((f l).mpr rfl)
    have he : upd H' l (.frz od (K.ob l es)) = upd H1 l (.frz od (K.ob l es)) := by
      funext a
      by_cases ha : a = l
      · subst ha; rw [upd_same, upd_same]
      · rw [upd_ne ha, upd_ne ha, hk a fun z => ha ((f a).mp z)]
    rw [he]
    have hS : S' l = none := h1.same.free hl.1
    exact q _ (upd S' l (.frz od (K.ob l es))) _ (s'.trans (same_new hS)) (h1.new hl.1) ⟨l, od, es, rfl, upd_same, e3.mono (same_new hS)⟩
/-! ### d[k] += e -/
variable {g : Nat} {eo ei : Expr} {pos : Pos}
structure AugOp (op : Operator) (f : Int → Int → Int) (rd : V → V → Hp → VK → Prop) : Prop where
  ip : ∀ X : Cx, InOp X op rd
  mono : ∀ x y H, ∀ {Q Q' : VK}, (∀ v H, Q v H → Q' v H) → rd x y H Q → rd x y H Q'
  go : ∀ x y H (Q : VK), Q (.int (f x y)) H → rd (.int x) (.int y) H Q
end
end
end Zk

namespace Zk
open PySem L2

theorem nodup_map {T U : Type} {g : T → U} (h : ∀ a b, g a = g b → a = b) : ∀ {l : List T}, l.Nodup → (l.map g).Nodup
  | [], _ => List.nodup_nil
  | a :: l, n => by
    rw [List.nodup_cons] at n
    rw [List.map_cons, List.nodup_cons]
    exact ⟨fun z => by obtain ⟨b, hb, e⟩ := List.mem_map.mp z; exact n.1 (h _ _ e ▸ hb), nodup_map h n.2⟩
section
variable {τ α β γ δ κ ρ ι θ υ : Type} {G : Gx} {c : Sc} {E : Eff τ} {W : WX} {Γ Γ' : Env} {B : Bs} {σ : St} {S S1 S' H H' : Hp} {b b' : τ} {L : Ls κ ρ}
section
variable [DecidableEq ι] {R : Rel ι} {f : ι → Key} {R2 : Rel α} {e : Expr} {x : Str} {p pos : Pos}
theorem dct_flat {F : KyF R f} {xs : List (ι × α)} {v : V} (h : (rDct (kyF G F) R2).is xs S v) : ∃ (a : Addr) (o : Obj) (es : List (Key × V)), v = .ref a ∧ S a = some (.frz o (.dK es)) ∧ DRel (kyF G F) R2 S xs es := h
def dmerge (acc xs : List (ι × α)) : List (ι × α) := xs.foldl (fun d p => dput d p.1 p.2) acc
/-- dict(xs) of pairs -/
def fdict (xs : List (ι × α)) : M τ (List (ι × α)) := ret (dmerge [] xs)
/-! ### dicts compared, whose keys stand alike -/
variable {ea eb : Expr}
end
/-! ### records: dicts with names as keys -/
def zkGo (E : Eff τ) (B : Bs) (Γ : Env) (σ : St) (S : Hp) (D : Addr) (o : HO) (A : α → List Pr) (Q : List V → Hp → Prop) : Out τ α → Prop
  | .ok x b' => ∀ S' H' us, Same S S' → Hold E (Bd B D o) Γ b' σ S' H' → All2 (fun (p : Pr) v => p.p S' v) (A x) us → Q us H'
  | _ => False
theorem zkGo.same {D : Addr} {o : HO} {A : α → List Pr} {Q : List V → Hp → Prop} (s : Same S S1) : ∀ {t : Out τ α}, zkGo E B Γ σ S D o A Q t → zkGo E B Γ σ S1 D o A Q t
  | .ok _ _, h => fun S' H' us s2 => h S' H' us (s.trans s2)
  | .exc _ _, h => h
  | .stuck, h => h
end
end Zk

namespace Zk
open PySem L2

section
variable {τ α β γ δ κ ρ ι θ υ : Type} {G : Gx} {c : Sc} {E : Eff τ} {W : WX} {Γ Γ' : Env} {B : Bs} {σ : St} {S S1 S' H H' : Hp} {b b' : τ} {L : Ls κ ρ}
/-! ### dict comprehensions -/
section
variable [DecidableEq ι] {Rk : Rel ι} {fk : ι → Key} {F : KyF Rk fk}
def zdcomp (t : β → M τ Bool) (k : β → M τ ι) (f : β → M τ γ) : List (ι × γ) → List β → M τ (List (ι × γ))
  | acc, [] => ret acc
  | acc, x :: xs => bnd (nox (t x)) fun c => if c = true then bnd (nox (k x)) fun y => bnd (nox (f x)) fun z => chk (acc.length < sizeLine) (zdcomp t k f (dput acc y z) xs) else zdcomp t k f acc xs
def zdc (t : β → M τ Bool) (k : β → M τ ι) (f : β → M τ γ) (m : M τ (List β)) : M τ (List (ι × γ)) := bnd m fun xs => zdcomp t k f [] xs
theorem dc_src {P : Hp → Hp → Prop} {J : It} {xs : List β} {R : Rel β} {I : Hp → Prop} (src : Src P J xs R I) {g : TG} {tt : TT} {tk tv : TE} {vs : List Nat} {σ : St} {H1 : Hp} {D : Addr} {Qd : Hp → Prop} (Pv : Nat → Hp → Prop) (h0 : Pv 0 (upd H1 D (.dK []))) (hl : ∀ i H, i ≤ xs.length → Pv i H → ∃ S, Same S H ∧ P S H ∧ I S)
    (hs : ∀ i y H, xs[i]? = some y → Pv i H → ∀ x H', J.yld i H x H' → g x (wipe σ vs) H' fun σ2 H2 => wipe σ2 vs = wipe σ vs ∧ tt σ2 H2 fun b H3 =>
      if b = true then tk σ2 H3 fun y H4 => tv σ2 H4 fun z H5 => ∃ kvs k, y = kV k ∧ H5 D = some (.dK kvs) ∧ kvs.length < sizeLine ∧ Pv (i + 1) (upd H5 D (.dK (putK kvs k z))) else Pv (i + 1) H3) (hd : ∀ H, Pv xs.length H → Qd H) :
    ∃ W : Nat → Nat → Hp → Prop, (∃ m, W 0 m (upd H1 D (.dK []))) ∧ ∀ i m H, W i m H →
      (J.stop i H ∧ Qd H) ∨ (J.go i H ∧ ∃ Nx : Hp → Prop, (∀ H', Nx H' → ∃ m', m' < m ∧ W (i + 1) m' H') ∧ ∀ x H', J.yld i H x H' → g x (wipe σ vs) H' fun σ2 H2 => wipe σ2 vs = wipe σ vs ∧ tt σ2 H2 fun b H3 =>
        if b = true then tk σ2 H3 fun y H4 => tv σ2 H4 fun z H5 => ∃ kvs k, y = kV k ∧ H5 D = some (.dK kvs) ∧ kvs.length < sizeLine ∧ Nx (upd H5 D (.dK (putK kvs k z))) else Nx H3) := by
  refine ⟨fun i m H => m = xs.length - i ∧ i ≤ xs.length ∧ Pv i H, ⟨xs.length, by simp, Nat.zero_le _, h0⟩, ?_⟩
  rintro i m H ⟨rfl, hi, p⟩
  obtain ⟨S, s, hP, hI⟩ := hl i H hi p
  by_cases hlt : i < xs.length
  · exact .inr ⟨src.go s hP hI hlt, Pv (i + 1), fun H' p' => ⟨xs.length - (i + 1), by omega, rfl, hlt, p'⟩, fun x H' y => hs i xs[i] H (by simp [hlt]) p x H' y⟩
  · have e : i = xs.length := by omega
    subst e
    exact .inl ⟨src.st s hP hI, hd H p⟩
def dcEnd (F : KyF Rk fk) (G : Gx) (E : Eff τ) (B : Bs) (Γ : Env) (σ : St) (S : Hp) (R' : Rel γ) (Q : VK) : Out τ (List (ι × γ)) → Prop
  | .ok ys b' => ∀ D S' H' us, Same S S' → Hold E (Bd B D (.dK us)) Γ b' σ S' H' → B.S D = none → B.H D = none → ¬ E.own D → DRel (kyF G F) R' S' ys us → Q (.ref D) H'
  | _ => False
theorem dcEnd.same {R' : Rel γ} {Q : VK} (s : Same S S1) : ∀ {o : Out τ (List (ι × γ))}, dcEnd F G E B Γ σ S R' Q o → dcEnd F G E B Γ σ S1 R' Q o
  | .ok _ _, h => fun D S' H' us s2 => h D S' H' us (s.trans s2)
  | .exc _ _, h => h
  | .stuck, h => h
theorem dcEnd_bnd {m : M τ α} {f : α → M τ (List (ι × γ))} {R' : Rel γ} {Q : VK} (h : dcEnd F G E B Γ σ S R' Q (bnd (nox m) f b)) : ∃ a b1, m b = .ok a b1 ∧ dcEnd F G E B Γ σ S R' Q (f a b1) := by
  unfold bnd nox at h
  cases e : m b with
  | ok a b1 => rw [e] at h; exact ⟨a, b1, rfl, h⟩
  | exc x b1 => rw [e] at h; exact h.elim
  | stuck => rw [e] at h; exact h.elim
theorem dput_rel {S : Hp} {R' : Rel γ} {acc : List (ι × γ)} {us : List (Key × V)} {y : ι} {z : γ} {v : V} (h : DRel (kyF G F) R' S acc us) (r : R'.is z S v) : DRel (kyF G F) R' S (dput acc y z) (putK us (fk y) v) := by
  have k := h.put (k := y) (y := z) (kv := kV (fk y)) (v := v) (F.at_.mpr rfl) r
  rw [flat_put F h.keys]
  exact k
theorem drel_len {S : Hp} {R' : Rel γ} {acc : List (ι × γ)} {us : List (Key × V)} (h : DRel (kyF G F) R' S acc us) : acc.length = us.length := All2.length h
theorem zdc_core {m : M τ (List β)} {t : β → M τ Bool} {kf : β → M τ ι} {f : β → M τ γ} {R : Rel β} {R' : Rel γ} {Γ1 : β → Env} {vs : List Nat} {σ : St} {H : Hp} {Q : VK} (hh : Hold E B Γ b σ S H) (hk : ∀ x (i : Nat), i ∉ vs → (Γ1 x)[i]? = (wipeE Γ vs)[i]?)
    (q : match m b with
      | .ok xs b1 => ∀ S1, Same S S1 → dcEnd F G E B (wipeE Γ vs) (L2.wipe σ vs) S1 R' Q (zdcomp t kf f [] xs b1)
      | .exc x b' => ∀ c d S' H', Same S S' → Hold E B Γ b' σ S' H' → XAt G x H' c d → W c d σ H'
      | .stuck => False) :
    tDc (tzI G E W Γ m R) (tzG E (wipeE Γ vs) vs Γ1 R) (fun σ H Q => ∃ x, tzT G E Wf (Γ1 x) (t x) σ H Q) (fun σ H Q => ∃ x, tzE G E Wf (Γ1 x) (kf x) Rk σ H Q) (fun σ H Q => ∃ x, tzE G E Wf (Γ1 x) (f x) R' σ H Q) vs σ H Q := by
  refine ⟨B, S, b, hh, ?_⟩
  cases e : m b with
  | stuck => rw [e] at q; exact q.elim
  | exc x b1 => rw [e] at q; exact q
  | ok xs b1 =>
    rw [e] at q
    intro J I S1 H1 s1 h1 src hI D hD
    have hE := h1.fr hD
    have hS1 : S1 D = none := h1.same.free hD
    have hBS : B.S D = none := h1.kp.up.free hS1
    have hBH : B.H D = none := by
      cases z : B.H D with
      | none => rfl
      | some o => have := (h1.kp.kp D o hBS z hE).2; rw [hD] at this; cases this
    have hw := (h1.cell0 (o := .dK []) hD).wipe vs
    refine dc_src (g := tzG E (wipeE Γ vs) vs Γ1 R) (tt := fun σ H Q => ∃ x, tzT G E Wf (Γ1 x) (t x) σ H Q) (tk := fun σ H Q => ∃ x, tzE G E Wf (Γ1 x) (kf x) Rk σ H Q) (tv := fun σ H Q => ∃ x, tzE G E Wf (Γ1 x) (f x) R' σ H Q) (vs := vs) (σ := σ) (Qd := fun H => Q (.ref D) H) src
      (fun i H => ∃ S b us acc, Same S1 S ∧ Hold E (Bd B D (.dK us)) (wipeE Γ vs) b (L2.wipe σ vs) S H ∧ DRel (kyF G F) R' S acc us ∧ dcEnd F G E B (wipeE Γ vs) (L2.wipe σ vs) S R' Q (zdcomp t kf f acc (xs.drop i) b))
      ⟨S1, b1, [], [], Same.refl _, hw, trivial, by rw [List.drop_zero]; exact q S1 s1⟩ (fun i H _ ⟨S, _, _, _, s, h, _⟩ => ⟨S, h.same, ⟨_, h.ef⟩, src.mono s hI⟩) ?_ ?_
    · rintro i y H hy ⟨S2, b2, us, acc, s2, h2, r2, q2⟩ x H' yl
      have hd : xs.drop i = y :: xs.drop (i + 1) := by
        obtain ⟨h1, h2⟩ := List.getElem?_eq_some_iff.mp hy
        rw [List.drop_eq_getElem_cons h1, h2]
      rw [hd] at q2
      obtain ⟨k, b3, ek, q3⟩ := dcEnd_bnd q2
      have go : ∀ S' H', Same S2 S' → Hold E (Bd B D (.dK us)) (wipeE Γ vs) b2 (L2.wipe σ vs) S' H' → R.is y S' x → tzG E (wipeE Γ vs) vs Γ1 R x (L2.wipe σ vs) H' fun σ2 H2 => L2.wipe σ2 vs = L2.wipe σ vs ∧ (∃ x, tzT G E Wf (Γ1 x) (t x) σ2 H2 fun b H3 =>
          if b = true then ∃ x, tzE G E Wf (Γ1 x) (kf x) Rk σ2 H3 fun yk H4 => ∃ x, tzE G E Wf (Γ1 x) (f x) R' σ2 H4 fun z H5 => ∃ kvs k, yk = kV k ∧ H5 D = some (.dK kvs) ∧ kvs.length < sizeLine ∧ (∃ S b us, ∃ acc : List (ι × γ), Same S1 S ∧ Hold E (Bd B D (.dK us)) (wipeE Γ vs) b (L2.wipe σ vs) S (upd H5 D (.dK (putK kvs k z))) ∧ DRel (kyF G F) R' S acc us ∧ dcEnd F G E B (wipeE Γ vs) (L2.wipe σ vs) S R' Q (zdcomp t kf f acc (xs.drop (i + 1)) b))
          else (∃ S b us acc, Same S1 S ∧ Hold E (Bd B D (.dK us)) (wipeE Γ vs) b (L2.wipe σ vs) S H3 ∧ DRel (kyF G F) R' S acc us ∧ dcEnd F G E B (wipeE Γ vs) (L2.wipe σ vs) S R' Q (zdcomp t kf f acc (xs.drop (i + 1)) b))) := by
        intro S' H' s' h' r'
        refine ⟨_, S', b2, y, h', r', fun σ' hwσ h'' => ?_⟩
        have hw' : L2.wipe σ' vs = L2.wipe σ vs := hwσ.trans (wipe_wipe fun _ h => h)
        refine ⟨hw', y, _, S', b2, h'', ?_⟩
        rw [ek]
        intro S3 H3 s3 h3
        have q3 := q3.same (s'.trans s3)
        cases k with
        | false =>
          rw [if_neg (by decide)] at q3 ⊢
          exact ⟨S3, b3, us, acc, (s2.trans s').trans s3, h3.unwipe (hk y) hw', r2.mono (s'.trans s3), q3⟩
        | true =>
          rw [if_pos rfl] at q3 ⊢
          obtain ⟨yk, b4, eyk, q4⟩ := dcEnd_bnd q3
          refine ⟨y, _, S3, b3, h3, ?_⟩
          rw [eyk]
          intro v S4 H4 s4 h4 rz
          have q4 := q4.same s4
          obtain ⟨z, b5, ez, q5⟩ := dcEnd_bnd q4
          refine ⟨y, _, S4, b4, h4, ?_⟩
          rw [ez]
          intro w S5 H5 s5 h5 rw'
          obtain ⟨_, hD5⟩ := h5.cellAt hBS hE
          unfold chk at q5
          have r3 := r2.mono (((s'.trans s3).trans s4).trans s5)
          by_cases hz : acc.length < sizeLine
          · rw [if_pos hz] at q5
            exact ⟨us, fk yk, F.at_.mp rz, hD5, by rw [← drel_len r3]; exact hz, S5, b5, putK us (fk yk) w, dput acc yk z, (((s2.trans s').trans s3).trans s4).trans s5, (h5.unwipe (hk y) hw').cellSet hBS hE, dput_rel r3 rw', q5.same s5⟩
          · rw [if_neg hz] at q5; exact q5.elim
      rcases src.yl h2.same ⟨_, h2.ef⟩ (src.mono s2 hI) hy yl with ⟨e1, r⟩ | ⟨p, o, hp, e1, r⟩
      · subst e1; exact go S2 _ (Same.refl _) h2 r
      · subst e1; exact go (upd S2 p o) _ (same_new (h2.same.free hp)) (h2.new hp) r
    · rintro H ⟨S2, b2, us, acc, s2, h2, r2, q2⟩
      rw [List.drop_length] at q2
      exact q2 D S2 H us (Same.refl _) h2 hBS hBH hE r2
theorem zdcomp_noexc {t : β → M τ Bool} {kf : β → M τ ι} {f : β → M τ γ} : ∀ {xs : List β} {acc : List (ι × γ)} {b : τ} {x : Exc} {b' : τ}, zdcomp t kf f acc xs b ≠ .exc x b'
  | [], acc, b, x, b' => by unfold zdcomp; intro h; cases h
  | y :: xs, acc, b, x, b' => by
    unfold zdcomp
    refine bnd_noexc fun k b1 => ?_
    cases k with
    | false => exact zdcomp_noexc
    | true =>
      refine bnd_noexc (f := fun y => bnd (nox (f _)) fun z => chk (acc.length < sizeLine) (zdcomp t kf f (dput acc y z) xs)) fun z b2 => ?_
      refine bnd_noexc (f := fun w => chk (acc.length < sizeLine) (zdcomp t kf f (dput acc z w) xs)) fun w b3 => ?_
      unfold chk
      split
      · exact zdcomp_noexc
      · intro h; cases h
theorem dc_own {m : M τ (List β)} {t : β → M τ Bool} {kf : β → M τ ι} {f : β → M τ γ} {R' : Rel γ} {vs : List Nat} {Q : VK} (hΓ : ∀ (i : Nat) s, Γ[i]? = some s → s = .no ∨ i ∉ vs) (q : aftF G E W B Γ σ S (ownD (kyF G F) R') Q (zdc t kf f m b)) :
    match m b with
      | .ok xs b1 => ∀ S1, Same S S1 → dcEnd F G E B (wipeE Γ vs) (L2.wipe σ vs) S1 R' Q (zdcomp t kf f [] xs b1)
      | .exc x b' => ∀ c d S' H', Same S S' → Hold E B Γ b' σ S' H' → XAt G x H' c d → W c d σ H'
      | .stuck => False := by
  unfold zdc bnd at q
  cases e : m b with
  | stuck => rw [e] at q; exact q
  | exc x b1 => rw [e] at q; exact q
  | ok xs b1 =>
    rw [e] at q
    intro S1 s1
    dsimp only at q
    cases e2 : zdcomp t kf f [] xs b1 with
    | stuck => rw [e2] at q; exact q
    | exc x b2 => exact absurd e2 zdcomp_noexc
    | ok ys b2 =>
      rw [e2] at q
      intro D S' H' us s' h hBS hBH hE r
      obtain ⟨hS, hD⟩ := h.cellAt hBS hE
      have h2 := h.cellOff hBS hBH hE
      exact q _ S' (del H' D) H' (fun x => x = D) (s1.trans s') (wipe_back hΓ h2) (fun x e => by subst e; exact ⟨del_same, _, hD⟩) (fun x n => (del_ne n).symm) ⟨D, us, rfl, fun _ => Iff.rfl, hD, r⟩
/-- a dict comprehension's parts -/
structure Dcm (F : KyF Rk fk) (G : Gx) (c : Sc) (E : Eff τ) (W : WX) (Γ : Env) (kx elt tg iter : Expr) (ifs : List Expr) (scope : Scope) (own : List (Str × Nat)) (m : M τ (List β)) (t : β → M τ Bool) (kf : β → M τ ι) (f : β → M τ γ) (R : Rel β) (R' : Rel γ) (Γ1 : β → Env) : Prop where
  ok : BlkOk c.N c.sc scope own
  hi : ZI G c E W Γ tg iter m R
  hg : ZG G (c.blk scope) E Wf (wipeE Γ (own.map (·.2))) (own.map (·.2)) tg Γ1 R
  ht : ∀ x, ZTs G (c.blk scope) E Wf (Γ1 x) ifs (t x)
  hk : ∀ x, ZE G (c.blk scope) E Wf (Γ1 x) kx (kf x) Rk
  he : ∀ x, ZE G (c.blk scope) E Wf (Γ1 x) elt (f x) R'
  no : ∀ (i : Nat) s, Γ[i]? = some s → s = .no ∨ i ∉ own.map (·.2)
  fs : ∀ (env : PySem.Env) x, foldedSetIterable iter env x = pure x
theorem zf_dc {kx elt tg iter : Expr} {ifs : List Expr} {scope : Scope} {own : List (Str × Nat)} {pos : Pos} {m : M τ (List β)} {t : β → M τ Bool} {kf : β → M τ ι} {f : β → M τ γ} {R : Rel β} {R' : Rel γ} {Γ1 : β → Env} (l : Dcm F G c E W Γ kx elt tg iter ifs scope own m t kf f R R' Γ1) : ZF G c E W Γ (.DictComp kx elt [⟨tg, iter, ifs, 0⟩] scope pos) (zdc t kf f m) (ownD (kyF G F) R') := fun X C =>
  pe_wk (pe_dc C.calm C.set_hN (l.hi X C) (by rw [C.N, C.sc]; exact l.ok) (fun s H A cl fp => l.hg.1 _ (C.blk s H scope A cl fp)) (fun s H A cl fp => pts_ex fun x => l.ht x _ (C.blk s H scope A cl fp)) (fun s H A cl fp => pe_ex fun x => l.hk x _ (C.blk s H scope A cl fp)) (fun s H A cl fp => pe_ex fun x => l.he x _ (C.blk s H scope A cl fp)) (l.fs _)) fun σ H Q _ ⟨B, S, b, hh, q⟩ => zdc_core hh l.hg.2 (dc_own l.no q)
end
end
end Zk

namespace Zk
open PySem L2

section
variable {τ α β γ δ κ ρ ρ' ι θ υ : Type} {G : Gx} {c : Sc} {E : Eff τ} {W : WX} {Γ Γ' : Env} {B : Bs} {σ σ' : St} {S S1 S' H H' : Hp} {b b' : τ} {L : Ls κ ρ}
theorem nodup_ix {T : Type} {x : T} : ∀ {l : List T} {i j : Nat}, l.Nodup → l[i]? = some x → l[j]? = some x → i = j
  | [], i, j, _, h, _ => by simp at h
  | a :: l, 0, 0, _, _, _ => rfl
  | a :: l, 0, j + 1, n, h1, h2 => by
    rw [List.nodup_cons] at n
    have h1 : a = x := by simpa using h1
    exact absurd (List.mem_of_getElem? (show l[j]? = some x by simpa using h2)) (h1 ▸ n.1)
  | a :: l, i + 1, 0, n, h1, h2 => by
    rw [List.nodup_cons] at n
    have h2 : a = x := by simpa using h2
    exact absurd (List.mem_of_getElem? (show l[i]? = some x by simpa using h1)) (h2 ▸ n.1)
  | a :: l, i + 1, j + 1, n, h1, h2 => by
    rw [List.nodup_cons] at n
    rw [nodup_ix n.2 (show l[i]? = some x by simpa using h1) (show l[j]? = some x by simpa using h2)]
/-! ### defs that change what is in ghost slots -/
abbrev ghs (gs : List PrO) : Env := gs.map Sl.gh
theorem ghs_get {gs : List PrO} {i : Nat} {s : Sl} (h : (ghs gs)[i]? = some s) : ∃ p, gs[i]? = some p ∧ s = .gh p := by
  rw [List.getElem?_map] at h
  obtain ⟨p, h1, h2⟩ := Option.map_eq_some_iff.mp h
  exact ⟨p, h1, h2.symm⟩
theorem Hold.front {front : Env} {gs : List PrO} (h : Hold E B (ghs gs) b σ' S H) (hf : ∀ (i : Nat) s, front[i]? = some s → slOk S H (σ[i]?.join) (fun _ => False) s) : Hold E B (front ++ ghs gs) b σ S H := by
  obtain ⟨Fs, hF, hs⟩ := h.sl
  refine ⟨h.kp, h.ef, fun i a => front.length ≤ i ∧ Fs (i - front.length) a, ⟨fun i a e => hF.at_ _ a e.2, fun i j a e1 e2 => ?_⟩, fun i s e => ?_⟩
  · have := hF.ds _ _ a e1.2 e2.2
    have h1 := e1.1; have h2 := e2.1; omega
  · by_cases hi : i < front.length
    · rw [List.getElem?_append_left hi] at e
      have ef : (fun a => front.length ≤ i ∧ Fs (i - front.length) a) = fun _ => False := funext fun a => propext ⟨fun z => by have := z.1; omega, fun z => z.elim⟩
      show slOk S H (σ[i]?.join) (fun a => front.length ≤ i ∧ Fs (i - front.length) a) s
      rw [ef]; exact hf i s e
    · rw [List.getElem?_append_right (by omega)] at e
      obtain ⟨p, e1, rfl⟩ := ghs_get e
      have ef : (fun a => front.length ≤ i ∧ Fs (i - front.length) a) = Fs (i - front.length) := funext fun a => propext ⟨fun z => z.2, fun z => ⟨by omega, z⟩⟩
      show p.p S H .non (fun a => front.length ≤ i ∧ Fs (i - front.length) a)
      rw [ef]; exact hs _ _ e
theorem Hold.back {front : Env} {gs : List PrO} (h : Hold E B (front ++ ghs gs) b σ S H) (σ' : St) : Hold E B (ghs gs) b σ' S H := by
  obtain ⟨Fs, hF, hs⟩ := h.sl
  refine ⟨h.kp, h.ef, fun i a => Fs (front.length + i) a, ⟨fun i a e => hF.at_ _ a e, fun i j a e1 e2 => by have := hF.ds _ _ a e1 e2; omega⟩, fun i s e => ?_⟩
  obtain ⟨p, e1, rfl⟩ := ghs_get e
  have := hs (front.length + i) (.gh p) (by rw [List.getElem?_append_right (by omega), Nat.add_sub_cancel_left]; exact e)
  exact this
def finH (G : Gx) (B : Bs) (S : Hp) (gs : γ → List PrO) (R : Rel ρ) (Q : VK) (XE : XK) : Out Unit (ρ × γ) → Prop
  | .ok (r, y) _ => ∀ v σ' S' H', Hold noE B (ghs (gs y)) () σ' S' H' → R.is r S' v → Q v H'
  | .exc e _ => ∀ c d σ' S' H', Hold noE B [] () σ' S' H' → XAt G e H' c d → XE c d H'
  | .stuck => False
def spH (G : Gx) (A : θ → α → List Pr) (gs : θ → γ → List PrO) (m : α × γ → M Unit (ρ × γ)) (R : Rel ρ) : Sp := fun vs H Q XE => ∃ q x y S B σ0, B.S = S ∧ All2 (fun (p : Pr) v => p.p S v) (A q x) vs ∧ Hold noE B (ghs (gs q y)) () σ0 S H ∧ finH G B S (gs q) R Q XE (m (x, y) ())
def zgh (m : M Unit (Fl γ Empty Empty)) : M Unit (Unit × γ) := fun s => match m s with | .ok (.nx z) s' => .ok ((), z) s' | .ok _ _ => .stuck | .exc e s' => .exc e s' | .stuck => .stuck
/-- a def that ends without return -/
theorem fn_okH {g : Bool} {x qual : Str} {st : Stmt} {f : Addr} {fd : FuncData} {N ps : List Str} {k : Nat} {A : θ → α → List Pr} {gs : θ → γ → List PrO} {mb : α × γ → M Unit (Fl γ Empty Empty)} (F : Fun G.K x qual st f fd) (sc : FnScope N ps (defScope st))
    (hA : ∀ q x, (A q x).length = ps.length)
    (hb : ∀ q x y (W : WX), ZB G ⟨N, defScope st, k, true, fun _ => true, g⟩ noE W ⟨fun e : Empty => e.elim, [], (⟨fun e => e.elim, fun {e} => e.elim⟩ : Rel Empty), fun e => e.elim⟩ (envOf N.length (A q x) ++ ghs (gs q y)) (defBody st) (mb (x, y)) (fun z => List.replicate N.length .no ++ ghs (gs q z))) :
    FnG g G.P G.w G.K G.mg G.base (k + 1) f fd ps (spH G A gs (fun p => zgh (mb p)) rNon) := by
  refine fng_F F sc (fun vs H Q XE h => ?_) (fun cdv A0 outer s H vs Q XE hr hgd h => ?_)
  · obtain ⟨q, x, y, S, B, σ0, _, r, _⟩ := h
    rw [← r.length, hA]
  · obtain ⟨q, x, y, S, B, σ0, eB, r, hh, fz⟩ := h
    let W : WX := fun cls d _ H => XE cls d H
    have C : CtxOk G ⟨N, defScope st, k, true, fun _ => true, g⟩ W (cxOf (L2.CX G.P G.w) G.P G.w G.K G.mg G.base N qual (defScope st) f cdv A0 outer s H XE) :=
      ⟨rfl, rfl, rfl, rfl, rfl, rfl, sc.nd, rfl, rfl, hr, hgd, takes_of rfl rfl rfl rfl, passes_of rfl, rfl, fun _ => ⟨rfl, rfl⟩⟩
    have h0 := hold_start (q := noE) (b := ()) (N := N) hh.same trivial r
    refine ⟨_, hb q x y W _ C, B, S, (), hh.front (fun i s e => ?_), ?_⟩
    · obtain ⟨Fs, hF, hs⟩ := h0.sl
      have := hs i s e
      cases s with
      | no => trivial
      | st p => exact this
      | ow p =>
        exfalso
        unfold envOf at e
        rcases List.mem_append.mp (List.mem_of_getElem? e) with z | z
        · obtain ⟨_, _, z⟩ := List.mem_map.mp z; cases z
        · have := List.eq_of_mem_replicate z; cases this
      | gh p =>
        exfalso
        unfold envOf at e
        rcases List.mem_append.mp (List.mem_of_getElem? e) with z | z
        · obtain ⟨_, _, z⟩ := List.mem_map.mp z; cases z
        · have := List.eq_of_mem_replicate z; cases this
    · have fz : finH G B S (gs q) rNon Q XE (zgh (mb (x, y)) ()) := fz
      unfold zgh at fz
      cases e : mb (x, y) () with
      | stuck => rw [e] at fz; exact fz
      | exc e b' => rw [e] at fz; exact fun c d σ' S' H' h xa => fz c d σ' S' H' h xa
      | ok r b' =>
        rw [e] at fz
        cases r with
        | bk k => exact k.elim
        | ct k => exact k.elim
        | rt r => exact r.elim
        | nx z => exact fun σ' S' H' s' h => fz .non σ' S' H' (h.back σ') rfl
open Classical in
/-- what is in ghost slots is handed to a def, and taken back -/
theorem Hold.callH {idx : List Nat} {gs : List PrO} (h : Hold E B Γ b σ S H) (hi : All2 (fun i p => Γ[i]? = some (.gh p)) idx gs) (nd : idx.Nodup) : ∃ Bc : Bs, Bc.S = S ∧ Hold noE Bc (ghs gs) () [] S H ∧
    (∀ S' H' σ' gs' Γ', Hold noE Bc (ghs gs') () σ' S' H' → (∀ (i : Nat) s, Γ'[i]? = some s → (∃ (j : Nat) (p : PrO), idx[j]? = some i ∧ gs'[j]? = some p ∧ s = .gh p) ∨ (i ∉ idx ∧ Γ[i]? = some s)) → Same S S' ∧ Hold E B Γ' b σ S' H') ∧
    (∀ S' H' σ', Hold noE Bc [] () σ' S' H' → Same S S' ∧ Hold E B [] b σ S' H') := by
  obtain ⟨Fs, hF, hs⟩ := id h.sl
  let Gf : Addr → Prop := fun a => ∃ i, i ∈ idx ∧ Fs i a
  let BH : Hp := fun a => if Gf a then none else H a
  have bn : ∀ a, Gf a → BH a = none := fun a z => if_pos z
  have bs : ∀ a, ¬ Gf a → BH a = H a := fun a z => if_neg z
  have bo : ∀ a o, BH a = some o → ¬ Gf a ∧ H a = some o := fun a o e => by
    by_cases z : Gf a
    · rw [bn a z] at e; cases e
    · rw [bs a z] at e; exact ⟨z, e⟩
  have go : ∀ a, E.own a → ¬ Gf a := fun a ha ⟨i, _, z⟩ => (hF.at_ i a z).2.2.1 ha
  have eff : ∀ S' H', Keep noE.own ⟨S, BH⟩ S' H' → E.is b S' H' := fun S' H' k => by
    refine E.mono k.up (fun a ha hn => ?_) (fun a o ha ho => ?_) h.ef
    · obtain ⟨_, o, ho⟩ := E.th h.ef ha
      exact (k.kp a o hn (by show BH a = _; rw [bs a (go a ha)]; exact ho) id).1
    · exact (k.kp a o (E.th h.ef ha).1 (by show BH a = _; rw [bs a (go a ha)]; exact ho) id).2
  have keep : ∀ S' H', Keep noE.own ⟨S, BH⟩ S' H' → Keep E.own B S' H' := fun S' H' k => ⟨k.same, h.kp.up.trans k.up, fun a o h1 h2 h3 => by
    obtain ⟨r1, r2⟩ := h.kp.kp a o h1 h2 h3
    have ng : ¬ Gf a := fun ⟨i, _, z⟩ => by rw [(hF.at_ i a z).2.1] at h2; cases h2
    exact k.kp a o r1 (by show BH a = _; rw [bs a ng]; exact r2) id⟩
  refine ⟨⟨S, BH⟩, rfl, ⟨⟨h.same, Same.refl _, fun a o h1 h2 _ => ⟨h1, (bo a o h2).2⟩⟩, trivial, fun (j : Nat) a => ∃ i, idx[j]? = some i ∧ Fs i a, ⟨fun j a ⟨i, e1, e2⟩ => ?_, fun j j' a ⟨i, e1, e2⟩ ⟨i', e1', e2'⟩ => ?_⟩, fun j s e => ?_⟩, fun S' H' σ' gs' Γ' h' hg => ⟨h'.kp.up, ?_⟩, fun S' H' σ' h' => ⟨h'.kp.up, ?_⟩⟩
  · obtain ⟨r1, r2, r3, r4⟩ := hF.at_ i a e2
    exact ⟨r1, bn a ⟨i, List.mem_of_getElem? e1, e2⟩, id, r4⟩
  · have := hF.ds i i' a e2 e2'
    subst this
    exact nodup_ix nd e1 e1'
  · obtain ⟨p, e1, rfl⟩ := ghs_get e
    obtain ⟨i, q1, q2⟩ := hi.get' e1
    have := hs i _ q2
    have ef : (fun a => ∃ i, idx[j]? = some i ∧ Fs i a) = Fs i := funext fun a => propext ⟨fun ⟨i', z1, z2⟩ => by rw [q1] at z1; cases z1; exact z2, fun z => ⟨i, q1, z⟩⟩
    show p.p S H .non (fun a => ∃ i, idx[j]? = some i ∧ Fs i a)
    rw [ef]; exact this
  · obtain ⟨Fs', hF', hs'⟩ := h'.sl
    have kk : ∀ i a, i ∉ idx → Fs i a → S' a = none ∧ ∃ o, H a = some o ∧ H' a = some o := fun i a ni z => by
      obtain ⟨r1, r2, r3, o, r4⟩ := hF.at_ i a z
      have ng : ¬ Gf a := fun ⟨j, hj, z'⟩ => ni (hF.ds i j a z z' ▸ hj)
      have := h'.kp.kp a o r1 (by show BH a = _; rw [bs a ng]; exact r4) id
      exact ⟨this.1, o, r4, this.2⟩
    refine ⟨keep S' H' h'.kp, eff S' H' h'.kp, fun i a => (i ∉ idx ∧ Fs i a) ∨ ∃ j, idx[j]? = some i ∧ Fs' j a, ⟨fun i a e => ?_, fun i i' a e e' => ?_⟩, fun i s e => ?_⟩
    · rcases e with ⟨ni, e⟩ | ⟨j, e1, e2⟩
      · obtain ⟨r1, r2, r3, r4⟩ := hF.at_ i a e
        obtain ⟨k1, o, _, k2⟩ := kk i a ni e
        exact ⟨k1, r2, r3, o, k2⟩
      · obtain ⟨r1, r2, _, r4⟩ := hF'.at_ j a e2
        have r2 : BH a = none := r2
        refine ⟨r1, ?_, fun ha => ?_, r4⟩
        · cases z : B.H a with
          | none => rfl
          | some o =>
            exfalso
            by_cases hg : Gf a
            · obtain ⟨i', _, z'⟩ := hg
              rw [(hF.at_ i' a z').2.1] at z; cases z
            · rw [bs a hg] at r2
              cases zs : B.S a with
              | some o' => have := h'.kp.up _ _ (h.kp.up _ _ zs); rw [r1] at this; cases this
              | none =>
                by_cases ho : E.own a
                · obtain ⟨_, o', ho'⟩ := E.th h.ef ho; rw [r2] at ho'; cases ho'
                · have := (h.kp.kp a o zs z ho).2; rw [r2] at this; cases this
        · obtain ⟨_, o', ho'⟩ := E.th h.ef ha
          rw [bs a (go a ha)] at r2
          rw [r2] at ho'; cases ho'
    · have cross : ∀ i i', i ∉ idx → Fs i a → (∃ j, idx[j]? = some i' ∧ Fs' j a) → False := fun i i' ni z ⟨j, z1, z2⟩ => by
        obtain ⟨_, o, z3, _⟩ := kk i a ni z
        have r2 : BH a = none := (hF'.at_ j a z2).2.1
        have ng : ¬ Gf a := fun ⟨j', hj, z'⟩ => ni (hF.ds i j' a z z' ▸ hj)
        rw [bs a ng, z3] at r2; cases r2
      rcases e with ⟨ni, e⟩ | e <;> rcases e' with ⟨ni', e'⟩ | e'
      · exact hF.ds i i' a e e'
      · exact (cross i i' ni e e').elim
      · exact (cross i' i ni' e' e).elim
      · obtain ⟨j, z1, z2⟩ := e
        obtain ⟨j', z1', z2'⟩ := e'
        have := hF'.ds j j' a z2 z2'
        subst this
        rw [z1] at z1'; cases z1'; rfl
    · rcases hg i s e with ⟨j, p, z1, z2, rfl⟩ | ⟨ni, z⟩
      · have hin : i ∈ idx := List.mem_of_getElem? z1
        have := hs' j (.gh p) (by rw [List.getElem?_map, z2]; rfl)
        have ef : (fun a => (i ∉ idx ∧ Fs i a) ∨ ∃ j, idx[j]? = some i ∧ Fs' j a) = Fs' j := funext fun a => propext ⟨fun y => y.elim (fun y => absurd hin y.1) fun ⟨j', y1, y2⟩ => by
          have := nodup_ix nd z1 y1
          subst this; exact y2, fun y => .inr ⟨j, z1, y⟩⟩
        show p.p S' H' .non (fun a => (i ∉ idx ∧ Fs i a) ∨ ∃ j, idx[j]? = some i ∧ Fs' j a)
        rw [ef]; exact this
      · have q := hs i s z
        have ef : (fun a => (i ∉ idx ∧ Fs i a) ∨ ∃ j, idx[j]? = some i ∧ Fs' j a) = Fs i := funext fun a => propext ⟨fun y => y.elim (·.2) fun ⟨j', y1, _⟩ => absurd (List.mem_of_getElem? y1) ni, fun y => .inl ⟨ni, y⟩⟩
        cases s with
        | no => trivial
        | st p => obtain ⟨x, e1, e2⟩ := q; exact ⟨x, e1, p.mono h'.kp.up e2⟩
        | ow p =>
          obtain ⟨x, e1, e2⟩ := q
          refine ⟨x, e1, ?_⟩
          show p.p S' H' x (fun a => (i ∉ idx ∧ Fs i a) ∨ ∃ j, idx[j]? = some i ∧ Fs' j a)
          rw [ef]
          exact p.mono h'.kp.up (fun a o ha e' => by obtain ⟨_, o', k1, k2⟩ := kk i a ni ha; rw [k1] at e'; cases e'; exact k2) e2
        | gh p =>
          show p.p S' H' .non (fun a => (i ∉ idx ∧ Fs i a) ∨ ∃ j, idx[j]? = some i ∧ Fs' j a)
          rw [ef]
          exact p.mono h'.kp.up (fun a o ha e' => by obtain ⟨_, o', k1, k2⟩ := kk i a ni ha; rw [k1] at e'; cases e'; exact k2) q
  · exact ⟨keep S' H' h'.kp, eff S' H' h'.kp, fun _ _ => False, ⟨fun _ _ z => z.elim, fun _ _ _ z => z.elim⟩, fun i s e => by simp at e⟩
/-- o.me(..) of a def that changes ghosts, alone in its row -/
theorem zs_methH1 {g : Bool} {C0 : Addr} {me : Str} {k : Nat} {ps : List Str} {Ro : θ → Rel α} {A : β → List Pr} {P : θ → γ → PrO} {f : (α × β) × γ → M Unit (ρ' × γ)} {R : Rel ρ'} {o e : Expr} {es : List Expr} {mo : M τ α} {m : M τ β} {cpos apos pos : Pos} {pl : PySem.Env → Sem Bool} {q : θ} {gi : Nat} {y : γ}
    (F : MethAt g G C0 me k ps (spH G (fun q (x : α × β) => (Ro q).pr x.1 :: A x.2) (fun q z => [P q z]) f R)) (cl : Cls G.K C0) (ia : InsAt (Ro q) C0 me) (hk : k ≤ c.k) (hg : g = true → c.gd = true) (hgi : Γ[gi]? = some (.gh (P q y)))
    (ho : ZE G c E W Γ o mo (Ro q)) (ha : ZA G c E W Γ (e :: es) m A) (sx : Sub E Γ L.x) (hx : L.x = []) (he : Star e es := by intro _; rfl) (hpl : Plain1 es := by intro _ _; rfl) (ht : EvM o me (e :: es) apos cpos pl := by intro _; rfl) (hs : NoSwap (.Call (.Attribute o me apos) (e :: es) [] cpos) := by intro _ _ _; rfl) :
    ZS G c E W L Γ (.Expr (.Call (.Attribute o me apos) (e :: es) [] cpos) pos) (bnd mo fun x => bnd m fun z => bnd (lft (f ((x, z), y))) fun r => ret (.nx r.2) : M τ (Fl γ κ ρ)) (fun z => Γ.set gi (.gh (P q z))) := fun X C => by
  obtain ⟨f0, fd, h1, h2, h3⟩ := F.ex
  rw [← C.prog, ← C.w, ← C.K, ← C.mg, ← C.base] at h3
  rw [← C.K] at h1 h2 cl
  refine ps_wk (ps_expr (pe_methS (Ex := WE W) (ho X C) cl h1 h3 (C.room.mono hk) (fun z => C.gds (hg z)) h2 (passAt C.takes) (ha X C) (he _) (hpl _ _) (ht _)) (hs _ _ _)) fun D σ H hl ⟨B, S, b, hh, qq⟩ => ?_
  refine tzS_bnd (R := Ro q) sx hh qq fun x b1 v S1 H1 s1 hh1 r1 q1 => ?_
  obtain ⟨a, dx, vs, e1, e2, e3⟩ := ia.h r1
  refine ⟨a, dx, vs, e1, hh1.same _ _ e2, e3, tzS_bndA (A := A) sx hh1 q1 fun z b2 us S2 H2 s2 hh2 r2 q2 => ?_⟩
  obtain ⟨Bc, eB, h0, back, backx⟩ := hh2.callH (idx := [gi]) (gs := [P q y]) ⟨hgi, trivial⟩ (by simp)
  refine ⟨q, (x, z), y, S2, Bc, [], eB, ⟨(Ro q).mono s2 r1, r2⟩, h0, ?_⟩
  unfold lft bnd at q2
  cases e : f ((x, z), y) () with
  | stuck => rw [e] at q2; exact q2.elim
  | exc e' b' =>
    rw [e] at q2
    exact fun c d σ' S' H' h' xa => q2 c d σ S' H' (by rw [hx]; exact (backx S' H' σ' h').2) xa
  | ok r b' =>
    rw [e] at q2
    intro v σ' S' H' h' _
    obtain ⟨s3, h4⟩ := back S' H' σ' [P q r.2] (Γ.set gi (.gh (P q r.2))) h' fun i s hs => by
      rcases set_get hs with ⟨rfl, rfl⟩ | ⟨n, hs⟩
      · exact .inl ⟨0, _, rfl, rfl, rfl⟩
      · exact .inr ⟨by simpa using n, hs⟩
    exact q2 σ S' H' s3 h4
end
end Zk

namespace Zk
open PySem L2

section
variable {τ α β γ δ κ ρ ρ' ι θ υ : Type} {G : Gx} {c : Sc} {E : Eff τ} {W : WX} {Γ Γ' : Env} {B : Bs} {σ σ' : St} {S S1 S' H H' : Hp} {b b' : τ} {L : Ls κ ρ}
/-! ### a field that is a new dict -/
def ownOX (q0 : Addr → Prop) (C : Addr) (f : Str) (fs : List (Str × Pr)) (Pa : Addr → PrO) : PrO := ⟨fun S H v F => ∃ a F2, (ownO q0 C ((f, (rRef a).pr ()) :: fs)).p S H v (fun x => F x ∧ ¬ F2 x) ∧ (Pa a).p S H .non F2 ∧ (∀ x, F2 x → F x),
  fun {S S' H H' v F} s k ⟨a, F2, h1, h2, h3⟩ => ⟨a, F2, (ownO q0 C _).mono (F := fun x => F x ∧ ¬ F2 x) s (fun x o hx => k x o hx.1) h1, (Pa a).mono s (fun x o hx => k x o (h3 x hx)) h2, h3⟩⟩
/-- self.f = {} -/
theorem zs_fldF {i : Nat} {x f : Str} {e : Expr} {p1 apos pos : Pos} {q0 : Addr → Prop} {C0 : Addr} {fs : List (Str × Pr)} {P : α → PrO} {Pa : Addr → α → PrO} {m : M τ α} (n : Nm c i x) (hi : Γ[i]? = some (.ow (ownO q0 C0 fs))) (cl : Cls G.K C0) (na : NoAttr G.K C0 f) (hn : fs.length < 900)
    (hP : ∀ {x S H v F}, (P x).p S H v F → ∃ l, v = .ref l ∧ (Pa l x).p S H .non F) (h : ZF G c E W Γ e m P) (sx : Sub E Γ L.x) (hs : NoSwap e := by intro _ _ _; rfl) :
    ZS G c E W L Γ (.Assign [.Attribute (.Name x p1) f apos] e pos) (zset m) (fun v => Γ.set i (.ow (ownOX q0 C0 f fs (fun a => Pa a v)))) := fun X C =>
  ps_wk (ps_fld (pe_var (C.hi n.n) (by rw [C.sc]; exact n.v) n.d n.cd) (h X C) (hs _ _ _)) fun D σ H hl ⟨B, S, b, hh, q⟩ => by
    refine ⟨B, S, b, hh, ?_⟩
    unfold zset bnd at q
    cases e : m b with
    | stuck => rw [e] at q; exact q.elim
    | exc x b1 => rw [e] at q; exact fun c d S1 H1 _ h1 xa => let ⟨S2, _, h2⟩ := sx h1; q c d σ S2 H1 h2 xa
    | ok y b1 =>
      rw [e] at q
      intro v S1 H1 H2 F s1 h1 hF hk hp
      obtain ⟨d0, rfl, hpa⟩ := hP hp
      obtain ⟨Fs, hFe, hsl⟩ := id h1.sl
      obtain ⟨v0, e1, l, dx, vs, rfl, e0, hf, hu, hlen, hno, hq⟩ := hsl i _ hi
      have e1 := slot_get e1
      have hlf := (hf l).mpr rfl
      have nFl : ¬ F l := fun z => by rw [(hF l z).1] at hu; cases hu
      have hu2 : H2 l = some (.ins C0 dx vs) := by rw [hk l nFl]; exact hu
      refine ⟨.ref l, e1, l, C0, dx, vs, rfl, hu2, by rw [C.K]; exact cl, by rw [C.K]; exact na, by omega, q σ S1 _ s1 ?_⟩
      have hlt := (List.getElem?_eq_some_iff.mp e1).1
      rw [show σ = σ.set i (some (.ref l)) from (slot_set e1).symm]
      refine Hold.mut h1 hlt (F' := fun a => a = l ∨ F a) (fun a n => ?_) (fun a z => ?_) ?_
      · have n : ¬ (a = l ∨ F a) := n
        rw [upd_ne fun z => n (.inl z)]; exact hk a fun z => n (.inr z)
      · rcases z with z | z
        · subst z
          exact ⟨⟨_, upd_same⟩, .inr fun Fs' hF' hs' => by
            obtain ⟨v, z1, z2⟩ := hs' i _ hi
            rw [e1] at z1; cases z1
            obtain ⟨l', _, _, z3, _, z4, _⟩ := z2
            cases z3; exact (z4 a).mpr rfl⟩
        · obtain ⟨z1, o, z2⟩ := hF a z
          exact ⟨⟨o, by rw [upd_ne (show a ≠ l from fun z' => nFl (by rw [← z']; exact z))]; exact z2⟩, .inl ⟨z1, h1.fr z1⟩⟩
      · refine ⟨d0, F, ⟨l, dx, _, rfl, e0, fun a => ⟨fun z => z.1.elim id fun z' => absurd z' z.2, fun z => ⟨.inl z, by rw [z]; exact nFl⟩⟩, upd_same, ?_, fun k hk => ?_, fun k p hk => ?_⟩, (Pa d0 y).mono (Same.refl _) (fun a o ha e => by rw [upd_ne (show a ≠ l from fun z' => nFl (by rw [← z']; exact ha))]; exact e) hpa, fun a z => .inr z⟩
        · have := length_putF f (.ref d0) vs; simp only [List.length_cons]; omega
        · rw [lookup_putF]
          rw [List.lookup_cons] at hk
          by_cases hkf : k = f
          · subst hkf; simp at hk
          · have : (k == f) = false := beq_eq_false_iff_ne.mpr hkf
            rw [this] at hk
            rw [if_neg hkf]; exact hno k hk
        · rw [lookup_putF]
          rw [List.lookup_cons] at hk
          by_cases hkf : k = f
          · subst hkf
            simp at hk
            subst hk
            exact ⟨.ref d0, by rw [if_pos rfl], rfl⟩
          · have : (k == f) = false := beq_eq_false_iff_ne.mpr hkf
            rw [this] at hk
            rw [if_neg hkf]; exact hq k p hk
/-- .. its address is known from here on -/
theorem zb_openO {i g : Nat} {q0 : Addr → Prop} {C0 : Addr} {f : Str} {fs : List (Str × Pr)} {Pa : Addr → PrO} {sts : List Stmt} {m : M τ (Fl β κ ρ)} {Γn : β → Env} (hi : Γ[i]? = some (.ow (ownOX q0 C0 f fs Pa))) (hg : Γ[g]? = some .no)
    (h : ∀ l, ZB G c E W L ((Γ.set i (.ow (ownO q0 C0 ((f, (rRef l).pr ()) :: fs)))).set g (.gh (Pa l))) sts m Γn) : ZB G c E W L Γ sts m Γn := fun X C =>
  pss_wk (pss_ex fun l => h l X C) fun D σ H _ ⟨B, S, b, hh, q⟩ => by
    obtain ⟨Fs, hF, hs⟩ := id hh.sl
    obtain ⟨v, e1, l, F2, e2, e3, e4⟩ := hs i _ hi
    have hig : i ≠ g := fun z => by rw [z, hg] at hi; cases hi
    refine ⟨l, B, S, b, ⟨hh.kp, hh.ef, fun j a => (j ≠ i ∧ j ≠ g ∧ Fs j a) ∨ (j = g ∧ F2 a) ∨ (j = i ∧ Fs i a ∧ ¬ F2 a), ⟨fun j a e => ?_, fun j k a z1 z2 => ?_⟩, fun j s e => ?_⟩, q⟩
    · rcases e with ⟨_, _, e⟩ | ⟨_, e⟩ | ⟨_, e, _⟩
      · exact hF.at_ j a e
      · exact hF.at_ i a (e4 a e)
      · exact hF.at_ i a e
    · rcases z1 with ⟨n1, n1', e1⟩ | ⟨n1, e1⟩ | ⟨n1, e1, e1'⟩ <;> rcases z2 with ⟨n2, n2', e2⟩ | ⟨n2, e2⟩ | ⟨n2, e2, e2'⟩
      · exact hF.ds j k a e1 e2
      · exact absurd (hF.ds j i a e1 (e4 a e2)) n1
      · exact absurd (hF.ds j i a e1 e2) n1
      · exact absurd (hF.ds k i a e2 (e4 a e1)) n2
      · rw [n1, n2]
      · exact absurd e1 e2'
      · exact absurd (hF.ds k i a e2 e1) n2
      · exact absurd e2 e1'
      · rw [n1, n2]
    · rcases set_get e with ⟨rfl, rfl⟩ | ⟨n, e⟩
      · have : (fun a => (j ≠ i ∧ j ≠ j ∧ Fs j a) ∨ (j = j ∧ F2 a) ∨ (j = i ∧ Fs i a ∧ ¬ F2 a)) = F2 := funext fun a => propext ⟨fun z => z.elim (fun z => absurd rfl z.2.1) fun z => z.elim (·.2) fun z => absurd z.1.symm hig, fun z => .inr (.inl ⟨rfl, z⟩)⟩
        show (Pa l).p S H .non (fun a => (j ≠ i ∧ j ≠ j ∧ Fs j a) ∨ (j = j ∧ F2 a) ∨ (j = i ∧ Fs i a ∧ ¬ F2 a))
        rw [this]; exact e3
      · rcases set_get e with ⟨rfl, rfl⟩ | ⟨n2, e⟩
        · refine ⟨v, e1, ?_⟩
          have : (fun a => (j ≠ j ∧ j ≠ g ∧ Fs j a) ∨ (j = g ∧ F2 a) ∨ (j = j ∧ Fs j a ∧ ¬ F2 a)) = fun a => Fs j a ∧ ¬ F2 a := funext fun a => propext ⟨fun z => z.elim (fun z => absurd rfl z.1) fun z => z.elim (fun z => absurd z.1 n) fun z => z.2, fun z => .inr (.inr ⟨rfl, z⟩)⟩
          show (ownO q0 C0 ((f, (rRef l).pr ()) :: fs)).p S H v (fun a => (j ≠ j ∧ j ≠ g ∧ Fs j a) ∨ (j = g ∧ F2 a) ∨ (j = j ∧ Fs j a ∧ ¬ F2 a))
          rw [this]; exact e2
        · have : (fun a => (j ≠ i ∧ j ≠ g ∧ Fs j a) ∨ (j = g ∧ F2 a) ∨ (j = i ∧ Fs i a ∧ ¬ F2 a)) = Fs j := funext fun a => propext ⟨fun z => z.elim (·.2.2) fun z => z.elim (fun z => absurd z.1 n) fun z => absurd z.1 n2, fun z => .inl ⟨n2, n, z⟩⟩
          have q := hs j s e
          cases s with
          | no => trivial
          | st p => exact q
          | ow p => obtain ⟨x, e1, e2⟩ := q; exact ⟨x, e1, by show p.p S H x (fun a => (j ≠ i ∧ j ≠ g ∧ Fs j a) ∨ (j = g ∧ F2 a) ∨ (j = i ∧ Fs i a ∧ ¬ F2 a)); rw [this]; exact e2⟩
          | gh p => show p.p S H .non (fun a => (j ≠ i ∧ j ≠ g ∧ Fs j a) ∨ (j = g ∧ F2 a) ∨ (j = i ∧ Fs i a ∧ ¬ F2 a)); rw [this]; exact q
/-! ### an instance that is stable at the end of its __init__ -/
def rObjA (l C : Addr) (fs : α → List (Str × Pr)) : Rel α := ⟨fun x S v => v = .ref l ∧ (rObj C fs).is x S v, fun s ⟨e, h⟩ => ⟨e, (rObj C fs).mono s h⟩⟩
theorem one_OA {l C : Addr} {fs : α → List (Str × Pr)} {x : α} {gs : List (Str × Pr)} (h : ∀ k, (fs x).lookup k = gs.lookup k) : One (ownO (fun a => a = l) C gs) ((rObjA l C fs).pr x) :=
  ⟨fun {S H v F} hp S' s k => ⟨by obtain ⟨l', dx, vs, e, e0, _⟩ := hp; have e0 : l' = l := e0; rw [e, e0], (one_O h).at_ hp S' s k⟩⟩
theorem z_A {l C : Addr} {fs : α → List (Str × Pr)} {e : Expr} {m : M τ α} (h : ZE G c E W Γ e m (rObjA l C fs)) : ZE G c E W Γ e m (rObj C fs) := fun X C => pe_wk (h X C) fun σ H Q _ ⟨B, S, b, hh, q⟩ => by
  refine ⟨B, S, b, hh, ?_⟩
  cases e : m b with
  | stuck => rw [e] at q; exact q.elim
  | exc x b1 => rw [e] at q; exact q
  | ok a b1 => rw [e] at q; exact fun v S' H' s h r => q v S' H' s h r.2
/-- fields told otherwise -/
theorem obj_imp {C : Addr} {fs : α → List (Str × Pr)} {gs : β → List (Str × Pr)} {x : α} {y : β} {S : Hp} {v : V} (hn : ∀ k, (gs y).lookup k = none → (fs x).lookup k = none) (hq : ∀ f p, (gs y).lookup f = some p → ∃ p0, (fs x).lookup f = some p0 ∧ ∀ u, p0.p S u → p.p S u) (h : (rObj C fs).is x S v) : (rObj C gs).is y S v := by
  obtain ⟨a, dx, vs, e, h1, h2, h3⟩ := h
  exact ⟨a, dx, vs, e, h1, fun k hk => h2 k (hn k hk), fun f p hf => let ⟨p0, z1, z2⟩ := hq f p hf; let ⟨u, u1, u2⟩ := h3 f p0 z1; ⟨u, u1, z2 u u2⟩⟩
def finIS (G : Gx) (C : Addr) (S H : Hp) (l : Addr) (fs : ρ → List (Str × Pr)) (Q : VK) (XE : XK) : Out Unit ρ → Prop
  | .ok r _ => ∀ S' H', Keep (fun _ => False) ⟨S, del H l⟩ S' H' → (rObj C fs).is r S' (.ref l) → Q .non H'
  | .exc e _ => ∀ c d S' H', Keep (fun _ => False) ⟨S, del H l⟩ S' H' → XAt G e H' c d → XE c d H'
  | .stuck => False
def spIS (G : Gx) (C : Addr) (A : α → List Pr) (m : α → M Unit ρ) (fs : ρ → List (Str × Pr)) : Sp := fun vs H Q XE => ∃ a l dx S us, vs = .ref l :: us ∧ All2 (fun (p : Pr) v => p.p S v) (A a) us ∧ Same S H ∧ S l = none ∧ H l = some (.ins C dx []) ∧ finIS G C S H l fs Q XE (m a ())
theorem init_okS {g : Bool} {x qual : Str} {st : Stmt} {f : Addr} {fd : FuncData} {N ps : List Str} {k : Nat} {C : Addr} {A : α → List Pr} {fs : ρ → List (Str × Pr)} {mb : α → M Unit (Fl β Empty Empty)} {Γn : Addr → α → β → Env} {n : α → β → ρ} (F : Fun G.K x qual st f fd) (sc : FnScope N ps (defScope st))
    (hA : ∀ a, (A a).length + 1 = ps.length) (hn : ∀ l a y, (Γn l a y)[0]? = some (.st ((rObjA l C fs).pr (n a y))))
    (hb : ∀ l a (W : WX), ZB G ⟨N, defScope st, k, true, fun _ => true, g⟩ noE W ⟨fun e : Empty => e.elim, [], (⟨fun e => e.elim, fun {e} => e.elim⟩ : Rel Empty), fun e => e.elim⟩ (.ow (ownO (fun x => x = l) C []) :: ((A a).map .st ++ List.replicate (N.length - ((A a).length + 1)) .no)) (defBody st) (mb a) (Γn l a)) :
    FnG g G.P G.w G.K G.mg G.base (k + 1) f fd ps (spIS G C A (fun a => zini (n a) (mb a)) fs) := by
  refine fng_F F sc (fun vs H Q XE h => ?_) (fun cdv A0 outer s H vs Q XE hr hgd h => ?_)
  · obtain ⟨a, l, dx, S, us, rfl, r, _⟩ := h
    rw [List.length_cons, ← r.length, hA]
  · obtain ⟨a, l, dx, S, us, rfl, r, hs, hl, hH, fz⟩ := h
    let W : WX := fun cls d _ H => XE cls d H
    have Cc : CtxOk G ⟨N, defScope st, k, true, fun _ => true, g⟩ W (cxOf (L2.CX G.P G.w) G.P G.w G.K G.mg G.base N qual (defScope st) f cdv A0 outer s H XE) :=
      ⟨rfl, rfl, rfl, rfl, rfl, rfl, sc.nd, rfl, rfl, hr, hgd, takes_of rfl rfl rfl rfl, passes_of rfl, rfl, fun _ => ⟨rfl, rfl⟩⟩
    have hh : Hold noE ⟨S, del H l⟩ (.ow (ownO (fun x => x = l) C []) :: ((A a).map .st ++ List.replicate (N.length - ((A a).length + 1)) .no)) () (L2.start N (.ref l :: us)) S H := by
      refine ⟨⟨hs, Same.refl _, fun x o h1 h2 _ => ⟨h1, ?_⟩⟩, trivial, fun i x => i = 0 ∧ x = l, ⟨fun i x ⟨e1, e2⟩ => ?_, fun i j x e1 e2 => e1.1.trans e2.1.symm⟩, fun i sl e => ?_⟩
      · have hx : x ≠ l := fun z => by rw [z] at h2; have h2 : del H l l = some o := h2; rw [del_same] at h2; cases h2
        have h2 : del H l x = some o := h2
        rw [del_ne hx] at h2; exact h2
      · subst e1 e2
        exact ⟨hl, del_same, fun z => z, _, hH⟩
      · unfold L2.start
        cases i with
        | zero =>
          cases e
          exact ⟨.ref l, rfl, l, dx, [], rfl, rfl, fun x => ⟨fun z => z.2, fun z => ⟨rfl, z⟩⟩, hH, Nat.le_refl _, fun _ _ => rfl, fun f p z => nomatch z⟩
        | succ i =>
          simp only [List.getElem?_cons_succ] at e
          simp only [List.map_cons, List.cons_append, List.getElem?_cons_succ]
          by_cases hi : i < (A a).length
          · rw [List.getElem?_append_left (by simpa using hi), List.getElem?_map] at e
            cases e2 : (A a)[i]? with
            | none => rw [e2] at e; cases e
            | some p =>
              rw [e2] at e; cases e
              obtain ⟨v, h1, h2⟩ := r.get e2
              rw [List.getElem?_append_left (by rw [List.length_map, ← r.length]; exact hi), List.getElem?_map, h1]
              exact ⟨v, rfl, h2⟩
          · rw [List.getElem?_append_right (by simpa using hi), List.getElem?_replicate] at e
            split at e
            · cases e; trivial
            · cases e
    refine ⟨_, hb l a W _ Cc, ⟨S, del H l⟩, S, (), hh, ?_⟩
    have fz : finIS G C S H l fs Q XE (zini (n a) (mb a) ()) := fz
    unfold zini at fz
    cases e : mb a () with
    | stuck => rw [e] at fz; exact fz.elim
    | exc e b' => rw [e] at fz; exact fun c d σ' S' H' h xa => fz c d S' H' h.kp xa
    | ok r b' =>
      rw [e] at fz
      cases r with
      | bk k => exact k.elim
      | ct k => exact k.elim
      | rt r => exact r.elim
      | nx y =>
        intro σ' S' H' _ h
        obtain ⟨Fs, hF, hsl⟩ := id h.sl
        obtain ⟨v, e1, e2, e3⟩ := hsl 0 _ (hn l a y)
        subst e2
        exact fz S' H' h.kp e3
theorem z_makeS {gd : Bool} {x : Str} {C0 : Addr} {k : Nat} {ps : List Str} {A : α → List Pr} {f : α → M Unit ρ} {fs : ρ → List (Str × Pr)} {e : Expr} {es : List Expr} {m : M τ α} {p pos : Pos} (F : MkAt gd G C0 k ps (spIS G C0 A f fs) []) (hm : G.mg x = some (.ref C0)) (hk : k + 1 ≤ c.k) (hg : gd = true → c.gd = true) (gb : Gb c x)
    (ha : ZA G c E W Γ (e :: es) m A) (hdb : (x == ("__debug__" : Str)) = false := by decide) (he : Star e es := by intro _; rfl) (hpl : Plain1 es := by intro _ _; rfl) : ZE G c E W Γ (.Call (.Name x p) (e :: es) [] pos) (zapp (fun y => lft (f y)) m) (rObj C0 fs) := fun X C => by
  obtain ⟨f0, fd, ds, h1, h2, h3, h4⟩ := F.ex
  rw [← C.prog, ← C.w, ← C.K, ← C.mg, ← C.base] at h4
  rw [← C.K] at h1 h2
  rw [← C.mg] at hm
  refine pe_wk (pe_makeS (Ex := WE W) h1 h4 (C.room.mono hk) (fun z => C.gds (hg z)) (C.gl gb) hm h2 h3 (passAt C.takes) (ha X C) hdb (he _) (hpl _ _)) fun σ H Q _ ⟨B, S, b, hh, qq⟩ => ?_
  refine tz_Abnd hh qq fun y b1 us S1 H1 s1 hh1 r1 q1 => ?_
  intro l dx hl hdx hne
  refine ⟨y, l, dx, S1, us ++ [], rfl, by rw [List.append_nil]; exact r1, fun a o e => ?_, hh1.same.free hl, by rw [C.K] at *; exact upd_same, ?_⟩
  · have e := hh1.same _ _ e
    rw [upd_ne (ne_of_none e hl), upd_ne (ne_of_none e hdx)]; exact e
  have old : ∀ a o, H1 a = some o → del (upd (upd H1 dx (.own l)) l (.ins C0 dx [])) l a = some o := fun a o e => by
    rw [del_ne (ne_of_none e hl), upd_ne (ne_of_none e hl), upd_ne (ne_of_none e hdx)]; exact e
  unfold lft at q1
  cases e : f y () with
  | stuck => rw [e] at q1; exact q1.elim
  | exc e b' =>
    rw [e] at q1
    exact fun c d S' H' k xa => q1 c d S' H' k.up (hh1.grow k.up k.same (fun a o e1 e2 => k.kp a o e1 (old a o e2) id) fun a ha hn => by
      obtain ⟨_, o, ho⟩ := E.th hh1.ef ha
      exact (k.kp a o hn (old a o ho) id).1) xa
  | ok r b' =>
    rw [e] at q1
    intro S' H' k hO
    refine ⟨rfl, q1 (.ref l) S' H' k.up (hh1.grow k.up k.same (fun a o e1 e2 => k.kp a o e1 (old a o e2) id) fun a ha hn => ?_) hO⟩
    obtain ⟨_, o, ho⟩ := E.th hh1.ef ha
    exact (k.kp a o hn (old a o ho) id).1
/-! ### None or a thing -/
def zopt (m : M τ α) : M τ (Option α) := zget some m
theorem z_some {e : Expr} {m : M τ α} {R : Rel α} (h : ZE G c E W Γ e m R) : ZE G c E W Γ e (zopt m) (rOpt R) := fun X C => pe_wk (h X C) fun σ H Q _ ⟨B, S, b, hh, q⟩ => tz_bnd hh q fun x b1 v S1 H1 s1 h1 r1 q1 => aft_ret h1 q1 r1
theorem z_none {e : Expr} {m : M τ Unit} {R : Rel α} (h : ZE G c E W Γ e m rNon) : ZE G c E W Γ e (zget (fun _ => none) m) (rOpt R) := fun X C => pe_wk (h X C) fun σ H Q _ ⟨B, S, b, hh, q⟩ => tz_bnd hh q fun x b1 v S1 H1 s1 h1 r1 q1 => aft_ret h1 q1 r1
structure NN (R : Rel α) : Prop where
  h : ∀ {x : α} {S : Hp} {v : V}, R.is x S v → v ≠ .non
theorem nn_str : NN rStr := ⟨fun h e => by rw [show _ = _ from h] at e; cases e⟩
theorem opt_non {R : Rel α} (nn : NN R) {x : Option α} {S : Hp} {v : V} (h : (rOpt R).is x S v) : decide (v = .non) = !x.isSome := by
  cases x with
  | none => have h : v = .non := h; rw [h]; rfl
  | some y => exact decide_eq_false (nn.h h)
section
variable {e : Expr} {m : M τ (Option α)} {R : Rel α} {pos : Pos} {j : Nat} {pp : Pos}
end
/-! ### how many a tuple of unlike things has -/
theorem z_lenT3 {R : Rel α} {R2 : Rel β} {R3 : Rel γ} {x : Str} {p pos : Pos} {e : Expr} {m : M τ (α × β × γ)} (bl : Blt G c x (.builtin "len")) (ha : ZE G c E W Γ e m (rT3 R R2 R3)) (hs : Star e [] := by intro _; rfl) : ZE G c E W Γ (.Call (.Name x p) [e] [] pos) (zget (fun _ => (3 : Int)) m) rInt :=
  z_b1 bl (R := rT3 R R2 R3) (r := fun xs H Q => ∃ p ys, xs = [.ref p] ∧ (SqL G.K H p ys ∨ SqT G.K H p ys) ∧ Q (.int ys.length) H) (fun X C => by rw [← C.K]; exact call_len_seq) (fun B σ S H b x v Q hh ⟨a, u, w, z, e1, e2, _⟩ q =>
    ⟨a, [u, w, z], by rw [e1], .inr (.of (hh.same _ _ e2)), aft_ret hh q rfl⟩) ha hs
end
end Zk

namespace Zk
open PySem L2
open PySem.Spec

theorem kytSS : KyT (dat2 datS datS) := ⟨fun x => by simp [dat2, datS, keyD, keyAll], fun x => ⟨_, rfl⟩, fun x => by simp [dat2, datS, nkD, nkAll, NestedKey.depth, NestedKey.depthAll]⟩
section
variable {τ α β γ δ κ ρ ρ' ι θ υ : Type} {G : Gx} {c : Sc} {E : Eff τ} {W : WX} {Γ Γ' : Env} {B : Bs} {σ σ' : St} {S S1 S' H H' : Hp} {b b' : τ} {L : Ls κ ρ}
variable [DecidableEq ι] {K : Ky G ι} {R2 : Rel α} {l : Addr} {xs : List (ι × α)}
/-- an instance whose field is a dict that became stable -/
theorem frz_obj {l0 C : Addr} {fs : β → List (Str × Pr)} {gs : γ → List (Str × Pr)} {x : β} {y : γ} (f : Str) (hf : (fs x).lookup f = some ((rRef l).pr ())) (hg : (gs y).lookup f = some ((rDct K R2).pr xs)) (hq : ∀ k, k ≠ f → (gs y).lookup k = (fs x).lookup k) :
    ∀ S v, (rDct K R2).is xs S (.ref l) → ((rObjA l0 C fs).pr x).p S v → ((rObjA l0 C gs).pr y).p S v := fun S v h ⟨e, hp⟩ => ⟨e, obj_imp (fun k hk => by
  by_cases z : k = f
  · subst z; rw [hg] at hk; cases hk
  · rw [← hq k z]; exact hk) (fun k p hk => by
  by_cases z : k = f
  · subst z
    rw [hg] at hk; cases hk
    exact ⟨_, hf, fun u hu => by have hu : u = .ref l := hu; rw [hu]; exact h⟩
  · rw [hq k z] at hk; exact ⟨p, hk, fun u hu => hu⟩) hp⟩
end
end Zk

namespace Zk
open PySem L2

section
variable {τ α β γ δ κ ρ ρ' ι θ υ : Type} {G : Gx} {c : Sc} {E : Eff τ} {W : WX} {Γ Γ' : Env} {B : Bs} {σ σ' : St} {S S1 S' H H' : Hp} {b b' : τ} {L : Ls κ ρ}
theorem sw_cell {elt : Expr} {gs : List Comprehension} {scope : Scope} {pos py : Pos} {y : Str} {l : Nat} {env : PySem.Env} (hy : env.scope.names.lookup y = some .cell) : swapsWith (.ListComp elt gs scope pos) (some (.Name y py)) l env = pure false := by
  have ky : env.kindOf y = some .cell := hy
  unfold swapsWith
  simp only [ky]
  have : (some NameKind.cell == some NameKind.local) = false := rfl
  simp only [this, Bool.and_false, Bool.false_and]
/-- y = [..], y read by a comprehension -/
theorem zs_setLcC {i : Nat} {y : Str} {py spos : Pos} {elt tg iter : Expr} {ifs : List Expr} {scope : Scope} {own : List (Str × Nat)} {pos : Pos} {m : M τ (List β)} {t : β → M τ Bool} {f : β → M τ γ} {R : Rel β} {R' : Rel γ} {Γ1 : β → Env} (l : Lc G c E W Γ elt tg iter ifs scope own m t f R R' Γ1) (n : Ns c i y) (hy : c.sc.names.lookup y = some .cell) (sx : Sub E Γ L.x) :
    ZS G c E W L Γ (.Assign [.Name y py] (.ListComp elt [⟨tg, iter, ifs, 0⟩] scope pos) spos) (zset (zlc t f m)) (fun v => Γ.set i (.st ((rLst R').pr v))) := fun X C =>
  ps_wk (ps_set C.set_hN (C.hi n.n) (by rw [C.sc]; exact n.l) (z_lc l X C) (sw_cell (by rw [C.sc]; exact hy)) (C.hf n)) fun D σ H hl ⟨B, S, b, hh, q⟩ => by
    refine tzS_bnd (R := rLst R') sx hh q fun x b1 v S1 H1 s1 h1 r1 q1 => ?_
    exact q1 _ S1 H1 (Same.refl _) (h1.set (C.lt n.n hl) r1)
section
variable {e : Expr} {m : M τ (Option α)} {R : Rel α} {pos : Pos} {j : Nat} {pp : Pos}
theorem zt_notN (nn : NN R) (h : ZE G c E W Γ e m (rOpt R)) : ZT G c E W Γ (.Compare e [.IsNot] [.Constant .none j pp] pos) (zget Option.isSome m) := zt_ofB fun {X} C => ⟨_, pt_cmp (pc_notN (h X C)) (by rfl), fun σ H Q ⟨B, S, b, hh, q⟩ =>
  tz_bnd hh q fun x b1 v S1 H1 s1 h1 r1 q1 => by rw [opt_non nn r1, Bool.not_not]; exact aft_ret h1 q1 rfl⟩
end
end
end Zk

namespace Zk
open PySem L2

section
variable {τ α β γ δ κ ρ ρ' ι θ υ : Type} {G : Gx} {c : Sc} {E : Eff τ} {W : WX} {Γ Γ' : Env} {B : Bs} {σ σ' : St} {S S1 S' H H' : Hp} {b b' : τ} {L : Ls κ ρ}
section
variable {ea eb e : Expr} {x : Str} {p pos : Pos}
/-! ### truths told apart by is; shown -/
/-! ### texts compared -/
/-! ### parts of rows: row[:2] + (e,) -/
/-! ### sorted of a dict's keys -/
end
/-! ### xs.insert(i, e) -/
def finsert (xs : List α) (m : M τ (Int × α)) : M τ (Fl (List α) κ ρ) := bnd m fun p => chk (xs.length < sizeLine ∧ 0 ≤ p.1 ∧ p.1 < 2 ^ 63) (ret (.nx (xs.take p.1.toNat ++ [p.2] ++ xs.drop p.1.toNat)))
theorem zs_ins {i : Nat} {x : Str} {e1 e2 : Expr} {p1 apos cpos pos : Pos} {R : Rel α} {xs : List α} {m : M τ (Int × α)} (n : Nm c i x) (hi : Γ[i]? = some (.ow (ownL R xs))) (h : ZA G c E W Γ [e1, e2] m (fun p => [rInt.pr p.1, R.pr p.2])) (sx : Sub E Γ L.x)
    (hb : BmEnv (.Name x p1) "insert" [e1, e2] apos cpos := by exact ⟨fun _ => rfl, fun _ => rfl, rfl, fun _ _ _ h => by cases h; exact ⟨rfl, rfl⟩⟩) :
    ZS G c E W L Γ (.Expr (.Call (.Attribute (.Name x p1) "insert" apos) [e1, e2] [] cpos) pos) (finsert xs m) (fun ys => Γ.set i (.ow (ownL R ys))) := fun X C =>
  ps_wk (ps_expr (pe_bm PySem.F.plainAttrs_list PySem.F.slot_list_insert PySem.F.type_list_insert mt_insert (pe_var (C.hi n.n) (by rw [C.sc]; exact n.v) n.d n.cd) (h X C) (hb.base _) (hb.few _) hb.line (hb.star _ _ _ rfl).1 (hb.star _ _ _ rfl).2) rfl) fun D σ H hl ⟨B, S, b, hh, q⟩ => by
    obtain ⟨l, vs, e1, e2, e3⟩ := own_at hh hi
    refine ⟨.ref l, e1, .inl ⟨rfl, vs, .of e2⟩, ?_⟩
    refine tzS_bndA (A := fun p : Int × α => [rInt.pr p.1, R.pr p.2]) sx hh q fun y b1 us S1 H1 s1 h1 r1 q1 => ?_
    match us, r1 with
    | [u, w], ⟨r, r', _⟩ =>
      obtain ⟨l', vs', e1', e2', e3'⟩ := own_at h1 hi
      rw [e1] at e1'; cases e1'
      unfold chk at q1
      by_cases hz : xs.length < sizeLine ∧ 0 ≤ y.1 ∧ y.1 < 2 ^ 63
      · rw [if_pos hz] at q1
        have r : u = .int y.1 := r
        subst r
        exact ⟨l, vs', y.1, w, rfl, rfl, e2', by rw [← e3'.length]; exact hz.1, hz.2.1, hz.2.2, q1 σ S1 _ (Same.refl _) (h1.chg hi ownL_feet e1 ⟨l, _, rfl, fun _ => Iff.rfl, upd_same, All2.append (All2.append (e3'.take _) (show All2 (fun x v => R.is x S1 v) [y.2] [w] from ⟨r', trivial⟩)) (e3'.drop _)⟩)⟩
      · rw [if_neg hz] at q1; exact q1.elim
end
end Zk

namespace Zk
open PySem L2 PyProof.Rows

section
variable {τ α β γ δ κ ρ ρ' ι θ υ : Type} {G : Gx} {c : Sc} {E : Eff τ} {W : WX} {Γ Γ' : Env} {B : Bs} {σ σ' : L2.St} {S S1 S' H H' : Hp} {b b' : τ} {L : Ls κ ρ}
end
end Zk

namespace Zk
open PySem L2

section
variable {τ α β γ δ κ ρ ρ' ι θ υ : Type} {G : Gx} {c : Sc} {E : Eff τ} {W : WX} {Γ Γ' : Env} {B : Bs} {σ σ' : St} {S S1 S' H H1 H' : Hp} {b b' : τ} {L : Ls κ ρ}
/-! ### what is fresh, kept by a ghost slot behind all others -/
/-! ### defs that change what is in ghost slots: with an effect, and what they hand back -/
/-! ### calls of them -/
section
variable {g : Bool} {x : Str} {k : Nat} {ps : List Str} {A : θ → α → List Pr} {gs : θ → γ → List PrO} {R : Rel ρ'} {e : Expr} {es : List Expr} {m : M τ α} {p cpos pos : Pos} {q : θ} {idx : List Nat} {y : γ}
end
/-- what is known, written out -/
theorem zb_eq {Γ' : Env} {st : List Stmt} {m : M τ (Fl α κ ρ)} {Γn : α → Env} (h : Γ = Γ') (h1 : ZB G c E W L Γ' st m Γn) : ZB G c E W L Γ st m Γn := h ▸ h1
end
end Zk

namespace L2
open PySem PySem.Spec PyProof.Rows
section
variable {X : Cx}
end
end L2
namespace Zk
open PySem L2

section
variable {τ α β γ δ κ ρ ρ' ι θ υ : Type} {G : Gx} {c : Sc} {E : Eff τ} {W : WX} {Γ Γ' : Env} {B : Bs} {σ σ' : St} {S S1 S' H H1 H' : Hp} {b b' : τ} {L : Ls κ ρ}
/-! ### None or a thing: the thing -/
def munq : Option α → M τ α
  | some x => ret x
  | none => stk
theorem z_unq {e : Expr} {m : M τ (Option α)} {R : Rel α} (h : ZE G c E W Γ e m (rOpt R)) : ZE G c E W Γ e (zapp munq m) R := fun X C => pe_wk (h X C) fun σ H Q _ ⟨B, S, b, hh, q⟩ =>
  ⟨B, S, b, hh, aft_bnd_ret (fun x => by cases x with | none => exact .inr rfl | some y => exact .inl ⟨y, rfl, fun _ _ h => h⟩) q⟩
/-! ### zip -/
section
variable {e e2 : Expr} {elts : List Expr} {kk : Nat} {tpos p pos : Pos} {m : M τ (List α × List β)} {R : Rel α} {R2 : Rel β}
end
/-! ### how many a pair has -/
/-! ### if f(..) is None, where f changes own dicts -/
section
variable {Γ' : γ → Env} {R : Rel ρ'} {e : Expr} {a d : List Stmt} {m : M τ (Option ρ' × γ)} {n o : γ → M τ (Fl α κ ρ)} {Γn : α → Env} {pos pp pq : Pos} {j : Nat}
end
/-! ### sorted(d, reverse=True) -/
end
end Zk

namespace Zk
open PySem L2
/-! ### more keys -/
section
variable {τ α β γ δ κ ρ ι θ : Type} {G : Gx} {c : Sc} {E : Eff τ} {W : WX} {Γ Γ' : Env} {B : Bs} {σ : St} {S S1 S' H H' : Hp} {b b' : τ} {L : Ls κ ρ}
/-! ### xs.index(y) -/
/-! ### try, where nothing is raised -/
theorem CtxOk.nox {X : Cx} (C : CtxOk G c W X) : CtxOk G c Wf X.nox where
  prog := C.prog
  w := C.w
  K := C.K
  mg := C.mg
  base := C.base
  N := C.N
  nd := C.nd
  sc := C.sc
  calm := C.calm
  room := C.room
  gds := C.gds
  takes := takes0
  owns := PassesOwn.never
  fx := C.fx
  isfn := C.isfn
end
end Zk

namespace Zk
open PySem L2
/-! ### {k: v}, the key a tuple -/
section
variable {X : Cx} {k v : Expr} {pos : Pos} {tk tv : TE}
end
section
variable {τ α β γ δ κ ρ ι θ : Type} {G : Gx} {c : Sc} {E : Eff τ} {W : WX} {Γ Γ' : Env} {B : Bs} {σ : St} {S S1 S' H H' : Hp} {b b' : τ} {L : Ls κ ρ}
variable [DecidableEq ι] {R : Rel ι} {D : DatR R} {R2 : Rel α}
end
/-! ### more keys: standings -/
end Zk

namespace Zk
open PySem L2

section
variable {τ α β γ δ κ ρ ρ' ι θ υ β1 β2 : Type} {G : Gx} {c : Sc} {E : Eff τ} {W : WX} {Γ Γ' : Env} {B : Bs} {σ σ' : L2.St} {S S1 S' H H1 H' : Hp} {b b' : τ} {L : Ls κ ρ}
/-! ### less told of a thing -/
/-! ### a thing that two things of its own hang on -/
variable {Rr : Addr → Addr → Rel α} {P1 : Addr → β1 → PrO} {P2 : Addr → β2 → PrO}
/-! ### defs that hand back what is new -/
/-! ### calls of them -/
end
end Zk

namespace Zk
open PySem L2

section
variable {τ α β γ δ κ ρ ι θ : Type} {G : Gx} {c : Sc} {E : Eff τ} {W : WX} {Γ Γ' : Env} {B : Bs} {σ : St} {S S1 S' H H' : Hp} {b b' : τ} {L : Ls κ ρ}
/-! ### xs.pop(), alone in its row -/
/-! ### xs or ys -/
end
end Zk

namespace Zk
open PySem L2 PySem.Spec PyProof.Rows
/-! ### sorted(d), d's keys tuples -/
section
variable {X : Cx} {β : Type}
/-! ### len(d) -/
end
section
variable {τ α β γ δ κ ρ ι θ : Type} {G : Gx} {c : Sc} {E : Eff τ} {W : WX} {Γ Γ' : Env} {B : Bs} {σ : L2.St} {S S1 S' H H' : Hp} {b b' : τ} {L : Ls κ ρ}
variable [DecidableEq ι] {R : Rel ι} {D : DatR R} {R2 : Rel α}
end
end Zk

namespace Zk
open PySem L2
/-! ### own __len__ -/
section
variable {prog : Program} {w : World} {A : Around} {Ex : Value → Shared → Prop} {s : Shared} {K : PySem.W.Frag} {x C f : Addr} {ox : Obj} {od : Option Obj}
end
variable {τ α β γ δ κ ρ ι θ : Type} {G : Gx} {c : Sc} {E : Eff τ} {W : WX} {Γ Γ' : Env} {B : Bs} {σ : L2.St} {S S1 S' H H' : Hp} {b b' : τ} {L : Ls κ ρ}
structure LnAt (g : Bool) (G : Gx) (C : Addr) (k : Nat) (ps : List Str) (sp : Sp) : Prop where
  ex : ∃ f fd, PySem.W.findIn G.K (.ref C) "__len__" = some (some (.ref f)) ∧ PySem.W.isFn G.K (.ref f) = true ∧ Binds G.K fd ps [] ∧ FnG g G.P G.w G.K G.mg G.base k f fd ps sp
/-! ### what hangs on a record becomes stable -/
end Zk

namespace Zk
open PySem L2 PyProof.Rows
/-! ### zip of any two things that are drawn from -/
/-- an iterator at it over l: what is known of a heap where i things are drawn; what is drawn -/
structure Drw (it l : Addr) (P : Heap → Nat → Prop) (get : Nat → Option Value) : Prop where
  item : ∀ {prog : Program} {w : World} {A : Around} {E : Value → Shared → Prop} {s : Shared} {i : Nat} {x : Value} {Q : Value → Shared → Prop}, P s.heap i → get i = some x → (∀ h', P h' (i + 1) → Heap.SameBut it s.heap h' → Q x { s with heap := h' }) → wpAny (model prog w) A (Builtin.SmallTypes.nextOf (.ref it)) Q E s
  stop : ∀ {prog : Program} {w : World} {A : Around} {E : Value → Shared → Prop} {s : Shared} {i : Nat} {Q : Value → Shared → Prop}, A.handled = none → P s.heap i → get i = none → (∀ h' e, Heap.ExtBut it s.heap h' → (∃ o, h'.get? e = some o ∧ o.cls = .type "StopIteration") → E (.ref e) { s with heap := h' }) → wpAny (model prog w) A (Builtin.SmallTypes.nextOf (.ref it)) Q E s
  keep : ∀ {h h' : Heap} {i : Nat}, P h i → (∀ o, h.get? it = some o → h'.get? it = some o) → (∀ o, h.get? l = some o → h'.get? l = some o) → P h' i
  lt : ∀ {h : Heap} {i : Nat}, P h i → it < h.objs.size
section
variable {prog : Program} {w : World} {A : Around} {E : Value → Shared → Prop} {s : Shared} {z TI TO i1 i2 l1 l2 : Addr} {k1 k2 : Nat} {P1 P2 : Heap → Nat → Prop} {g1 g2 : Nat → Option Value} {x y a b : Value}
end
/-! ### zip of a list and a tuple -/
/-! ### in a walk -/
section
variable {τ α β γ δ κ ρ ι θ : Type} {G : Gx} {c : Sc} {E : Eff τ} {W : WX} {Γ : Env}
variable {e e2 : Expr} {m : M τ (List α × List β)} {R : Rel α} {R2 : Rel β} {p pos tpos : Pos} {elts : List Expr} {kk : Nat}
end
end Zk

/-! ### a set of the names of a list: how many are apart -/
namespace Zk
open PySem L2 PySem.Spec PyProof.Rows
section
variable {prog : Program} {w : World} {A : Around} {R : Result → Shared → Prop} {I : Addr} {fp wr : List Addr} {G : Array GenState → Array GenState → Prop} {n : Nat} {P : Nat → Value → Prop} {St : Nat → Shared → Prop}
end
section
variable {prog : Program} {w : World} {A : Around} {E : Value → Shared → Prop} {s : Shared}
set_option maxHeartbeats 3200000 in
end
section
variable {τ : Type} {G : Gx} {c : Sc} {E : Eff τ} {W : WX} {Γ : Env}
end
end Zk

namespace Zk
open PySem L2
/-! ### try .. except X: return a constant -/
section
variable {τ α β γ δ κ ρ ι θ : Type} {G : Gx} {c : Sc} {E : Eff τ} {W : WX} {Γ Γ' : Env} {B : Bs} {σ : L2.St} {S S1 S' H H' : Hp} {b b' : τ} {L : Ls κ ρ}
theorem CtxOk.tr {X : Cx} (C : CtxOk G c W X) {W' : WX} {pn : List (Addr × Obj)} {xe : Value → Shared → Prop} (tk : Takes (X.tr pn xe) W') (ow : PassesOwn (model X.prog X.w) X.A X.env xe) : CtxOk G c W' (X.tr pn xe) where
  prog := C.prog
  w := C.w
  K := C.K
  mg := C.mg
  base := C.base
  N := C.N
  nd := C.nd
  sc := C.sc
  calm := C.calm
  room := C.room
  gds := C.gds
  takes := tk
  owns := ow
  fx := C.fx
  isfn := C.isfn
theorem cat_nil {C0 : Addr} : ∀ n b C', (fun _ : Str => (none : Option Bool)) n = some b → G.mg n = some (.ref C') → PySem.W.exmOne G.K (.ref C') (.ref C0) = some b := fun _ _ _ h => by cases h
theorem cat_cons {C0 D0 : Addr} {n0 : Str} {b0 : Bool} {cat : Str → Option Bool} (hg : G.mg n0 = some (.ref D0)) (hx : PySem.W.exmOne G.K (.ref D0) (.ref C0) = some b0) (h : ∀ n b C', cat n = some b → G.mg n = some (.ref C') → PySem.W.exmOne G.K (.ref C') (.ref C0) = some b) :
    ∀ n b C', (fun n => if n = n0 then some b0 else cat n) n = some b → G.mg n = some (.ref C') → PySem.W.exmOne G.K (.ref C') (.ref C0) = some b := fun n b C' e k => by
  dsimp only at e
  split at e
  · rename_i z
    subst z
    cases e
    rw [hg] at k
    cases k
    exact hx
  · exact h n b C' e k
end
end Zk

namespace Zk
open PySem L2
/-! ### defs with an argument that only a keyword tells -/
structure FnAtK (g : Bool) (G : Gx) (x : Str) (k n : Nat) (ps ks : List Str) (sp : Sp) (gV : List V → List V → List V) : Prop where
  ex : ∃ f fd gg, G.mg x = some (.ref f) ∧ PySem.W.keepIn G.K (.ref f) = true ∧ KBn G.K fd ps n ks gg gV ∧ FnG g G.P G.w G.K G.mg G.base k f fd ps sp
section
variable {X : Cx} {k n : Nat} {f : Addr} {fd : FuncData} {ps ks : List Str} {sp : Sp} {Ex : St → XK} {x : Str} {p pos : Pos} {e : Expr} {es : List Expr} {kws : List Keyword} {t tk : TA} {gg : List Value → List Value → List Value} {gV : List V → List V → List V} {g : Bool}
end
section
variable {τ α β γ δ κ ρ ι θ : Type} {G : Gx} {c : Sc} {E : Eff τ} {W : WX} {Γ Γ' : Env} {B : Bs} {σ : L2.St} {S S1 S' H H' : Hp} {b b' : τ} {L : Ls κ ρ}
end
end Zk

namespace Zk
open PySem L2
/-! ### x in xs, lists in lists -/
section
variable {τ α β γ δ κ ρ ι θ : Type} {G : Gx} {c : Sc} {E : Eff τ} {W : WX} {Γ Γ' : Env} {B : Bs} {σ : L2.St} {S S1 S' H H' : Hp} {b b' : τ} {L : Ls κ ρ}
variable {ea eb : Expr} {pos : Pos}
end
end Zk

namespace Zk
open PySem L2
section
variable {τ α β γ δ κ ρ ι θ : Type} {G : Gx} {c : Sc} {E : Eff τ} {W : WX} {Γ Γ' : Env} {B : Bs} {σ : L2.St} {S S1 S' H H' : Hp} {b b' : τ} {L : Ls κ ρ}
end
end Zk

namespace Zk
open PySem L2
/-! ### a thing of one of two kinds -/
section
variable {τ α β γ δ κ ρ ι θ : Type} {G : Gx} {c : Sc} {E : Eff τ} {W : WX} {Γ Γ' : Env} {B : Bs} {σ : St} {S S1 S' H H' : Hp} {b b' : τ} {L : Ls κ ρ}
def rSum (R1 : Rel α) (R2 : Rel β) : Rel (α ⊕ β) := ⟨fun x S v => match x with | .inl y => R1.is y S v | .inr y => R2.is y S v, fun {x _ _ _} s h => by
  cases x with
  | inl y => exact R1.mono s h
  | inr y => exact R2.mono s h⟩
theorem z_inl {R1 : Rel α} {R2 : Rel β} {e : Expr} {m : M τ α} (h : ZE G c E W Γ e m R1) : ZE G c E W Γ e (zget Sum.inl m) (rSum R1 R2) := fun X C => pe_wk (h X C) fun σ H Q _ ⟨B, S, b, hh, q⟩ =>
  tz_bnd hh q fun x b1 v S1 H1 s1 h1 r1 q1 => aft_ret h1 q1 r1
theorem z_inr {R1 : Rel α} {R2 : Rel β} {e : Expr} {m : M τ β} (h : ZE G c E W Γ e m R2) : ZE G c E W Γ e (zget Sum.inr m) (rSum R1 R2) := fun X C => pe_wk (h X C) fun σ H Q _ ⟨B, S, b, hh, q⟩ =>
  tz_bnd hh q fun x b1 v S1 H1 s1 h1 r1 q1 => aft_ret h1 q1 r1
/-- taken as a thing of the first kind, of the second one -/
def munl : α ⊕ β → M τ α
  | .inl x => ret x
  | .inr _ => stk
theorem z_unl {R1 : Rel α} {R2 : Rel β} {e : Expr} {m : M τ (α ⊕ β)} (h : ZE G c E W Γ e m (rSum R1 R2)) : ZE G c E W Γ e (zapp munl m) R1 := fun X C => pe_wk (h X C) fun σ H Q _ ⟨B, S, b, hh, q⟩ =>
  ⟨B, S, b, hh, aft_bnd_ret (fun x => by cases x with | inr _ => exact .inr rfl | inl y => exact .inl ⟨y, rfl, fun _ _ h => h⟩) q⟩
/-! places of tuples, if there are such -/
structure TupAtP (R : Rel α) (k : Int) (f : α → Option β) (R2 : Rel β) : Prop where
  h : ∀ {x : α} {y : β} {S : Hp} {v : V}, R.is x S v → f x = some y → ∃ a vs u, v = .ref a ∧ S a = some (.tup vs) ∧ atI vs k = some u ∧ R2.is y S u
theorem tp_yes {R : Rel α} {k : Int} {f : α → β} {R2 : Rel β} (t : TupAt R k f R2) : TupAtP R k (fun x => some (f x)) R2 := ⟨fun r e => by cases e; exact t.h r⟩
theorem tp_sum {R1 : Rel α} {R2 : Rel γ} {k : Int} {f : α → Option β} {g : γ → Option β} {R : Rel β} (t : TupAtP R1 k f R) (u : TupAtP R2 k g R) : TupAtP (rSum R1 R2) k (Sum.elim f g) R := ⟨fun {x y S v} r e => by
  cases x with
  | inl x => exact t.h r e
  | inr x => exact u.h r e⟩
def mopt : Option α → M τ α
  | some x => ret x
  | none => stk
def zgetP (f : α → Option β) (m : M τ α) : M τ β := bnd m fun x => mopt (f x)
theorem z_atP {ea : Expr} {j : Nat} {pos p2 : Pos} {R : Rel α} {R2 : Rel β} {k : Int} {f : α → Option β} {ma : M τ α} (t : TupAtP R k f R2) (ha : ZE G c E W Γ ea ma R) (hs : PIx (.Constant (.int k) j p2) := by intro _ _; rfl) : ZE G c E W Γ (.Subscript ea (.Constant (.int k) j p2) pos) (zgetP f ma) R2 := fun X C =>
  pe_wk (pe_ix ix_tup (ha X C) pe_int hs) fun σ H Q _ ⟨B, S, b, hh, q⟩ => by
    refine tz_bnd hh q fun x b1 v S1 H1 s1 h1 r1 q1 => ?_
    cases e : f x with
    | none => rw [e] at q1; exact q1.elim
    | some y =>
      rw [e] at q1
      obtain ⟨a, vs, u, e1, e2, e3, e4⟩ := t.h r1 e
      exact ⟨a, vs, k, u, e1, rfl, .of (h1.same _ _ e2), e3, aft_ret h1 q1 e4⟩
/-! as data -/
structure DatW (R : Rel α) where
  d : α → PyData
  n : Nat
  dep : ∀ x, (d x).depth ≤ n
  dp : ∀ {K : PySem.W.Frag} {x : α} {S H : Hp} {v : V}, Same S H → R.is x S v → Dp K H v (d x)
def DatR.w {R : Rel α} (D : DatR R) : DatW R := ⟨D.d, D.n, D.dep, D.dp⟩
def datU {R1 : Rel α} {R2 : Rel β} (D : DatW R1) (F : DatW R2) : DatW (rSum R1 R2) := ⟨Sum.elim D.d F.d, max D.n F.n, fun x => by
  cases x with
  | inl x => exact Nat.le_trans (D.dep x) (Nat.le_max_left ..)
  | inr x => exact Nat.le_trans (F.dep x) (Nat.le_max_right ..), fun {K x S H v} s r => by
  cases x with
  | inl x => exact D.dp s r
  | inr x => exact F.dp s r⟩
section
variable {ea eb : Expr} {pos : Pos} {R1 : Rel α} {R2 : Rel β}
end
def freprW {R : Rel α} (D : DatW R) (x : α) : M τ Str := chk ((D.d x).showable = true ∧ (D.d x).canLay0 = true ∧ D.n ≤ 60 ∧ (D.d x).shown.length ≤ sizeLine) (ret (D.d x).shown)
theorem rf_sum {R1 : Rel α} {R2 : Rel β} (f : RefR R1) (g : RefR R2) : RefR (rSum R1 R2) := ⟨fun {x _ _} r => by
  cases x with
  | inl x => exact f.h r
  | inr x => exact g.h r⟩
theorem z_reprW {R : Rel α} (D : DatW R) (rf : RefR R) {x : Str} {p pos : Pos} {e : Expr} {m : M τ α} (hgd : c.gd = true) (bl : Blt G c x (.builtin "repr")) (ha : ZE G c E W Γ e m R) (hs : Star e [] := by intro _; rfl) : ZE G c E W Γ (.Call (.Name x p) [e] [] pos) (zapp (freprW D) m) rStr :=
  z_b1 bl (R := R) (r := rReprD G.K) (fun X C => by rw [← C.K]; exact cr_reprD (C.gds hgd) C.room.units) (fun B σ S H b x v Q hh hx q => by
    obtain ⟨⟨h1, h2, h3, h4⟩, q⟩ := aft_chk q
    obtain ⟨a, rfl⟩ := rf.h hx
    exact ⟨a, _, rfl, D.dp hh.same hx, h1, PyData.hasDict_of_canLay _ h2, Nat.le_trans (D.dep x) h3, h4, aft_ret hh q rfl⟩) ha hs
end
end Zk

namespace Zk
open PySem L2
/-! ### try .. except X as e, suites that read e and tell a thing -/
section
variable {τ α β γ δ κ ρ ι θ : Type} {G : Gx} {c : Sc} {E : Eff τ} {W : WX} {Γ Γ' : Env} {B : Bs} {σ : L2.St} {S S1 S' H H' : Hp} {b b' : τ} {L : Ls κ ρ}
/-- what stands at a suite's beginning: e (the name i) is the exception x -/
structure Su (G : Gx) (E : Eff τ) (Γ : Env) (i : Nat) (a : Addr) (cls : Value) (d : Option Addr) (x : Exc) (B : Bs) (S : Hp) (b : τ) (σ : L2.St) (H : Hp) : Prop where
  hh : Hold E B Γ b σ S H
  xa : XAt G x H cls d
  nm : i = 999999 ∨ σ[i]? = some (some (.ref a))
structure SuC (G : Gx) (c : Sc) (W : WX) (X X' : Cx) (a : Addr) (oe : Obj) (cls : Value) (d : Option Addr) : Prop where
  C : CtxOk G c W X
  zc : Zc cls d oe
  fl : ∃ vs, oe.data = .fields vs
  pn : ∃ pn, X' = X.suite a ((a, oe) :: pn)
/-- a scalar of e -/
def HA (G : Gx) (c : Sc) (E : Eff τ) (W : WX) (Γ : Env) (i : Nat) (e : Expr) (f : Exc → Option β) (v : β → V) : Prop :=
  ∀ X X' a oe cls d, SuC G c W X X' a oe cls d → PE X' e (fun σ H Q => ∃ B S b x y, Su G E Γ i a cls d x B S b σ H ∧ f x = some y ∧ Q (v y) H)
def HAs (G : Gx) (c : Sc) (E : Eff τ) (W : WX) (Γ : Env) (i : Nat) (es : List Expr) (f : Exc → Option (List V)) : Prop :=
  ∀ X X' a oe cls d, SuC G c W X X' a oe cls d → PA X' es (fun σ H Q => ∃ B S b x y, Su G E Γ i a cls d x B S b σ H ∧ f x = some y ∧ Q y H)
/-- a thing made of e -/
def HE (G : Gx) (c : Sc) (E : Eff τ) (W : WX) (Γ : Env) (i : Nat) (e : Expr) (f : Exc → Option β) (R : Rel β) : Prop :=
  ∀ X X' a oe cls d, SuC G c W X X' a oe cls d → PE X' e (fun σ H Q => ∃ B S b x y, Su G E Γ i a cls d x B S b σ H ∧ f x = some y ∧ ∀ v S1 H1, Same S S1 → Hold E B Γ b σ S1 H1 → XAt G x H1 cls d → R.is y S1 v → Q v H1)
/-- a test -/
def HT (G : Gx) (c : Sc) (E : Eff τ) (W : WX) (Γ : Env) (i : Nat) (e : Expr) (f : Exc → Option Bool) : Prop :=
  ∀ X X' a oe cls d, SuC G c W X X' a oe cls d → PT X' e (fun σ H Q => ∃ B S b x y, Su G E Γ i a cls d x B S b σ H ∧ f x = some y ∧ ∀ S1 H1, Same S S1 → Su G E Γ i a cls d x B S1 b σ H1 → Q y H1)
def HW (G : Gx) (c : Sc) (E : Eff τ) (W : WX) (Γ : Env) (i : Nat) (e : Expr) (f : Exc → Option Bool) : Prop :=
  ∀ X X' a oe cls d, SuC G c W X X' a oe cls d → PW X' e (fun σ H Q => ∃ B S b x y, Su G E Γ i a cls d x B S b σ H ∧ f x = some y ∧ ∀ S1 H1, Same S S1 → Su G E Γ i a cls d x B S1 b σ H1 → Q y H1)
/-- a suite -/
def HB (G : Gx) (c : Sc) (E : Eff τ) (W : WX) (L : Ls κ ρ) (Γ : Env) (i : Nat) (sts : List Stmt) (m : Exc → M τ (Fl α κ ρ)) (Γn : α → Env) : Prop :=
  ∀ X X' a oe cls d, SuC G c W X X' a oe cls d → PSs X' sts (fun D σ H => ∃ B S b x, Su G E Γ i a cls d x B S b σ H ∧ aftS G E W L B S Γn D (m x b))
def HS (G : Gx) (c : Sc) (E : Eff τ) (W : WX) (L : Ls κ ρ) (Γ : Env) (i : Nat) (st : Stmt) (m : Exc → M τ (Fl α κ ρ)) (Γn : α → Env) : Prop :=
  ∀ X X' a oe cls d, SuC G c W X X' a oe cls d → PS X' st (fun D σ H => ∃ B S b x, Su G E Γ i a cls d x B S b σ H ∧ aftS G E W L B S Γn D (m x b))
section
variable {i : Nat} {f : Exc → Option β} {v : β → V} {e : Expr}
theorem ha_k {k : β} (hp : ∀ X : Cx, PE X e fun σ H Q => Q (v k) H) : HA G c E W Γ i e (fun _ => some k) v := fun X X' a oe cls d C => pe_wk (hp X') fun σ H Q _ ⟨B, S, b, x, y, _, e, q⟩ => by cases e; exact q
theorem ha_int {k : Int} {j : Nat} {pos : Pos} : HA G c E W Γ i (.Constant (.int k) j pos) (fun _ => some k) V.int := ha_k fun X => pe_int
theorem ha_str {k : Str} {j : Nat} {pos : Pos} : HA G c E W Γ i (.Constant (.str k) j pos) (fun _ => some k) V.str := ha_k fun X => pe_str
/-- e.f -/
structure FldC (G : Gx) (n fld : Str) : Prop where
  h : ∃ C, G.mg n = some (.ref C) ∧ XfC G.K C ∧ PySem.W.findIn G.K (.ref C) fld = some none
def xfld (ns : List Str) (fld : Str) (un : V → Option β) (x : Exc) : Option β := if x.cls ∈ ns then (x.fs.lookup fld).bind un else none
def unI : V → Option Int | .int k => some k | _ => none
def unS : V → Option Str | .str k => some k | _ => none
theorem unI_ok : ∀ w y, unI w = some y → w = .int y := fun w y h => by cases w <;> simp_all [unI]
theorem unS_ok : ∀ w y, unS w = some y → w = .str y := fun w y h => by cases w <;> simp_all [unS]
theorem ha_fld {ns : List Str} {fld n : Str} {un : V → Option β} {np pos : Pos} (nm : Nm c i n) (hi : i ≠ 999999) (hu : ∀ w y, un w = some y → w = v y) (hf : ∀ k ∈ ns, FldC G k fld)
    (hb : ∀ env : PySem.Env, attributeBase (.Name n np) fld env (eval (.Name n np) env) = eval (.Name n np) env := by intro _; rfl) : HA G c E W Γ i (.Attribute (.Name n np) fld pos) (xfld ns fld un) v := fun X X' a oe cls d ⟨C, zc, fl, pn, ep⟩ => by
  subst ep
  refine ⟨fun pins s σ H Q I ⟨B, S, b, x, y, su, e, q⟩ => ?_⟩
  unfold xfld at e
  by_cases hk : x.cls ∈ ns
  case neg => rw [if_neg hk] at e; cases e
  rw [if_pos hk] at e
  obtain ⟨D, h1, h2, h3⟩ := (hf _ hk).h
  obtain ⟨C1, g1, g2, g3⟩ := su.xa
  have : C1 = D := by rw [h1] at g1; cases g1; rfl
  subst this
  rw [← C.K] at h2 h3
  have pv : PE (X.suite a ((a, oe) :: pn)) (.Name n np) (tVar i) := pe_var (C.hi nm.n) (by show Vis X.env.scope _; rw [C.sc]; exact nm.v) nm.d nm.cd
  refine (pe_xf (n := fld) (pos := pos) h2 h3 zc fl pv (hb X.env)).run pins s σ H Q I ⟨.ref a, su.nm.resolve_left hi, rfl, g2, ?_⟩
  cases l : x.fs.lookup fld with
  | none => rw [l] at e; cases e
  | some w =>
    rw [l] at e
    rcases g3 with ⟨g3, _⟩ | ⟨dd, g3, g4⟩
    · rw [g3] at l; cases l
    · exact ⟨dd, x.fs, w, g3, g4, l, by rw [hu w y e]; exact q⟩
theorem has_nil : HAs G c E W Γ i [] (fun _ => some []) := fun X X' a oe cls d C => pa_wk pa_nil fun σ H Q _ ⟨B, S, b, x, y, _, e, q⟩ => by cases e; exact q
def hcons (f : Exc → Option V) (g : Exc → Option (List V)) : Exc → Option (List V) := fun x => (f x).bind fun u => (g x).bind fun w => some (u :: w)
theorem has_cons {es : List Expr} {g : Exc → Option (List V)} (h : HA G c E W Γ i e f v) (k : HAs G c E W Γ i es g) (hs : Star e es := by intro _; rfl) : HAs G c E W Γ i (e :: es) (hcons (fun x => (f x).map v) g) := fun X X' a oe cls d C =>
  pa_wk (pa_cons (h X X' a oe cls d C) (k X X' a oe cls d C) (hs X'.env)) fun σ H Q _ ⟨B, S, b, x, y, su, e, q⟩ => by
    unfold hcons at e
    dsimp only at e
    cases e1 : f x with
    | none => rw [e1] at e; cases e
    | some u =>
      cases e2 : g x with
      | none => rw [e1, e2] at e; cases e
      | some w =>
        rw [e1, e2] at e
        cases e
        exact ⟨B, S, b, x, u, su, e1, B, S, b, x, w, su, e2, q⟩
/-! things -/
theorem xat_new {x : Exc} {cls : Value} {d : Option Addr} {p : Addr} {o : HO} (h : XAt G x H cls d) (hp : H p = none) : XAt G x (upd H p o) cls d := by
  obtain ⟨C, h1, h2, h3⟩ := h
  refine ⟨C, h1, h2, h3.imp id fun ⟨dd, e, k⟩ => ⟨dd, e, ?_⟩⟩
  rw [upd_ne (fun z => by rw [z, hp] at k; cases k)]
  exact k
theorem he_map {R : Rel β} {R2 : Rel γ} {g : β → γ} (h : HE G c E W Γ i e f R) (hr : ∀ y S v, R.is y S v → R2.is (g y) S v) : HE G c E W Γ i e (fun x => (f x).map g) R2 := fun X X' a oe cls d C => pe_wk (h X X' a oe cls d C) fun σ H Q _ ⟨B, S, b, x, y, su, e, q⟩ => by
  dsimp only at e
  cases e1 : f x with
  | none => rw [e1] at e; cases e
  | some z =>
    rw [e1] at e
    cases e
    exact ⟨B, S, b, x, z, su, e1, fun v S1 H1 s hh xa r => q v S1 H1 s hh xa (hr z S1 v r)⟩
theorem he_tup2 {u w : Expr} {R1 : Rel β} {R2 : Rel γ} {f1 : Exc → Option β} {f2 : Exc → Option γ} {v1 : β → V} {v2 : γ → V} {k} {pos : Pos} (h : HA G c E W Γ i u f1 v1) (h2 : HA G c E W Γ i w f2 v2) (r1 : ∀ y S, R1.is y S (v1 y)) (r2 : ∀ y S, R2.is y S (v2 y)) (hs : Star u [w] := by intro _; rfl) (hs2 : Star w [] := by intro _; rfl) :
    HE G c E W Γ i (.Tuple [u, w] k pos) (fun x => (f1 x).bind fun y => (f2 x).bind fun z => some (y, z)) (rT2 R1 R2) := fun X X' a oe cls d C =>
  pe_wk (pe_tup ((has_cons h (has_cons h2 has_nil hs2) hs) X X' a oe cls d C)) fun σ H Q _ ⟨B, S, b, x, y, su, e, q⟩ => by
    dsimp only at e
    cases e1 : f1 x with
    | none => rw [e1] at e; cases e
    | some y1 =>
      cases e2 : f2 x with
      | none => rw [e1, e2] at e; cases e
      | some y2 =>
        rw [e1, e2] at e
        cases e
        refine ⟨B, S, b, x, [v1 y1, v2 y2], su, by unfold hcons; dsimp only; rw [e1]; dsimp only [Option.map_some, Option.bind_some]; rw [e2]; rfl, line4 (by simp), fun p hp => ?_⟩
        have hn := su.hh.new (o := .tup [v1 y1, v2 y2]) hp
        exact q (.ref p) _ _ (same_new (su.hh.same.free hp)) hn (xat_new su.xa hp) ⟨p, v1 y1, v2 y2, rfl, upd_same, r1 _ _, r2 _ _⟩
/-! tests -/
theorem ht_val {f : Exc → Option Bool} (h : HA G c E W Γ i e f V.bl) (he : ∀ (env : PySem.Env) whole, isTrue e env whole = (do let v ← whole; standAt e.pos; holding [v] (truthy v)) := by intro _ _; rfl) : HT G c E W Γ i e f := fun X X' a oe cls d C =>
  pt_wk (pt_val (h X X' a oe cls d C) (he X'.env)) fun σ H Q _ ⟨B, S, b, x, y, su, e, q⟩ => ⟨B, S, b, x, y, su, e, y, rfl, q S H (Same.refl _) su⟩
theorem ht_not {f : Exc → Option Bool} {pos : Pos} (h : HT G c E W Γ i e f) : HT G c E W Γ i (.UnaryOp .Not e pos) (fun x => (f x).map not) := fun X X' a oe cls d C => pt_wk (pt_not (h X X' a oe cls d C)) fun σ H Q _ ⟨B, S, b, x, y, su, e, q⟩ => by
  dsimp only at e
  cases e1 : f x with
  | none => rw [e1] at e; cases e
  | some z => rw [e1] at e; cases e; exact ⟨B, S, b, x, z, su, e1, q⟩
theorem hw_t {f : Exc → Option Bool} (h : HW G c E W Γ i e f) : HT G c E W Γ i e f := fun X X' a oe cls d C => (h X X' a oe cls d C).pt
theorem hw_or1 {f : Exc → Option Bool} {pos : Pos} (h : HT G c E W Γ i e f) : HW G c E W Γ i (.BoolOp .Or [e] pos) f := fun X X' a oe cls d C => pw_or1 (h X X' a oe cls d C)
def hor (f g : Exc → Option Bool) (x : Exc) : Option Bool := (f x).bind fun y => if y = true then some true else g x
theorem hw_or {u w : Expr} {rest : List Expr} {f g : Exc → Option Bool} {pos : Pos} (h : HT G c E W Γ i u f) (h2 : HW G c E W Γ i (.BoolOp .Or (w :: rest) pos) g) : HW G c E W Γ i (.BoolOp .Or (u :: w :: rest) pos) (hor f g) := fun X X' a oe cls d C =>
  pw_wk (pw_or (h X X' a oe cls d C) (h2 X X' a oe cls d C)) fun σ H Q ⟨B, S, b, x, y, su, e, q⟩ => by
    unfold hor at e
    cases e1 : f x with
    | none => rw [e1] at e; cases e
    | some z =>
      rw [e1] at e
      refine ⟨B, S, b, x, z, su, e1, fun S1 H1 s su1 => ?_⟩
      cases z with
      | false => exact ⟨B, S1, b, x, y, su1, e, fun S2 H2 s2 su2 => q S2 H2 (s.trans s2) su2⟩
      | true => cases e; exact q S1 H1 s su1
/-- what an own class of exceptions says of itself: isinstance -/
structure IsC (G : Gx) (n : Str) : Prop where
  h : ∃ C, G.mg n = some (.ref C) ∧ L2.ExcC G.K C
theorem kitx_own {K : PySem.W.Frag} {D a : Addr} {oe : Obj} {od : Option Obj} (C : L2.ExcC K D) : PySem.W.KitX K (.ref a) (.ref D) (fun h => PySem.W.InstAt h a oe D od) :=
  PySem.W.kitx_exc (by obtain ⟨cd, hc, _⟩ := PySem.W.any_some C.hd; rw [hc]; rfl) C.hg C.hk C.hs C.ha C.hn C.ht C.hm
theorem inst_own {H : Hp} {s : Shared} {X : Cx} {a D : Addr} {oe : Obj} {d : Option Addr} {pn pins : List (Addr × Obj)} {fs : List (Str × V)} {σ : L2.St} (I : Inv (X.suite a ((a, oe) :: pn)) pins σ H s) (zc : Zc (.ref D) d oe) (fl : ∃ vs, oe.data = .fields vs) (h : (fs = [] ∧ d = none) ∨ ∃ dd, d = some dd ∧ H dd = some (.xd fs)) :
    ∃ od, PySem.W.InstAt s.heap a oe D od := by
  obtain ⟨hget, _⟩ := I.pin (a, oe) (List.mem_append.mpr (.inl List.mem_cons_self))
  obtain ⟨vs, hv⟩ := fl
  rcases h with ⟨_, rfl⟩ | ⟨dd, rfl, ea⟩
  · refine ⟨none, ?_⟩
    obtain ⟨oc, od, oda, osl⟩ := oe
    obtain ⟨h1, h2⟩ := zc
    dsimp only at h1 h2 hv
    subst h1 h2 hv
    exact ⟨hget, rfl, rfl, trivial⟩
  · obtain ⟨mA, hns, hr⟩ : ObjOk X.prog X.w H s.heap dd (.xd fs) := I.hok dd _ ea
    obtain ⟨od, ho, hl⟩ := L2.lookIn_ns hns
    exact ⟨some od, hget, zc.1, by unfold PySem.W.notCls; rw [hv] <;> rfl, by rw [zc.2]; exact ho⟩
/-- isinstance(e, c): c an own class, or a built-in one -/
theorem ht_isi {t : Str → Option Bool} {n : Str} {np p pos : Pos} {y : Expr} {v0 : V} {cv : Value} (nm : Nm c i n) (hi : i ≠ 999999) (bl : Blt G c "isinstance" (.builtin "isinstance")) (hy : ∀ X, CtxOk G c W X → ∀ a pn, PE (X.suite a pn) y fun σ H Q => Q v0 H) (hcv : ∀ u, RelV v0 u → u = cv)
    (ht : ∀ k b, t k = some b → ∃ D, G.mg k = some (.ref D) ∧ L2.ExcC G.K D ∧ PySem.W.kitOne G.K (.ref D) cv = some b)
    (hs : Star (.Name n np) [y] := by intro _; rfl) (hs2 : Star y [] := by intro _; rfl) : HA G c E W Γ i (.Call (.Name "isinstance" p) [.Name n np, y] [] pos) (fun x => t x.cls) V.bl := fun X X' a oe cls d ⟨C, zc, fl, pn, ep⟩ => by
  subst ep
  have pv : PE (X.suite a ((a, oe) :: pn)) (.Name n np) (tVar i) := pe_var (C.hi nm.n) (by show Vis X.env.scope _; rw [C.sc]; exact nm.v) nm.d nm.cd
  have cr : CallR (X.suite a ((a, oe) :: pn)) (.builtin "isinstance") (fun xs H Q => ∃ (x : Exc) (b : Bool), xs = [.ref a, v0] ∧ XAt G x H cls d ∧ t x.cls = some b ∧ Q (.bl b) H) := by
    intro pins s σ H xs us Q I r h
    obtain ⟨x, b, rfl, xa, e, q⟩ := h
    cases r with
    | cons rx rr =>
      cases rr with
      | cons rt rr =>
        cases rr
        cases rx
        have ec := hcv _ rt
        subst ec
        obtain ⟨D, m1, xc, m2⟩ := ht _ _ e
        obtain ⟨D', g1, g2, g3⟩ := xa
        have : D' = D := by rw [m1] at g1; cases g1; rfl
        subst this
        subst g2
        rw [← C.K] at xc m2
        obtain ⟨od, J⟩ := inst_own I zc fl g3
        exact PySem.W.kia_one (kitx_own xc) I.kIn J m2 (fun z => nomatch z) fun tk => ⟨.bl b, H, I.kept (t' := tk) fun _ _ z => z, rfl, q⟩
  exact pe_wk (pe_callB cr (C.gl bl.g) (by show X.mg _ = _; rw [C.mg]; exact bl.m) bl.v (pa_cons pv (pa_cons (hy X C a _) pa_nil (hs2 X.env)) (hs X.env)) bl.n bl.d (hs X.env) (by show (backTo _ (starEach [y] X.env)).any _ = false; rw [hs2 X.env]; rfl)) fun σ H Q _ ⟨B, S, b, x, y, su, e, q⟩ =>
    ⟨.ref a, su.nm.resolve_left hi, x, y, rfl, su.xa, e, q⟩
/-- isinstance(e, (c, ..)) -/
theorem ht_valE {f : Exc → Option Bool} (h : HE G c E W Γ i e f rBl) (he : ∀ (env : PySem.Env) whole, isTrue e env whole = (do let v ← whole; standAt e.pos; holding [v] (truthy v)) := by intro _ _; rfl) : HT G c E W Γ i e f := fun X X' a oe cls d C =>
  pt_wk (pt_val (h X X' a oe cls d C) (he X'.env)) fun σ H Q _ ⟨B, S, b, x, y, su, e, q⟩ => ⟨B, S, b, x, y, su, e, fun v S1 H1 s1 h1 xa r => ⟨y, r, q S1 H1 s1 ⟨h1, xa, su.nm⟩⟩⟩
/-- classes written one behind another -/
structure Ys (G : Gx) (c : Sc) (W : WX) (ys : List Expr) (vs : List V) (us : List Value) : Prop where
  p : ∀ X, CtxOk G c W X → ∀ a pn, PA (X.suite a pn) ys fun σ H Q => Q vs H
  k : Paired ClsV vs us
theorem ys_nil : Ys G c W [] [] [] := ⟨fun X C a pn => pa_wk pa_nil fun σ H Q _ q => q, .nil⟩
theorem ys_own {y : Str} {p2 : Pos} {C0 : Addr} {ys : List Expr} {vs : List V} {us : List Value} (g2 : Gb c y) (m2 : G.mg y = some (.ref C0)) (hd2 : (y == ("__debug__" : Str)) = false) (h : Ys G c W ys vs us) (hs : Star (.Name y p2) ys := by intro _; rfl) : Ys G c W (.Name y p2 :: ys) (.ref C0 :: vs) (.ref C0 :: us) :=
  ⟨fun X C a pn => pa_wk (pa_cons (pe_glob (X := X.suite a pn) (v := .ref C0) (C.gl g2) (by show X.mg _ = _; rw [C.mg]; exact m2) rfl hd2) (h.p X C a pn) (hs X.env)) fun σ H Q _ q => q, .cons (.own C0) h.k⟩
theorem he_isiT {t : Str → Option Bool} {n : Str} {np p pos tp : Pos} {ys : List Expr} {vs : List V} {us : List Value} {kk} (nm : Nm c i n) (hi : i ≠ 999999) (bl : Blt G c "isinstance" (.builtin "isinstance")) (hy : Ys G c W ys vs us)
    (ht : ∀ k b, t k = some b → ∃ D, G.mg k = some (.ref D) ∧ L2.ExcC G.K D ∧ PySem.W.kitAny G.K (.ref D) us = some b) (hl : vs.length ≤ sizeLine)
    (hs : Star (.Name n np) [.Tuple ys kk tp] := by intro _; rfl) (hs2 : Star (.Tuple ys kk tp) [] := by intro _; rfl) : HE G c E W Γ i (.Call (.Name "isinstance" p) [.Name n np, .Tuple ys kk tp] [] pos) (fun x => t x.cls) rBl := fun X X' a oe cls d ⟨C, zc, fl, pn, ep⟩ => by
  subst ep
  have pv : PE (X.suite a ((a, oe) :: pn)) (.Name n np) (tVar i) := pe_var (C.hi nm.n) (by show Vis X.env.scope _; rw [C.sc]; exact nm.v) nm.d nm.cd
  have cr : CallR (X.suite a ((a, oe) :: pn)) (.builtin "isinstance") (fun xs H Q => ∃ (x : Exc) (b : Bool) (q : Addr), xs = [.ref a, .ref q] ∧ H q = some (.tup vs) ∧ XAt G x H cls d ∧ t x.cls = some b ∧ Q (.bl b) H) := by
    intro pins s σ H xs ws Q I r h
    obtain ⟨x, b, tp, rfl, hT, xa, e, q⟩ := h
    cases r with
    | cons rx rr =>
      cases rr with
      | cons rt rr =>
        cases rr
        cases rx
        cases rt
        obtain ⟨D, m1, xc, m2⟩ := ht _ _ e
        obtain ⟨D', g1, g2, g3⟩ := xa
        have : D' = D := by rw [m1] at g1; cases g1; rfl
        subst this
        subst g2
        rw [← C.K] at xc m2
        obtain ⟨od, J⟩ := inst_own I zc fl g3
        obtain ⟨_, its, rv, o, h1, h2, n, h3⟩ := (show ObjOk X.prog X.w H s.heap tp (.tup vs) from I.hok tp _ hT)
        have e3 := ClsV.all hy.k rv
        subst e3
        obtain ⟨oc, od', dt, sl⟩ := o
        simp only at h2 h3
        subst h2 h3
        exact PySem.W.kia_tup (kitx_own xc) I.kIn J h1 m2 (fun z => nomatch z) fun tk => ⟨.bl b, H, I.kept (t' := tk) fun _ _ z => z, rfl, q⟩
  exact pe_wk (pe_callB cr (C.gl bl.g) (by show X.mg _ = _; rw [C.mg]; exact bl.m) bl.v (pa_cons pv (pa_cons (pe_tup (hy.p X C a _)) pa_nil (hs2 X.env)) (hs X.env)) bl.n bl.d (hs X.env) (by show (backTo _ (starEach [_] X.env)).any _ = false; rw [hs2 X.env]; rfl)) fun σ H Q _ ⟨B, S, b, x, y, su, e, q⟩ =>
    ⟨.ref a, su.nm.resolve_left hi, hl, fun p hp => by
      have hn := su.hh.new (o := .tup vs) hp
      exact ⟨x, y, p, rfl, upd_same, xat_new su.xa hp, e, q (.bl y) _ _ (same_new (su.hh.same.free hp)) hn (xat_new su.xa hp) rfl⟩⟩
theorem hy_own {y : Str} {p2 : Pos} {C0 : Addr} (g2 : Gb c y) (m2 : G.mg y = some (.ref C0)) (hd2 : (y == ("__debug__" : Str)) = false) : ∀ X, CtxOk G c W X → ∀ a pn, PE (X.suite a pn) (.Name y p2) fun σ H Q => Q (.ref C0) H := fun X C a pn =>
  pe_glob (X := X.suite a pn) (v := .ref C0) (C.gl g2) (by show X.mg _ = _; rw [C.mg]; exact m2) rfl hd2
theorem hy_blt {y : Str} {p2 : Pos} {n : String} (b2 : Blt G c y (.type n)) : ∀ X, CtxOk G c W X → ∀ a pn, PE (X.suite a pn) (.Name y p2) fun σ H Q => Q (.ty n) H := fun X C a pn =>
  pe_bltn (X := X.suite a pn) (v := .ty n) (C.gl b2.g) (by show X.mg _ = _; rw [C.mg]; exact b2.m) b2.v rfl b2.n b2.d
theorem hcv_own {C0 : Addr} : ∀ u, RelV (.ref C0) u → u = .ref C0 := fun u h => h
theorem hcv_ty {n : String} : ∀ u, RelV (.ty n) u → u = .type n := fun u h => h
/-! suites -/
theorem hs_ret {f : Exc → Option ρ} {pos : Pos} {Γn : α → Env} (h : HE G c E W Γ i e f L.R) (ho : ∀ r v, L.o r v = [] := by intro _ _; rfl) : HS G c E W L Γ i (.Return (some e) pos) (fun x => bnd (mopt (f x)) fun r => ret (.rt r)) Γn := fun X X' a oe cls d C =>
  ps_wk (ps_ret (h X X' a oe cls d C)) fun D σ H _ ⟨B, S, b, x, su, q⟩ => by
    dsimp only at q
    cases e1 : f x with
    | none => rw [e1] at q; exact q.elim
    | some y =>
      rw [e1] at q
      refine ⟨B, S, b, x, y, su, e1, fun v S1 H1 s hh _ r => ?_⟩
      exact q v σ S1 H1 (by rw [ho]; exact hh.nil) r
theorem hb_one {st : Stmt} {m : Exc → M τ (Fl α κ ρ)} {Γn : α → Env} (h : HS G c E W L Γ i st m Γn) : HB G c E W L Γ i [st] m Γn := fun X X' a oe cls d C => pss_wk (pss_one (h X X' a oe cls d C)) fun D σ H _ q => q
/-- hands back a thing, if anything -/
def OnRt (m : Exc → M τ (Fl α κ ρ)) : Prop := ∀ x s r s', m x s = .ok r s' → ∃ y, r = .rt y
theorem on_ret {f : Exc → Option ρ} : OnRt (fun x => bnd (mopt (f x)) fun r => ret (.rt r) : Exc → M τ (Fl α κ ρ)) := fun x s r s' h => by
  dsimp only at h
  cases e : f x with
  | none => rw [e] at h; cases h
  | some y => rw [e] at h; cases h; exact ⟨y, rfl⟩
/-- if ..: (never goes on); and what stands behind -/
theorem hb_if {a1 : List Stmt} {rest : List Stmt} {f : Exc → Option Bool} {n o : Exc → M τ (Fl α κ ρ)} {Γn : α → Env} {pos : Pos} (h : HT G c E W Γ i e f) (ha : HB G c E W L Γ i a1 n Γn) (hx : OnRt n) (hr : HB G c E W L Γ i rest o Γn) : HB G c E W L Γ i (.If e a1 [] pos :: rest) (fun x => bnd (mopt (f x)) fun y => if y = true then n x else o x) Γn := fun X X' a oe cls d C => by
  refine pss_wk (pss_cons (ps_if (h X X' a oe cls d C) (ha X X' a oe cls d C) pss_nil) (hr X X' a oe cls d C)) fun D σ H hl ⟨B, S, b, x, su, q⟩ => ?_
  dsimp only at q
  cases e1 : f x with
  | none => rw [e1] at q; exact q.elim
  | some y =>
    rw [e1] at q
    refine ⟨B, S, b, x, y, su, e1, fun S1 H1 s1 su1 => ?_⟩
    cases y with
    | false => exact ⟨B, S1, b, x, su1, q.same s1⟩
    | true =>
      refine ⟨B, S1, b, x, su1, ?_⟩
      have q2 : aftS G E W L B S1 Γn D (n x b) := q.same s1
      cases e2 : n x b with
      | stuck => rw [e2] at q2; exact q2
      | exc z b' => rw [e2] at q2; exact q2
      | ok r b' =>
        rw [e2] at q2
        cases r with
        | nx r => obtain ⟨y, z⟩ := hx x b _ b' e2; cases z
        | rt r => exact q2
        | bk r => exact q2
        | ct r => exact q2
/-! ### the statement -/
def ztryX (cat : Str → Option Bool) (m : M τ (Fl α κ ρ)) (hm : Exc → M τ (Fl α κ ρ)) : M τ (Fl α κ ρ) := fun s => match m s with
  | .ok a s' => .ok a s'
  | .exc e s' => match cat e.cls with | some true => hm e s' | some false => .exc e s' | none => .stuck
  | .stuck => .stuck
/-- what the name e is behind a suite: unknown -/
structure Unk (i : Nat) (Γ : Env) : Prop where
  h : ∀ s, Γ[i]? = some s → s = .no
theorem hold_set_unk {v : Option V} (u : Unk i Γ) (h : Hold E B Γ b σ S H) : Hold E B Γ b (σ.set i v) S H := by
  obtain ⟨kp, ef, Fs, ft, sl⟩ := h
  refine ⟨kp, ef, Fs, ft, fun j s hj => ?_⟩
  by_cases z : j = i
  · subst z
    have := u.h s hj
    subst this
    exact sl j .no hj |> fun _ => by
      first
      | trivial
      | exact sl j .no hj
  · rw [List.getElem?_set_ne (fun q => z q.symm)]
    exact sl j s hj
theorem unk_nil : Unk i ([] : Env) := ⟨fun s h => by cases h⟩
theorem fc_nil {fld : Str} : ∀ k ∈ ([] : List Str), FldC G k fld := fun k h => by cases h
theorem fc_cons {fld n : Str} {ns : List Str} {C : Addr} (h : G.mg n = some (.ref C)) (x : L2.ExcC G.K C) (f : PySem.W.findIn G.K (.ref C) fld = some none) (r : ∀ k ∈ ns, FldC G k fld) : ∀ k ∈ n :: ns, FldC G k fld := fun k hk => by
  rcases List.mem_cons.mp hk with rfl | hk
  · exact ⟨C, h, ⟨x.hg, x.hk, x.hs, x.hd⟩, f⟩
  · exact r k hk
theorem it_nil {cv : Value} : ∀ k b, (fun _ : Str => (none : Option Bool)) k = some b → ∃ D, G.mg k = some (.ref D) ∧ L2.ExcC G.K D ∧ PySem.W.kitOne G.K (.ref D) cv = some b := fun _ _ h => by cases h
theorem it_cons {cv : Value} {n0 : Str} {b0 : Bool} {C : Addr} {t : Str → Option Bool} (h : G.mg n0 = some (.ref C)) (x : L2.ExcC G.K C) (kk : PySem.W.kitOne G.K (.ref C) cv = some b0) (r : ∀ k b, t k = some b → ∃ D, G.mg k = some (.ref D) ∧ L2.ExcC G.K D ∧ PySem.W.kitOne G.K (.ref D) cv = some b) :
    ∀ k b, (fun n => if n = n0 then some b0 else t n) k = some b → ∃ D, G.mg k = some (.ref D) ∧ L2.ExcC G.K D ∧ PySem.W.kitOne G.K (.ref D) cv = some b := fun k b e => by
  dsimp only at e
  split at e
  · rename_i z
    subst z
    cases e
    exact ⟨C, h, x, kk⟩
  · exact r k b e
theorem ia_nil {us : List Value} : ∀ k b, (fun _ : Str => (none : Option Bool)) k = some b → ∃ D, G.mg k = some (.ref D) ∧ L2.ExcC G.K D ∧ PySem.W.kitAny G.K (.ref D) us = some b := fun _ _ h => by cases h
theorem ia_cons {us : List Value} {n0 : Str} {b0 : Bool} {C : Addr} {t : Str → Option Bool} (h : G.mg n0 = some (.ref C)) (x : L2.ExcC G.K C) (kk : PySem.W.kitAny G.K (.ref C) us = some b0) (r : ∀ k b, t k = some b → ∃ D, G.mg k = some (.ref D) ∧ L2.ExcC G.K D ∧ PySem.W.kitAny G.K (.ref D) us = some b) :
    ∀ k b, (fun n => if n = n0 then some b0 else t n) k = some b → ∃ D, G.mg k = some (.ref D) ∧ L2.ExcC G.K D ∧ PySem.W.kitAny G.K (.ref D) us = some b := fun k b e => by
  dsimp only at e
  split at e
  · rename_i z
    subst z
    cases e
    exact ⟨C, h, x, kk⟩
  · exact r k b e
theorem ka_nil {K : PySem.W.Frag} {t : Value} : PySem.W.kitAny K t [] = some false := rfl
theorem ka_f {K : PySem.W.Frag} {t u : Value} {us : List Value} {b : Bool} (h : PySem.W.kitOne K t u = some false) (r : PySem.W.kitAny K t us = some b) : PySem.W.kitAny K t (u :: us) = some b := kitAny_cons h (fun _ => r) (fun z => by cases z)
end
end
end Zk

namespace Zk
open PySem L2
/-! ### xs.pop(..) as a value; things of one of two kinds: places, isinstance; data of such -/
section
variable {τ α β γ δ κ ρ ρ' ι θ : Type} {G : Gx} {c : Sc} {E : Eff τ} {W : WX} {Γ Γ' : Env} {B : Bs} {σ : St} {S S1 S' H H' : Hp} {b b' : τ} {L : Ls κ ρ}
end
end Zk

namespace Zk
open PySem L2
section
variable {τ α β γ δ κ ρ ρ' ι θ : Type} {G : Gx} {c : Sc} {E : Eff τ} {W : WX} {Γ Γ' : Env} {B : Bs} {σ : L2.St} {S S1 S' H H' : Hp} {b b' : τ} {L : Ls κ ρ}
/-! ### try, the names kept; suites that go on -/
/-- nothing of one's own is known -/
def OnlySt (Γ : Env) : Prop := ∀ (i : Nat) s, Γ[i]? = some s → s = .no ∨ ∃ p, s = .st p
theorem onlySt_nil : OnlySt [] := fun i s h => by cases h
theorem onlySt_no {Γ : Env} (h : OnlySt Γ) : OnlySt (.no :: Γ) := fun i s e => by
  cases i with
  | zero => exact .inl (by simpa using e.symm)
  | succ i => exact h i s (by simpa using e)
theorem onlySt_st {Γ : Env} {p : Pr} (h : OnlySt Γ) : OnlySt (.st p :: Γ) := fun i s e => by
  cases i with
  | zero => exact .inr ⟨p, by simpa using e.symm⟩
  | succ i => exact h i s (by simpa using e)
theorem Hold.rebase (h : Hold E B Γ b σ S H) (o : OnlySt Γ) : Hold E ⟨S, H⟩ Γ b σ S H := by
  obtain ⟨kp, ef, Fs, ft, sl⟩ := h
  refine ⟨⟨kp.same, Same.refl _, fun a o e1 e2 _ => ⟨e1, e2⟩⟩, ef, fun _ _ => False, ⟨fun _ _ z => z.elim, fun _ _ _ z => z.elim⟩, fun i s hi => ?_⟩
  rcases o i s hi with rfl | ⟨p, rfl⟩
  · trivial
  · exact sl i _ hi
theorem Hold.debase {σ' : L2.St} (h : Hold E B Γ b σ S H) (k : Hold E ⟨S, H⟩ Γ' b' σ' S' H') : Hold E B Γ' b' σ' S' H' := by
  obtain ⟨kp, ef, _⟩ := h
  obtain ⟨kp', ef', Fs, ft, sl⟩ := k
  refine ⟨⟨kp'.same, kp.up.trans kp'.up, fun a o e1 e2 e3 => ?_⟩, ef', Fs, ⟨fun i a f => ?_, ft.ds⟩, sl⟩
  · obtain ⟨q1, q2⟩ := kp.kp a o e1 e2 e3
    exact kp'.kp a o q1 q2 e3
  · obtain ⟨f1, f2, f3, f4⟩ := ft.at_ i a f
    refine ⟨f1, ?_, f3, f4⟩
    cases q : B.H a with
    | none => rfl
    | some o =>
      exfalso
      have f2 : H a = none := f2
      cases q2 : B.S a with
      | some o' => have := kp.same _ _ (kp.up _ _ q2); rw [f2] at this; cases this
      | none => have := (kp.kp a o q2 q f3).2; rw [f2] at this; cases this
theorem aft_debase {Γn : α → Env} {D : Ends} {L' : Ls κ ρ} (h : Hold E B Γ b σ S H) (hk : L'.k = L.k) (hR : L'.R = L.R) (ho : L'.o = L.o) (W' : WX) : ∀ {o : Out τ (Fl α κ ρ)}, (∀ x b', o ≠ .exc x b') → aftS G E W L B S Γn D o → aftS G E W' L' ⟨S, H⟩ S Γn D o := by
  intro o no q
  cases o with
  | stuck => exact q
  | exc x b' => exact absurd rfl (no x b')
  | ok r b' =>
    cases r with
    | nx a => exact fun σ' S' H' s k => q σ' S' H' s (h.debase k)
    | rt r => exact fun v σ' S' H' k e => q v σ' S' H' (h.debase (by rw [← ho]; exact k)) (by rw [← hR]; exact e)
    | bk a => exact fun σ' S' H' s k => q σ' S' H' s (h.debase (by rw [← hk]; exact k))
    | ct a => exact fun σ' S' H' s k => q σ' S' H' s (h.debase (by rw [← hk]; exact k))
/-- what a suite tells, seen from where the statement began -/
theorem aft_up {Γn : α → Env} {D : Ends} {hm : M τ (Fl α κ ρ)} (s : Same S S') (q : aftS G E W L B S Γn D (hm b)) : aftS G E W L B S' Γn D (hm b) := q.same s
abbrev Ls.keep (L : Ls κ ρ) (Γx : Env) : Ls κ ρ := { L with x := Γx }
theorem zs_tryG {Γx : Env} {x n : Str} {i : Nat} {C0 : Addr} {cat : Str → Option Bool} {body : List Stmt} {b0 : Stmt} {suite : List Stmt} {np pos pos' : Pos} {m : M τ (Fl α κ ρ)} {hm : Exc → M τ (Fl α κ ρ)} {Γn : α → Env} (os : OnlySt Γ) (nm : Ns c i n) (hk : c.sc.names.lookup n = some .local) (g : Gb c x) (hg : G.mg x = some (.ref C0)) (hd : (x == ("__debug__" : Str)) = false) (hf : c.fn = true)
    (hcat : ∀ n b C', cat n = some b → G.mg n = some (.ref C') → PySem.W.exmOne G.K (.ref C') (.ref C0) = some b) (sx : ∀ B b σ S H, Hold E B Γx b σ S H → ∃ S', Hold E B L.x b σ S' H)
    (ux : Unk i Γx) (un : ∀ a, Unk i (Γn a)) (uk : ∀ a, Unk i (L.k a))
    (h : ∀ W', ZB G c E W' (L.keep Γx) Γ body m Γn) (hh : HB G c E W L Γx i (b0 :: suite) hm Γn) : ZS G c E W L Γ (.Try body [.ExceptHandler (some (.Name x np)) (some n) (b0 :: suite) pos'] [] [] pos) (ztryX cat m hm) Γn := fun X C =>
  ps_wk (ps_try_as (C.isfn hf).1 (C.isfn hf).2 C.set_hN (C.hi nm.n) (by show X.env.scope.names.lookup n = _; rw [C.sc]; exact hk) ⟨C.gl g, hd, .inl (by rw [C.mg]; exact hg)⟩ C.takes (fun W' pn xe tk ow => h W' _ (C.tr tk ow)) (ts := fun a cls d D σ H => ∃ (σ0 : L2.St), ∃ B S b x, σ = σ0.set i (some (.ref a)) ∧ Hold E B Γx b σ S H ∧ XAt G x H cls d ∧ aftS G E W L B S Γn D (hm x b))
    (fun a oe cls d pn zc fl => pss_wk (hh X _ a oe cls d ⟨C, zc, fl, pn, rfl⟩) fun D σ H hl ⟨σ0, B, S, b, x, e, h1, xa, q⟩ => ⟨B, S, b, x, ⟨h1, xa, .inr (by
      subst e
      rw [List.getElem?_set_self]
      rw [List.length_set] at hl
      rw [hl]
      exact (List.getElem?_eq_some_iff.mp (C.hi nm.n)).1)⟩, q⟩)) fun D σ H hl ⟨B, S, b, hh, q⟩ => by
    refine ⟨⟨S, H⟩, S, b, hh.rebase os, ?_⟩
    unfold ztryX at q
    cases e1 : m b with
    | stuck => rw [e1] at q; exact q.elim
    | ok a b1 =>
      rw [e1] at q
      exact aft_debase (L := L) (L' := L.keep Γx) (o := .ok a b1) hh rfl rfl rfl _ (fun x b' z => by cases z) q
    | exc x1 b1 =>
      rw [e1] at q
      intro cl d σ' S' H' h1 xa
      dsimp only at q
      obtain ⟨C', k1, k2, _⟩ := id xa
      have hs : Same S S' := h1.kp.up
      have h2 := hh.debase h1
      cases e2 : cat x1.cls with
      | none => rw [e2] at q; exact q.elim
      | some t =>
        rw [e2] at q
        have ex := hcat _ _ _ e2 k1
        refine ⟨t, by rw [C.K, k2]; exact ex, fun et a ha => ?_, fun et => ?_⟩
        · subst et
          refine ⟨σ', B, S', b1, x1, rfl, hold_set_unk ux h2, xa, ?_⟩
          have q2 : aftS G E W L B S' Γn D (hm x1 b1) := aft_up (hm := hm x1) hs q
          cases e3 : hm x1 b1 with
          | stuck => rw [e3] at q2; exact q2.elim
          | exc z b2 => rw [e3] at q2; exact q2
          | ok r b2 =>
            rw [e3] at q2
            cases r with
            | nx r => exact fun σ2 S2 H2 s2 h2 => q2 _ S2 H2 s2 (hold_set_unk (un r) h2)
            | rt r => exact q2
            | bk r => exact fun σ2 S2 H2 s2 h2 => q2 _ S2 H2 s2 (hold_set_unk (uk r) h2)
            | ct r => exact fun σ2 S2 H2 s2 h2 => q2 _ S2 H2 s2 (hold_set_unk (uk r) h2)
        · subst et
          obtain ⟨S2, h3⟩ := sx _ _ _ _ _ h2
          exact q cl d σ' S2 H' h3 xa
theorem sx_of (h : Sub E Γ Γ') : ∀ B b σ S H, Hold E B Γ b σ S H → ∃ S', Hold E B Γ' b σ S' H := fun B b σ S H k => let ⟨S', _, k'⟩ := h k; ⟨S', k'⟩
/-! ### places of things of one of two kinds -/
theorem tp_inl {R : Rel α} {k : Int} {f : α → Option β} {R1 : Rel β} {R2 : Rel γ} (t : TupAtP R k f R1) : TupAtP R k (fun x => (f x).map Sum.inl) (rSum R1 R2) := ⟨fun {x y S v} r e => by
  cases e1 : f x with
  | none => rw [e1] at e; cases e
  | some z => rw [e1] at e; cases e; exact t.h r e1⟩
theorem tp_inr {R : Rel α} {k : Int} {f : α → Option γ} {R1 : Rel β} {R2 : Rel γ} (t : TupAtP R k f R2) : TupAtP R k (fun x => (f x).map Sum.inr) (rSum R1 R2) := ⟨fun {x y S v} r e => by
  cases e1 : f x with
  | none => rw [e1] at e; cases e
  | some z => rw [e1] at e; cases e; exact t.h r e1⟩
/-! ### data with such within -/
theorem unk_at {i : Nat} (h : Γ[i]? = some .no ∨ Γ[i]? = none) : Unk i Γ := ⟨fun s e => by
  rcases h with h | h
  · rw [h] at e; cases e; rfl
  · rw [h] at e; cases e⟩
/-- isinstance of one of two kinds, and a built-in class -/
structure IsTU (G : Gx) (R : Rel α) (y : String) (f : α → Bool) : Prop where
  h : ∀ {x : α} {S H : Hp} {v : V}, Same S H → R.is x S v → ∃ t, TyX G.K H v t ∧ PySem.W.kitOne G.K t (.type y) = some (f x)
end
end Zk

namespace Zk
open PySem L2
/-! ### min of names; one or none by a test -/
section
variable {τ α β γ δ κ ρ ρ' ι θ : Type} {G : Gx} {c : Sc} {E : Eff τ} {W : WX} {Γ Γ' : Env} {B : Bs} {σ : L2.St} {S S1 S' H H' : Hp} {b b' : τ} {L : Ls κ ρ}
end
end Zk

namespace Zk
open PySem L2
/-! ### d.update(e); a record copied, two of its items new dicts of its own -/
section
variable {τ α β γ δ κ ρ ρ' ι θ : Type} {G : Gx} {c : Sc} {E : Eff τ} {W : WX} {Γ Γ' : Env} {B : Bs} {σ : L2.St} {S S1 S' H H' : Hp} {b b' : τ} {L : Ls κ ρ}
theorem Hold.fresh {D : Addr} (h : Hold E B Γ b σ S H) (hD : H D = none) : S D = none ∧ B.S D = none ∧ B.H D = none ∧ ¬ E.own D := by
  have hE := h.fr hD
  have hS := h.same.free hD
  have hBS := h.kp.up.free hS
  refine ⟨hS, hBS, ?_, hE⟩
  cases z : B.H D with
  | none => rfl
  | some o => have := (h.kp.kp D o hBS z hE).2; rw [hD] at this; cases this
/-- what is kept at l goes into a ghost slot -/
theorem Hold.toG {l : Addr} {o : HO} {g : Nat} {p : PrO} (h : Hold E (Bd B l o) Γ b σ S H) (hg : Γ[g]? = some .no) (hBS : B.S l = none) (hBH : B.H l = none) (hE : ¬ E.own l) (hp : p.p S H .non (fun a => a = l)) : Hold E B (Γ.set g (.gh p)) b σ S H := by
  obtain ⟨hS, hH⟩ := h.cellAt hBS hE
  obtain ⟨Fs, hF, hs⟩ := h.sl
  have nl : ∀ i a, Fs i a → a ≠ l := fun i a e z => by
    have := (hF.at_ i a e).2.1
    rw [z] at this
    have : upd B.H l o l = none := this
    rw [upd_same] at this; cases this
  have hu := h.unBd hBH
  refine ⟨hu.kp, hu.ef, fun i a => (i ≠ g ∧ Fs i a) ∨ (i = g ∧ a = l), ⟨fun i a e => ?_, fun i k a e1 e2 => ?_⟩, fun i s e => ?_⟩
  · rcases e with ⟨_, e⟩ | ⟨_, rfl⟩
    · obtain ⟨r1, r2, r3, r4⟩ := hF.at_ i a e
      refine ⟨r1, ?_, r3, r4⟩
      have r2 : upd B.H l o a = none := r2
      rw [upd_ne (nl i a e)] at r2
      exact r2
    · exact ⟨hS, hBH, hE, _, hH⟩
  · rcases e1 with ⟨_, e1⟩ | ⟨k1, e1⟩ <;> rcases e2 with ⟨_, e2⟩ | ⟨k2, e2⟩
    · exact hF.ds i k a e1 e2
    · exact absurd e2 (nl i a e1)
    · exact absurd e1 (nl k a e2)
    · rw [k1, k2]
  · rcases set_get e with ⟨rfl, rfl⟩ | ⟨n, e⟩
    · have : (fun a => (i ≠ i ∧ Fs i a) ∨ (i = i ∧ a = l)) = (fun a => a = l) := funext fun a => propext ⟨fun z => z.elim (fun z => absurd rfl z.1) (·.2), fun z => .inr ⟨rfl, z⟩⟩
      show p.p S H .non (fun a => (i ≠ i ∧ Fs i a) ∨ (i = i ∧ a = l))
      rw [this]; exact hp
    · have : (fun a => (i ≠ g ∧ Fs i a) ∨ (i = g ∧ a = l)) = Fs i := funext fun a => propext ⟨fun z => z.elim (·.2) (fun z => absurd z.1 n), fun z => .inl ⟨n, z⟩⟩
      have q := hs i s e
      cases s with
      | no => trivial
      | st p => exact q
      | ow p => show ∃ x, _ ∧ p.p S H x (fun a => (i ≠ g ∧ Fs i a) ∨ (i = g ∧ a = l)); rw [this]; exact q
      | gh p => show p.p S H .non (fun a => (i ≠ g ∧ Fs i a) ∨ (i = g ∧ a = l)); rw [this]; exact q
end
end Zk

namespace Zk
open PySem L2 PySem.Spec PyProof.Rows

/-! ### a table of code objects that may grow -/
/-- what the table ps tells bears the name q, for ever -/
def CodZ (S : Hp) (ps : Array Value) (q : Str) : Prop := TriplesOk ps.toList ∧ ∀ (pos : Pos) (cv : Value), codeAmong pos ps.toList = some cv → ∃ c, cv = .ref c ∧ S c = some (LamX.CodeO c q)
theorem CodZ.mono {S S' : Hp} {ps : Array Value} {q : Str} (h : CodZ S ps q) (s : Same S S') : CodZ S' ps q := ⟨h.1, fun pos cv e => let ⟨c, e1, e2⟩ := h.2 pos cv e; ⟨c, e1, s _ _ e2⟩⟩
section
variable {X : Cx} {pins : List (Addr × Obj)} {σ : L2.St} {H : Hp} {s : Shared}
end

/-! ### the key row[:2], over the heap alone -/
section
variable {prog : Program} {w : World} {A : Around} {s : Shared}
end

section
variable {τ α β γ δ κ ρ ι θ : Type} {G : Gx} {c : Sc} {E : Eff τ} {W : WX} {Γ Γ' : Env} {B : Bs} {σ : L2.St} {S S1 S' H H' : Hp} {b b' : τ} {L : Ls κ ρ} {t : Addr × Str}
end
end Zk

namespace Zk
open PySem L2 PySem.Spec PyProof.Rows

section
variable {τ α β γ δ κ ρ ι θ : Type} {G : Gx} {c : Sc} {E : Eff τ} {W : WX} {Γ Γ' : Env} {B : Bs} {σ : L2.St} {S S1 S' H H' : Hp} {b b' : τ} {L : Ls κ ρ} {t : Addr × Str}
/-! ### statements of a def that makes lambdas -/
/-! ### calls where a table may grow -/
/-! ### a def that makes lambdas, by its body -/
/-! ### the law's start -/
end
end Zk

namespace Zk
open PySem L2 PySem.Spec PyProof.Rows
/-! ### the end: a law whose defs make lambdas in one table -/
section
variable {P : Program} {w : World} {K : PySem.W.Frag} {mg mb : Str → Option Value} {k : Nat} {fa a cc T : Addr} {fd : FuncData} {x : Str} {sp : Sp} {s : Shared} {vs : List Value} {ns : List Int} {H : Hp}
open Classical in
end
end Zk

namespace Zk
open PySem L2
section
variable {τ α β γ δ κ ρ ι θ : Type} {G : Gx} {c : Sc} {E : Eff τ} {W : WX} {Γ Γ' : Env} {B : Bs} {σ : L2.St} {S S1 S' H H' : Hp} {b b' : τ} {L : Ls κ ρ}
/-! ### a written place of a list of things of several kinds -/
structure LstAt (R : Rel α) (k : Int) (f : α → β) (R2 : Rel β) : Prop where
  h : ∀ {x : α} {S : Hp} {v : V}, R.is x S v → ∃ a vs u, v = .ref a ∧ S a = some (.lst vs) ∧ atI vs k = some u ∧ R2.is (f x) S u
/-! ### xs.extend(ys), xs a list of one's own -/
end
end Zk

namespace Zk
open PySem L2
/-! ### dict(xs) of pairs, the keys tuples -/
section
variable {X : Cx} {pins : List (Addr × Obj)} {σ : L2.St} {H : Hp} {s : Shared}
end
section
variable {τ α β γ δ κ ρ ι θ : Type} {G : Gx} {c : Sc} {E : Eff τ} {W : WX} {Γ Γ' : Env} {B : Bs} {σ : L2.St} {S S1 S' H H' : Hp} {b b' : τ} {L : Ls κ ρ}
variable [DecidableEq ι] {R : Rel ι} {D : DatR R} {R2 : Rel α}
end
end Zk

namespace Zk
open PySem L2
section
variable {τ α β γ γ' δ κ ρ ι θ : Type} {G : Gx} {c : Sc} {E : Eff τ} {W : WX} {Γ : Env} {B : Bs} {σ : L2.St} {S S1 S' H H' : Hp} {b b' : τ}
/-! ### return of a call that has own dicts handed -/
end
end Zk

namespace Zk
open PySem L2
/-! ### None or a scalar, as data -/
end Zk
namespace Zk
open PySem L2
section
variable {τ α β γ κ ρ ρ' : Type} {G : Gx} {c : Sc} {E : Eff τ} {W : WX} {Γ : Env}
/-! ### a call that has own dicts handed and leaves them, within an expression -/
end
end Zk
namespace Zk
end Zk

namespace Zk
open PySem L2
/-! ### more keys: tuples of ints -/
section
variable {τ α α' β γ κ ρ ι ι' δ δ' : Type} {G : Gx} {c : Sc} {E : Eff τ} {W : WX} {Γ Δ : Env} {B : Bs} {b : τ} {σ : L2.St} {S H : Hp}
/-! ### an own record made within an expression, stable at once -/
theorem Hold.fst {Γ Δ : Env} (h : Hold E B (Γ ++ Δ) b σ S H) : Hold E B Γ b σ S H := by
  obtain ⟨Fs, hF, hs⟩ := h.sl
  exact ⟨h.kp, h.ef, Fs, hF, fun j s e => hs j s (by rw [List.getElem?_append_left (List.getElem?_eq_some_iff.mp e).1]; exact e)⟩
/-! ### d[xs.pop(..)] -/
end
/-! ### list(d), d a dict of one's own whose keys are tuples -/
section
variable {X : Cx}
end
section
variable {τ κ δ : Type} {G : Gx} {c : Sc} {E : Eff τ} {W : WX} {Γ : Env} {R : Rel κ} {D : DatR R} {F : KyT D} {R2 : Rel δ} [DecidableEq κ]
end
section
variable {τ α γ κ ρ ρ' : Type} {G : Gx} {c : Sc} {E : Eff τ} {W : WX} {Γ : Env} {L : Ls κ ρ} {Γ' : γ → Env} {R : Rel ρ'} {e : Expr} {a d : List Stmt} {m : M τ (Option ρ' × γ)} {n o : γ → M τ (Fl α κ ρ)} {Γn : α → Env} {pos pp pq : Pos} {j : Nat}
/-! ### if f(..) is None, where f changes own dicts -/
end
end Zk

namespace Zk
open PySem L2 PySem.Spec PyProof.Rows
/-! ### xs[:] = ys -/
section
variable {prog : Program} {w : World} {A : Around} {E : Value → Shared → Prop} {s : Shared}
end
section
variable {X : Cx}
end
section
variable {τ α β γ κ ρ ι θ υ : Type} {G : Gx} {c : Sc} {E : Eff τ} {W : WX} {Γ Γ' : Env} {B : Bs} {σ σ' : L2.St} {S S1 S' H H1 H' : Hp} {b b' : τ} {L : Ls κ ρ}
end
end Zk

namespace Zk
open PySem L2 PyProof.Rows PySem.Spec
/-! ### zip, the pair that was given out still there -/
section
variable {prog : Program} {w : World} {A : Around} {E : Value → Shared → Prop} {s : Shared} {z TI TO T i1 i2 l1 l2 : Addr} {k1 k2 : Nat} {P1 P2 : Heap → Nat → Prop} {g1 g2 : Nat → Option Value} {x y : Value} {f : Bool} {oT : Obj}
/-! ### list(zip(..)) -/
/-- the pairs that were given out: where they stand -/
structure ZG2 (g1 g2 : Nat → Option Value) (lo : Addr) (h : Heap) (as : List Addr) : Prop where
  rise : as.Pairwise (· < ·)
  above : ∀ a ∈ as, lo < a
  pairs : ∀ (j : Nat) (a : Addr), as[j]? = some a → ∃ x y, g1 j = some x ∧ g2 j = some y ∧ h.get? a = some { cls := .type "tuple", data := .seq #[x, y] }
end
end Zk

namespace Zk
open PySem L2 PyProof.Rows PySem.Spec
/-! ### several new pairs, and a list of them -/
section
variable {X : Cx} {pins : List (Addr × Obj)} {σ : L2.St} {H H' : Hp} {s : Shared} {h' : Heap}
end
section
variable {τ α β γ κ ρ ι θ υ : Type} {G : Gx} {c : Sc} {E : Eff τ} {W : WX} {Γ Γ' : Env} {B : Bs} {σ σ' : L2.St} {S S1 S' H H1 H' : Hp} {b b' : τ} {L : Ls κ ρ}
variable {e e2 : Expr} {m : M τ (List α × List β)} {R : Rel α} {R2 : Rel β} {p p2 pos pos2 : Pos}
end
end Zk

namespace Zk
open PySem L2
/-! ### lists that are new since a def was begun, wherever they stand in what it hands back -/
structure HasN {τ : Type} (E : Eff τ) (N : Hp) : Prop where
  h : ∀ {b : τ} {S H : Hp}, E.is b S H → Same N S
/-- a kind that looks at nothing but what is no list, and at lists at addresses that P tells -/
structure TagR {α : Type} (R : (Addr → Prop) → Rel α) : Prop where
  go : ∀ {P Q : Addr → Prop} {x : α} {S T : Hp} {v : V}, (R P).is x S v → (∀ a vs, P a → S a = some (.lst vs) → Q a) → (∀ a o, S a = some o → (P a ∨ ∀ vs, o ≠ .lst vs) → T a = some o) → (R Q).is x T v
section
variable {α β γ δ : Type} {R : (Addr → Prop) → Rel α} {R2 : (Addr → Prop) → Rel β} {R3 : (Addr → Prop) → Rel γ} {R4 : (Addr → Prop) → Rel δ}
end
/-- what may change hangs on no stable list -/
structure FreeL {τ : Type} (E : Eff τ) : Prop where
  h : ∀ {b b0 : τ} {S S' H S0 H0 : Hp}, E.is b0 S0 H0 → Same S0 S' → (∀ a o, S' a = some o → S a = some o) → (∀ a o, S a = some o → (∀ vs, o ≠ .lst vs) → S' a = some o) → E.is b S H → E.is b S' H
/-- what one owns, lists all, is seen as if stable -/
structure SeenL (P : PrO) (p : Pr) : Prop where
  lst : ∀ {S H : Hp} {v : V} {F : Addr → Prop}, P.p S H v F → ∀ a, F a → ∃ vs, H a = some (.lst vs)
  see : ∀ {S H T : Hp} {v : V} {F : Addr → Prop}, P.p S H v F → Same S T → (∀ a o, F a → H a = some o → T a = some o) → p.p T v
theorem seen_L {α : Type} {R : Rel α} {xs : List α} : SeenL (ownL R xs) ((rLst R).pr xs) :=
  ⟨fun ⟨l, vs, _, f, hl, _⟩ a e => ⟨vs, by rw [(f a).mp e]; exact hl⟩, fun ⟨l, vs, e, f, hl, hq⟩ sm k => ⟨l, vs, e, k _ _ ((f l).mpr rfl) hl, All2.rel sm hq⟩⟩
/-- own lists are seen as if stable, all else that is one's own is hidden -/
inductive FrzL : Env → Env → Prop
  | nil : FrzL [] []
  | no {l l' : Env} : FrzL l l' → FrzL (.no :: l) (.no :: l')
  | st {p : Pr} {l l' : Env} : FrzL l l' → FrzL (.st p :: l) (.st p :: l')
  | see {P : PrO} {p : Pr} {l l' : Env} : SeenL P p → FrzL l l' → FrzL (.ow P :: l) (.st p :: l')
  | hid {p : PrO} {l l' : Env} : FrzL l l' → FrzL (.ow p :: l) (.no :: l')
  | gh {p : PrO} {l l' : Env} : FrzL l l' → FrzL (.gh p :: l) (.no :: l')
theorem FrzL.ow {α : Type} {R : Rel α} {xs : List α} {l l' : Env} (h : FrzL l l') : FrzL (.ow (ownL R xs) :: l) (.st ((rLst R).pr xs) :: l') := .see seen_L h
theorem FrzL.get : ∀ {l l' : Env}, FrzL l l' → ∀ {i : Nat} {s : Sl}, l'[i]? = some s → s = .no ∨ (∃ p, s = .st p ∧ l[i]? = some (.st p)) ∨ ∃ (P : PrO) (p : Pr), s = .st p ∧ l[i]? = some (.ow P) ∧ SeenL P p
  | _, _, .nil, i, s, h => by simp at h
  | _, _, .no f, 0, s, h => by simp at h; exact .inl h.symm
  | _, _, .st f, 0, s, h => by simp at h; exact .inr (.inl ⟨_, h.symm, rfl⟩)
  | _, _, .see sn f, 0, s, h => by simp at h; exact .inr (.inr ⟨_, _, h.symm, rfl, sn⟩)
  | _, _, .hid f, 0, s, h => by simp at h; exact .inl h.symm
  | _, _, .gh f, 0, s, h => by simp at h; exact .inl h.symm
  | _, _, .no f, i + 1, s, h => by simpa using f.get (i := i) (by simpa using h)
  | _, _, .st f, i + 1, s, h => by simpa using f.get (i := i) (by simpa using h)
  | _, _, .see sn f, i + 1, s, h => by simpa using f.get (i := i) (by simpa using h)
  | _, _, .hid f, i + 1, s, h => by simpa using f.get (i := i) (by simpa using h)
  | _, _, .gh f, i + 1, s, h => by simpa using f.get (i := i) (by simpa using h)
section
variable {τ α α' β β1 β2 γ κ ρ ρ' ι θ υ δ : Type} {G : Gx} {c : Sc} {E : Eff τ} {W : WX} {Γ Γ' : Env} {B : Bs} {σ σ' : L2.St} {S S1 S' H H1 H' N : Hp} {b b' : τ}
open Classical in
/-! ### in a def whose new lists are told apart -/
/-! ### what is read of such a thing; what is changed of it, and never read again -/
structure WkR {α : Type} (R : (Addr → Prop) → Rel α) (R' : Rel α) : Prop where
  h : ∀ P x S v, (R P).is x S v → R'.is x S v
structure JAt {α : Type} (R : (Addr → Prop) → Rel α) (f : α → Option Nat) (ks : List Nat) : Prop where
  h : ∀ {P : Addr → Prop} {T : Hp} {x : α} {v : V} {n : Nat}, (R P).is x T v → f x = some n → ∃ a us, v = .ref a ∧ T a = some (.tup us) ∧ ∀ k ∈ ks, ∃ c vs, us[k]? = some (.ref c) ∧ P c ∧ T c = some (.lst vs) ∧ vs.length ≤ n
end
end Zk

namespace Zk
open PySem L2
section
variable {τ α β γ κ ρ ι θ υ : Type} {G : Gx} {c : Sc} {E : Eff τ} {W : WX} {Γ Γ' : Env}
/-! ### list(range(a, b)) -/
instance {a b : Int} : Decidable (RgOk a b) := by unfold RgOk; infer_instance
/-! ### None, or things of several kinds: ==, repr -/
structure RefB {α : Type} (R : Rel α) (f : α → Bool) : Prop where
  h : ∀ {x : α} {S : Hp} {v : V}, f x = true → R.is x S v → ∃ a, v = .ref a
end
end Zk

namespace Zk
open PySem L2 PySem.Spec PyProof.Rows
section
variable {τ α β γ δ κ ρ ι θ : Type} {G : Gx} {c : Sc} {E : Eff τ} {W : WX} {Γ Γ' : Env} {B : Bs} {σ : L2.St} {S S1 S' H H' : Hp} {b b' : τ} {L : Ls κ ρ} {t : Addr × Str} {N : Hp}
/-! ### new lists told by defs that make lambdas -/
/-! ### what is told as a tree is seen -/
/-! ### a list of two new lists -/
structure JLt {α : Type} (R : (Addr → Prop) → Rel α) (f : α → Option Nat) (ks : List Nat) : Prop where
  h : ∀ {P : Addr → Prop} {T : Hp} {x : α} {v : V} {n : Nat}, (R P).is x T v → f x = some n → ∃ a us, v = .ref a ∧ P a ∧ T a = some (.lst us) ∧ ∀ k ∈ ks, ∃ c vs, us[k]? = some (.ref c) ∧ P c ∧ c ≠ a ∧ T c = some (.lst vs) ∧ vs.length ≤ n
end
end Zk

namespace Zk
open PySem L2 PySem.Spec
section
variable {τ α β γ δ1 δ2 κ ρ ι ι2 θ : Type} {G : Gx} {c : Sc} {E : Eff τ} {W : WX} {Γ Γ' Γ1 : Env} {B : Bs} {σ : L2.St} {S S1 S' H H' : Hp} {b b' : τ} {L : Ls κ ρ} {N : Hp}
/-! ### own dicts lent: seen as stable by an expression -/
/-- a kind that looks at nothing that is frozen (no dict, no record) -/
structure NoFrz {α : Type} (R : Rel α) : Prop where
  h : ∀ {x : α} {S T : Hp} {v : V}, R.is x S v → (∀ a o, S a = some o → (∀ od u, o ≠ .frz od u) → T a = some o) → R.is x T v
/-- what is one's own is hidden -/
inductive HidL : Env → Env → Prop
  | nil : HidL [] []
  | st {p : Pr} {l l' : Env} : HidL l l' → HidL (.st p :: l) (.st p :: l')
  | hid {s : Sl} {l l' : Env} : HidL l l' → HidL (s :: l) (.no :: l')
theorem HidL.get : ∀ {l l' : Env}, HidL l l' → ∀ {i : Nat} {s : Sl}, l'[i]? = some s → s = .no ∨ ∃ p, s = .st p ∧ l[i]? = some (.st p)
  | _, _, .nil, i, s, h => by simp at h
  | _, _, .st f, 0, s, h => by simp at h; exact .inr ⟨_, h.symm, rfl⟩
  | _, _, .hid f, 0, s, h => by simp at h; exact .inl h.symm
  | _, _, .st f, i + 1, s, h => by simpa using f.get (i := i) (by simpa using h)
  | _, _, .hid f, i + 1, s, h => by simpa using f.get (i := i) (by simpa using h)
open Classical in
end
end Zk

namespace Zk
open PySem L2 PySem.Spec
section
variable {τ α β γ κ ρ ι θ : Type} {G : Gx} {c : Sc} {E : Eff τ} {W : WX} {Γ Γ' Γ1 : Env} {B : Bs} {σ : L2.St} {S S1 S' H H' : Hp} {b b' : τ} {L : Ls κ ρ}
/-! ### own lists in ghost slots: handed to defs that change them -/
/-! ### if not f(..) or ..: where f changes what is one's own -/
end
end Zk

namespace Zk
open PySem L2 PySem.Spec
section
variable {τ α β γ κ ρ ι θ : Type} {G : Gx} {c : Sc} {E : Eff τ} {W : WX} {Γ Γ' : Env}
/-! ### defs with a keyword whose told lists are new -/
end
end Zk

namespace Zk
open PySem L2 PySem.Spec
section
variable {τ α β γ κ ρ ι θ : Type} {G : Gx} {c : Sc} {E : Eff τ} {W : WX} {Γ Γ' : Env} {B : Bs} {σ : L2.St} {S S1 S' H H' N : Hp} {b b' : τ}
/-! ### sorted of tuples that are not empty -/
end
end Zk

namespace Zk
open PySem L2 PySem.Spec
section
variable {τ α β γ κ ρ ι θ : Type} {G : Gx} {c : Sc} {E : Eff τ} {W : WX} {Γ Γ' : Env} {B : Bs} {σ : L2.St} {S S1 S' H H' N : Hp} {b b' : τ}
/-! ### a told list itself changed, never read again -/
structure JRt {α : Type} (R : (Addr → Prop) → Rel α) (f : α → Option Nat) : Prop where
  h : ∀ {P : Addr → Prop} {T : Hp} {x : α} {v : V} {n : Nat}, (R P).is x T v → f x = some n → ∃ a vs, v = .ref a ∧ P a ∧ T a = some (.lst vs) ∧ vs.length ≤ n
end
end Zk

namespace Zk
open PySem L2 PySem.Spec
section
variable {X : Cx}
end
section
variable {τ α β γ κ ρ ρ' ι : Type} [DecidableEq ι] {G : Gx} {c : Sc} {E : Eff τ} {W : WX} {Γ Γ' : Env} {B : Bs} {L : Ls κ ρ} {Rk : Rel ι} {fk : ι → Key} {F : KyF Rk fk}
end
end Zk

namespace Zk
open PySem L2 PySem.Spec
/-! ### isinstance of refusals -/
theorem kit_ref {K : PySem.W.Frag} {D C : Addr} {b : Bool} (h1 : PySem.W.isClsIn K C = true) (h2 : PySem.W.typeIn K (.ref C) = some (.type "type")) (hs : PySem.W.subIn K (.ref C) (.ref C) = some true) (h3 : PySem.W.subIn K (.ref D) (.ref C) = some b) : PySem.W.kitOne K (.ref D) (.ref C) = some b := by
  unfold PySem.W.kitOne
  by_cases z : (Value.ref D == Value.ref C) = true
  · have e : Value.ref D = Value.ref C := by simpa using z
    rw [if_pos z]
    rw [e, hs] at h3
    exact h3
  · rw [if_neg z]
    show (if ((PySem.W.clsIn K C).isSome && PySem.W.typeIn K (.ref C) == some (.type "type")) = true then PySem.W.subIn K (.ref D) (.ref C) else none) = some b
    rw [h2]
    have h1 : (PySem.W.clsIn K C).isSome = true := h1
    rw [h1]
    exact h3
theorem kit_ty {K : PySem.W.Frag} {D : Addr} {T : String} {b : Bool} (h1 : PySem.W.kitMeta T = true) (h3 : PySem.W.subIn K (.ref D) (.type T) = some b) : PySem.W.kitOne K (.ref D) (.type T) = some b := by
  unfold PySem.W.kitOne
  rw [if_neg (show ¬ (Value.ref D == Value.type T) = true from fun h => nomatch (show false = true from h))]
  show (if PySem.W.kitMeta T = true then PySem.W.subIn K (.ref D) (.type T) else none) = some b
  rw [if_pos h1]
  exact h3
/-! ### xs[::k], k 1 or -1 -/
section
variable {X : Cx} {e es : Expr} {te ts : TE} {p3 pos : Pos}
end
section
variable {τ α β γ κ ρ ι θ : Type} {G : Gx} {c : Sc} {E : Eff τ} {W : WX} {Γ Γ' : Env} {B : Bs} {σ : L2.St} {S S1 S' H H' N : Hp} {b b' : τ}
/-! ### a told list itself changed, never read again: its length is told -/
structure JEt {α : Type} (R : (Addr → Prop) → Rel α) (f : α → Option Nat) : Prop where
  h : ∀ {P : Addr → Prop} {T : Hp} {x : α} {v : V} {n : Nat}, (R P).is x T v → f x = some n → ∃ a vs, v = .ref a ∧ P a ∧ T a = some (.lst vs) ∧ vs.length = n
end
end Zk

namespace Zk
open PySem L2
/-! ### a record of one's own: a dict by texts of things of any kind -/
section
variable {τ α β γ δ κ ρ ι θ υ : Type} {G : Gx} {c : Sc} {E : Eff τ} {W : WX} {Γ Γ' : Env} {B : Bs} {σ σ' : L2.St} {S S1 S' H H1 H' : Hp} {b b' : τ} {L : Ls κ ρ}
end
end Zk

namespace Zk
open PySem L2
/-! ### min, max of two texts -/
section
variable {prog : Program} {w : World} {A : Around} {E : Value → Shared → Prop} {s : Shared} {a b : Str} {t u : Tok} {Q : Value → Shared → Prop}
end
/-! ### dict(zip(xs, ys)), texts as keys -/
section
variable {τ α β γ δ κ ρ ι θ υ : Type} {G : Gx} {c : Sc} {E : Eff τ} {W : WX} {Γ Γ' : Env} {B : Bs} {σ σ' : L2.St} {S S1 S' H H1 H' : Hp} {b b' : τ} {L : Ls κ ρ} {e e2 : Expr} {x : Str} {p pos : Pos}
/-! ### what is never come to, as a value (a def that calls itself no deeper) -/
/-! ### dict(zip(..)) -/
end
end Zk

namespace Zk
open PySem L2 PyProof.Rows
/-! ### enumerate of a tuple -/
section
variable {τ α β γ δ κ ρ ι θ : Type} {G : Gx} {c : Sc} {E : Eff τ} {W : WX} {Γ : Env}
end
end Zk

namespace Zk
open PySem L2 PySem.Spec PyProof.Rows
/-! ### things of several kinds in tuples -/
section
variable {τ α β γ δ κ ρ ι θ : Type} {G : Gx} {c : Sc} {E : Eff τ} {W : WX} {Γ Γ' : Env} {B : Bs} {σ : L2.St} {S S1 S' H H' : Hp} {b b' : τ} {L : Ls κ ρ}
variable {ea eb : Expr} {pos : Pos} {R : Rel α} {R2 : Rel β}
/-! ### a name of several kinds is one of them by then -/
structure PrjOk (f : α → Option β) (R : Rel α) (R1 : Rel β) : Prop where
  h : ∀ {x y S v}, f x = some y → R.is x S v → R1.is y S v
/-! ### repr of things of several kinds, texts among them -/
theorem cr_reprS {X : Cx} : CallR X (.builtin "repr") (fun xs H Q => ∃ i : Str, xs = [.str i] ∧ (reprText i).length ≤ sizeLine ∧ Q (.str (reprText i)) H) := by
  intro pins s σ H xs us Q I r h
  obtain ⟨i, rfl, hz, q⟩ := h
  obtain ⟨u, rfl, rx⟩ := vals1 r
  obtain ⟨t, rfl⟩ := (show ∃ t, u = Value.str i t from rx)
  exact PySem.P.repr_of_str ⟨.str _, H, I.tok _, ⟨_, rfl⟩, q⟩ hz
structure RefS (R : Rel α) (D : DatW R) : Prop where
  h : ∀ {x : α} {S : Hp} {v : V}, R.is x S v → (∃ a, v = .ref a) ∨ ∃ s, v = .str s ∧ D.d x = .str s
end
end Zk

namespace Zk
open PySem L2 PySem.Spec PyProof.Rows
/-! ### keys: pairs of standings -/
instance decRR : DecidableEq (List (Str × Int × Int) × List (Str × Int × Int)) := inferInstance
section
variable {τ α β γ δ κ ρ ι θ : Type} {G : Gx} {c : Sc} {E : Eff τ} {W : WX} {Γ Γ' : Env} {B : Bs} {σ : L2.St} {S S1 S' H H' : Hp} {b b' : τ} {L : Ls κ ρ}
/-! ### x in a pair of things -/
section
variable {ea eb : Expr} {pos : Pos} {R : Rel α} {R1 : Rel β} {R2 : Rel γ}
/-! ### a pair of None-or-things taken as the pair of things -/
end
/-! ### a dict whose values are of another kind for a while -/
section
variable [DecidableEq ι] {K : Ky G ι} {R3 : Rel β} {R2 : Rel α}
end
/-! ### a row of three and one more -/
end
end Zk

namespace Zk
open PySem L2
/-! ### dict(zip(xs, ys)), tuples as keys -/
section
variable {τ α β γ δ κ ρ ι θ υ : Type} {G : Gx} {c : Sc} {E : Eff τ} {W : WX} {Γ Γ' : Env} {B : Bs} {σ σ' : L2.St} {S S1 S' H H1 H' : Hp} {b b' : τ} {L : Ls κ ρ} {e e2 : Expr} {x : Str} {p pos : Pos}
variable [DecidableEq ι] {R : Rel ι} {D : DatR R}
end
/-! ### a thing that three things of its own hang on -/
section
variable {τ α β γ δ κ ρ ι θ υ β1 β2 β3 : Type} {G : Gx} {c : Sc} {E : Eff τ} {W : WX} {Γ Γ' : Env} {B : Bs} {σ σ' : L2.St} {S S1 S' H H1 H' : Hp} {b b' : τ} {L : Ls κ ρ}
end

/-! ### sorted of an own dict with tuples as keys -/
section
variable {τ α β γ κ ρ ι θ : Type} {G : Gx} {c : Sc} {E : Eff τ} {W : WX} {Γ Γ' : Env} {B : Bs} {σ : L2.St} {S S1 S' H H' : Hp} {b b' : τ} {L : Ls κ ρ}
variable [DecidableEq ι] {R : Rel ι} {D : DatR R} {R2 : Rel α}
end

/-! ### dicts of ints: != -/
section
variable {τ α β γ κ ρ ι θ : Type} {G : Gx} {c : Sc} {E : Eff τ} {W : WX} {Γ Γ' : Env} {B : Bs} {σ : L2.St} {S S1 S' H H' : Hp} {b b' : τ} {L : Ls κ ρ} [DecidableEq ι] {R : Rel ι} {f : ι → Key} {pos : Pos}
variable {ea eb : Expr}
end
end Zk

namespace Zk
open PySem L2 PySem.Spec
section
variable {τ α β γ δ κ ρ ρ' ι θ υ : Type} {G : Gx} {c : Sc} {E : Eff τ} {W : WX} {Γ Γ' Γ1 : Env} {B : Bs} {σ : L2.St} {S S1 S' H H' : Hp} {b b' : τ} {L : Ls κ ρ'}
/-! ### an own record lent to an expression, out of which something new comes -/
/-- a kind that looks at no frozen dict with plain keys -/
structure NoDk {α : Type} (R : Rel α) : Prop where
  h : ∀ {x : α} {S T : Hp} {v : V}, R.is x S v → (∀ a o, S a = some o → (∀ od es, o ≠ .frz od (.dK es)) → T a = some o) → R.is x T v
structure NoDkP (P : PrO) : Prop where
  h : ∀ {S T H H' : Hp} {v : V} {F : Addr → Prop}, P.p S H v F → (∀ a o, S a = some o → (∀ od es, o ≠ .frz od (.dK es)) → T a = some o) → (∀ a o, F a → H a = some o → H' a = some o) → P.p T H' v F
theorem HidL.len : ∀ {l l' : Env}, HidL l l' → l.length = l'.length
  | _, _, .nil => rfl
  | _, _, .st f => by rw [List.length_cons, List.length_cons, f.len]
  | _, _, .hid f => by rw [List.length_cons, List.length_cons, f.len]
open Classical in
end
section
variable {τ α β γ δ κ ρ ρ' ι θ υ : Type} {G : Gx} {c : Sc} {E : Eff τ} {W : WX} {Γ Γ' Γ1 : Env} {B : Bs} {σ : L2.St} {S S1 S' H H' : Hp} {b b' : τ} {L : Ls κ ρ'}
/-! ### two own dicts lent, by their names -/
/-! ### lists of things, and None behind -/
/-! ### x["k"], y["k"] = a, b: new keys of own records -/
end
end Zk

namespace Zk
open PySem L2 PySem.Spec
/-! ### new dicts handed to a def that changes them -/
section
variable {τ α β γ δ κ ρ ρ' ι θ υ η : Type} {G : Gx} {c : Sc} {E : Eff τ} {W : WX} {Γ Γ' Γ1 : Env} {B : Bs} {σ : L2.St} {S S1 S' H H' : Hp} {b b' : τ}
variable {g : Bool} {x : Str} {k : Nat} {ps : List Str} {A' : θ → α → List Pr} {gs' : θ → γ → List PrO} {R : Rel ρ'} {e : Expr} {es : List Expr} {p cpos pos : Pos}
end
section
variable {τ α β γ κ ρ ι θ : Type} {G : Gx} {c : Sc} {E : Eff τ} {W : WX} {Γ Γ' : Env} {B : Bs} {σ : L2.St} {S S1 S' H H' : Hp} {b b' : τ} [DecidableEq ι] {R : Rel ι} {f : ι → Key} {R2 : Rel α} {e : Expr} {x : Str} {p pos : Pos}
end
end Zk

namespace Zk
open PySem L2 PySem.Spec
section
variable {τ α β γ δ κ ρ ρ' ι θ υ : Type} {G : Gx} {c : Sc} {E : Eff τ} {W : WX} {Γ Γ' Γ1 : Env} {B : Bs} {σ : L2.St} {S S1 S' H H' : Hp} {b b' : τ} {L : Ls κ ρ}
/-! ### x, y, z = a new thing, a new thing, something -/
end
/-! ### if a and f(..) is not None, where f changes own dicts -/
section
variable {τ α γ κ ρ ρ' : Type} {G : Gx} {c : Sc} {E : Eff τ} {W : WX} {Γ : Env} {L : Ls κ ρ} {Γ' : γ → Env} {R : Rel ρ'} {e ea : Expr} {a d : List Stmt} {m1 : M τ Bool} {m : M τ (Option ρ' × γ)} {n o : γ → M τ (Fl α κ ρ)} {Γn : α → Env} {pos pp pq pb : Pos} {j : Nat}
end
end Zk

namespace Zk
open PySem L2 PySem.Spec
section
variable {τ α β γ δ κ ρ ρ' ι θ υ η ε : Type} {G : Gx} {c : Sc} {E : Eff τ} {W : WX} {L : Ls κ ρ} {Γ Γ' Γ1 : Env} {B : Bs} {σ : L2.St} {S S1 S' H H' : Hp} {b b' : τ}
/-! ### a def as a thing: a name of one's own that holds it -/
end
end Zk

namespace Zk
open PySem L2 PySem.Spec PyProof.Rows
/-! ### iteration over what is a tuple or a list -/
section
variable {τ α β γ δ κ ρ ι θ : Type} {G : Gx} {c : Sc} {E : Eff τ} {W : WX} {Γ Γ' : Env} {B : Bs} {σ : L2.St} {S S1 S' H H' : Hp} {b b' : τ} {L : Ls κ ρ}
/-! ### x in a list of things of several kinds -/
section
variable {ea eb : Expr} {pos : Pos} {R : Rel α} {R2 : Rel β}
end
/-! ### d.update(e) -/
section
variable [DecidableEq ι] {R : Rel ι} {f : ι → Key} {R2 : Rel α}
end
/-! ### a dict whose values are told otherwise -/
section
variable [DecidableEq ι] {K : Ky G ι} {R1 : Rel α} {R2 : Rel β} {f : α → β}
end
/-! ### dicts compared, whose values are plain, whatever the order of keys -/
structure FlR (R : Rel α) [DecidableEq α] where
  d : α → PyData
  fl : ∀ {x : α} {S : Hp} {v : V} {u : Value}, R.is x S v → RelV v u → PyProof.V.Flat u (d x)
  ev : ∀ x y : α, PyData.eqv (d x) (d y) = decide (x = y)
section
variable [DecidableEq ι] {R : Rel ι} {f : ι → Key} {R2 : Rel α} [DecidableEq α]
variable {ea eb : Expr} {pos : Pos}
end
/-! ### a == b in a suite of except -/
/-! ### a name that holds a def that makes lambdas -/
/-! ### own dicts of a record lent, where there is a table -/
structure FreeK {τ : Type} (E : Eff τ) : Prop where
  h : ∀ {b b0 : τ} {S S' H S0 H0 : Hp}, E.is b0 S0 H0 → Same S0 S' → (∀ a o, S' a = some o → S a = some o) → (∀ a o, S a = some o → (∀ od u, o ≠ .frz od u) → S' a = some o) → E.is b S H → E.is b S' H
section
variable {τ α β γ δ1 δ2 κ ρ ι ι2 θ : Type} {G : Gx} {c : Sc} {E : Eff τ} {W : WX} {Γ Γ' Γ1 : Env} {B : Bs} {σ : L2.St} {S S1 S' H H' : Hp} {b b' : τ} {L : Ls κ ρ} {N : Hp}
open Classical in
end
end
end Zk

namespace Zk
open PySem L2 PySem.Spec PyProof.Rows
/-! ### an exception that leaves a list comprehension -/
section
variable {M : Model} {A : Around} {Ex : Value → Shared → Prop} {s : Shared} {Bg : Heap} {en : PySem.Env} {ou : List PySem.Env} {x L : Addr} {Zx : Obj → Prop} {fw : Value}
end
section
variable {X : Cx} {pins : List (Addr × Obj)} {σ : L2.St} {H : Hp} {s : Shared} {W : WX} {scope : Scope} {ce : PySem.Env} {fp : List Addr}
end
section
variable {X : Cx} {W : WX}
end
section
variable {τ α β γ δ κ ρ ι θ : Type} {G : Gx} {c : Sc} {E : Eff τ} {W : WX} {Γ Γ' : Env} {B : Bs} {σ : L2.St} {S S1 S' H H' : Hp} {b b' : τ} {L : Ls κ ρ}
def lcEndX (G : Gx) (E : Eff τ) (W : Value → Option Addr → Hp → Prop) (B : Bs) (Γ : Env) (σ : L2.St) (S : Hp) (R' : Rel γ) (Q : VK) : Out τ (List γ) → Prop
  | .ok ys b' => ∀ D S' H' us, Same S S' → Hold E (Bd B D (.lst us)) Γ b' σ S' H' → B.S D = none → B.H D = none → ¬ E.own D → All2 (fun x v => R'.is x S' v) ys us → Q (.ref D) H'
  | .exc x b' => ∀ c d S' H', Same S S' → Hold E B Γ b' σ S' H' → XAt G x H' c d → W c d H'
  | .stuck => False
theorem lcEndX.same {Wo : Value → Option Addr → Hp → Prop} {R' : Rel γ} {Q : VK} (s : Same S S1) : ∀ {o : Out τ (List γ)}, lcEndX G E Wo B Γ σ S R' Q o → lcEndX G E Wo B Γ σ S1 R' Q o
  | .ok _ _, h => fun D S' H' us s2 => h D S' H' us (s.trans s2)
  | .exc _ _, h => fun c d S' H' s2 => h c d S' H' (s.trans s2)
  | .stuck, h => h
structure LcX (G : Gx) (c : Sc) (E : Eff τ) (W : WX) (Γ : Env) (elt tg iter : Expr) (ifs : List Expr) (scope : Scope) (own : List (Str × Nat)) (m : M τ (List β)) (t : β → M τ Bool) (f : β → M τ γ) (R : Rel β) (R' : Rel γ) (Γ1 : β → Env) : Prop where
  ok : BlkOk c.N c.sc scope own
  hi : ZI G c E W Γ tg iter m R
  hg : ZG G (c.blk scope) E Wf (wipeE Γ (own.map (·.2))) (own.map (·.2)) tg Γ1 R
  ht : ∀ x, ZTs G (c.blk scope) E Wf (Γ1 x) ifs (t x)
  he : ∀ (W' : WX) x, ZE G (c.blk scope) E W' (Γ1 x) elt (f x) R'
  no : ∀ (i : Nat) s, Γ[i]? = some s → s = .no ∨ i ∉ own.map (·.2)
  fs : ∀ (env : PySem.Env) x, foldedSetIterable iter env x = pure x
end
end Zk

namespace Zk
open PySem L2
/-! ### an own record: an item that is an own dict; an item put anew; items read -/
section
variable {τ α β γ δ κ ρ ι θ υ : Type} {G : Gx} {c : Sc} {E : Eff τ} {W : WX} {Γ Γ' : Env} {B : Bs} {σ σ' : L2.St} {S S1 S' H H1 H' : Hp} {b b' : τ} {L : Ls κ ρ}
/-- two ghosts are one -/
theorem Hold.join {g : Nat} {p1 p2 p : PrO} (h : Hold E B (Γ ++ [.gh p2]) b σ S H) (hg : Γ[g]? = some (.gh p1)) (hp : ∀ {F F2 : Addr → Prop}, p1.p S H .non F → p2.p S H .non F2 → (∀ a, ¬ (F a ∧ F2 a)) → p.p S H .non (fun a => F a ∨ F2 a)) : Hold E B (Γ.set g (.gh p)) b σ S H := by
  obtain ⟨Fs, hFe, hs⟩ := id h.sl
  have hlt := (List.getElem?_eq_some_iff.mp hg).1
  have hn : g ≠ Γ.length := by omega
  have h1 : p1.p S H .non (Fs g) := hs g (.gh p1) (by rw [List.getElem?_append_left hlt]; exact hg)
  have h2 : p2.p S H .non (Fs Γ.length) := hs Γ.length (.gh p2) (by simp)
  have h3 := hp h1 h2 fun a z => hn (hFe.ds g Γ.length a z.1 z.2)
  refine ⟨h.kp, h.ef, fun j a => (j ≠ g ∧ j < Γ.length ∧ Fs j a) ∨ (j = g ∧ (Fs g a ∨ Fs Γ.length a)), ⟨fun j a e => ?_, fun j k a z1 z2 => ?_⟩, fun j s e => ?_⟩
  · rcases e with ⟨_, _, e⟩ | ⟨_, e | e⟩
    · exact hFe.at_ j a e
    · exact hFe.at_ g a e
    · exact hFe.at_ Γ.length a e
  · rcases z1 with ⟨n1, n1', e1⟩ | ⟨n1, e1⟩ <;> rcases z2 with ⟨n2, n2', e2⟩ | ⟨n2, e2⟩
    · exact hFe.ds j k a e1 e2
    · rcases e2 with e2 | e2
      · exact absurd (hFe.ds j g a e1 e2) n1
      · exact absurd (hFe.ds j Γ.length a e1 e2) (by omega)
    · rcases e1 with e1 | e1
      · exact absurd (hFe.ds k g a e2 e1) n2
      · exact absurd (hFe.ds k Γ.length a e2 e1) (by omega)
    · rw [n1, n2]
  · rcases set_get e with ⟨rfl, rfl⟩ | ⟨n, e⟩
    · have : (fun a => (j ≠ j ∧ j < Γ.length ∧ Fs j a) ∨ (j = j ∧ (Fs j a ∨ Fs Γ.length a))) = fun a => Fs j a ∨ Fs Γ.length a := funext fun a => propext ⟨fun z => z.elim (fun z => absurd rfl z.1) (·.2), fun z => .inr ⟨rfl, z⟩⟩
      show p.p S H .non (fun a => (j ≠ j ∧ j < Γ.length ∧ Fs j a) ∨ (j = j ∧ (Fs j a ∨ Fs Γ.length a)))
      rw [this]; exact h3
    · have hj := (List.getElem?_eq_some_iff.mp e).1
      have : (fun a => (j ≠ g ∧ j < Γ.length ∧ Fs j a) ∨ (j = g ∧ (Fs g a ∨ Fs Γ.length a))) = Fs j := funext fun a => propext ⟨fun z => z.elim (·.2.2) fun z => absurd z.1 n, fun z => .inl ⟨n, hj, z⟩⟩
      have q := hs j s (by rw [List.getElem?_append_left hj]; exact e)
      cases s with
      | no => trivial
      | st p => exact q
      | ow p => obtain ⟨x, e1, e2⟩ := q; exact ⟨x, e1, by show p.p S H x (fun a => (j ≠ g ∧ j < Γ.length ∧ Fs j a) ∨ (j = g ∧ (Fs g a ∨ Fs Γ.length a))); rw [this]; exact e2⟩
      | gh p => show p.p S H .non (fun a => (j ≠ g ∧ j < Γ.length ∧ Fs j a) ∨ (j = g ∧ (Fs g a ∨ Fs Γ.length a))); rw [this]; exact q
end
end Zk

namespace Zk
open PySem L2
/-! ### things of any kind: what they are is looked at as the law runs -/
mutual
inductive Dq (S : Hp) : V → PyData → Prop
  | non : Dq S .non .none
  | bl (b : Bool) : Dq S (.bl b) (.bool b)
  | int (i : Int) : Dq S (.int i) (.int i)
  | str (x : Str) : Dq S (.str x) (.str x)
  | lst {a : Addr} {xs : List V} {ds : List PyData} : S a = some (.lst xs) → DqAll S xs ds → Dq S (.ref a) (.list ds)
  | tup {a : Addr} {xs : List V} {ds : List PyData} : S a = some (.tup xs) → DqAll S xs ds → Dq S (.ref a) (.tuple ds)
  | dct {a : Addr} {o : Obj} : S a = some (.frz o (.dK [])) → Dq S (.ref a) (.dict [])
inductive DqAll (S : Hp) : List V → List PyData → Prop
  | nil : DqAll S [] []
  | cons {v : V} {vs : List V} {d : PyData} {ds : List PyData} : Dq S v d → DqAll S vs ds → DqAll S (v :: vs) (d :: ds)
end
section
variable {S S' : Hp}
mutual
theorem dq_sm (s : Same S S') : ∀ {v : V} {d : PyData}, Dq S v d → Dq S' v d
  | _, _, .non => .non
  | _, _, .bl b => .bl b
  | _, _, .int i => .int i
  | _, _, .str x => .str x
  | _, _, .lst h q => .lst (s _ _ h) (dqa_sm s q)
  | _, _, .tup h q => .tup (s _ _ h) (dqa_sm s q)
  | _, _, .dct h => .dct (s _ _ h)
theorem dqa_sm (s : Same S S') : ∀ {v : List V} {d : List PyData}, DqAll S v d → DqAll S' v d
  | _, _, .nil => .nil
  | _, _, .cons h q => .cons (dq_sm s h) (dqa_sm s q)
end
mutual
theorem Dq.dp {K : PySem.W.Frag} : ∀ {v : V} {d : PyData}, Dq S v d → d.hasDict = false → Dp K S v d
  | _, _, .non, _ => .non
  | _, _, .bl b, _ => .bl b
  | _, _, .int i, _ => .int i
  | _, _, .str x, _ => .str x
  | _, _, .lst h q, n => .lst (.of h) (DqAll.dp q (by simpa only [PyData.hasDict] using n))
  | _, _, .tup h q, n => .tup (.of h) (DqAll.dp q (by simpa only [PyData.hasDict] using n))
  | _, _, .dct _, n => by simp [PyData.hasDict] at n
theorem DqAll.dp {K : PySem.W.Frag} : ∀ {v : List V} {d : List PyData}, DqAll S v d → PyData.hasDictAll d = false → DpAll K S v d
  | _, _, .nil, _ => .nil
  | _, _, .cons h q, n => by
    simp only [PyData.hasDictAll, Bool.or_eq_false_iff] at n
    exact .cons (Dq.dp h n.1) (DqAll.dp q n.2)
end
theorem canLay_hd : (∀ d : PyData, d.canLay0 = true → d.hasDict = false) := fun d => by
  refine PyData.rec (motive_1 := fun d => d.canLay0 = true → d.hasDict = false) (motive_2 := fun ds => PyData.canLayAll0 ds = true → PyData.hasDictAll ds = false) (motive_3 := fun _ => True) (motive_4 := fun _ => True) ?_ ?_ ?_ ?_ ?_ ?_ ?_ ?_ ?_ ?_ ?_ ?_ d
  all_goals simp (config := {contextual := true}) [PyData.canLay0, PyData.canLayAll0, PyData.hasDict, PyData.hasDictAll]
theorem shaped_hd {d : PyData} (h : SeqAt.shaped d = true) : d.hasDict = false := canLay_hd d (SeqAt.canLay_of_shaped h)
end
def rQ : Rel PyData := ⟨fun d S v => Dq S v d, fun s h => dq_sm s h⟩
theorem dqAll_all2 {S : Hp} : ∀ {ds : List PyData} {vs : List V}, DqAll S vs ds → All2 (fun d v => rQ.is d S v) ds vs
  | [], [], _ => trivial
  | _ :: _, _ :: _, .cons h q => ⟨h, dqAll_all2 q⟩
  | [], _ :: _, h => nomatch h
  | _ :: _, [], h => nomatch h
/-- what is a thing -/
structure DaQ {α : Type} (R : Rel α) where
  d : α → PyData
  q : ∀ {x : α} {S : Hp} {v : V}, R.is x S v → Dq S v (d x)
section
variable {α β γ : Type}
def qI : DaQ rInt := ⟨fun x => .int x, fun h => by cases h; exact .int _⟩
def qS : DaQ rStr := ⟨fun x => .str x, fun h => by cases h; exact .str _⟩
def qB : DaQ rBl := ⟨fun x => .bool x, fun h => by cases h; exact .bl _⟩
def qN : DaQ rNon := ⟨fun _ => .none, fun h => by cases h; exact .non⟩
def qQ : DaQ rQ := ⟨id, fun h => h⟩
theorem daq_all {R : Rel α} (D : DaQ R) {S : Hp} : ∀ {xs : List α} {vs : List V}, All2 (fun x v => R.is x S v) xs vs → DqAll S vs (xs.map D.d)
  | [], [], _ => .nil
  | _ :: _, _ :: _, ⟨h, q⟩ => .cons (D.q h) (daq_all D q)
  | [], _ :: _, h => h.elim
  | _ :: _, [], h => h.elim
def qL {R : Rel α} (D : DaQ R) : DaQ (rLst R) := ⟨fun xs => .list (xs.map D.d), fun ⟨a, vs, e, h, q⟩ => by cases e; exact .lst h (daq_all D q)⟩
def qV {R : Rel α} (D : DaQ R) : DaQ (rVT R) := ⟨fun xs => .tuple (xs.map D.d), fun ⟨a, vs, e, h, q⟩ => by cases e; exact .tup h (daq_all D q)⟩
def q2 {R : Rel α} {R2 : Rel β} (D : DaQ R) (F : DaQ R2) : DaQ (rT2 R R2) := ⟨fun x => .tuple [D.d x.1, F.d x.2], fun ⟨a, u, w, e, h, q, r⟩ => by cases e; exact .tup h (.cons (D.q q) (.cons (F.q r) .nil))⟩
def q3 {R : Rel α} {R2 : Rel β} {R3 : Rel γ} (D : DaQ R) (F : DaQ R2) (J : DaQ R3) : DaQ (rT3 R R2 R3) := ⟨fun x => .tuple [D.d x.1, F.d x.2.1, J.d x.2.2], fun ⟨a, u, w, z, e, h, q, r, t⟩ => by cases e; exact .tup h (.cons (D.q q) (.cons (F.q r) (.cons (J.q t) .nil)))⟩
end
/-- .. or a dict of texts and numbers -/
def FlD (S : Hp) (v : V) (d : PyData) : Prop := ∃ (a : Addr) (o : Obj) (es : List (Key × V)) (xs : List (Str × Int)), v = .ref a ∧ S a = some (.frz o (.dK es)) ∧ d = .dict (xs.map fun t => (.str t.1, .int t.2)) ∧ All2 (fun (x : Str × Int) t => t.1 = Sum.inr x.1 ∧ t.2 = V.int x.2) xs es
def rX : Rel PyData := ⟨fun d S v => Dq S v d ∨ FlD S v d, fun s h => h.imp (dq_sm s) fun ⟨a, o, es, xs, e1, e2, e3, q⟩ => ⟨a, o, es, xs, e1, s _ _ e2, e3, q⟩⟩
def asI : PyData → Option Int | .int i => some i | _ => none
def asS : PyData → Option Str | .str x => some x | _ => none
def asL : PyData → Option (List PyData) | .list ds => some ds | _ => none
def asT : PyData → Option (List PyData) | .tuple ds => some ds | _ => none
section
variable {τ α β γ δ κ ρ ι θ υ : Type} {G : Gx} {c : Sc} {E : Eff τ} {W : WX} {Γ Γ' : Env} {B : Bs} {σ σ' : L2.St} {S S1 S' H H1 H' : Hp} {b b' : τ} {L : Ls κ ρ} {e : Expr} {p pos : Pos} {x : Str}
/-- a thing of some kind is a thing -/
theorem z_q {R : Rel α} (D : DaQ R) {m : M τ α} (h : ZE G c E W Γ e m R) : ZE G c E W Γ e (zget D.d m) rQ := fun X C => pe_wk (h X C) fun σ H Q _ ⟨B, S, b, hh, q⟩ => by
  refine tz_bnd hh q fun x b1 v S1 H1 s1 h1 r1 q1 => ?_
  exact aft_ret h1 q1 (D.q r1)
theorem z_x {R : Rel α} (D : DaQ R) {m : M τ α} (h : ZE G c E W Γ e m R) : ZE G c E W Γ e (zget D.d m) rX := fun X C => pe_wk (h X C) fun σ H Q _ ⟨B, S, b, hh, q⟩ => by
  refine tz_bnd hh q fun x b1 v S1 H1 s1 h1 r1 q1 => ?_
  exact aft_ret h1 q1 (.inl (D.q r1))
/-- what a thing is taken as -/
theorem z_as {R : Rel α} {R1 : Rel β} {f : α → Option β} (hf : ∀ {x y S v}, f x = some y → R.is x S v → R1.is y S v) {m : M τ α} (h : ZE G c E W Γ e m R) : ZE G c E W Γ e (zgetP f m) R1 := fun X C => pe_wk (h X C) fun σ H Q _ ⟨B, S, b, hh, q⟩ => by
  refine tz_bnd hh q fun x b1 v S1 H1 s1 h1 r1 q1 => ?_
  cases e1 : f x with
  | none => rw [e1] at q1; exact q1.elim
  | some y => rw [e1] at q1; exact aft_ret h1 q1 (hf e1 r1)
theorem as_I : ∀ {x y S v}, asI x = some y → rQ.is x S v → rInt.is y S v := fun {x y S v} e r => by
  cases x <;> cases e
  have r : Dq S v (.int y) := r
  cases r; rfl
theorem as_S : ∀ {x y S v}, asS x = some y → rQ.is x S v → rStr.is y S v := fun {x y S v} e r => by
  cases x <;> cases e
  have r : Dq S v (.str y) := r
  cases r; rfl
theorem as_L : ∀ {x y S v}, asL x = some y → rQ.is x S v → (rLst rQ).is y S v := fun {x y S v} e r => by
  cases x <;> cases e
  have r : Dq S v (.list y) := r
  cases r with
  | lst h q => exact ⟨_, _, rfl, h, dqAll_all2 q⟩
theorem as_T : ∀ {x y S v}, asT x = some y → rQ.is x S v → (rVT rQ).is y S v := fun {x y S v} e r => by
  cases x <;> cases e
  have r : Dq S v (.tuple y) := r
  cases r with
  | tup h q => exact ⟨_, _, rfl, h, dqAll_all2 q⟩
/-- isinstance of a thing -/
theorem tyx_q {K : PySem.W.Frag} {v : V} {d : PyData} (h : Dq S v d) : TyX K S v (.type (tyD d)) := by
  cases h with
  | non => exact .base .non
  | bl b => exact .base (.bl b)
  | int i => exact .base (.int i)
  | str x => exact .base (.str x)
  | lst h q => exact .base (.lst h)
  | tup h q => exact .base (.tup h)
  | dct h => exact .fDict h
theorem tyx_X {K : PySem.W.Frag} {v : V} {d : PyData} (h : rX.is d S v) : TyX K S v (.type (tyD d)) := h.elim (fun h => tyx_q h) fun ⟨a, o, es, xs, e1, e2, e3, q⟩ => by
  subst e1 e3
  exact .fDict e2
theorem z_isiX {y : Str} {p2 : Pos} {n : String} {m : M τ PyData} (bl : Blt G c x (.builtin "isinstance")) (b2 : Blt G c y (.type n)) (hk : ∀ d : PyData, PySem.W.kitOne G.K (.type (tyD d)) (.type n) = some (isD n d)) (ha : ZE G c E W Γ e m rX) (hs : Star e [.Name y p2] := by intro _; rfl) :
    ZE G c E W Γ (.Call (.Name x p) [e, .Name y p2] [] pos) (zget (isD n) m) rBl := fun X C =>
  pe_wk (pe_callB (call_isi) (C.gl bl.g) (by rw [C.mg]; exact bl.m) bl.v (pa_cons (ha X C) (pa_cons (pe_bltn (v := .ty n) (C.gl b2.g) (by rw [C.mg]; exact b2.m) b2.v rfl b2.n b2.d) pa_nil (by rfl)) (hs X.env)) bl.n bl.d (hs X.env) (by rfl)) fun σ H Q _ ⟨B, S, b, hh, q⟩ => by
    refine tz_bnd hh q fun x b1 v S1 H1 s1 h1 r1 q1 => ?_
    exact ⟨v, .ty n, .type (tyD x), .type n, isD n x, rfl, .ty n, by rw [C.K]; exact tyx_X (rX.mono h1.same r1), by rw [C.K]; exact hk x, aft_ret h1 q1 rfl⟩
/-! == and in of things -/
def dneP (x y : PyData) : M τ Bool := chk (SeqAt.shaped x = true ∧ SeqAt.shaped y = true) (ret (!PyData.eqv x y))
theorem op_dneP : Op2 G E W Γ (rNeD G.K) rQ rQ dneP rBl := fun B σ S H b x y v w Q hh hx hy q => by
  obtain ⟨⟨h1, h2⟩, q⟩ := aft_chk q
  exact ⟨_, _, (rQ.mono hh.same hx : Dq H v x).dp (shaped_hd h1), (rQ.mono hh.same hy : Dq H w y).dp (shaped_hd h2), h1, h2, aft_ret hh q rfl⟩
section
variable {ea eb : Expr} {ma mb : M τ PyData}
theorem zt_dneP (ha : ZE G c E W Γ ea ma rQ) (hb : ZE G c E W Γ eb mb rQ) : ZT G c E W Γ (.Compare ea [.NotEq] [eb] pos) (zop2 dneP ma mb) := zt_cmp (fun X C => by rw [← C.K]; exact op_neD C.room.units) op_dneP ha hb (nomark _)
end
/-! repr of a thing -/
def encK : Key → PyData | .inl i => .int i | .inr x => .str x
theorem fl_pairs {h : Heap} : ∀ {ys : List (Str × Int)} {es : List (Key × V)} {vs : List (Key × Value)}, All2 (fun (x : Str × Int) t => t.1 = Sum.inr x.1 ∧ t.2 = V.int x.2) ys es → KV es vs → PyProof.V.PairsRead h encK vs (ys.map fun t => (.str t.1, .int t.2)) []
  | [], [], _, _, r => by cases r; exact .nil
  | y :: ys, t :: es, vs, ⟨⟨h1, h2⟩, q⟩, r => by
    cases r with
    | @cons _ w _ ws k rr =>
      obtain ⟨k1, k2⟩ := k
      obtain ⟨wk, wv⟩ := w
      have k1 : t.1 = wk := k1
      have k2 : RelV t.2 wv := k2
      rw [h2] at k2
      obtain ⟨tk, rfl⟩ := (show ∃ t, wv = Value.int y.2 t from k2)
      have e : encK wk = .str y.1 := by
        have z : t.1 = wk := k1
        rw [← z, h1]; rfl
      have := PyProof.V.PairsRead.cons (enc := encK) (k := wk) (Reads.int y.2 tk : Reads h (Value.int y.2 tk) (.int y.2) []) (fl_pairs q rr)
      rw [e] at this
      exact this
  | [], _ :: _, _, h, _ => h.elim
  | _ :: _, [], _, h, _ => h.elim
def rReprX : List V → Hp → VK → Prop := fun xs H Q => ∃ v d, xs = [v] ∧ ((Dq H v d ∧ d.hasDict = false) ∨ FlD H v d) ∧ d.showable = true ∧ d.depth ≤ 60 ∧ d.shown.length ≤ sizeLine ∧ Q (.str d.shown) H
theorem cr_reprX {X : Cx} (hg : X.A.guards = some []) (hu : X.A.units + 64 < cLine) : CallR X (.builtin "repr") rReprX := by
  intro pins s σ H xs us Q I r h
  obtain ⟨v, d, rfl, hd, h1, h3, h4, q⟩ := h
  rcases hd with ⟨hd, h2⟩ | ⟨a, o, es, ys, rfl, ea, rfl, hq⟩
  · cases hd with
    | non =>
      obtain ⟨u, rfl, rx⟩ := vals1 r
      obtain rfl : u = Value.none := rx
      simp only [PyData.shown] at q
      exact PySem.P.repr_of_none ⟨.str _, H, I.tok _, ⟨_, rfl⟩, q⟩
    | bl b =>
      obtain ⟨u, rfl, rx⟩ := vals1 r
      obtain rfl : u = Value.bool b := rx
      simp only [PyData.shown] at q
      exact PySem.P.repr_of_bool ⟨.str _, H, I.tok _, ⟨_, rfl⟩, q⟩
    | int i => exact SkE.call_repr_int pins s σ H _ us Q I r ⟨i, rfl, by simpa [PyData.showable] using h1, by simpa only [PyData.shown] using q⟩
    | str x => exact cr_reprS pins s σ H _ us Q I r ⟨x, rfl, by simpa only [PyData.shown] using h4, by simpa only [PyData.shown] using q⟩
    | lst h q' =>
      rw [Vals.ref1 r]
      obtain ⟨as, rd⟩ := Dp.reads I _ _ (.ref _) (Dq.dp (.lst h q') h2) rfl
      exact repr_of_reads' rd h1 (PyData.noDict_hsm h2) hg (by omega) (fun _ _ z => z) (fun h' u tk k => ⟨.str _, H, I.kept (t' := tk) k, ⟨_, rfl⟩, q⟩) h4
    | tup h q' =>
      rw [Vals.ref1 r]
      obtain ⟨as, rd⟩ := Dp.reads I _ _ (.ref _) (Dq.dp (.tup h q') h2) rfl
      exact repr_of_reads' rd h1 (PyData.noDict_hsm h2) hg (by omega) (fun _ _ z => z) (fun h' u tk k => ⟨.str _, H, I.kept (t' := tk) k, ⟨_, rfl⟩, q⟩) h4
    | dct h => simp [PyData.hasDict] at h2
  · rw [Vals.ref1 r]
    obtain ⟨_, lo, vs, ra, da⟩ := dk_rd I.hok (.inr ⟨o, ea⟩)
    have rd := PyProof.V.reads_dictOf (enc := encK) (fun k key hk => by
      rcases keyIs_shape hk with ⟨i, t, rfl, rfl⟩ | ⟨x, t, rfl, rfl⟩
      · exact .int i t
      · exact .str x t) da (fl_pairs hq ra)
    refine repr_of_reads' rd h1 (fun _ z => ?_) hg (by omega) (fun _ _ z => z) (fun h' u tk k => ⟨.str _, H, I.kept (t' := tk) k, ⟨_, rfl⟩, q⟩) h4
    have : sysModules = a := by simpa using z
    rw [this] at lo
    simp at lo
/-! ### texts, and a dict of one text and number -/
theorem z_relX {R1 : Rel α} {R2 : Rel β} {f : α → β} (hf : ∀ {x S v}, R1.is x S v → R2.is (f x) S v) {m : M τ α} (h : ZE G c E W Γ e m R1) : ZE G c E W Γ e (zget f m) R2 := fun X C => pe_wk (h X C) fun σ H Q _ ⟨B, S, b, hh, q⟩ => by
  refine tz_bnd hh q fun x b1 v S1 H1 s1 h1 r1 q1 => ?_
  exact aft_ret h1 q1 (hf r1)
def nsin_ (x y : Str) : M τ Bool := match x.cps.toList with | [c] => ret (!decide (c ∈ y.cps.toList)) | _ => stk
theorem nsin_op : Op2 G E W Γ (fun x y H Q => ∃ (c : Nat) (z : Str), x = .str ⟨#[c]⟩ ∧ y = .str z ∧ Q (.bl (!decide (c ∈ z.cps.toList))) H) rStr rStr nsin_ rBl := fun B σ S H b x y v w Q hh hx hy q => by
  unfold nsin_ at q
  match e : x.cps.toList with
  | [c] =>
    rw [e] at q
    have ex : x = ⟨#[c]⟩ := by
      cases x with
      | mk cps => simp only [Str.mk.injEq]; exact Array.toList_inj.mp e
    exact ⟨c, y, by rw [hx, ex], hy, aft_ret hh q rfl⟩
  | [] => rw [e] at q; exact q.elim
  | _ :: _ :: _ => rw [e] at q; exact q.elim
theorem zt_ninS {ea eb : Expr} {ma mb : M τ Str} (ha : ZE G c E W Γ ea ma rStr) (hb : ZE G c E W Γ eb mb rStr) (hm : behindInMarks .NotIn eb = false := by rfl) : ZT G c E W Γ (.Compare ea [.NotIn] [eb] pos) (zop2 nsin_ ma mb) := zt_cmp (fun _ _ => op_notIn_sign) nsin_op ha hb hm
end
end Zk

/-! ### how many are apart in a long list of few texts -/
namespace Zk
open PySem L2 PySem.Spec PyProof.Rows
section
variable {prog : Program} {w : World} {A : Around} {R : Result → Shared → Prop} {I : Addr} {fp wr : List Addr} {G : Array GenState → Array GenState → Prop} {n : Nat} {P : Nat → Value → Prop} {St : Nat → Shared → Prop}
end
section
variable {prog : Program} {w : World} {A : Around} {E : Value → Shared → Prop} {s : Shared}
set_option maxHeartbeats 3200000 in
end
section
variable {τ : Type} {G : Gx} {c : Sc} {E : Eff τ} {W : WX} {Γ : Env}
end
end Zk

namespace Zk
open PySem L2
/-! ### things that hold empty dicts: their repr -/
section
variable {X : Cx} {pins : List (Addr × Obj)} {σ : L2.St} {H : Hp} {s : Shared}
theorem dq0_reads (I : Inv X pins σ H s) {a : Addr} {o : Obj} (hs : H a = some (.frz o (.dK []))) : ∃ as, Reads s.heap (.ref a) (.dict []) as ∧ sysModules ∉ as := by
  obtain ⟨_, lo, vs, ra, da⟩ := dk_rd I.hok (.inr ⟨_, hs⟩)
  have rd := PyProof.V.reads_dictOf (enc := encK) (fun k key hk => by
    rcases keyIs_shape hk with ⟨i, t, rfl, rfl⟩ | ⟨x, t, rfl, rfl⟩
    · exact .int i t
    · exact .str x t) da (fl_pairs (h := s.heap) (ys := []) (es := []) trivial ra)
  refine ⟨_, rd, fun z => ?_⟩
  have : sysModules = a := by simpa using z
  rw [this] at lo
  simp at lo
mutual
theorem Dq.rds (I : Inv X pins σ H s) : ∀ (d : PyData) (v : V) (u : Value), Dq H v d → RelV v u → ∃ as, Reads s.heap u d as
  | .none, v, u, h, r => Dp.reads I _ v u (Dq.dp h rfl) r
  | .bool _, v, u, h, r => Dp.reads I _ v u (Dq.dp h rfl) r
  | .int _, v, u, h, r => Dp.reads I _ v u (Dq.dp h rfl) r
  | .str _, v, u, h, r => Dp.reads I _ v u (Dq.dp h rfl) r
  | .list ds, v, u, h, r => by
    cases h with
    | lst hs ha =>
      cases r
      obtain ⟨its, rv, ⟨ob, n, e1, e2, _, e3⟩, _⟩ := I.list (SqL.of (K := X.K) hs)
      exact let ⟨_, q⟩ := DqAll.rds I ds _ its ha rv; ⟨_, .list e1 e2 e3 q⟩
  | .tuple ds, v, u, h, r => by
    cases h with
    | tup hs ha =>
      cases r
      obtain ⟨its, rv, ⟨ob, e1, e2, n, e3⟩, _⟩ := I.tuple (SqT.of (K := X.K) hs)
      exact let ⟨_, q⟩ := DqAll.rds I ds _ its ha rv; ⟨_, .tuple e1 e2 e3 q⟩
  | .dict _, v, u, h, r => by
    cases h with
    | dct hs =>
      cases r
      exact let ⟨as, q, _⟩ := dq0_reads I hs; ⟨as, q⟩
theorem DqAll.rds (I : Inv X pins σ H s) : ∀ (ds : List PyData) (vs : List V) (us : List Value), DqAll H vs ds → Vals vs us → ∃ as, ReadsAll s.heap us ds as
  | [], _, _, .nil, .nil => ⟨_, .nil⟩
  | d :: ds, _, _, .cons h h2, .cons r r2 => let ⟨_, q⟩ := Dq.rds I d _ _ h r; let ⟨_, q2⟩ := DqAll.rds I ds _ _ h2 r2; ⟨_, .cons q q2⟩
end
/-- below n no more than what is read -/
def Low (P : Program) (w : World) (h : Heap) (n : Nat) (R : List Addr → Prop) : Prop := ∃ bs, ReadAtMost h n bs ∧ R bs
mutual
theorem Dq.low (I : Inv X pins σ H s) : ∀ (d : PyData) (v : V) (u : Value), Dq H v d → RelV v u → d.showable = true → d.shown.length ≤ sizeLine → Low X.prog X.w s.heap d.depth fun bs => ReprK X.prog X.w bs s.heap d.depth u d.shown
  | .none, v, u, h, r, e, z => let ⟨_, q⟩ := Dp.reads I _ v u (Dq.dp h rfl) r; ReprK.of_reads q e (fun y => nomatch y) z
  | .bool _, v, u, h, r, e, z => let ⟨_, q⟩ := Dp.reads I _ v u (Dq.dp h rfl) r; ReprK.of_reads q e (fun y => nomatch y) z
  | .int _, v, u, h, r, e, z => let ⟨_, q⟩ := Dp.reads I _ v u (Dq.dp h rfl) r; ReprK.of_reads q e (fun y => nomatch y) z
  | .str _, v, u, h, r, e, z => let ⟨_, q⟩ := Dp.reads I _ v u (Dq.dp h rfl) r; ReprK.of_reads q e (fun y => nomatch y) z
  | .dict _, v, u, h, r, e, z => by
    cases h with
    | dct hs =>
      cases r
      obtain ⟨as, q, n⟩ := dq0_reads I hs
      exact ReprK.of_reads q e (fun _ => n) z
  | .list ds, v, u, h, r, e, z => by
    cases h with
    | lst hs ha =>
      cases r
      obtain ⟨its, rv, ⟨ob, n, e1, e2, _, e3⟩, _⟩ := I.list (SqL.of (K := X.K) hs)
      obtain ⟨as, q⟩ := DqAll.rds I ds _ its ha rv
      have q0 := Reads.list e1 e2 e3 q
      have z' : (listText (PyData.shownAll ds)).length ≤ sizeLine := by rw [PyData.shown] at z; exact z
      obtain ⟨bs, l1, l2⟩ := DqAll.low I ds _ its ha rv (by simpa [PyData.showable] using e) fun t ht => Nat.le_trans (listText_mem_le ht) z'
      have lt : PyData.depthAll ds < (PyData.list ds).depth := by simp only [PyData.depth]; omega
      refine ⟨_ :: bs, ReadAtMost.cons q0 (Nat.le_of_lt lt) l1, ?_⟩
      rw [PyData.depth, PyData.shown]
      generalize PyData.shownAll ds = ts at l2 ⊢
      cases l2 with
      | nil => rw [show listText [] = "[]" from listText_nil]; exact ReprK.listEmpty e1 e2 e3
      | cons k1 k2 => exact ReprK.list e1 e2 e3 (not_mem_of_deeper q0 lt l1) (by simpa using k2.length_eq) fun i y g => (ReprAllK.cons k1 k2).item i y (by simpa using g)
  | .tuple ds, v, u, h, r, e, z => by
    cases h with
    | tup hs ha =>
      cases r
      obtain ⟨its, rv, ⟨ob, e1, e2, n, e3⟩, _⟩ := I.tuple (SqT.of (K := X.K) hs)
      obtain ⟨as, q⟩ := DqAll.rds I ds _ its ha rv
      have q0 := Reads.tuple e1 e2 e3 q
      have z' : (tupleText (PyData.shownAll ds)).length ≤ sizeLine := by rw [PyData.shown] at z; exact z
      obtain ⟨bs, l1, l2⟩ := DqAll.low I ds _ its ha rv (by simpa [PyData.showable] using e) fun t ht => Nat.le_trans (tupleText_mem_le ht) z'
      have lt : PyData.depthAll ds < (PyData.tuple ds).depth := by simp only [PyData.depth]; omega
      refine ⟨_ :: bs, ReadAtMost.cons q0 (Nat.le_of_lt lt) l1, ?_⟩
      rw [PyData.depth, PyData.shown]
      exact ReprK.tuple e1 e2 e3 (not_mem_of_deeper q0 lt l1) (by simpa using l2)
theorem DqAll.low (I : Inv X pins σ H s) : ∀ (ds : List PyData) (vs : List V) (us : List Value), DqAll H vs ds → Vals vs us → PyData.showableAll ds = true → (∀ t ∈ PyData.shownAll ds, t.length ≤ sizeLine) →
    Low X.prog X.w s.heap (PyData.depthAll ds) fun bs => ReprAllK X.prog X.w bs s.heap (PyData.depthAll ds) us (PyData.shownAll ds)
  | [], _, _, .nil, .nil, _, _ => ⟨[], (fun _ y => nomatch y), by rw [PyData.shownAll]; exact .nil⟩
  | d :: ds, _, _, .cons h h2, .cons r r2, e, z => by
    obtain ⟨e1, e2⟩ : d.showable = true ∧ PyData.showableAll ds = true := by simpa [PyData.showableAll] using e
    rw [PyData.shownAll] at z
    obtain ⟨bs, l1, k1⟩ := Dq.low I d _ _ h r e1 (z _ List.mem_cons_self)
    obtain ⟨cs, l2, k2⟩ := DqAll.low I ds _ _ h2 r2 e2 fun t ht => z t (List.mem_cons_of_mem _ ht)
    have m1 : d.depth ≤ PyData.depthAll (d :: ds) := by rw [PyData.depthAll]; exact Nat.le_max_left _ _
    have m2 : PyData.depthAll ds ≤ PyData.depthAll (d :: ds) := by rw [PyData.depthAll]; exact Nat.le_max_right _ _
    refine ⟨bs ++ cs, (l1.mono m1).append (l2.mono m2), ?_⟩
    rw [PyData.shownAll]
    exact .cons ((k1.more fun _ y => List.mem_append_left _ y).level_le m1) (k2.more_le (fun _ y => List.mem_append_right _ y) m2)
end
end
def rReprY : List V → Hp → VK → Prop := fun xs H Q => ∃ v d, xs = [v] ∧ Dq H v d ∧ d.showable = true ∧ d.depth ≤ 60 ∧ d.shown.length ≤ sizeLine ∧ Q (.str d.shown) H
theorem cr_reprY {X : Cx} (hg : X.A.guards = some []) (hu : X.A.units + 64 < cLine) : CallR X (.builtin "repr") rReprY := by
  intro pins s σ H xs us Q I r h
  obtain ⟨v, d, rfl, hd, h1, h3, h4, q⟩ := h
  by_cases hn : d.hasDict = false
  · exact cr_reprX hg hu pins s σ H _ us Q I r ⟨v, d, rfl, .inl ⟨hd, hn⟩, h1, h3, h4, q⟩
  · obtain ⟨u, rfl, rx⟩ := vals1 r
    cases hd with
    | non => exact absurd rfl hn
    | bl b => exact absurd rfl hn
    | int i => exact absurd rfl hn
    | str x => exact absurd rfl hn
    | dct h => exact cr_reprX hg hu pins s σ H _ _ Q I r ⟨_, _, rfl, .inr ⟨_, _, [], [], rfl, h, rfl, trivial⟩, h1, h3, h4, q⟩
    | @lst a vs ds h q' =>
      obtain rfl : u = Value.ref a := rx
      obtain ⟨its, rv, ⟨ob, n, e1, e2, _, e3⟩, _⟩ := I.list (SqL.of (K := X.K) h)
      obtain ⟨as, rd⟩ := DqAll.rds I ds _ its q' rv
      have z' : (listText (PyData.shownAll ds)).length ≤ sizeLine := by rw [PyData.shown] at h4; exact h4
      obtain ⟨bs, l1, l2⟩ := DqAll.low I ds _ its q' rv (by simpa [PyData.showable] using h1) fun t ht => Nat.le_trans (listText_mem_le ht) z'
      have hd1 : PyData.depthAll ds + 1 ≤ 60 := by simp only [PyData.depth] at h3; omega
      have ni := not_mem_of_deeper (Reads.list e1 e2 e3 rd) (n := PyData.depthAll ds) (by simp only [PyData.depth]; omega) l1
      simp only [PyData.shown] at q
      cases its with
      | nil =>
        cases rv
        cases q'
        exact absurd (by simp [PyData.hasDict, PyData.hasDictAll]) hn
      | cons u0 us0 =>
        generalize PyData.shownAll ds = ts at l2 q z'
        obtain ⟨k1, k2⟩ : ∃ t0 ts0, ts = t0 :: ts0 ∧ ReprK X.prog X.w bs s.heap (PyData.depthAll ds) u0 t0 ∧ ReprAllK X.prog X.w bs s.heap (PyData.depthAll ds) us0 ts0 := by cases l2 with | cons k1 k2 => exact ⟨_, _, rfl, k1, k2⟩
        obtain ⟨ts0, rfl, k1, k2⟩ := k2
        exact call_repr_slot (by omega) ⟨ob, e1, e2⟩ F.slot_list_repr.toG (call_list_reprK e1 e2 e3 ni (by simpa using k2.length_eq) (fun i y g => (ReprAllK.cons k1 k2).item i y (by simpa using g)) hg (fun b _ => Clear.nil b) (by show X.A.units + 1 + _ < cLine; omega) (fun _ _ z => z) (fun h' u tk k => ⟨_, _, rfl, ⟨.str _, H, I.kept (t' := tk) k, ⟨_, rfl⟩, q⟩⟩) z')
    | @tup a vs ds h q' =>
      obtain rfl : u = Value.ref a := rx
      obtain ⟨its, rv, ⟨ob, e1, e2, n, e3⟩, _⟩ := I.tuple (SqT.of (K := X.K) h)
      obtain ⟨as, rd⟩ := DqAll.rds I ds _ its q' rv
      have z' : (tupleText (PyData.shownAll ds)).length ≤ sizeLine := by rw [PyData.shown] at h4; exact h4
      obtain ⟨bs, l1, l2⟩ := DqAll.low I ds _ its q' rv (by simpa [PyData.showable] using h1) fun t ht => Nat.le_trans (tupleText_mem_le ht) z'
      have hd1 : PyData.depthAll ds + 1 ≤ 60 := by simp only [PyData.depth] at h3; omega
      have ni := not_mem_of_deeper (Reads.tuple e1 e2 e3 rd) (n := PyData.depthAll ds) (by simp only [PyData.depth]; omega) l1
      simp only [PyData.shown] at q
      exact call_repr_slot (by omega) ⟨ob, e1, e2⟩ F.slot_tuple_repr (call_tuple_reprK e1 e2 e3 ni (by simpa using l2) hg (fun b _ => Clear.nil b) (by show X.A.units + 1 + _ < cLine; omega) (fun _ _ z => z) (fun h' u tk k => ⟨_, _, rfl, ⟨.str _, H, I.kept (t' := tk) k, ⟨_, rfl⟩, q⟩⟩) z')
section
variable {τ α β γ δ κ ρ ι θ υ : Type} {G : Gx} {c : Sc} {E : Eff τ} {W : WX} {Γ Γ' : Env} {B : Bs} {σ σ' : L2.St} {S S1 S' H H1 H' : Hp} {b b' : τ} {L : Ls κ ρ} {e : Expr} {p pos : Pos} {x : Str}
def freprY (d : PyData) : M τ Str := chk (d.showable = true ∧ d.depth ≤ 60 ∧ d.shown.length ≤ sizeLine) (ret d.shown)
theorem z_reprY {m : M τ PyData} (hgd : c.gd = true) (bl : Blt G c x (.builtin "repr")) (ha : ZE G c E W Γ e m rQ) (hs : Star e [] := by intro _; rfl) : ZE G c E W Γ (.Call (.Name x p) [e] [] pos) (zapp freprY m) rStr :=
  z_b1 bl (R := rQ) (r := rReprY) (fun X C => cr_reprY (C.gds hgd) C.room.units) (fun B σ S H b x v Q hh hx q => by
    obtain ⟨⟨h1, h3, h4⟩, q⟩ := aft_chk q
    exact ⟨v, x, rfl, dq_sm hh.same hx, h1, h3, h4, aft_ret hh q rfl⟩) ha hs
/-- an empty dict is a thing -/
def dq0 {α : Type} : List α → Option PyData | [] => some (.dict []) | _ :: _ => none
theorem z_q0 {m : M τ (List (Str × Int))} (h : ZE G c E W Γ e m (rDct (kyF G kyfS) rInt)) : ZE G c E W Γ e (zgetP dq0 m) rQ := fun X C => pe_wk (h X C) fun σ H Q _ ⟨B, S, b, hh, q⟩ => by
  refine tz_bnd hh q fun x b1 v S1 H1 s1 h1 r1 q1 => ?_
  cases x with
  | cons y ys => exact q1.elim
  | nil =>
    obtain ⟨a, o, es, e1, e2, q2⟩ := dct_flat r1
    cases es with
    | cons y ys => exact q2.elim
    | nil =>
      subst e1
      exact aft_ret h1 q1 (Dq.dct e2)
/-! a list of anything and the empty one -/
def rEqNil : R2 := fun x y H Q => ∃ a b xs, x = .ref a ∧ y = .ref b ∧ H a = some (.lst xs) ∧ H b = some (.lst []) ∧ Q (.bl xs.isEmpty) H
theorem op_eqNil {X : Cx} (hu : X.A.units < cLine) : OpR X (compareOp .Eq) rEqNil := by
  intro pins s σ H x y v u Q I rx ry h
  obtain ⟨a, b, xs, rfl, rfl, ha, hb, q⟩ := h
  obtain rfl : v = Value.ref a := rx
  obtain rfl : u = Value.ref b := ry
  obtain ⟨its, rv, hl, _⟩ := I.list (SqL.of (K := X.K) ha)
  obtain ⟨its2, rv2, hl2, _⟩ := I.list (SqL.of (K := X.K) hb)
  obtain ⟨o, n, ho, hc, _, hd⟩ := hl
  obtain ⟨o2, n2, ho2, hc2, _, hd2⟩ := hl2
  cases rv2
  have e1 : s.heap.IsList a its.toArray := ⟨_, ho, hc, _, hd⟩
  have e2 : s.heap.IsList b #[] := ⟨_, ho2, hc2, _, hd2⟩
  cases rv with
  | nil => exact SeqAt.RcAt.lists (e := fun _ => true) e1 e2 rfl hu (fun j h1 h2 => absurd h2 (by simp)) X.prog X.w X.xe _ ⟨.bl _, H, I, rfl, q⟩
  | cons r1 r2 => exact SeqAt.RcAt.lists_lengths e1 e2 (by simp) hu X.prog X.w X.xe _ ⟨.bl _, H, I, rfl, q⟩
def feqNil {α β : Type} (xs : List α) (ys : List β) : M τ Bool := match ys with | [] => ret xs.isEmpty | _ :: _ => stk
theorem op2_eqNil {R : Rel α} {R1 : Rel β} : Op2 G E W Γ rEqNil (rLst R) (rLst R1) feqNil rBl := fun B σ S H b x y v w Q hh hx hy q => by
  obtain ⟨a, vs, e1, h1, q1⟩ := hx
  obtain ⟨a2, ws, e2, h2, q2⟩ := hy
  cases y with
  | cons y ys => exact q.elim
  | nil =>
    cases ws with
    | cons w ws => exact q2.elim
    | nil =>
      refine ⟨a, a2, vs, e1, e2, hh.same _ _ h1, hh.same _ _ h2, ?_⟩
      have : vs.isEmpty = x.isEmpty := by
        cases x with
        | nil => cases vs with
          | nil => rfl
          | cons _ _ => exact q1.elim
        | cons _ _ => cases vs with
          | nil => exact q1.elim
          | cons _ _ => rfl
      rw [this]
      exact aft_ret hh q rfl
theorem zt_eqNil {R : Rel α} {R1 : Rel β} {ea eb : Expr} {ma : M τ (List α)} {mb : M τ (List β)} (ha : ZE G c E W Γ ea ma (rLst R)) (hb : ZE G c E W Γ eb mb (rLst R1)) : ZT G c E W Γ (.Compare ea [.Eq] [eb] pos) (zop2 feqNil ma mb) := zt_cmp (fun X C => op_eqNil C.room.units0) op2_eqNil ha hb (nomark _)
end
/-! a list of numbers out of a thing -/
end Zk

namespace Zk
open PySem L2
section
variable {τ α β γ δ κ ρ ι θ : Type} {G : Gx} {c : Sc} {E : Eff τ} {W : WX} {Γ Γ' : Env} {B : Bs} {σ : L2.St} {S S1 S' H H1 H' : Hp} {b b' : τ} {L : Ls κ ρ}
end
end Zk

namespace Zk
open PySem L2 PySem.Spec PyProof.Rows
/-! ### defs of the refusal that is handled, called within its suite -/
section
variable {τ α β γ κ ρ : Type} {G : Gx} {W : WX} {N ps : List Str} {k : Nat} {f : Addr} {fd : FuncData} {g : Bool}
def FnE (g : Bool) (G : Gx) (k : Nat) (f : Addr) (fd : FuncData) (ps : List Str) (m : Exc → M Unit ρ) (R : Rel ρ) : Prop :=
  ∀ (A : Around) (outer : List PySem.Env) (s : Shared) (S H : Hp) (args : Args) (a : Addr) (oe : Obj) (cls : Value) (d : Option Addr) (x : Exc) (Q : VK),
    L2H.RoomH k A → (g = true → A.guards = some []) → A.handled = some (.ref a) → L2H.PinOk outer H s (a, oe) → Zc cls d oe → (∃ vs, oe.data = .fields vs) → XAt G x H cls d → Same S H →
    Env0 G.P G.w G.K G.mg G.base A outer s H → BindsTo s fd args (ps.zip [.ref a]) → finZ G noE S H R Q (fun _ _ _ => False) (m x ()) →
    codeAny (model G.P G.w) A (.call (.ref f) args) (CR (L2.CX G.P G.w) outer G.P G.w H s Q fun _ _ _ => False) s
structure FnEAt (g : Bool) (G : Gx) (x : Str) (k : Nat) (ps : List Str) (m : Exc → M Unit ρ) (R : Rel ρ) : Prop where
  ex : ∃ f fd, G.mg x = some (.ref f) ∧ PySem.W.keepIn G.K (.ref f) = true ∧ Binds G.K fd ps [] ∧ FnE g G k f fd ps m R
end
end Zk

namespace Zk
open PySem L2
/-! ### tuples of a scalar and a thing, within a suite -/
section
variable {τ α β γ δ κ ρ ι θ : Type} {G : Gx} {c : Sc} {E : Eff τ} {W : WX} {Γ Γ' : Env} {i : Nat}
end
end Zk

namespace Zk
open PySem L2
/-! ### x, y, z = something, a new thing, a new thing -/
section
variable {τ α β γ δ κ ρ ι θ : Type} {G : Gx} {c : Sc} {E : Eff τ} {W : WX} {Γ Γ' Γ1 : Env} {B : Bs} {σ : L2.St} {S S1 S' H H' : Hp} {b b' : τ} {L : Ls κ ρ}
end
end Zk

namespace Zk
open PySem L2 PySem.Spec PyProof.Rows
/-! ### xs.count(y), flat items -/
section
variable {X : Cx}
theorem eqU_count {y : V} : ∀ {ys : List V} {its : List Value}, Vals ys its → ys.all flatV = true → its.countP (eqU y) = ys.countP (fun z => eqV z y)
  | _, _, .nil, _ => rfl
  | _, _, .cons r h, f => by
    rw [List.all_cons, Bool.and_eq_true] at f
    rw [List.countP_cons, List.countP_cons, eqU_count h f.2, eqU_of r f.1]
def rCount (K : PySem.W.Frag) : V → List V → Hp → VK → Prop := fun x xs H Q => ∃ (a : Addr) (ys : List V) (y : V), x = V.ref a ∧ xs = [y] ∧ SqL K H a ys ∧ flatV y = true ∧ ys.all flatV = true ∧ Q (.int (ys.countP (fun z => eqV z y) : Nat)) H
theorem mt_count : MtR X "list.count" (rCount X.K) := by
  intro pins s σ H x xs v us Q I rx rxs h
  obtain ⟨a, ys, y, rfl, rfl, hs, fy, fys, q⟩ := h
  cases rx
  cases rxs with
  | cons ry rt =>
    rename_i uy ut
    cases rt
    obtain ⟨its, rv, ⟨⟨cls, dd, data, sl⟩, n, ho, hc, hdn, hd⟩, hlen⟩ := I.list hs
    simp only at hc hd
    subst hc hd
    refine call_meets PySem.F.slot_list_count ⟨_, ho, rfl⟩ PySem.F.entry_list_count (PySem.F.args_list_count_2 _ _)
      (SeqAt.list_countAt a its.toArray n dd sl uy (eqU y)) ⟨ho, fun u' hu' => mem_eqAt ry fy rv fys u' (by simpa using hu'), ?_⟩
    have ec : its.toArray.toList.countP (eqU y) = ys.countP (fun z => eqV z y) := eqU_count rv fys
    refine ⟨.int (ys.countP (fun z => eqV z y) : Nat), H, I.tok _, ⟨s.toks, ?_⟩, q⟩
    show Value.int ((its.toArray.toList.countP (eqU y) : Nat) : Int) s.toks = Value.int ((ys.countP (fun z => eqV z y) : Nat) : Int) s.toks
    rw [ec]
end
/-! ### within a suite: a list of truths, kept by a name -/
section
variable {τ α β γ δ κ ρ ι θ : Type} {G : Gx} {c : Sc} {E : Eff τ} {W : WX} {Γ Γ' : Env} {i : Nat} {L : Ls κ ρ}
theorem has_blN : HAs G c E W Γ i [] (fun x => ((fun _ : Exc => some ([] : List Bool)) x).map (List.map V.bl)) := has_nil
theorem has_blC {e : Expr} {es : List Expr} {f : Exc → Option Bool} {g : Exc → Option (List Bool)} (h : HA G c E W Γ i e f V.bl) (k : HAs G c E W Γ i es (fun x => (g x).map (List.map V.bl))) (hs : Star e es := by intro _; rfl) : HAs G c E W Γ i (e :: es) (fun x => ((fun x => (f x).bind fun u => (g x).bind fun w => some (u :: w)) x).map (List.map V.bl)) := by
  have := has_cons h k hs
  have e1 : hcons (fun x => (f x).map V.bl) (fun x => (g x).map (List.map V.bl)) = fun x => ((fun x => (f x).bind fun u => (g x).bind fun w => some (u :: w)) x).map (List.map V.bl) := funext fun x => by
    unfold hcons
    dsimp only
    cases f x with
    | none => rfl
    | some u => cases g x <;> rfl
  rw [e1] at this; exact this
theorem bl_all2 {S : Hp} : ∀ ys : List Bool, All2 (fun y v => rBl.is y S v) ys (ys.map V.bl)
  | [] => trivial
  | y :: ys => ⟨rfl, bl_all2 ys⟩
theorem he_listB {es : List Expr} {g : Exc → Option (List Bool)} {pos : Pos} (h : HAs G c E W Γ i es (fun x => (g x).map (List.map V.bl))) : HE G c E W Γ i (.List es pos) (fun x => (g x).bind fun ys => if ys.length ≤ 1000 then some ys else none) (rLst rBl) := fun X X' a oe cls d C =>
  pe_wk (pe_lst (h X X' a oe cls d C)) fun σ H Q _ ⟨B, S, b, x, y, su, e, q⟩ => by
    dsimp only at e
    cases e1 : g x with
    | none => rw [e1] at e; cases e
    | some ys =>
      rw [e1, Option.bind_some] at e
      split at e
      · rename_i hl
        cases e
        refine ⟨B, S, b, x, y.map V.bl, su, by dsimp only; rw [e1]; rfl, ?_, fun p hp => ?_⟩
        · exact Nat.le_trans (show (y.map V.bl).length ≤ 1000 by rw [List.length_map]; exact hl) (by decide)
        · have hn := su.hh.new (o := .lst (y.map V.bl)) hp
          exact q (.ref p) _ _ (same_new (su.hh.same.free hp)) hn (xat_new su.xa hp) ⟨p, y.map V.bl, rfl, upd_same, bl_all2 y⟩
      · cases e
/-- x = e, and what follows -/
theorem hb_set {j : Nat} {x : Str} {e : Expr} {rest : List Stmt} {f : Exc → Option α} {R : Rel α} {m : α → Exc → M τ (Fl γ κ ρ)} {Γn : γ → Env} {p pos : Pos} (n : Ns c j x) (hij : i ≠ j) (h : HE G c E W Γ i e f R) (k : ∀ y, HB G c E W L (Γ.set j (.st (R.pr y))) i rest (m y) Γn) (hs : NoSwap e := by intro _ _ _; rfl) :
    HB G c E W L Γ i (.Assign [.Name x p] e pos :: rest) (fun z => bnd (mopt (f z)) fun y => m y z) Γn := fun X X' a oe cls d C => by
  have C0 := C.C
  obtain ⟨pn, ep⟩ := C.pn
  subst ep
  refine pss_wk (pss_cons (ps_set (X := X.suite a ((a, oe) :: pn)) C0.set_hN (C0.hi n.n) (by show Loc X.env.scope _; rw [C0.sc]; exact n.l) (h X _ a oe cls d C) (hs _ _ _) (C0.hf n)) (pss_ex fun y => k y X _ a oe cls d C)) fun D σ H hl ⟨B, S, b, x, su, q⟩ => ?_
  dsimp only at q
  cases e1 : f x with
  | none => rw [e1] at q; exact q.elim
  | some y =>
    rw [e1] at q
    refine ⟨B, S, b, x, y, su, e1, fun v S1 H1 s hh xa r => ⟨y, B, S1, b, x, ⟨hh.set (C0.lt n.n hl) r, xa, su.nm.imp id fun z => by rw [List.getElem?_set_ne (fun q => hij q.symm)]; exact z⟩, ?_⟩⟩
    have q2 : aftS G E W L B S Γn D (m y x b) := q
    exact q2.same s
theorem su_lst {B : Bs} {S H : Hp} {b : τ} {σ : L2.St} {a : Addr} {cls : Value} {d : Option Addr} {x : Exc} {j : Nat} {bs : List Bool} (su : Su G E Γ i a cls d x B S b σ H) (hj : Γ[j]? = some (.st ((rLst rBl).pr bs))) : ∃ l, σ[j]? = some (some (.ref l)) ∧ H l = some (.lst (bs.map V.bl)) := by
  obtain ⟨Fs, hF, hs⟩ := su.hh.sl
  obtain ⟨v, k1, l, vs, rfl, k2, k3⟩ := hs j _ hj
  have e : vs = bs.map V.bl := by
    clear hs
    have : ∀ {bs : List Bool} {vs : List V}, All2 (fun y v => rBl.is y S v) bs vs → vs = bs.map V.bl := by
      intro bs
      induction bs with
      | nil => intro vs h; cases vs with | nil => rfl | cons _ _ => exact h.elim
      | cons y ys ih => intro vs h; cases vs with | nil => exact h.elim | cons v vs => obtain ⟨h1, h2⟩ := h; rw [List.map_cons, ih h2, show v = V.bl y from h1]
    exact this k3
  exact ⟨l, slot_get k1, e ▸ su.hh.same _ _ k2⟩
theorem bl_flat (bs : List Bool) : (bs.map V.bl).all flatV = true := by
  rw [List.all_map, List.all_eq_true]; intro b _; rfl
theorem eqV_bl (a b : Bool) : eqV (V.bl a) (V.bl b) = decide (a = b) := by cases a <;> cases b <;> rfl
/-- bs[k] -/
theorem ha_lix {j : Nat} {s : Str} {bs : List Bool} {k : Int} {jj : Nat} {p p2 pos : Pos} (nm : Nm c j s) (hj : Γ[j]? = some (.st ((rLst rBl).pr bs))) (hs : PIx (.Constant (.int k) jj p2) := by intro _ _; rfl) : HA G c E W Γ i (.Subscript (.Name s p) (.Constant (.int k) jj p2) pos) (fun _ => atI bs k) V.bl := fun X X' a oe cls d C => by
  have C0 := C.C
  obtain ⟨pn, ep⟩ := C.pn
  subst ep
  have pv : PE (X.suite a ((a, oe) :: pn)) (.Name s p) (tVar j) := pe_var (C0.hi nm.n) (by show Vis X.env.scope _; rw [C0.sc]; exact nm.v) nm.d nm.cd
  refine pe_wk (pe_ix ix_list pv pe_int hs) fun σ H Q _ ⟨B, S, b, x, y, su, e, q⟩ => ?_
  obtain ⟨l, k1, k2⟩ := su_lst su hj
  dsimp only at e
  obtain ⟨u, h1, h2⟩ := (bl_all2 (S := S) bs).atI e
  exact ⟨.ref l, k1, l, bs.map V.bl, k, u, rfl, rfl, .of k2, h1, by rw [show u = V.bl y from h2]; exact q⟩
/-- bs.count(True) -/
theorem ha_cnt {j : Nat} {s : Str} {bs : List Bool} {w : Bool} {jj : Nat} {p p2 apos pos : Pos} (nm : Nm c j s) (hj : Γ[j]? = some (.st ((rLst rBl).pr bs)))
    (hb : BmEnv (.Name s p) "count" [.Constant (.bool w) jj p2] apos pos := by exact ⟨fun _ => rfl, fun _ => rfl, rfl, fun _ _ _ h => by cases h; exact ⟨rfl, rfl⟩⟩) (hs : Star (.Constant (.bool w) jj p2) [] := by intro _; rfl) :
    HA G c E W Γ i (.Call (.Attribute (.Name s p) "count" apos) [.Constant (.bool w) jj p2] [] pos) (fun _ => some ((bs.count w : Nat) : Int)) V.int := fun X X' a oe cls d C => by
  have C0 := C.C
  obtain ⟨pn, ep⟩ := C.pn
  subst ep
  have pv : PE (X.suite a ((a, oe) :: pn)) (.Name s p) (tVar j) := pe_var (C0.hi nm.n) (by show Vis X.env.scope _; rw [C0.sc]; exact nm.v) nm.d nm.cd
  refine pe_wk (pe_bm PySem.F.plainAttrs_list PySem.F.slot_list_count PySem.F.type_list_count mt_count pv (pa_cons pe_bl pa_nil (hs _)) (hb.base _) (hb.few _) hb.line (hb.star _ _ _ rfl).1 (hb.star _ _ _ rfl).2) fun σ H Q _ ⟨B, S, b, x, y, su, e, q⟩ => ?_
  cases e
  obtain ⟨l, k1, k2⟩ := su_lst su hj
  have ec : (bs.map V.bl).countP (fun z => eqV z (V.bl w)) = bs.count w := by
    rw [List.countP_map]
    refine List.countP_congr fun b _ => ?_
    show (eqV (V.bl b) (V.bl w) = true) ↔ _
    rw [eqV_bl, decide_eq_true_iff, beq_iff_eq]
  exact ⟨.ref l, k1, .inl ⟨rfl, _, .of k2⟩, l, bs.map V.bl, .bl w, rfl, rfl, .of k2, rfl, bl_flat bs, by rw [ec]; exact q⟩
/-- bs.index(True) -/
theorem ha_fidx {j : Nat} {s : Str} {bs : List Bool} {w : Bool} {jj : Nat} {p p2 apos pos : Pos} (nm : Nm c j s) (hj : Γ[j]? = some (.st ((rLst rBl).pr bs)))
    (hb : BmEnv (.Name s p) "index" [.Constant (.bool w) jj p2] apos pos := by exact ⟨fun _ => rfl, fun _ => rfl, rfl, fun _ _ _ h => by cases h; exact ⟨rfl, rfl⟩⟩) (hs : Star (.Constant (.bool w) jj p2) [] := by intro _; rfl) :
    HA G c E W Γ i (.Call (.Attribute (.Name s p) "index" apos) [.Constant (.bool w) jj p2] [] pos) (fun _ => if w ∈ bs then some ((bs.findIdx (fun z => decide (z = w)) : Nat) : Int) else none) V.int := fun X X' a oe cls d C => by
  have C0 := C.C
  obtain ⟨pn, ep⟩ := C.pn
  subst ep
  have pv : PE (X.suite a ((a, oe) :: pn)) (.Name s p) (tVar j) := pe_var (C0.hi nm.n) (by show Vis X.env.scope _; rw [C0.sc]; exact nm.v) nm.d nm.cd
  refine pe_wk (pe_bm PySem.F.plainAttrs_list PySem.F.slot_list_index PySem.F.type_list_index mt_index pv (pa_cons pe_bl pa_nil (hs _)) (hb.base _) (hb.few _) hb.line (hb.star _ _ _ rfl).1 (hb.star _ _ _ rfl).2) fun σ H Q _ ⟨B, S, b, x, y, su, e, q⟩ => ?_
  dsimp only at e
  split at e
  · rename_i hy
    cases e
    obtain ⟨l, k1, k2⟩ := su_lst su hj
    have hlt : bs.findIdx (fun z => decide (z = w)) < bs.length := List.findIdx_lt_length_of_exists ⟨w, hy, by simp⟩
    have hat : bs[bs.findIdx (fun z => decide (z = w))]'hlt = w := of_decide_eq_true (List.findIdx_getElem (p := fun z => decide (z = w)) (w := hlt))
    refine ⟨.ref l, k1, .inl ⟨rfl, _, .of k2⟩, l, bs.map V.bl, .bl w, _, .bl w, rfl, rfl, .of k2, rfl, bl_flat bs, ?_, by rw [eqV_bl]; simp, fun m z' hm hz => ?_, q⟩
    · rw [List.getElem?_map, List.getElem?_eq_getElem hlt, hat]; rfl
    · rw [List.getElem?_map] at hz
      cases e : bs[m]? with
      | none => rw [e] at hz; cases hz
      | some u =>
        rw [e] at hz
        cases hz
        obtain ⟨hl, rfl⟩ := List.getElem?_eq_some_iff.mp e
        rw [eqV_bl]
        have := List.not_of_lt_findIdx hm
        simpa using this
  · cases e
/-- e - k -/
theorem ha_sub {e1 e2 : Expr} {f1 f2 : Exc → Option Int} {pos : Pos} (h : HA G c E W Γ i e1 f1 V.int) (h2 : HA G c E W Γ i e2 f2 V.int) : HA G c E W Γ i (.BinOp e1 .Sub e2 pos) (fun x => (f1 x).bind fun y => (f2 x).bind fun z => some (y - z)) V.int := fun X X' a oe cls d C =>
  pe_wk (pe_op op_sub (h X X' a oe cls d C) (h2 X X' a oe cls d C)) fun σ H Q _ ⟨B, S, b, x, y, su, e, q⟩ => by
    dsimp only at e
    cases e1 : f1 x with
    | none => rw [e1] at e; cases e
    | some y1 =>
      cases e2 : f2 x with
      | none => rw [e1, e2] at e; cases e
      | some y2 =>
        rw [e1, e2] at e
        cases e
        exact ⟨B, S, b, x, y1, su, e1, B, S, b, x, y2, su, e2, y1, y2, rfl, rfl, q⟩
/-- a != b -/
theorem ht_ne {f1 f2 : Exc → Option Int} {ea eb : Expr} {pos : Pos} (h : HA G c E W Γ i ea f1 V.int) (h2 : HA G c E W Γ i eb f2 V.int) : HT G c E W Γ i (.Compare ea [.NotEq] [eb] pos) (fun x => (f1 x).bind fun y => (f2 x).bind fun z => some (!decide (y = z))) := fun X X' a oe cls d C =>
  pt_wk (pt_cmpR op_ne (h X X' a oe cls d C) (h2 X X' a oe cls d C) (nomark _)) fun σ H Q _ ⟨B, S, b, x, y, su, e, q⟩ => by
    dsimp only at e
    cases e1 : f1 x with
    | none => rw [e1] at e; cases e
    | some y1 =>
      cases e2 : f2 x with
      | none => rw [e1, e2] at e; cases e
      | some y2 =>
        rw [e1, e2] at e
        cases e
        refine ⟨B, S, b, x, y1, su, e1, B, S, b, x, y2, su, e2, scI.sc y1 y2, ?_⟩
        have z : decide (V.int y1 = V.int y2) = decide (y1 = y2) := decide_eq_decide.mpr (scI.inj y1 y2)
        rw [z]
        exact ⟨_, rfl, q S H (Same.refl _) su⟩
/-- [texts][e] -/
theorem has_str {es : List Expr} {k : Str} {j : Nat} {pos : Pos} {ss : List Str} (h : HAs G c E W Γ i es (fun _ => some (ss.map V.str))) (hs : Star (.Constant (.str k) j pos) es := by intro _; rfl) : HAs G c E W Γ i (.Constant (.str k) j pos :: es) (fun _ => some ((k :: ss).map V.str)) := by
  have := has_cons (ha_str (k := k) (j := j) (pos := pos)) h hs
  exact this
theorem has_str0 : HAs G c E W Γ i [] (fun _ => some (([] : List Str).map V.str)) := has_nil
theorem str_all2 {S : Hp} : ∀ ys : List Str, All2 (fun y v => rStr.is y S v) ys (ys.map V.str)
  | [] => trivial
  | y :: ys => ⟨rfl, str_all2 ys⟩
theorem he_six {es : List Expr} {ss : List Str} {e : Expr} {f : Exc → Option Int} {p pos : Pos} (h : HAs G c E W Γ i es (fun _ => some (ss.map V.str))) (h2 : HA G c E W Γ i e f V.int) (hl : ss.length ≤ 1000 := by decide) (hs : PIx e := by intro _ _; rfl) : HE G c E W Γ i (.Subscript (.List es p) e pos) (fun x => (f x).bind fun k => atI ss k) rStr := fun X X' a oe cls d C =>
  pe_wk (pe_ix ix_list (pe_lst (h X X' a oe cls d C)) (h2 X X' a oe cls d C) hs) fun σ H Q _ ⟨B, S, b, x, y, su, e, q⟩ => by
    dsimp only at e
    cases e1 : f x with
    | none => rw [e1] at e; cases e
    | some k =>
      rw [e1, Option.bind_some] at e
      refine ⟨B, S, b, x, ss.map V.str, su, rfl, Nat.le_trans (show (ss.map V.str).length ≤ 1000 by rw [List.length_map]; exact hl) (by decide), fun pp hp => ?_⟩
      have hn := su.hh.new (o := .lst (ss.map V.str)) hp
      have hx := xat_new (o := .lst (ss.map V.str)) su.xa hp
      refine ⟨B, _, b, x, k, ⟨hn, hx, su.nm⟩, e1, ?_⟩
      obtain ⟨u, h1, h2⟩ := (str_all2 (S := S) ss).atI e
      exact ⟨pp, ss.map V.str, k, u, rfl, rfl, .of upd_same, h1, q u _ _ (same_new (su.hh.same.free hp)) hn hx h2⟩
/-- a tuple of a thing and a scalar -/
theorem he_tup2F {u w : Expr} {R1 : Rel β} {R2 : Rel γ} {f1 : Exc → Option β} {f2 : Exc → Option γ} {v2 : γ → V} {k} {pos : Pos} (h : HE G c E W Γ i u f1 R1) (h2 : HA G c E W Γ i w f2 v2) (r2 : ∀ y S, R2.is y S (v2 y)) (hs : Star u [w] := by intro _; rfl) (hs2 : Star w [] := by intro _; rfl) :
    HE G c E W Γ i (.Tuple [u, w] k pos) (fun x => (f1 x).bind fun y => (f2 x).bind fun z => some (y, z)) (rT2 R1 R2) := fun X X' a oe cls d C =>
  pe_wk (pe_tup (pa_cons (h X X' a oe cls d C) (pa_cons (h2 X X' a oe cls d C) pa_nil (hs2 X'.env)) (hs X'.env))) fun σ H Q _ ⟨B, S, b, x, y, su, e, q⟩ => by
    dsimp only at e
    cases e1 : f1 x with
    | none => rw [e1] at e; cases e
    | some y1 =>
      cases e2 : f2 x with
      | none => rw [e1, e2] at e; cases e
      | some y2 =>
        rw [e1, e2] at e
        cases e
        refine ⟨B, S, b, x, y1, su, e1, fun v S1 H1 s1 hh1 xa1 r1 => ?_⟩
        refine ⟨B, S1, b, x, y2, ⟨hh1, xa1, su.nm⟩, e2, ?_⟩
        refine ⟨line4 (by simp), fun p hp => ?_⟩
        have hn := hh1.new (o := .tup [v, v2 y2]) hp
        have sn := same_new (o := .tup [v, v2 y2]) (hh1.same.free hp)
        exact q (.ref p) _ _ (s1.trans sn) hn (xat_new xa1 hp) ⟨p, v, v2 y2, rfl, upd_same, R1.mono sn r1, r2 _ _⟩
end
/-! ### rows (a text, two numbers) out of things -/
def asRow : PyData → Option (Str × Int × Int)
  | .tuple [.str x, .int i, .int j] => some (x, i, j)
  | _ => none
def rowsOf : List PyData → Option (List (Str × Int × Int))
  | [] => some []
  | d :: ds => (asRow d).bind fun x => (rowsOf ds).map fun xs => x :: xs
def asLR (d : PyData) : Option (List (Str × Int × Int)) := (asL d).bind rowsOf
theorem as_Row : ∀ {x y S v}, asRow x = some y → rQ.is x S v → (rT3 rStr rInt rInt).is y S v := fun {x y S v} e r => by
  unfold asRow at e
  split at e
  · cases e
    cases r with
    | tup h q =>
      rename_i vs
      cases q with
      | cons q1 q => cases q with
        | cons q2 q => cases q with
          | cons q3 q => cases q; cases q1; cases q2; cases q3; exact ⟨_, _, _, _, rfl, h, rfl, rfl, rfl⟩
  · cases e
theorem rows_of {S : Hp} : ∀ {ds : List PyData} {xs : List (Str × Int × Int)} {vs : List V}, rowsOf ds = some xs → All2 (fun d v => rQ.is d S v) ds vs → All2 (fun d v => (rT3 rStr rInt rInt).is d S v) xs vs
  | [], xs, [], e, _ => by cases e; trivial
  | d :: ds, xs, v :: vs, e, ⟨h1, h2⟩ => by
    unfold rowsOf at e
    cases e1 : asRow d with
    | none => rw [e1] at e; cases e
    | some y =>
      rw [e1, Option.bind_some] at e
      cases e2 : rowsOf ds with
      | none => rw [e2] at e; cases e
      | some ys =>
        rw [e2] at e
        cases e
        exact ⟨as_Row e1 h1, rows_of e2 h2⟩
theorem as_LR : ∀ {x y S v}, asLR x = some y → rQ.is x S v → (rLst (rT3 rStr rInt rInt)).is y S v := fun {x y S v} e r => by
  unfold asLR at e
  cases e1 : asL x with
  | none => rw [e1] at e; cases e
  | some ds =>
    rw [e1] at e
    obtain ⟨a, vs, e2, h, q⟩ := as_L e1 r
    exact ⟨a, vs, e2, h, rows_of e q⟩
def q4 {α β γ δ : Type} {R : Rel α} {R2 : Rel β} {R3 : Rel γ} {R4 : Rel δ} (D : DaQ R) (F : DaQ R2) (J : DaQ R3) (L : DaQ R4) : DaQ (rT4 R R2 R3 R4) := ⟨fun x => .tuple [D.d x.1, F.d x.2.1, J.d x.2.2.1, L.d x.2.2.2], fun ⟨a, u, w, z, y, e, h, q, r, t, k⟩ => by cases e; exact .tup h (.cons (D.q q) (.cons (F.q r) (.cons (J.q t) (.cons (L.q k) .nil))))⟩
/-! ### isinstance of an own class: a thing made here, or any other -/
section
variable {τ α β : Type} {G : Gx} {c : Sc} {E : Eff τ} {W : WX} {Γ : Env} {x : Str} {p pos : Pos} {e : Expr}
structure IsTR (G : Gx) (R : Rel α) (C : Addr) (f : α → Bool) : Prop where
  h : ∀ {x : α} {S H : Hp} {v : V}, Same S H → R.is x S v → ∃ t, TyX G.K H v t ∧ PySem.W.kitOne G.K t (.ref C) = some (f x)
theorem ir_one {R : Rel α} {t : Value} {C : Addr} {k : Bool} (ht : IsT G R t) (hk : PySem.W.kitOne G.K t (.ref C) = some k) : IsTR G R C (fun _ => k) := ⟨fun s r => ⟨t, ht.h s r, hk⟩⟩
theorem ir_q {C : Addr} (h : PySem.W.kitOne G.K (.type "int") (.ref C) = some false) : IsTR G rQ C (fun _ => false) := ⟨fun {x S H v} s r => ⟨_, tyx_q (dq_sm s r), kit_no h x⟩⟩
theorem ir_sum {R1 : Rel α} {R2 : Rel β} {C : Addr} {f : α → Bool} {g : β → Bool} (h1 : IsTR G R1 C f) (h2 : IsTR G R2 C g) : IsTR G (rSum R1 R2) C (Sum.elim f g) := ⟨fun {x S H v} s r => by
  cases x with
  | inl x => exact h1.h s r
  | inr x => exact h2.h s r⟩
theorem z_isiR {R : Rel α} {y : Str} {p2 : Pos} {C0 : Addr} {f : α → Bool} {m : M τ α} (bl : Blt G c x (.builtin "isinstance")) (ht : IsTR G R C0 f) (g2 : Gb c y) (m2 : G.mg y = some (.ref C0)) (hd2 : (y == ("__debug__" : Str)) = false) (ha : ZE G c E W Γ e m R) (hs : Star e [.Name y p2] := by intro _; rfl) :
    ZE G c E W Γ (.Call (.Name x p) [e, .Name y p2] [] pos) (zget f m) rBl := fun X C =>
  pe_wk (pe_callB (call_isi) (C.gl bl.g) (by rw [C.mg]; exact bl.m) bl.v (pa_cons (ha X C) (pa_cons (pe_glob (v := .ref C0) (C.gl g2) (by rw [C.mg]; exact m2) rfl hd2) pa_nil (by rfl)) (hs X.env)) bl.n bl.d (hs X.env) (by rfl)) fun σ H Q _ ⟨B, S, b, hh, q⟩ => by
    refine tz_bnd hh q fun x b1 v S1 H1 s1 h1 r1 q1 => ?_
    obtain ⟨t, h2, h3⟩ := ht.h h1.same r1
    exact ⟨v, .ref C0, t, .ref C0, f x, rfl, .own C0, by rw [C.K]; exact h2, by rw [C.K]; exact h3, aft_ret h1 q1 rfl⟩
end
end Zk

namespace Zk
open PySem L2
/-! ### a list of things told as a list of things of any kind -/
section
variable {τ α : Type} {G : Gx} {c : Sc} {E : Eff τ} {W : WX} {Γ : Env}
theorem z_lq {R : Rel α} (D : DaQ R) {e : Expr} {m : M τ (List α)} (h : ZE G c E W Γ e m (rLst R)) : ZE G c E W Γ e (zget (fun xs => xs.map D.d) m) (rLst rQ) := z_relX (R1 := rLst R) (R2 := rLst rQ) (f := fun xs => xs.map D.d) (fun {x S v} ⟨a, vs, e, h, q⟩ => ⟨a, vs, e, h, dqAll_all2 (daq_all D q)⟩) h
end
end Zk

namespace Zk
open PySem L2

def top (i : Nat) : Stmt := PySem.Challenge.pw_aheadpays_k23_standings_made_refused.main.body.getD i (.Pass ⟨0, 0, 0, 0⟩)
abbrev t_w_take : Stmt := top 47
abbrev t_w_names : Stmt := top 48
abbrev t_is_whole : Stmt := top 16
abbrev t_is_between : Stmt := top 17
abbrev t_is_price : Stmt := top 19
abbrev t_are_prices : Stmt := top 27
abbrev t_sums_of : Stmt := top 28
abbrev t_Ladder_init : Stmt := inClass (top 30) 0
abbrev t_plain : Stmt := top 31
abbrev t_is_name : Stmt := top 18
abbrev t_is_pair : Stmt := top 35
abbrev t_first_twice : Stmt := top 36
abbrev t_Ladder_moved_to : Stmt := inClass (top 30) 1
abbrev t_Ladder_turned : Stmt := inClass (top 30) 10
abbrev t_Web_put : Stmt := inClass (top 37) 1
abbrev t_Web_init : Stmt := inClass (top 37) 0
abbrev t_w_rows : Stmt := top 55
abbrev t_w_is_name : Stmt := top 50
abbrev t_w_within : Stmt := top 49
abbrev t_w_is_row : Stmt := top 52
abbrev t_w_signed : Stmt := top 56
abbrev t_w_bent : Stmt := top 57
abbrev t_w_due : Stmt := top 53
abbrev t_is_place : Stmt := top 21
abbrev t_are_coins : Stmt := top 20
abbrev t_is_row : Stmt := top 39
abbrev t_Web_names : Stmt := inClass (top 37) 2
abbrev t_leveled : Stmt := top 40
abbrev t_standing_of : Stmt := top 41
abbrev t_w_told : Stmt := top 54
abbrev t_coins_of : Stmt := top 44
abbrev t_w_alike : Stmt := top 51
abbrev t_places_of : Stmt := top 42
abbrev t_lead : Stmt := top 43
abbrev t_w_asked_right : Stmt := top 58
abbrev t_law : Stmt := top 59
abbrev t_Lacks_init : Stmt := inClass (top 7) 0
abbrev t_NoWalker_init : Stmt := inClass (top 5) 0
abbrev t_Twice_init : Stmt := inClass (top 4) 0
abbrev t_Wrong_init : Stmt := inClass (top 3) 0
def c_FARTHEST_AT : Int := 100
def c_LEAST_WALKERS : Int := 2
def c_LETTERS : Str := "abcdefghijklmnopqrstuvwxyz"
def c_MOST_COINS : Int := 1000000000000000000
def c_MOST_PLACE : Int := 1000000000000
def c_MOST_PRICE : Int := 100000000000000000000
def c_MOST_REPEATED : Int := 4
def c_MOST_ROW : Int := 40
def c_MOST_SIGNS : Int := 8
def c_MOST_WALKERS : Int := 12
structure Cl where
  Ladder : Addr
  Web : Addr
  Lacks : Addr
  NoWalker : Addr
  Twice : Addr
  Wrong : Addr
  AheadError : Addr
  NoText : Addr
  TooMany : Addr
structure XLadder where
  low_ : (List Int)
  middle_ : (List Int)
  high_ : (List Int)
  begin_ : Int
  low_sums_ : (List Int)
  middle_sums_ : (List Int)
  high_sums_ : (List Int)
  deriving DecidableEq
def fs_Ladder (D : Cl) (x : XLadder) : List (Str × Pr) := [("high_sums", (rLst rInt).pr x.high_sums_), ("middle_sums", (rLst rInt).pr x.middle_sums_), ("low_sums", (rLst rInt).pr x.low_sums_), ("begin", rInt.pr x.begin_), ("high", (rVT rInt).pr x.high_), ("middle", (rVT rInt).pr x.middle_), ("low", (rVT rInt).pr x.low_)]
def rLadder (D : Cl) : Rel XLadder := rObj D.Ladder (fs_Ladder D)
structure XWeb where
  walkers_ : (List Str)
  ladders_ : (List ((Str × Str) × XLadder))
  free_ : XLadder
  deriving DecidableEq
def fs_Web (G : Gx) (D : Cl) (x : XWeb) : List (Str × Pr) := [("free", (rLadder D).pr x.free_), ("ladders", (rDct (kyT G kytSS) (rLadder D)).pr x.ladders_), ("walkers", (rLst rStr).pr x.walkers_)]
def rWeb (G : Gx) (D : Cl) : Rel XWeb := rObj D.Web (fs_Web G D)
def fg_Web (G : Gx) (D : Cl) (l : Addr) (x : XWeb) : List (Str × Pr) := [("free", (rLadder D).pr x.free_), ("ladders", (rRef l).pr ()), ("walkers", (rLst rStr).pr x.walkers_)]
def rgWeb (G : Gx) (D : Cl) (l : Addr) : Rel XWeb := rObj D.Web (fg_Web G D l)
abbrev t_w_bag : Stmt := top 46
structure Txt (G : Gx) (D : Cl) : Prop where
  b_ValueError : G.mg "ValueError" = none
  b_abs : G.mg "abs" = none
  b_all : G.mg "all" = none
  b_bool : G.mg "bool" = none
  b_enumerate : G.mg "enumerate" = none
  b_int : G.mg "int" = none
  b_isinstance : G.mg "isinstance" = none
  b_len : G.mg "len" = none
  b_list : G.mg "list" = none
  b_min : G.mg "min" = none
  b_range : G.mg "range" = none
  b_repr : G.mg "repr" = none
  b_reversed : G.mg "reversed" = none
  b_sorted : G.mg "sorted" = none
  b_str : G.mg "str" = none
  b_tuple : G.mg "tuple" = none
  c_FARTHEST_AT : ∃ u, G.mg "FARTHEST_AT" = some u ∧ RelV (.int c_FARTHEST_AT) u
  c_LEAST_WALKERS : ∃ u, G.mg "LEAST_WALKERS" = some u ∧ RelV (.int c_LEAST_WALKERS) u
  c_LETTERS : ∃ u, G.mg "LETTERS" = some u ∧ RelV (.str c_LETTERS) u
  c_MOST_COINS : ∃ u, G.mg "MOST_COINS" = some u ∧ RelV (.int c_MOST_COINS) u
  c_MOST_PLACE : ∃ u, G.mg "MOST_PLACE" = some u ∧ RelV (.int c_MOST_PLACE) u
  c_MOST_PRICE : ∃ u, G.mg "MOST_PRICE" = some u ∧ RelV (.int c_MOST_PRICE) u
  c_MOST_REPEATED : ∃ u, G.mg "MOST_REPEATED" = some u ∧ RelV (.int c_MOST_REPEATED) u
  c_MOST_ROW : ∃ u, G.mg "MOST_ROW" = some u ∧ RelV (.int c_MOST_ROW) u
  c_MOST_SIGNS : ∃ u, G.mg "MOST_SIGNS" = some u ∧ RelV (.int c_MOST_SIGNS) u
  c_MOST_WALKERS : ∃ u, G.mg "MOST_WALKERS" = some u ∧ RelV (.int c_MOST_WALKERS) u
  g_AheadError : G.mg "AheadError" = some (.ref D.AheadError)
  ain_AheadError : ∃ mc, AIn G.K D.AheadError mc
  g_Lacks : G.mg "Lacks" = some (.ref D.Lacks)
  ox_Lacks : OexC G.K D.Lacks
  xi_Lacks : ∃ f fd, PySem.W.findIn G.K (.ref D.Lacks) "__init__" = some (some (.ref f)) ∧ PySem.W.typeIn G.K (.ref f) = some (.type "function") ∧ Binds G.K fd ["self", "name"] [] ∧ Fun G.K "__init__" "Lacks.__init__" t_Lacks_init f fd
  xf_Lacks : PySem.W.findIn G.K (.ref D.Lacks) "name" = some none
  g_NoWalker : G.mg "NoWalker" = some (.ref D.NoWalker)
  ox_NoWalker : OexC G.K D.NoWalker
  xi_NoWalker : ∃ f fd, PySem.W.findIn G.K (.ref D.NoWalker) "__init__" = some (some (.ref f)) ∧ PySem.W.typeIn G.K (.ref f) = some (.type "function") ∧ Binds G.K fd ["self", "name"] [] ∧ Fun G.K "__init__" "NoWalker.__init__" t_NoWalker_init f fd
  xf_NoWalker : PySem.W.findIn G.K (.ref D.NoWalker) "name" = some none
  g_Twice : G.mg "Twice" = some (.ref D.Twice)
  ox_Twice : OexC G.K D.Twice
  xi_Twice : ∃ f fd, PySem.W.findIn G.K (.ref D.Twice) "__init__" = some (some (.ref f)) ∧ PySem.W.typeIn G.K (.ref f) = some (.type "function") ∧ Binds G.K fd ["self", "name"] [] ∧ Fun G.K "__init__" "Twice.__init__" t_Twice_init f fd
  xf_Twice : PySem.W.findIn G.K (.ref D.Twice) "name" = some none
  g_Wrong : G.mg "Wrong" = some (.ref D.Wrong)
  ox_Wrong : OexC G.K D.Wrong
  xi_Wrong : ∃ f fd, PySem.W.findIn G.K (.ref D.Wrong) "__init__" = some (some (.ref f)) ∧ PySem.W.typeIn G.K (.ref f) = some (.type "function") ∧ Binds G.K fd ["self", "at"] [] ∧ Fun G.K "__init__" "Wrong.__init__" t_Wrong_init f fd
  xf_Wrong : PySem.W.findIn G.K (.ref D.Wrong) "at" = some none
  g_NoText : G.mg "NoText" = some (.ref D.NoText)
  g_TooMany : G.mg "TooMany" = some (.ref D.TooMany)
  xc_Lacks : L2.ExcC G.K D.Lacks
  xc_NoWalker : L2.ExcC G.K D.NoWalker
  xc_Twice : L2.ExcC G.K D.Twice
  xc_Wrong : L2.ExcC G.K D.Wrong
  ki_Lacks_Lacks : PySem.W.kitOne G.K (.ref D.Lacks) (.ref D.Lacks) = some true
  ki_Lacks_NoText : PySem.W.kitOne G.K (.ref D.Lacks) (.ref D.NoText) = some false
  ki_Lacks_NoWalker : PySem.W.kitOne G.K (.ref D.Lacks) (.ref D.NoWalker) = some false
  ki_Lacks_TooMany : PySem.W.kitOne G.K (.ref D.Lacks) (.ref D.TooMany) = some false
  ki_Lacks_Twice : PySem.W.kitOne G.K (.ref D.Lacks) (.ref D.Twice) = some false
  ki_Lacks_ValueError : PySem.W.kitOne G.K (.ref D.Lacks) (.type "ValueError") = some true
  ki_Lacks_Wrong : PySem.W.kitOne G.K (.ref D.Lacks) (.ref D.Wrong) = some false
  ki_NoWalker_Lacks : PySem.W.kitOne G.K (.ref D.NoWalker) (.ref D.Lacks) = some false
  ki_NoWalker_NoText : PySem.W.kitOne G.K (.ref D.NoWalker) (.ref D.NoText) = some false
  ki_NoWalker_NoWalker : PySem.W.kitOne G.K (.ref D.NoWalker) (.ref D.NoWalker) = some true
  ki_NoWalker_TooMany : PySem.W.kitOne G.K (.ref D.NoWalker) (.ref D.TooMany) = some false
  ki_NoWalker_Twice : PySem.W.kitOne G.K (.ref D.NoWalker) (.ref D.Twice) = some false
  ki_NoWalker_ValueError : PySem.W.kitOne G.K (.ref D.NoWalker) (.type "ValueError") = some true
  ki_NoWalker_Wrong : PySem.W.kitOne G.K (.ref D.NoWalker) (.ref D.Wrong) = some false
  ki_Twice_Lacks : PySem.W.kitOne G.K (.ref D.Twice) (.ref D.Lacks) = some false
  ki_Twice_NoText : PySem.W.kitOne G.K (.ref D.Twice) (.ref D.NoText) = some false
  ki_Twice_NoWalker : PySem.W.kitOne G.K (.ref D.Twice) (.ref D.NoWalker) = some false
  ki_Twice_TooMany : PySem.W.kitOne G.K (.ref D.Twice) (.ref D.TooMany) = some false
  ki_Twice_Twice : PySem.W.kitOne G.K (.ref D.Twice) (.ref D.Twice) = some true
  ki_Twice_ValueError : PySem.W.kitOne G.K (.ref D.Twice) (.type "ValueError") = some true
  ki_Twice_Wrong : PySem.W.kitOne G.K (.ref D.Twice) (.ref D.Wrong) = some false
  ki_Wrong_Lacks : PySem.W.kitOne G.K (.ref D.Wrong) (.ref D.Lacks) = some false
  ki_Wrong_NoText : PySem.W.kitOne G.K (.ref D.Wrong) (.ref D.NoText) = some false
  ki_Wrong_NoWalker : PySem.W.kitOne G.K (.ref D.Wrong) (.ref D.NoWalker) = some false
  ki_Wrong_TooMany : PySem.W.kitOne G.K (.ref D.Wrong) (.ref D.TooMany) = some false
  ki_Wrong_Twice : PySem.W.kitOne G.K (.ref D.Wrong) (.ref D.Twice) = some false
  ki_Wrong_ValueError : PySem.W.kitOne G.K (.ref D.Wrong) (.type "ValueError") = some true
  ki_Wrong_Wrong : PySem.W.kitOne G.K (.ref D.Wrong) (.ref D.Wrong) = some true
  em_Lacks_AheadError : PySem.W.exmOne G.K (.ref D.Lacks) (.ref D.AheadError) = some true
  em_NoWalker_AheadError : PySem.W.exmOne G.K (.ref D.NoWalker) (.ref D.AheadError) = some true
  em_Twice_AheadError : PySem.W.exmOne G.K (.ref D.Twice) (.ref D.AheadError) = some true
  em_Wrong_AheadError : PySem.W.exmOne G.K (.ref D.Wrong) (.ref D.AheadError) = some true
  g_Ladder : G.mg "Ladder" = some (.ref D.Ladder)
  cl_Ladder : Cls G.K D.Ladder
  na_Ladder_low : NoAttr G.K D.Ladder "low"
  na_Ladder_middle : NoAttr G.K D.Ladder "middle"
  na_Ladder_high : NoAttr G.K D.Ladder "high"
  na_Ladder_begin : NoAttr G.K D.Ladder "begin"
  na_Ladder_low_sums : NoAttr G.K D.Ladder "low_sums"
  na_Ladder_middle_sums : NoAttr G.K D.Ladder "middle_sums"
  na_Ladder_high_sums : NoAttr G.K D.Ladder "high_sums"
  ic_Ladder : Ic G.K D.Ladder
  is_Ladder_Ladder : PySem.W.kitOne G.K (.ref D.Ladder) (.ref D.Ladder) = some true
  g_Web : G.mg "Web" = some (.ref D.Web)
  cl_Web : Cls G.K D.Web
  na_Web_walkers : NoAttr G.K D.Web "walkers"
  na_Web_ladders : NoAttr G.K D.Web "ladders"
  na_Web_free : NoAttr G.K D.Web "free"
  ic_Web : Ic G.K D.Web
  ni_Web : PySem.W.kitOne G.K (.type "int") (.ref D.Web) = some false
  is_Web_Web : PySem.W.kitOne G.K (.ref D.Web) (.ref D.Web) = some true
  d_w_bag : ∃ f fd, G.mg "_law_bag" = some (.ref f) ∧ PySem.W.keepIn G.K (.ref f) = true ∧ Binds G.K fd ["_law_script"] [] ∧ Fun G.K "_law_bag" "_law_bag" t_w_bag f fd
  d_w_take : ∃ f fd, G.mg "_law_take" = some (.ref f) ∧ PySem.W.keepIn G.K (.ref f) = true ∧ Binds G.K fd ["_law_bag_here", "_law_many"] [] ∧ Fun G.K "_law_take" "_law_take" t_w_take f fd
  d_w_names : ∃ f fd, G.mg "_law_names" = some (.ref f) ∧ PySem.W.keepIn G.K (.ref f) = true ∧ Binds G.K fd ["_law_bag_here", "_law_many"] [] ∧ Fun G.K "_law_names" "_law_names" t_w_names f fd
  d_is_whole : ∃ f fd, G.mg "is_whole" = some (.ref f) ∧ PySem.W.keepIn G.K (.ref f) = true ∧ Binds G.K fd ["thing"] [] ∧ Fun G.K "is_whole" "is_whole" t_is_whole f fd
  d_is_between : ∃ f fd, G.mg "is_between" = some (.ref f) ∧ PySem.W.keepIn G.K (.ref f) = true ∧ Binds G.K fd ["thing", "low", "high"] [] ∧ Fun G.K "is_between" "is_between" t_is_between f fd
  d_is_price : ∃ f fd, G.mg "is_price" = some (.ref f) ∧ PySem.W.keepIn G.K (.ref f) = true ∧ Binds G.K fd ["thing"] [] ∧ Fun G.K "is_price" "is_price" t_is_price f fd
  d_are_prices : ∃ f fd, G.mg "are_prices" = some (.ref f) ∧ PySem.W.keepIn G.K (.ref f) = true ∧ Binds G.K fd ["thing", "least", "most"] [] ∧ Fun G.K "are_prices" "are_prices" t_are_prices f fd
  d_sums_of : ∃ f fd, G.mg "sums_of" = some (.ref f) ∧ PySem.W.keepIn G.K (.ref f) = true ∧ Binds G.K fd ["prices"] [] ∧ Fun G.K "sums_of" "sums_of" t_sums_of f fd
  d_Ladder_init : ∃ f fd, Mk G.K D.Ladder f ∧ FunD G.K "__init__" "Ladder.__init__" (defArgs t_Ladder_init) (defBody t_Ladder_init) (defScope t_Ladder_init) [] [("at", .int 0)] f fd
  d_plain : ∃ f fd, G.mg "plain" = some (.ref f) ∧ PySem.W.keepIn G.K (.ref f) = true ∧ Binds G.K fd ["price"] [] ∧ Fun G.K "plain" "plain" t_plain f fd
  d_is_name : ∃ f fd, G.mg "is_name" = some (.ref f) ∧ PySem.W.keepIn G.K (.ref f) = true ∧ Binds G.K fd ["thing"] [] ∧ Fun G.K "is_name" "is_name" t_is_name f fd
  d_is_pair : ∃ f fd, G.mg "is_pair" = some (.ref f) ∧ PySem.W.keepIn G.K (.ref f) = true ∧ Binds G.K fd ["thing"] [] ∧ Fun G.K "is_pair" "is_pair" t_is_pair f fd
  d_first_twice : ∃ f fd, G.mg "first_twice" = some (.ref f) ∧ PySem.W.keepIn G.K (.ref f) = true ∧ Binds G.K fd ["names"] [] ∧ Fun G.K "first_twice" "first_twice" t_first_twice f fd
  d_Ladder_moved_to : ∃ f fd, Meth G.K D.Ladder "moved_to" f ∧ Binds G.K fd ["self", "at"] [] ∧ Fun G.K "moved_to" "Ladder.moved_to" t_Ladder_moved_to f fd
  d_Ladder_turned : ∃ f fd, Meth G.K D.Ladder "turned" f ∧ Binds G.K fd ["self"] [] ∧ Fun G.K "turned" "Ladder.turned" t_Ladder_turned f fd
  d_Web_put : ∃ f fd, Meth G.K D.Web "put" f ∧ Binds G.K fd ["self", "p", "q", "ladder"] [] ∧ Fun G.K "put" "Web.put" t_Web_put f fd
  d_Web_init : ∃ f fd, Mk G.K D.Web f ∧ Binds G.K fd ["self", "names", "pairs"] [] ∧ Fun G.K "__init__" "Web.__init__" t_Web_init f fd
  d_w_rows : ∃ f fd, G.mg "_law_rows" = some (.ref f) ∧ PySem.W.keepIn G.K (.ref f) = true ∧ Binds G.K fd ["_law_bag_here", "_law_names_here"] [] ∧ Fun G.K "_law_rows" "_law_rows" t_w_rows f fd
  d_w_is_name : ∃ f fd, G.mg "_law_is_name" = some (.ref f) ∧ PySem.W.keepIn G.K (.ref f) = true ∧ Binds G.K fd ["_law_thing"] [] ∧ Fun G.K "_law_is_name" "_law_is_name" t_w_is_name f fd
  d_w_within : ∃ f fd, G.mg "_law_within" = some (.ref f) ∧ PySem.W.keepIn G.K (.ref f) = true ∧ Binds G.K fd ["_law_thing", "_law_low", "_law_high"] [] ∧ Fun G.K "_law_within" "_law_within" t_w_within f fd
  d_w_is_row : ∃ f fd, G.mg "_law_is_row" = some (.ref f) ∧ PySem.W.keepIn G.K (.ref f) = true ∧ Binds G.K fd ["_law_thing"] [] ∧ Fun G.K "_law_is_row" "_law_is_row" t_w_is_row f fd
  d_w_signed : ∃ f fd, G.mg "_law_signed" = some (.ref f) ∧ PySem.W.keepIn G.K (.ref f) = true ∧ Binds G.K fd ["_law_bag_here", "_law_name"] [] ∧ Fun G.K "_law_signed" "_law_signed" t_w_signed f fd
  d_w_bent : ∃ f fd, G.mg "_law_bent" = some (.ref f) ∧ PySem.W.keepIn G.K (.ref f) = true ∧ Binds G.K fd ["_law_bag_here", "_law_rows_here"] [] ∧ Fun G.K "_law_bent" "_law_bent" t_w_bent f fd
  d_w_due : ∃ f fd, G.mg "_law_due" = some (.ref f) ∧ PySem.W.keepIn G.K (.ref f) = true ∧ Binds G.K fd ["_law_names_here", "_law_web", "_law_rows_here"] [] ∧ Fun G.K "_law_due" "_law_due" t_w_due f fd
  d_is_place : ∃ f fd, G.mg "is_place" = some (.ref f) ∧ PySem.W.keepIn G.K (.ref f) = true ∧ Binds G.K fd ["thing"] [] ∧ Fun G.K "is_place" "is_place" t_is_place f fd
  d_are_coins : ∃ f fd, G.mg "are_coins" = some (.ref f) ∧ PySem.W.keepIn G.K (.ref f) = true ∧ Binds G.K fd ["thing"] [] ∧ Fun G.K "are_coins" "are_coins" t_are_coins f fd
  d_is_row : ∃ f fd, G.mg "is_row" = some (.ref f) ∧ PySem.W.keepIn G.K (.ref f) = true ∧ Binds G.K fd ["thing"] [] ∧ Fun G.K "is_row" "is_row" t_is_row f fd
  d_Web_names : ∃ f fd, Meth G.K D.Web "names" f ∧ Binds G.K fd ["self"] [] ∧ Fun G.K "names" "Web.names" t_Web_names f fd
  d_leveled : ∃ f fd, G.mg "leveled" = some (.ref f) ∧ PySem.W.keepIn G.K (.ref f) = true ∧ Binds G.K fd ["rows"] [] ∧ Fun G.K "leveled" "leveled" t_leveled f fd
  d_standing_of : ∃ f fd, G.mg "standing_of" = some (.ref f) ∧ PySem.W.keepIn G.K (.ref f) = true ∧ Binds G.K fd ["web", "rows"] [] ∧ Fun G.K "standing_of" "standing_of" t_standing_of f fd
  d_w_told : ∃ f fd, G.mg "_law_told" = some (.ref f) ∧ PySem.W.keepIn G.K (.ref f) = true ∧ Binds G.K fd ["_law_web", "_law_rows_here"] [] ∧ Fun G.K "_law_told" "_law_told" t_w_told f fd
  d_coins_of : ∃ f fd, G.mg "coins_of" = some (.ref f) ∧ PySem.W.keepIn G.K (.ref f) = true ∧ Binds G.K fd ["standing", "p"] [] ∧ Fun G.K "coins_of" "coins_of" t_coins_of f fd
  d_w_alike : ∃ f fd, G.mg "_law_alike" = some (.ref f) ∧ PySem.W.keepIn G.K (.ref f) = true ∧ Binds G.K fd ["_law_found", "_law_due_here"] [] ∧ Fun G.K "_law_alike" "_law_alike" t_w_alike f fd
  d_places_of : ∃ f fd, G.mg "places_of" = some (.ref f) ∧ PySem.W.keepIn G.K (.ref f) = true ∧ Binds G.K fd ["sketch"] [] ∧ Fun G.K "places_of" "places_of" t_places_of f fd
  d_lead : ∃ f fd, G.mg "lead" = some (.ref f) ∧ PySem.W.keepIn G.K (.ref f) = true ∧ Binds G.K fd ["standing", "p", "q"] [] ∧ Fun G.K "lead" "lead" t_lead f fd
  d_w_asked_right : ∃ f fd, G.mg "_law_asked_right" = some (.ref f) ∧ PySem.W.keepIn G.K (.ref f) = true ∧ Binds G.K fd ["_law_standing"] [] ∧ Fun G.K "_law_asked_right" "_law_asked_right" t_w_asked_right f fd
theorem x_Lacks {G : Gx} {D : Cl} (T : Txt G D) : XAtC G "Lacks" 1 ["self", "name"] (spX1 G.K "name") D.Lacks :=
  let ⟨mc, hA⟩ := T.ain_AheadError; let ⟨f, fd, h1, h2, h3, h4⟩ := T.xi_Lacks
  ⟨T.g_Lacks, T.ox_Lacks, f, fd, h1, h2, h3, xini1 h4 ⟨rfl, rfl, rfl, by decide +kernel, rfl, by decide +kernel, by decide +kernel⟩ rfl hA T.g_AheadError rfl (.inl rfl) (.inl rfl)⟩
theorem x_NoWalker {G : Gx} {D : Cl} (T : Txt G D) : XAtC G "NoWalker" 1 ["self", "name"] (spX1 G.K "name") D.NoWalker :=
  let ⟨mc, hA⟩ := T.ain_AheadError; let ⟨f, fd, h1, h2, h3, h4⟩ := T.xi_NoWalker
  ⟨T.g_NoWalker, T.ox_NoWalker, f, fd, h1, h2, h3, xini1 h4 ⟨rfl, rfl, rfl, by decide +kernel, rfl, by decide +kernel, by decide +kernel⟩ rfl hA T.g_AheadError rfl (.inl rfl) (.inl rfl)⟩
theorem x_Twice {G : Gx} {D : Cl} (T : Txt G D) : XAtC G "Twice" 1 ["self", "name"] (spX1 G.K "name") D.Twice :=
  let ⟨mc, hA⟩ := T.ain_AheadError; let ⟨f, fd, h1, h2, h3, h4⟩ := T.xi_Twice
  ⟨T.g_Twice, T.ox_Twice, f, fd, h1, h2, h3, xini1 h4 ⟨rfl, rfl, rfl, by decide +kernel, rfl, by decide +kernel, by decide +kernel⟩ rfl hA T.g_AheadError rfl (.inl rfl) (.inl rfl)⟩
theorem x_Wrong {G : Gx} {D : Cl} (T : Txt G D) : XAtC G "Wrong" 1 ["self", "at"] (spX1 G.K "at") D.Wrong :=
  let ⟨mc, hA⟩ := T.ain_AheadError; let ⟨f, fd, h1, h2, h3, h4⟩ := T.xi_Wrong
  ⟨T.g_Wrong, T.ox_Wrong, f, fd, h1, h2, h3, xini1 h4 ⟨rfl, rfl, rfl, by decide +kernel, rfl, by decide +kernel, by decide +kernel⟩ rfl hA T.g_AheadError rfl (.inl rfl) (.inl rfl)⟩
def k_w_bag : Sc := ⟨["_law_script", "_law_cell"], defScope t_w_bag, 0, true, fun _ => true, false⟩
theorem sc_w_bag : FnScope ["_law_script", "_law_cell"] ["_law_script"] (defScope t_w_bag) := ⟨rfl, rfl, rfl, by decide +kernel, rfl, by decide +kernel, by decide +kernel⟩
theorem n_w_bag_0 : Nm k_w_bag 0 "_law_script" := nm_of (by decide +kernel)
noncomputable def w_cells (p : List Int) : M Unit (List Int) := (zlc (fun e1 => (ret true)) (fun e1 => (zapp fabs (ret e1))) (zsl (ret p) (ret none) (zsome (ret (63 : Int)))))
theorem f_w_bag {G : Gx} {D : Cl} (T : Txt G D) {f : Addr} {fd : FuncData} (F : Fun G.K "_law_bag" "_law_bag" t_w_bag f fd) : FnG false G.P G.w G.K G.mg G.base 1 f fd ["_law_script"] (spBag G.K w_cells) :=
  bag_ok F sc_w_bag rfl (fun p W => show ZF G k_w_bag _ W [.st ((rSc G.K rInt).pr p), .no] _ (w_cells p) _ from (zf_lc (Lc.mk (own := [("_law_cell", 1)]) (blk_of rfl (by decide +kernel)) (zi_list (z_slSc (z_var n_w_bag_0) zp_no (zp_so z_int))) (zg_name (ns_of (i := 1) (by decide +kernel)) (by decide)) (fun e1 => zts_nil) (fun e1 => (z_abs (blt_of (u := .builtin "abs") T.b_abs (by decide +kernel)) (z_var (nm_of (i := 1) (by decide +kernel))))) (lc_no ⟨rfl, trivial⟩) (fun _ _ => rfl))))
theorem at_w_bag {G : Gx} {D : Cl} (T : Txt G D) : FnAt false G "_law_bag" 1 ["_law_script"] (spBag G.K w_cells) :=
  let ⟨f, fd, h1, h2, h3, h4⟩ := T.d_w_bag; ⟨f, fd, h1, h2, h3, f_w_bag T h4⟩

def k_w_take : Sc := ⟨["_law_bag_here", "_law_many", "_law_first", "_law_second", "_law_cell", "_law_value"], defScope t_w_take, 0, true, fun _ => true, false⟩
theorem sc_w_take : FnScope ["_law_bag_here", "_law_many", "_law_first", "_law_second", "_law_cell", "_law_value"] ["_law_bag_here", "_law_many"] (defScope t_w_take) := ⟨rfl, rfl, rfl, by decide +kernel, rfl, by decide +kernel, by decide +kernel⟩
theorem n_w_take_0 : Nm k_w_take 0 "_law_bag_here" := nm_of (by decide +kernel)
theorem n_w_take_1 : Nm k_w_take 1 "_law_many" := nm_of (by decide +kernel)
theorem n_w_take_2 : Nm k_w_take 2 "_law_first" := nm_of (by decide +kernel)
theorem s_w_take_2 : Ns k_w_take 2 "_law_first" := ns_of (by decide +kernel)
theorem n_w_take_3 : Nm k_w_take 3 "_law_second" := nm_of (by decide +kernel)
theorem s_w_take_3 : Ns k_w_take 3 "_law_second" := ns_of (by decide +kernel)
theorem n_w_take_4 : Nm k_w_take 4 "_law_cell" := nm_of (by decide +kernel)
theorem s_w_take_4 : Ns k_w_take 4 "_law_cell" := ns_of (by decide +kernel)
theorem n_w_take_5 : Nm k_w_take 5 "_law_value" := nm_of (by decide +kernel)
theorem s_w_take_5 : Ns k_w_take 5 "_law_value" := ns_of (by decide +kernel)
noncomputable def b_w_take (p : (Unit × Int)) : M Bag (Fl Unit Empty Int) :=
  (zseq (zifS (zop2 feq (bget Bag.big) (ret (0 : Int)))
    (zseq (zset (ret (0 : Int))) fun cell1 =>
    (zseq (zifS (zop2 ilt (bget Bag.pos) (zapp blen (ret ())))
      (zseq (zset (bcell (ret ()) (bget Bag.pos))) fun cell3 =>
      (znx cell3))
      (znx cell1)) fun j2 =>
    (zseq (bput (fun s v => { s with pos := v }) (zop2 iadd (bget Bag.pos) (ret (1 : Int)))) fun _ =>
    (zseq (zifS (zop2 ige (ret j2) (ret (1000000000000000000 : Int)))
      (zseq (bput (fun s v => { s with big := v }) (ret j2)) fun _ =>
      (znx ()))
      (znx ())) fun _ =>
    (zseq (bput (fun s v => { s with mix := v }) (zop2 imod (zop2 iadd (zop2 iadd (zop2 imul (bget Bag.mix) (ret (48271 : Int))) (zop2 imod (ret j2) (ret (2147483647 : Int)))) (zop2 imul (ret (7919 : Int)) (bget Bag.pos))) (ret (2147483647 : Int)))) fun _ =>
    (znx ()))))))
    (znx ())) fun _ =>
  (zseq (zifS (zop2 igt (bget Bag.big) (ret (0 : Int)))
    (zseq (zset (zop2 imod (bget Bag.big) (ret p.2))) fun value4 =>
    (zseq (bput (fun s v => { s with big := v }) (zop2 idiv (bget Bag.big) (ret p.2))) fun _ =>
    (zrt (ret value4))))
    (znx ())) fun _ =>
  (zseq (zset (zop2 imod (zop2 imul (zop2 iadd (bget Bag.mix) (ret (1 : Int))) (ret (39373 : Int))) (ret (1000000007 : Int)))) fun first5 =>
  (zseq (zset (zop2 imod (zop2 imul (zop2 imod (zop2 imul (ret first5) (ret first5)) (ret (998244353 : Int))) (ret (30011 : Int))) (ret (998244353 : Int)))) fun second6 =>
  (zseq (zifS (zop2 igt (ret p.2) (ret (1000000 : Int)))
    (zrt (zop2 imod (zop2 iadd (zop2 imul (ret second6) (ret (1000000007 : Int))) (ret first5)) (ret p.2)))
    (znx ())) fun _ =>
  (zrt (zop2 imod (zop2 idiv (ret second6) (ret (7 : Int))) (ret p.2))))))))
noncomputable def m_w_take (p : (Unit × Int)) : M Bag Int := zbody (b_w_take p)
theorem f_w_take {G : Gx} {D : Cl} (T : Txt G D) {f : Addr} {fd : FuncData} (F : Fun G.K "_law_take" "_law_take" t_w_take f fd) : FnG false G.P G.w G.K G.mg G.base 1 f fd ["_law_bag_here", "_law_many"] (spZ G (fun q : Addr × Addr => bagE q.1 q.2) (fun (q : Addr × Addr) (p : (Unit × Int)) => [(rRef q.1).pr p.1, rInt.pr p.2]) m_w_take rInt) :=
  fn_ok (g := false) (k := 0) (mb := b_w_take) (n := fun _ _ => stk) (Γn := fun _ _ _ => []) F sc_w_take (fun _ _ => rfl) (fun _ => rfl) (.inl fun _ _ => rfl) fun q p W =>
  show ZB G k_w_take _ W _ [.st ((rRef q.1).pr p.1), .st (rInt.pr p.2), .no, .no, .no, .no] _ (b_w_take p) _ from
  (zb_cons (zs_if (Γn := fun _ : Unit => [.st ((rRef q.1).pr p.1), .st (rInt.pr p.2), .no, .no, .no, .no]) (zt_eq scI (z_bag n_w_take_0 rfl fun _ => rfl) z_int)
    (zb_cons (zs_set s_w_take_4 z_int sub_nil) fun cell1 =>
    (zb_cons (zs_if (Γn := fun j2 : Int => [.st ((rRef q.1).pr p.1), .st (rInt.pr p.2), .no, .no, .st (rInt.pr j2), .no]) (zt_lt (z_bag n_w_take_0 rfl fun _ => rfl) (z_blen (blt_of (u := .builtin "len") T.b_len (by decide +kernel)) (z_bag3 n_w_take_0 rfl)))
      (zb_cons (zs_set s_w_take_4 (z_bcell (z_bag3 n_w_take_0 rfl) (z_bag n_w_take_0 rfl fun _ => rfl)) sub_nil) fun cell3 =>
      (zb_nil (SubL.sub (.keep (.keep (.keep (.keep (.keep (.keep SubL.nil)))))))))
      (zb_nil (SubL.sub (.keep (.keep (.keep (.keep (.keep (.keep SubL.nil)))))))) sub_nil) fun j2 =>
    (zb_cons (zs_binc n_w_take_0 rfl (fun _ => rfl) rfl (fun _ _ => rfl) (fun _ _ => rfl) z_int sub_nil) fun _ =>
    (zb_cons (zs_if (Γn := fun _ : Unit => [.st ((rRef q.1).pr p.1), .st (rInt.pr p.2), .no, .no, .st (rInt.pr j2), .no]) (zt_ge (z_var n_w_take_4) z_int)
      (zb_cons (zs_bput n_w_take_0 rfl rfl (fun _ _ => rfl) (fun _ _ => rfl) (z_var n_w_take_4) sub_nil) fun _ =>
      (zb_nil (SubL.sub (.keep (.keep (.keep (.keep (.keep (.keep SubL.nil)))))))))
      (zb_nil (SubL.sub (.keep (.keep (.keep (.keep (.keep (.keep SubL.nil)))))))) sub_nil) fun _ =>
    (zb_cons (zs_bput n_w_take_0 rfl rfl (fun _ _ => rfl) (fun _ _ => rfl) (z_mod (z_add (z_add (z_mul (z_bag n_w_take_0 rfl fun _ => rfl) z_int) (z_mod (z_var n_w_take_4) z_int)) (z_mul z_int (z_bag n_w_take_0 rfl fun _ => rfl))) z_int) sub_nil) fun _ =>
    (zb_nil (SubL.sub (.keep (.keep (.keep (.keep (.drop (.keep SubL.nil)))))))))))))
    (zb_nil (SubL.sub (.keep (.keep (.keep (.keep (.keep (.keep SubL.nil)))))))) sub_nil) fun _ =>
  (zb_cons (zs_if (Γn := fun _ : Unit => [.st ((rRef q.1).pr p.1), .st (rInt.pr p.2), .no, .no, .no, .no]) (zt_gt (z_bag n_w_take_0 rfl fun _ => rfl) z_int)
    (zb_cons (zs_set s_w_take_5 (z_mod (z_bag n_w_take_0 rfl fun _ => rfl) (z_var n_w_take_1)) sub_nil) fun value4 =>
    (zb_cons (zs_bput n_w_take_0 rfl rfl (fun _ _ => rfl) (fun _ _ => rfl) (z_div (z_bag n_w_take_0 rfl fun _ => rfl) (z_var n_w_take_1)) sub_nil) fun _ =>
    (zb_one (zs_ret (z_var n_w_take_5) sub_nil))))
    (zb_nil (SubL.sub (.keep (.keep (.keep (.keep (.keep (.keep SubL.nil)))))))) sub_nil) fun _ =>
  (zb_cons (zs_set s_w_take_2 (z_mod (z_mul (z_add (z_bag n_w_take_0 rfl fun _ => rfl) z_int) z_int) z_int) sub_nil) fun first5 =>
  (zb_cons (zs_set s_w_take_3 (z_mod (z_mul (z_mod (z_mul (z_var n_w_take_2) (z_var n_w_take_2)) z_int) z_int) z_int) sub_nil) fun second6 =>
  (zb_cons (zs_if (Γn := fun _ : Unit => [.st ((rRef q.1).pr p.1), .st (rInt.pr p.2), .st (rInt.pr first5), .st (rInt.pr second6), .no, .no]) (zt_gt (z_var n_w_take_1) z_int)
    (zb_one (zs_ret (z_mod (z_add (z_mul (z_var n_w_take_3) z_int) (z_var n_w_take_2)) (z_var n_w_take_1)) sub_nil))
    (zb_nil (SubL.sub (.keep (.keep (.keep (.keep (.keep (.keep SubL.nil)))))))) sub_nil) fun _ =>
  (zb_one (zs_ret (z_mod (z_div (z_var n_w_take_3) z_int) (z_var n_w_take_1)) sub_nil)))))))
theorem at_w_take {G : Gx} {D : Cl} (T : Txt G D) : FnAt false G "_law_take" 1 ["_law_bag_here", "_law_many"] (spZ G (fun q : Addr × Addr => bagE q.1 q.2) (fun (q : Addr × Addr) (p : (Unit × Int)) => [(rRef q.1).pr p.1, rInt.pr p.2]) m_w_take rInt) :=
  let ⟨f, fd, h1, h2, h3, h4⟩ := T.d_w_take; ⟨f, fd, h1, h2, h3, f_w_take T h4⟩

def k_w_names : Sc := ⟨["_law_bag_here", "_law_many", "_law_letters", "_law_base", "_law_spot", "_law_turn", "_law_way", "_law_found", "_law_k"], defScope t_w_names, 1, true, fun _ => true, false⟩
theorem sc_w_names : FnScope ["_law_bag_here", "_law_many", "_law_letters", "_law_base", "_law_spot", "_law_turn", "_law_way", "_law_found", "_law_k"] ["_law_bag_here", "_law_many"] (defScope t_w_names) := ⟨rfl, rfl, rfl, by decide +kernel, rfl, by decide +kernel, by decide +kernel⟩
theorem n_w_names_0 : Nm k_w_names 0 "_law_bag_here" := nm_of (by decide +kernel)
theorem n_w_names_1 : Nm k_w_names 1 "_law_many" := nm_of (by decide +kernel)
theorem n_w_names_2 : Nm k_w_names 2 "_law_letters" := nm_of (by decide +kernel)
theorem s_w_names_2 : Ns k_w_names 2 "_law_letters" := ns_of (by decide +kernel)
theorem n_w_names_3 : Nm k_w_names 3 "_law_base" := nm_of (by decide +kernel)
theorem s_w_names_3 : Ns k_w_names 3 "_law_base" := ns_of (by decide +kernel)
theorem s_w_names_4 : Ns k_w_names 4 "_law_spot" := ns_of (by decide +kernel)
theorem s_w_names_5 : Ns k_w_names 5 "_law_turn" := ns_of (by decide +kernel)
theorem n_w_names_6 : Nm k_w_names 6 "_law_way" := nm_of (by decide +kernel)
theorem s_w_names_6 : Ns k_w_names 6 "_law_way" := ns_of (by decide +kernel)
theorem n_w_names_7 : Nm k_w_names 7 "_law_found" := nm_of (by decide +kernel)
theorem s_w_names_7 : Ns k_w_names 7 "_law_found" := ns_of (by decide +kernel)
noncomputable def b_w_names (p : (Unit × Int)) : M Bag (Fl Unit Empty (List Str)) :=
  (zseq (zset (ret ("abcdefghijklmnopqrstuvwxyz" : Str))) fun letters1 =>
  (zseq (zset (zop2 smul (zop2 sixat (ret letters1) (zapp m_w_take (zpair (ret p.1) (ret (26 : Int))))) (zop2 iadd (ret (1 : Int)) (zapp m_w_take (zpair (ret p.1) (ret (8 : Int))))))) fun base2 =>
  (zseq (zset (zapp m_w_take (zpair (ret p.1) (zapp flenS (ret base2))))) fun spot3 =>
  (zseq (zset (zapp m_w_take (zpair (ret p.1) (ret (26 : Int))))) fun turn4 =>
  (zseq (zset (zapp m_w_take (zpair (ret p.1) (ret (4 : Int))))) fun way5 =>
  (zseq (zifS (zand (zop2 feq (ret way5) (ret (0 : Int))) (zop2 ilt (ret p.2) (ret (9 : Int))))
    (zrt (zlc (fun e6 => (ret true)) (fun e6 => (zslS (zop2 smul (zop2 sixat (ret letters1) (ret turn4)) (ret (8 : Int))) (ret none) (zsome (zop2 iadd (ret e6) (ret (1 : Int)))))) (zapp frA1 (ret p.2))))
    (znx ())) fun _ =>
  (zseq (zset (zlc (fun e8 => (ret true)) (fun e8 => (zop2 scat (zop2 scat (zslS (ret base2) (ret none) (zsome (ret spot3))) (zop2 sixat (ret letters1) (zop2 imod (zop2 iadd (ret turn4) (ret e8)) (ret (26 : Int))))) (zslS (ret base2) (zsome (zop2 iadd (ret spot3) (ret (1 : Int)))) (ret none)))) (zapp frA1 (ret p.2)))) fun found7 =>
  (zseq (zifS (zand (zop2 feq (ret way5) (ret (1 : Int))) (zop2 ilt (zapp flenS (ret base2)) (ret (8 : Int))))
    (zseq (zset (zlc (fun e11 => (ret true)) (fun e11 => (zop2 scat (zop2 ixat (ret found7) (ret e11)) (zop2 smul (ret ("a" : Str)) (zop2 imod (ret e11) (ret (2 : Int)))))) (zapp frA1 (ret p.2)))) fun found10 =>
    (znx found10))
    (znx found7)) fun j9 =>
  (zrt (ret j9))))))))))
noncomputable def m_w_names (p : (Unit × Int)) : M Bag (List Str) := zbody (b_w_names p)
theorem f_w_names {G : Gx} {D : Cl} (T : Txt G D) {f : Addr} {fd : FuncData} (F : Fun G.K "_law_names" "_law_names" t_w_names f fd) : FnG false G.P G.w G.K G.mg G.base 2 f fd ["_law_bag_here", "_law_many"] (spZ G (fun q : Addr × Addr => bagE q.1 q.2) (fun (q : Addr × Addr) (p : (Unit × Int)) => [(rRef q.1).pr p.1, rInt.pr p.2]) m_w_names (rLst rStr)) :=
  fn_ok (g := false) (k := 1) (mb := b_w_names) (n := fun _ _ => stk) (Γn := fun _ _ _ => []) F sc_w_names (fun _ _ => rfl) (fun _ => rfl) (.inl fun _ _ => rfl) fun q p W =>
  show ZB G k_w_names _ W _ [.st ((rRef q.1).pr p.1), .st (rInt.pr p.2), .no, .no, .no, .no, .no, .no, .no] _ (b_w_names p) _ from
  (zb_cons (zs_set s_w_names_2 z_str sub_nil) fun letters1 =>
  (zb_cons (zs_set s_w_names_3 (z_mulS (z_ixS (z_var n_w_names_2) (z_call (q := q) (at_w_take T) rfl (by decide) (by decide) (by exact rfl) (za_cons (z_var n_w_names_0) (za_one z_int)))) (z_add z_int (z_call (q := q) (at_w_take T) rfl (by decide) (by decide) (by exact rfl) (za_cons (z_var n_w_names_0) (za_one z_int))))) sub_nil) fun base2 =>
  (zb_cons (zs_set s_w_names_4 (z_call (q := q) (at_w_take T) rfl (by decide) (by decide) (by exact rfl) (za_cons (z_var n_w_names_0) (za_one (z_lenS (blt_of (u := .builtin "len") T.b_len (by decide +kernel)) (z_var n_w_names_3))))) sub_nil) fun spot3 =>
  (zb_cons (zs_set s_w_names_5 (z_call (q := q) (at_w_take T) rfl (by decide) (by decide) (by exact rfl) (za_cons (z_var n_w_names_0) (za_one z_int))) sub_nil) fun turn4 =>
  (zb_cons (zs_set s_w_names_6 (z_call (q := q) (at_w_take T) rfl (by decide) (by decide) (by exact rfl) (za_cons (z_var n_w_names_0) (za_one z_int))) sub_nil) fun way5 =>
  (zb_cons (zs_if (Γn := fun _ : Unit => [.st ((rRef q.1).pr p.1), .st (rInt.pr p.2), .st (rStr.pr letters1), .st (rStr.pr base2), .st (rInt.pr spot3), .st (rInt.pr turn4), .st (rInt.pr way5), .no, .no]) (zw_t (zw_and (zt_eq scI (z_var n_w_names_6) z_int) (zw_and1 (zt_lt (z_var n_w_names_1) z_int))))
    (zb_one (zs_ret (z_lc (Lc.mk (own := [("_law_k", 8)]) (blk_of rfl (by decide +kernel)) (zi_r1 (blt_of (u := .type "range") T.b_range (by decide +kernel)) (z_var n_w_names_1)) (zg_name (ns_of (i := 8) (by decide +kernel)) (by decide)) (fun e6 => zts_nil) (fun e6 => (z_slS (z_mulS (z_ixS (z_var (nm_of (i := 2) (by decide +kernel))) (z_var (nm_of (i := 5) (by decide +kernel)))) z_int) zp_no (zp_so (z_add (z_var (nm_of (i := 8) (by decide +kernel))) z_int)))) (lc_no ⟨rfl, trivial⟩) (fun _ _ => rfl))) sub_nil))
    (zb_nil (SubL.sub (.keep (.keep (.keep (.keep (.keep (.keep (.keep (.keep (.keep SubL.nil))))))))))) sub_nil) fun _ =>
  (zb_cons (zs_setLcC (i := 7) (Lc.mk (own := [("_law_k", 8)]) (blk_of rfl (by decide +kernel)) (zi_r1 (blt_of (u := .type "range") T.b_range (by decide +kernel)) (z_var n_w_names_1)) (zg_name (ns_of (i := 8) (by decide +kernel)) (by decide)) (fun e8 => zts_nil) (fun e8 => (z_catS (z_catS (z_slS (z_var (nm_of (i := 3) (by decide +kernel))) zp_no (zp_so (z_var (nm_of (i := 4) (by decide +kernel))))) (z_ixS (z_var (nm_of (i := 2) (by decide +kernel))) (z_mod (z_add (z_var (nm_of (i := 5) (by decide +kernel))) (z_var (nm_of (i := 8) (by decide +kernel)))) z_int))) (z_slS (z_var (nm_of (i := 3) (by decide +kernel))) (zp_so (z_add (z_var (nm_of (i := 4) (by decide +kernel))) z_int)) zp_no))) (lc_no ⟨rfl, trivial⟩) (fun _ _ => rfl)) s_w_names_7 (by decide +kernel) sub_nil) fun found7 =>
  (zb_cons (zs_if (Γn := fun j9 : (List Str) => [.st ((rRef q.1).pr p.1), .st (rInt.pr p.2), .st (rStr.pr letters1), .st (rStr.pr base2), .st (rInt.pr spot3), .st (rInt.pr turn4), .st (rInt.pr way5), .st ((rLst rStr).pr j9), .no]) (zw_t (zw_and (zt_eq scI (z_var n_w_names_6) z_int) (zw_and1 (zt_lt (z_lenS (blt_of (u := .builtin "len") T.b_len (by decide +kernel)) (z_var n_w_names_3)) z_int))))
    (zb_cons (zs_setLcC (i := 7) (Lc.mk (own := [("_law_k", 8)]) (blk_of rfl (by decide +kernel)) (zi_r1 (blt_of (u := .type "range") T.b_range (by decide +kernel)) (z_var n_w_names_1)) (zg_name (ns_of (i := 8) (by decide +kernel)) (by decide)) (fun e11 => zts_nil) (fun e11 => (z_catS (z_ixL (z_var (nm_of (i := 7) (by decide +kernel))) (z_var (nm_of (i := 8) (by decide +kernel)))) (z_mulS z_str (z_mod (z_var (nm_of (i := 8) (by decide +kernel))) z_int)))) (lc_no ⟨rfl, trivial⟩) (fun _ _ => rfl)) s_w_names_7 (by decide +kernel) sub_nil) fun found10 =>
    (zb_nil (SubL.sub (.keep (.keep (.keep (.keep (.keep (.keep (.keep (.keep (.keep SubL.nil))))))))))))
    (zb_nil (SubL.sub (.keep (.keep (.keep (.keep (.keep (.keep (.keep (.keep (.keep SubL.nil))))))))))) sub_nil) fun j9 =>
  (zb_one (zs_ret (z_var n_w_names_7) sub_nil))))))))))
theorem at_w_names {G : Gx} {D : Cl} (T : Txt G D) : FnAt false G "_law_names" 2 ["_law_bag_here", "_law_many"] (spZ G (fun q : Addr × Addr => bagE q.1 q.2) (fun (q : Addr × Addr) (p : (Unit × Int)) => [(rRef q.1).pr p.1, rInt.pr p.2]) m_w_names (rLst rStr)) :=
  let ⟨f, fd, h1, h2, h3, h4⟩ := T.d_w_names; ⟨f, fd, h1, h2, h3, f_w_names T h4⟩

def k_is_whole : Sc := ⟨["thing"], defScope t_is_whole, 0, true, fun _ => true, false⟩
theorem sc_is_whole : FnScope ["thing"] ["thing"] (defScope t_is_whole) := ⟨rfl, rfl, rfl, by decide +kernel, rfl, by decide +kernel, by decide +kernel⟩
theorem n_is_whole_0 : Nm k_is_whole 0 "thing" := nm_of (by decide +kernel)
noncomputable def b_is_whole (p : Int) : M Unit (Fl Unit Empty Bool) :=
  (zrt (zand (zis true (ret p)) (znot (zis false (ret p)))))
noncomputable def m_is_whole (p : Int) : M Unit Bool := zbody (b_is_whole p)
theorem f_is_whole {G : Gx} {D : Cl} (T : Txt G D) {f : Addr} {fd : FuncData} (F : Fun G.K "is_whole" "is_whole" t_is_whole f fd) : FnG false G.P G.w G.K G.mg G.base 1 f fd ["thing"] (spZ G (fun _ : Unit => noE) (fun (q : Unit) (p : Int) => [rInt.pr p]) m_is_whole rBl) :=
  fn_ok (g := false) (k := 0) (mb := b_is_whole) (n := fun _ _ => stk) (Γn := fun _ _ _ => []) F sc_is_whole (fun _ _ => rfl) (fun _ => rfl) (.inl fun _ _ => rfl) fun q p W =>
  show ZB G k_is_whole _ W _ [.st (rInt.pr p)] _ (b_is_whole p) _ from
  (zb_one (zs_ret (z_and (z_isi (blt_of (u := .builtin "isinstance") T.b_isinstance (by decide +kernel)) isI (blt_of (u := .type "int") T.b_int (by decide +kernel)) rfl (z_var n_is_whole_0)) (z_one (z_not (z_isi (blt_of (u := .builtin "isinstance") T.b_isinstance (by decide +kernel)) isI (blt_of (u := .type "bool") T.b_bool (by decide +kernel)) rfl (z_var n_is_whole_0))))) sub_nil))
theorem at_is_whole {G : Gx} {D : Cl} (T : Txt G D) : FnAt false G "is_whole" 1 ["thing"] (spZ G (fun _ : Unit => noE) (fun (q : Unit) (p : Int) => [rInt.pr p]) m_is_whole rBl) :=
  let ⟨f, fd, h1, h2, h3, h4⟩ := T.d_is_whole; ⟨f, fd, h1, h2, h3, f_is_whole T h4⟩

def k_is_between : Sc := ⟨["thing", "low", "high"], defScope t_is_between, 1, true, fun _ => true, false⟩
theorem sc_is_between : FnScope ["thing", "low", "high"] ["thing", "low", "high"] (defScope t_is_between) := ⟨rfl, rfl, rfl, by decide +kernel, rfl, by decide +kernel, by decide +kernel⟩
theorem n_is_between_0 : Nm k_is_between 0 "thing" := nm_of (by decide +kernel)
theorem n_is_between_1 : Nm k_is_between 1 "low" := nm_of (by decide +kernel)
theorem n_is_between_2 : Nm k_is_between 2 "high" := nm_of (by decide +kernel)
noncomputable def b_is_between (p : (Int × Int × Int)) : M Unit (Fl Unit Empty Bool) :=
  (zrt (zand (zapp (fun x => lft (m_is_whole x)) (ret p.1)) (zchain ile ile (ret p.2.1) (ret p.1) (ret p.2.2))))
noncomputable def m_is_between (p : (Int × Int × Int)) : M Unit Bool := zbody (b_is_between p)
theorem f_is_between {G : Gx} {D : Cl} (T : Txt G D) {f : Addr} {fd : FuncData} (F : Fun G.K "is_between" "is_between" t_is_between f fd) : FnG false G.P G.w G.K G.mg G.base 2 f fd ["thing", "low", "high"] (spZ G (fun _ : Unit => noE) (fun (q : Unit) (p : (Int × Int × Int)) => [rInt.pr p.1, rInt.pr p.2.1, rInt.pr p.2.2]) m_is_between rBl) :=
  fn_ok (g := false) (k := 1) (mb := b_is_between) (n := fun _ _ => stk) (Γn := fun _ _ _ => []) F sc_is_between (fun _ _ => rfl) (fun _ => rfl) (.inl fun _ _ => rfl) fun q p W =>
  show ZB G k_is_between _ W _ [.st (rInt.pr p.1), .st (rInt.pr p.2.1), .st (rInt.pr p.2.2)] _ (b_is_between p) _ from
  (zb_one (zs_ret (z_and (z_callP (q := ()) (at_is_whole T) (by decide) (by decide) (by exact rfl) (za_one (z_var n_is_between_0))) (z_one (z_chI ci_le ci_le (z_var n_is_between_1) (z_var n_is_between_0) (z_var n_is_between_2)))) sub_nil))
theorem at_is_between {G : Gx} {D : Cl} (T : Txt G D) : FnAt false G "is_between" 2 ["thing", "low", "high"] (spZ G (fun _ : Unit => noE) (fun (q : Unit) (p : (Int × Int × Int)) => [rInt.pr p.1, rInt.pr p.2.1, rInt.pr p.2.2]) m_is_between rBl) :=
  let ⟨f, fd, h1, h2, h3, h4⟩ := T.d_is_between; ⟨f, fd, h1, h2, h3, f_is_between T h4⟩

def k_is_price : Sc := ⟨["thing"], defScope t_is_price, 2, true, fun _ => true, false⟩
theorem sc_is_price : FnScope ["thing"] ["thing"] (defScope t_is_price) := ⟨rfl, rfl, rfl, by decide +kernel, rfl, by decide +kernel, by decide +kernel⟩
theorem n_is_price_0 : Nm k_is_price 0 "thing" := nm_of (by decide +kernel)
noncomputable def b_is_price (p : Int) : M Unit (Fl Unit Empty Bool) :=
  (zrt (zapp (fun x => lft (m_is_between x)) (zpair (ret p) (zpair (ret (0 : Int)) (ret c_MOST_PRICE)))))
noncomputable def m_is_price (p : Int) : M Unit Bool := zbody (b_is_price p)
theorem f_is_price {G : Gx} {D : Cl} (T : Txt G D) {f : Addr} {fd : FuncData} (F : Fun G.K "is_price" "is_price" t_is_price f fd) : FnG false G.P G.w G.K G.mg G.base 3 f fd ["thing"] (spZ G (fun _ : Unit => noE) (fun (q : Unit) (p : Int) => [rInt.pr p]) m_is_price rBl) :=
  fn_ok (g := false) (k := 2) (mb := b_is_price) (n := fun _ _ => stk) (Γn := fun _ _ _ => []) F sc_is_price (fun _ _ => rfl) (fun _ => rfl) (.inl fun _ _ => rfl) fun q p W =>
  show ZB G k_is_price _ W _ [.st (rInt.pr p)] _ (b_is_price p) _ from
  (zb_one (zs_ret (z_callP (q := ()) (at_is_between T) (by decide) (by decide) (by exact rfl) (za_cons (z_var n_is_price_0) (za_cons z_int (za_one (z_gintE (by exact rfl) T.c_MOST_PRICE))))) sub_nil))
theorem at_is_price {G : Gx} {D : Cl} (T : Txt G D) : FnAt false G "is_price" 3 ["thing"] (spZ G (fun _ : Unit => noE) (fun (q : Unit) (p : Int) => [rInt.pr p]) m_is_price rBl) :=
  let ⟨f, fd, h1, h2, h3, h4⟩ := T.d_is_price; ⟨f, fd, h1, h2, h3, f_is_price T h4⟩

def k_are_prices : Sc := ⟨["thing", "least", "most", "one"], defScope t_are_prices, 3, true, fun _ => true, false⟩
theorem sc_are_prices : FnScope ["thing", "least", "most", "one"] ["thing", "least", "most"] (defScope t_are_prices) := ⟨rfl, rfl, rfl, by decide +kernel, rfl, by decide +kernel, by decide +kernel⟩
theorem n_are_prices_0 : Nm k_are_prices 0 "thing" := nm_of (by decide +kernel)
theorem n_are_prices_1 : Nm k_are_prices 1 "least" := nm_of (by decide +kernel)
theorem n_are_prices_2 : Nm k_are_prices 2 "most" := nm_of (by decide +kernel)
noncomputable def b_are_prices (p : ((List Int) × Int × Int)) : M Unit (Fl Unit Empty Bool) :=
  (zseq (zifS (zor (znot (zis true (ret p.1))) (znot (zchain ile ile (ret p.2.1) (zapp flen (ret p.1)) (ret p.2.2))))
    (zrt (ret false))
    (znx ())) fun _ =>
  (zrt (zapp fall (zlc (fun e1 => (ret true)) (fun e1 => (zapp (fun x => lft (m_is_price x)) (ret e1))) (ret p.1)))))
noncomputable def m_are_prices (p : ((List Int) × Int × Int)) : M Unit Bool := zbody (b_are_prices p)
theorem f_are_prices {G : Gx} {D : Cl} (T : Txt G D) {f : Addr} {fd : FuncData} (F : Fun G.K "are_prices" "are_prices" t_are_prices f fd) : FnG false G.P G.w G.K G.mg G.base 4 f fd ["thing", "least", "most"] (spZ G (fun _ : Unit => noE) (fun (q : Unit) (p : ((List Int) × Int × Int)) => [(rLst rInt).pr p.1, rInt.pr p.2.1, rInt.pr p.2.2]) m_are_prices rBl) :=
  fn_ok (g := false) (k := 3) (mb := b_are_prices) (n := fun _ _ => stk) (Γn := fun _ _ _ => []) F sc_are_prices (fun _ _ => rfl) (fun _ => rfl) (.inl fun _ _ => rfl) fun q p W =>
  show ZB G k_are_prices _ W _ [.st ((rLst rInt).pr p.1), .st (rInt.pr p.2.1), .st (rInt.pr p.2.2), .no] _ (b_are_prices p) _ from
  (zb_cons (zs_if (Γn := fun _ : Unit => [.st ((rLst rInt).pr p.1), .st (rInt.pr p.2.1), .st (rInt.pr p.2.2), .no]) (zw_t (zw_or (zt_not (zt_val (z_isi (blt_of (u := .builtin "isinstance") T.b_isinstance (by decide +kernel)) isL (blt_of (u := .type "list") T.b_list (by decide +kernel)) rfl (z_var n_are_prices_0)))) (zw_or1 (zt_not (zt_chI ci_le ci_le (z_var n_are_prices_1) (z_lenL (blt_of (u := .builtin "len") T.b_len (by decide +kernel)) (z_var n_are_prices_0)) (z_var n_are_prices_2))))))
    (zb_one (zs_ret z_bl sub_nil))
    (zb_nil (SubL.sub (.keep (.keep (.keep (.keep SubL.nil)))))) sub_nil) fun _ =>
  (zb_one (zs_ret (z_all (blt_of (u := .builtin "all") T.b_all (by decide +kernel)) (z_lc (Lc.mk (own := [("one", 3)]) (blk_of rfl (by decide +kernel)) (zi_list (z_var n_are_prices_0)) (zg_name (ns_of (i := 3) (by decide +kernel)) (by decide)) (fun e1 => zts_nil) (fun e1 => (z_callP (q := ()) (at_is_price T) (by decide) (by decide) (by exact rfl) (za_one (z_var (nm_of (i := 3) (by decide +kernel)))))) (lc_no ⟨rfl, trivial⟩) (fun _ _ => rfl)))) sub_nil)))
theorem at_are_prices {G : Gx} {D : Cl} (T : Txt G D) : FnAt false G "are_prices" 4 ["thing", "least", "most"] (spZ G (fun _ : Unit => noE) (fun (q : Unit) (p : ((List Int) × Int × Int)) => [(rLst rInt).pr p.1, rInt.pr p.2.1, rInt.pr p.2.2]) m_are_prices rBl) :=
  let ⟨f, fd, h1, h2, h3, h4⟩ := T.d_are_prices; ⟨f, fd, h1, h2, h3, f_are_prices T h4⟩

def k_sums_of : Sc := ⟨["prices", "found", "price"], defScope t_sums_of, 0, true, fun _ => true, false⟩
theorem sc_sums_of : FnScope ["prices", "found", "price"] ["prices"] (defScope t_sums_of) := ⟨rfl, rfl, rfl, by decide +kernel, rfl, by decide +kernel, by decide +kernel⟩
theorem n_sums_of_0 : Nm k_sums_of 0 "prices" := nm_of (by decide +kernel)
theorem n_sums_of_1 : Nm k_sums_of 1 "found" := nm_of (by decide +kernel)
theorem s_sums_of_1 : Ns k_sums_of 1 "found" := ns_of (by decide +kernel)
theorem n_sums_of_2 : Nm k_sums_of 2 "price" := nm_of (by decide +kernel)
theorem s_sums_of_2 : Ns k_sums_of 2 "price" := ns_of (by decide +kernel)
noncomputable def b_sums_of (p : (List Int)) : M Unit (Fl Unit Empty (List Int)) :=
  (zseq (zset (zlist (zcons (ret (0 : Int)) (ret [])))) fun found1 =>
  (zseq (zforI (ret p) found1 fun c2 x3 =>
    (zseq (bnd (zop2 iadd (zop2 ixat (ret c2) (zop1 ineg (ret (1 : Int)))) (ret x3)) fun v => chk (List.length c2 < sizeLine) (ret (.nx v))) fun a4 =>
    (znx (c2 ++ [a4])))) fun c2 =>
  (zrt (ret c2))))
noncomputable def m_sums_of (p : (List Int)) : M Unit (List Int) := zbody (b_sums_of p)
theorem f_sums_of {G : Gx} {D : Cl} (T : Txt G D) {f : Addr} {fd : FuncData} (F : Fun G.K "sums_of" "sums_of" t_sums_of f fd) : FnG false G.P G.w G.K G.mg G.base 1 f fd ["prices"] (spZ G (fun _ : Unit => noE) (fun (q : Unit) (p : (List Int)) => [(rLst rInt).pr p]) m_sums_of (rLst rInt)) :=
  fn_ok (g := false) (k := 0) (mb := b_sums_of) (n := fun _ _ => stk) (Γn := fun _ _ _ => []) F sc_sums_of (fun _ _ => rfl) (fun _ => rfl) (.inl fun _ _ => rfl) fun q p W =>
  show ZB G k_sums_of _ W _ [.st ((rLst rInt).pr p), .no, .no] _ (b_sums_of p) _ from
  (zb_cons (zs_setF s_sums_of_1 (zf_list (zl_cons z_int zl_nil)) sub_nil) fun found1 =>
  (zb_cons (zs_for (vs := [2]) (Γh := fun c2 : (List Int) => [.st ((rLst rInt).pr p), .ow (ownL rInt c2), .no]) (zi_list (z_var n_sums_of_0)) (SubL.sub (.keep (.keep (.keep SubL.nil)))) (fun c2 => (zg_name s_sums_of_2 (by decide))) (fun c2 x3 =>
    (zb_cons (zs_app n_sums_of_1 rfl (z_lend (.st (.ow one_L (.st .nil))) free_no fl_int (z_add (z_ixL (z_var n_sums_of_1) (z_neg z_int)) (z_var n_sums_of_2))) sub_nil) fun a4 =>
    (zb_nil (SubL.sub (.keep (.keep (.drop SubL.nil))))))) sub_nil) fun c2 =>
  (zb_wk (sub_frz (i := 1) one_L) <| zb_one (zs_ret (z_var n_sums_of_1) sub_nil))))
theorem at_sums_of {G : Gx} {D : Cl} (T : Txt G D) : FnAt false G "sums_of" 1 ["prices"] (spZ G (fun _ : Unit => noE) (fun (q : Unit) (p : (List Int)) => [(rLst rInt).pr p]) m_sums_of (rLst rInt)) :=
  let ⟨f, fd, h1, h2, h3, h4⟩ := T.d_sums_of; ⟨f, fd, h1, h2, h3, f_sums_of T h4⟩

def k_Ladder_init : Sc := ⟨["self", "below", "row", "above", "at", "bounds", "place", "prices", "least", "most"], defScope t_Ladder_init, 4, true, fun _ => true, false⟩
theorem sc_Ladder_init : FnScope ["self", "below", "row", "above", "at", "bounds", "place", "prices", "least", "most"] ["self", "below", "row", "above", "at"] (defScope t_Ladder_init) := ⟨rfl, rfl, rfl, by decide +kernel, rfl, by decide +kernel, by decide +kernel⟩
theorem n_Ladder_init_0 : Nm k_Ladder_init 0 "self" := nm_of (by decide +kernel)
theorem n_Ladder_init_1 : Nm k_Ladder_init 1 "below" := nm_of (by decide +kernel)
theorem n_Ladder_init_2 : Nm k_Ladder_init 2 "row" := nm_of (by decide +kernel)
theorem n_Ladder_init_3 : Nm k_Ladder_init 3 "above" := nm_of (by decide +kernel)
theorem n_Ladder_init_4 : Nm k_Ladder_init 4 "at" := nm_of (by decide +kernel)
theorem n_Ladder_init_5 : Nm k_Ladder_init 5 "bounds" := nm_of (by decide +kernel)
theorem s_Ladder_init_5 : Ns k_Ladder_init 5 "bounds" := ns_of (by decide +kernel)
theorem n_Ladder_init_6 : Nm k_Ladder_init 6 "place" := nm_of (by decide +kernel)
theorem s_Ladder_init_6 : Ns k_Ladder_init 6 "place" := ns_of (by decide +kernel)
theorem n_Ladder_init_7 : Nm k_Ladder_init 7 "prices" := nm_of (by decide +kernel)
theorem s_Ladder_init_7 : Ns k_Ladder_init 7 "prices" := ns_of (by decide +kernel)
theorem n_Ladder_init_8 : Nm k_Ladder_init 8 "least" := nm_of (by decide +kernel)
theorem s_Ladder_init_8 : Ns k_Ladder_init 8 "least" := ns_of (by decide +kernel)
theorem n_Ladder_init_9 : Nm k_Ladder_init 9 "most" := nm_of (by decide +kernel)
theorem s_Ladder_init_9 : Ns k_Ladder_init 9 "most" := ns_of (by decide +kernel)
noncomputable def b_Ladder_init (p : ((List Int) × (List Int) × (List Int) × Int)) : M Unit (Fl ((List Int) × (List Int) × (List Int) × Int × (List Int) × (List Int) × (List Int)) Empty Empty) :=
  (zseq (zset (zlist (zcons (zpair (ret p.1) (zpair (ret (1 : Int)) (ret c_MOST_REPEATED))) (zcons (zpair (ret p.2.1) (zpair (ret (0 : Int)) (ret c_MOST_ROW))) (zcons (zpair (ret p.2.2.1) (zpair (ret (1 : Int)) (ret c_MOST_REPEATED))) (ret [])))))) fun bounds1 =>
  (zseq (zforI (zenum (ret bounds1)) () fun _ x2 =>
    (zseq (zifS (znot (zapp (fun x => lft (m_are_prices x)) (zpair (ret x2.2.1) (zpair (ret x2.2.2.1) (ret x2.2.2.2)))))
      (zraise "Wrong" "at" V.int (ret x2.1))
      (znx ())) fun _ =>
    (znx ()))) fun _ =>
  (zseq (zifS (znot (zapp (fun x => lft (m_is_between x)) (zpair (ret p.2.2.2) (zpair (zop2 isub (ret (0 : Int)) (ret c_FARTHEST_AT)) (ret c_FARTHEST_AT)))))
    (zraise "Wrong" "at" V.int (ret (3 : Int)))
    (znx ())) fun _ =>
  (zseq (zset (zpair (zapp ret (ret p.1)) (zpair (zapp ret (ret p.2.1)) (zapp ret (ret p.2.2.1))))) fun w3 =>
  (zseq (zset (ret p.2.2.2)) fun begin4 =>
  (zseq (zset (zpair (zapp (fun x => lft (m_sums_of x)) (ret p.1)) (zpair (zapp (fun x => lft (m_sums_of x)) (ret p.2.1)) (zapp (fun x => lft (m_sums_of x)) (ret p.2.2.1))))) fun w5 =>
  (znx (w3.1, w3.2.1, w3.2.2, begin4, w5.1, w5.2.1, w5.2.2))))))))
def y_Ladder_init (_ : ((List Int) × (List Int) × (List Int) × Int)) (y : ((List Int) × (List Int) × (List Int) × Int × (List Int) × (List Int) × (List Int))) : XLadder := ⟨y.1, y.2.1, y.2.2.1, y.2.2.2.1, y.2.2.2.2.1, y.2.2.2.2.2.1, y.2.2.2.2.2.2⟩
noncomputable def m_Ladder_init (p : ((List Int) × (List Int) × (List Int) × Int)) : M Unit XLadder := zini (y_Ladder_init p) (b_Ladder_init p)
theorem f_Ladder_init {G : Gx} {D : Cl} (T : Txt G D) {f : Addr} {fd : FuncData} (F : FunD G.K "__init__" "Ladder.__init__" (defArgs t_Ladder_init) (defBody t_Ladder_init) (defScope t_Ladder_init) [] [("at", .int 0)] f fd) : FnG false G.P G.w G.K G.mg G.base 5 f fd ["self", "below", "row", "above", "at"] (spI G D.Ladder (fun (p : ((List Int) × (List Int) × (List Int) × Int)) => [(rLst rInt).pr p.1, (rLst rInt).pr p.2.1, (rLst rInt).pr p.2.2.1, rInt.pr p.2.2.2]) m_Ladder_init (fs_Ladder D)) :=
  init_ok (g := false) (k := 4) (C := D.Ladder) (Γn := fun l a y => .ow (ownO (fun x => x = l) D.Ladder (fs_Ladder D (y_Ladder_init a y))) :: [.no, .no, .no, .no, .no, .no, .no, .no, .no]) F sc_Ladder_init (fun _ => rfl) (fun _ _ _ => rfl) fun l p W =>
  show ZB G k_Ladder_init _ W _ [.ow (ownO (fun x => x = l) D.Ladder []), .st ((rLst rInt).pr p.1), .st ((rLst rInt).pr p.2.1), .st ((rLst rInt).pr p.2.2.1), .st (rInt.pr p.2.2.2), .no, .no, .no, .no, .no] _ (b_Ladder_init p) _ from
  (zb_cons (zs_set s_Ladder_init_5 (z_list (zl_cons (z_tup3 (za_cons (z_var n_Ladder_init_1) (za_cons z_int (za_one (z_gintE (by exact rfl) T.c_MOST_REPEATED))))) (zl_cons (z_tup3 (za_cons (z_var n_Ladder_init_2) (za_cons z_int (za_one (z_gintE (by exact rfl) T.c_MOST_ROW))))) (zl_cons (z_tup3 (za_cons (z_var n_Ladder_init_3) (za_cons z_int (za_one (z_gintE (by exact rfl) T.c_MOST_REPEATED))))) zl_nil)))) sub_nil) fun bounds1 =>
  (zb_cons (zs_for (vs := [6, 7, 8, 9]) (Γh := fun _ : Unit => [.ow (ownO (fun x => x = l) D.Ladder []), .st ((rLst rInt).pr p.1), .st ((rLst rInt).pr p.2.1), .st ((rLst rInt).pr p.2.2.1), .st (rInt.pr p.2.2.2), .st ((rLst (rT3 (rLst rInt) rInt rInt)).pr bounds1), .no, .no, .no, .no]) (zi_enum (by exact rfl) T.b_enumerate (z_var n_Ladder_init_5)) (SubL.sub (.keep (.keep (.keep (.keep (.keep (.keep (.keep (.keep (.keep (.keep SubL.nil))))))))))) (fun _ => (zg_tup to2 (zgs_cons (zg_name s_Ladder_init_6 (by decide)) fun _ => (zgs_one (zg_tup to3 (zgs_cons (zg_name s_Ladder_init_7 (by decide)) fun _ => (zgs_cons (zg_name s_Ladder_init_8 (by decide)) fun _ => (zgs_one (zg_name s_Ladder_init_9 (by decide)))))))))) (fun _ x2 =>
    (zb_cons (zs_if (Γn := fun _ : Unit => [.ow (ownO (fun x => x = l) D.Ladder []), .st ((rLst rInt).pr p.1), .st ((rLst rInt).pr p.2.1), .st ((rLst rInt).pr p.2.2.1), .st (rInt.pr p.2.2.2), .st ((rLst (rT3 (rLst rInt) rInt rInt)).pr bounds1), .st (rInt.pr x2.1), .st ((rLst rInt).pr x2.2.1), .st (rInt.pr x2.2.2.1), .st (rInt.pr x2.2.2.2)]) (zt_not (zt_val (z_callP (q := ()) (at_are_prices T) (by decide) (by decide) (by exact rfl) (za_cons (z_var n_Ladder_init_7) (za_cons (z_var n_Ladder_init_8) (za_one (z_var n_Ladder_init_9)))))))
      (zb_one (zs_raise1 (x_Wrong T) T.xf_Wrong (by decide) rfl scI (z_var n_Ladder_init_6) sub_nil))
      (zb_nil (SubL.sub (.keep (.keep (.keep (.keep (.keep (.keep (.keep (.keep (.keep (.keep SubL.nil)))))))))))) sub_nil) fun _ =>
    (zb_nil (SubL.sub (.keep (.keep (.keep (.keep (.keep (.keep (.drop (.drop (.drop (.drop SubL.nil)))))))))))))) sub_nil) fun _ =>
  (zb_cons (zs_if (Γn := fun _ : Unit => [.ow (ownO (fun x => x = l) D.Ladder []), .st ((rLst rInt).pr p.1), .st ((rLst rInt).pr p.2.1), .st ((rLst rInt).pr p.2.2.1), .st (rInt.pr p.2.2.2), .st ((rLst (rT3 (rLst rInt) rInt rInt)).pr bounds1), .no, .no, .no, .no]) (zt_not (zt_val (z_callP (q := ()) (at_is_between T) (by decide) (by decide) (by exact rfl) (za_cons (z_var n_Ladder_init_4) (za_cons (z_sub z_int (z_gintE (by exact rfl) T.c_FARTHEST_AT)) (za_one (z_gintE (by exact rfl) T.c_FARTHEST_AT)))))))
    (zb_one (zs_raise1 (x_Wrong T) T.xf_Wrong (by decide) rfl scI z_int sub_nil))
    (zb_nil (SubL.sub (.keep (.keep (.keep (.keep (.keep (.keep (.keep (.keep (.keep (.keep SubL.nil)))))))))))) sub_nil) fun _ =>
  (zb_cons (zs_fldT (n := 3) (.cons (.cons (.cons (.nil)))) n_Ladder_init_0 rfl T.cl_Ladder (nas_cons T.na_Ladder_low (nas_cons T.na_Ladder_middle (nas_cons T.na_Ladder_high nas_nil))) (by exact of_decide_eq_true rfl) rfl (by exact fun _ => rfl) (by decide) (za_cons (z_tupL (blt_of (u := .type "tuple") T.b_tuple (by decide +kernel)) (z_var n_Ladder_init_1)) (za_cons (z_tupL (blt_of (u := .type "tuple") T.b_tuple (by decide +kernel)) (z_var n_Ladder_init_2)) (za_one (z_tupL (blt_of (u := .type "tuple") T.b_tuple (by decide +kernel)) (z_var n_Ladder_init_3))))) sub_nil) fun w3 =>
  (zb_cons (zs_fld n_Ladder_init_0 rfl T.cl_Ladder T.na_Ladder_begin (by exact of_decide_eq_true rfl) (z_var n_Ladder_init_4) sub_nil) fun begin4 =>
  (zb_cons (zs_fldT (n := 3) (.cons (.cons (.cons (.nil)))) n_Ladder_init_0 rfl T.cl_Ladder (nas_cons T.na_Ladder_low_sums (nas_cons T.na_Ladder_middle_sums (nas_cons T.na_Ladder_high_sums nas_nil))) (by exact of_decide_eq_true rfl) rfl (by exact fun _ => rfl) (by decide) (za_cons (z_callP (q := ()) (at_sums_of T) (by decide) (by decide) (by exact rfl) (za_one (z_var n_Ladder_init_1))) (za_cons (z_callP (q := ()) (at_sums_of T) (by decide) (by decide) (by exact rfl) (za_one (z_var n_Ladder_init_2))) (za_one (z_callP (q := ()) (at_sums_of T) (by decide) (by decide) (by exact rfl) (za_one (z_var n_Ladder_init_3)))))) sub_nil) fun w5 =>
  (zb_nil (a := (w3.1, w3.2.1, w3.2.2, begin4, w5.1, w5.2.1, w5.2.2)) (SubL.sub (.keep (.drop (.drop (.drop (.drop (.drop (.keep (.keep (.keep (.keep SubL.nil))))))))))))))))))
theorem mk_Ladder_init_0 {G : Gx} {D : Cl} (T : Txt G D) : MkAtK false G D.Ladder 5 3 ["self", "below", "row", "above", "at"] [] (spI G D.Ladder (fun (p : ((List Int) × (List Int) × (List Int) × Int)) => [(rLst rInt).pr p.1, (rLst rInt).pr p.2.1, (rLst rInt).pr p.2.2.1, rInt.pr p.2.2.2]) m_Ladder_init (fs_Ladder D)) (fun vs _ => vs ++ [.int 0]) := by
  obtain ⟨f, fd, h1, h2⟩ := T.d_Ladder_init
  obtain ⟨mv, hb⟩ := h2.kbinds0 (ps := ["self", "below", "row", "above", "at"]) 4 [] [("at", .int 0)] (fun us mv ws => us ++ mv) (by simp) (by simp) (fun r1 r2 _ => r1.append r2) (by
    intro D doc pm an cdv ct us mv ws l1 l2 l3
    match us, mv, ws, l1, l2, l3 with
    | [a0, a1, a2, a3], [w], [], _, _, _ => exact ⟨_, _, _, _, _, _, rfl, rfl, rfl⟩)
  exact ⟨f, fd, _, h1, hb, f_Ladder_init T h2⟩

def k_plain : Sc := ⟨["price"], defScope t_plain, 6, true, fun _ => true, false⟩
theorem sc_plain : FnScope ["price"] ["price"] (defScope t_plain) := ⟨rfl, rfl, rfl, by decide +kernel, rfl, by decide +kernel, by decide +kernel⟩
theorem n_plain_0 : Nm k_plain 0 "price" := nm_of (by decide +kernel)
noncomputable def b_plain (p : Int) : M Unit (Fl Unit Empty XLadder) :=
  (zseq (zifS (znot (zapp (fun x => lft (m_is_price x)) (ret p)))
    (zraise "Wrong" "at" V.int (ret (0 : Int)))
    (znx ())) fun _ =>
  (zrt (bnd (zpair (zlist (zcons (ret p) (ret []))) (zpair (zlist ((ret []) : M _ (List Int))) (zlist (zcons (ret p) (ret []))))) fun y => lft (m_Ladder_init (y.1, y.2.1, y.2.2, (0 : Int))))))
noncomputable def m_plain (p : Int) : M Unit XLadder := zbody (b_plain p)
theorem f_plain {G : Gx} {D : Cl} (T : Txt G D) {f : Addr} {fd : FuncData} (F : Fun G.K "plain" "plain" t_plain f fd) : FnG false G.P G.w G.K G.mg G.base 7 f fd ["price"] (spZ G (fun _ : Unit => noE) (fun (q : Unit) (p : Int) => [rInt.pr p]) m_plain (rLadder D)) :=
  fn_ok (g := false) (k := 6) (mb := b_plain) (n := fun _ _ => stk) (Γn := fun _ _ _ => []) F sc_plain (fun _ _ => rfl) (fun _ => rfl) (.inl fun _ _ => rfl) fun q p W =>
  show ZB G k_plain _ W _ [.st (rInt.pr p)] _ (b_plain p) _ from
  (zb_cons (zs_if (Γn := fun _ : Unit => [.st (rInt.pr p)]) (zt_not (zt_val (z_callP (q := ()) (at_is_price T) (by decide) (by decide) (by exact rfl) (za_one (z_var n_plain_0)))))
    (zb_one (zs_raise1 (x_Wrong T) T.xf_Wrong (by decide) rfl scI z_int sub_nil))
    (zb_nil (SubL.sub (.keep SubL.nil))) sub_nil) fun _ =>
  (zb_one (zs_ret (z_obj (fs_Ladder D) (zf_makeK0 (f := m_Ladder_init) (g := fun (y : ((List Int) × (List Int) × (List Int))) => (y.1, y.2.1, y.2.2, (0 : Int))) (mk_Ladder_init_0 T) T.g_Ladder (by decide) (by decide) rfl (by exact fun _ => rfl) (by exact gw3) (za_cons (z_list (zl_cons (z_var n_plain_0) zl_nil)) (za_cons (z_list zl_nil) (za_one (z_list (zl_cons (z_var n_plain_0) zl_nil))))))) sub_nil)))
theorem at_plain {G : Gx} {D : Cl} (T : Txt G D) : FnAt false G "plain" 7 ["price"] (spZ G (fun _ : Unit => noE) (fun (q : Unit) (p : Int) => [rInt.pr p]) m_plain (rLadder D)) :=
  let ⟨f, fd, h1, h2, h3, h4⟩ := T.d_plain; ⟨f, fd, h1, h2, h3, f_plain T h4⟩

def k_is_name : Sc := ⟨["thing", "sign"], defScope t_is_name, 0, true, fun _ => true, false⟩
theorem sc_is_name : FnScope ["thing", "sign"] ["thing"] (defScope t_is_name) := ⟨rfl, rfl, rfl, by decide +kernel, rfl, by decide +kernel, by decide +kernel⟩
theorem n_is_name_0 : Nm k_is_name 0 "thing" := nm_of (by decide +kernel)
noncomputable def b_is_name (p : Str) : M Unit (Fl Unit Empty Bool) :=
  (zseq (zifS (zor (znot (zis true (ret p))) (znot (zchain ile ile (ret (1 : Int)) (zapp flenS (ret p)) (ret c_MOST_SIGNS))))
    (zrt (ret false))
    (znx ())) fun _ =>
  (zrt (zapp fall (zlc (fun e1 => (ret true)) (fun e1 => (zop2 sin_ (ret e1) (ret c_LETTERS))) (zapp fsigns (ret p))))))
noncomputable def m_is_name (p : Str) : M Unit Bool := zbody (b_is_name p)
theorem f_is_name {G : Gx} {D : Cl} (T : Txt G D) {f : Addr} {fd : FuncData} (F : Fun G.K "is_name" "is_name" t_is_name f fd) : FnG false G.P G.w G.K G.mg G.base 1 f fd ["thing"] (spZ G (fun _ : Unit => noE) (fun (q : Unit) (p : Str) => [rStr.pr p]) m_is_name rBl) :=
  fn_ok (g := false) (k := 0) (mb := b_is_name) (n := fun _ _ => stk) (Γn := fun _ _ _ => []) F sc_is_name (fun _ _ => rfl) (fun _ => rfl) (.inl fun _ _ => rfl) fun q p W =>
  show ZB G k_is_name _ W _ [.st (rStr.pr p), .no] _ (b_is_name p) _ from
  (zb_cons (zs_if (Γn := fun _ : Unit => [.st (rStr.pr p), .no]) (zw_t (zw_or (zt_not (zt_val (z_isi (blt_of (u := .builtin "isinstance") T.b_isinstance (by decide +kernel)) isS (blt_of (u := .type "str") T.b_str (by decide +kernel)) rfl (z_var n_is_name_0)))) (zw_or1 (zt_not (zt_chI ci_le ci_le z_int (z_lenS (blt_of (u := .builtin "len") T.b_len (by decide +kernel)) (z_var n_is_name_0)) (z_gintE (by exact rfl) T.c_MOST_SIGNS))))))
    (zb_one (zs_ret z_bl sub_nil))
    (zb_nil (SubL.sub (.keep (.keep SubL.nil)))) sub_nil) fun _ =>
  (zb_one (zs_ret (z_all (blt_of (u := .builtin "all") T.b_all (by decide +kernel)) (z_lc (Lc.mk (own := [("sign", 1)]) (blk_of rfl (by decide +kernel)) (zi_str (z_var n_is_name_0)) (zg_name (ns_of (i := 1) (by decide +kernel)) (by decide)) (fun e1 => zts_nil) (fun e1 => (z_inS (z_var (nm_of (i := 1) (by decide +kernel))) (z_gstrE (by exact rfl) T.c_LETTERS))) (lc_no ⟨rfl, trivial⟩) (fun _ _ => rfl)))) sub_nil)))
theorem at_is_name {G : Gx} {D : Cl} (T : Txt G D) : FnAt false G "is_name" 1 ["thing"] (spZ G (fun _ : Unit => noE) (fun (q : Unit) (p : Str) => [rStr.pr p]) m_is_name rBl) :=
  let ⟨f, fd, h1, h2, h3, h4⟩ := T.d_is_name; ⟨f, fd, h1, h2, h3, f_is_name T h4⟩

def k_is_pair : Sc := ⟨["thing"], defScope t_is_pair, 1, true, fun _ => true, false⟩
theorem sc_is_pair : FnScope ["thing"] ["thing"] (defScope t_is_pair) := ⟨rfl, rfl, rfl, by decide +kernel, rfl, by decide +kernel, by decide +kernel⟩
theorem n_is_pair_0 : Nm k_is_pair 0 "thing" := nm_of (by decide +kernel)
noncomputable def b_is_pair (p : (Str × Str × XLadder)) : M Unit (Fl Unit Empty Bool) :=
  (zseq (zifS (zor (znot (zis true (ret p))) (zop2 fne (zget (fun _ => (3 : Int)) (ret p)) (ret (3 : Int))))
    (zrt (ret false))
    (znx ())) fun _ =>
  (zrt (zand (zapp (fun x => lft (m_is_name x)) (zget Prod.fst (ret p))) (zand (zapp (fun x => lft (m_is_name x)) (zget (fun x => x.2.1) (ret p))) (zis true (zget (fun x => x.2.2) (ret p)))))))
noncomputable def m_is_pair (p : (Str × Str × XLadder)) : M Unit Bool := zbody (b_is_pair p)
theorem f_is_pair {G : Gx} {D : Cl} (T : Txt G D) {f : Addr} {fd : FuncData} (F : Fun G.K "is_pair" "is_pair" t_is_pair f fd) : FnG false G.P G.w G.K G.mg G.base 2 f fd ["thing"] (spZ G (fun _ : Unit => noE) (fun (q : Unit) (p : (Str × Str × XLadder)) => [(rT3 rStr rStr (rLadder D)).pr p]) m_is_pair rBl) :=
  fn_ok (g := false) (k := 1) (mb := b_is_pair) (n := fun _ _ => stk) (Γn := fun _ _ _ => []) F sc_is_pair (fun _ _ => rfl) (fun _ => rfl) (.inl fun _ _ => rfl) fun q p W =>
  show ZB G k_is_pair _ W _ [.st ((rT3 rStr rStr (rLadder D)).pr p)] _ (b_is_pair p) _ from
  (zb_cons (zs_if (Γn := fun _ : Unit => [.st ((rT3 rStr rStr (rLadder D)).pr p)]) (zw_t (zw_or (zt_not (zt_val (z_isi (blt_of (u := .builtin "isinstance") T.b_isinstance (by decide +kernel)) is3 (blt_of (u := .type "tuple") T.b_tuple (by decide +kernel)) rfl (z_var n_is_pair_0)))) (zw_or1 (zt_ne scI (z_lenT3 (blt_of (u := .builtin "len") T.b_len (by decide +kernel)) (z_var n_is_pair_0)) z_int))))
    (zb_one (zs_ret z_bl sub_nil))
    (zb_nil (SubL.sub (.keep SubL.nil))) sub_nil) fun _ =>
  (zb_one (zs_ret (z_and (z_callP (q := ()) (at_is_name T) (by decide) (by decide) (by exact rfl) (za_one (z_at t3_0 (z_var n_is_pair_0)))) (z_and (z_callP (q := ()) (at_is_name T) (by decide) (by decide) (by exact rfl) (za_one (z_at t3_1 (z_var n_is_pair_0)))) (z_one (z_isiC (blt_of (u := .builtin "isinstance") T.b_isinstance (by decide +kernel)) (isO (C := D.Ladder) T.ic_Ladder) (by exact rfl) T.g_Ladder (by decide) T.is_Ladder_Ladder (z_at t3_2 (z_var n_is_pair_0)))))) sub_nil)))
theorem at_is_pair {G : Gx} {D : Cl} (T : Txt G D) : FnAt false G "is_pair" 2 ["thing"] (spZ G (fun _ : Unit => noE) (fun (q : Unit) (p : (Str × Str × XLadder)) => [(rT3 rStr rStr (rLadder D)).pr p]) m_is_pair rBl) :=
  let ⟨f, fd, h1, h2, h3, h4⟩ := T.d_is_pair; ⟨f, fd, h1, h2, h3, f_is_pair T h4⟩

def k_first_twice : Sc := ⟨["names", "place", "name"], defScope t_first_twice, 0, true, fun _ => true, false⟩
theorem sc_first_twice : FnScope ["names", "place", "name"] ["names"] (defScope t_first_twice) := ⟨rfl, rfl, rfl, by decide +kernel, rfl, by decide +kernel, by decide +kernel⟩
theorem n_first_twice_0 : Nm k_first_twice 0 "names" := nm_of (by decide +kernel)
theorem n_first_twice_1 : Nm k_first_twice 1 "place" := nm_of (by decide +kernel)
theorem s_first_twice_1 : Ns k_first_twice 1 "place" := ns_of (by decide +kernel)
theorem n_first_twice_2 : Nm k_first_twice 2 "name" := nm_of (by decide +kernel)
theorem s_first_twice_2 : Ns k_first_twice 2 "name" := ns_of (by decide +kernel)
noncomputable def b_first_twice (p : (List Str)) : M Unit (Fl Unit Empty (Option Str)) :=
  (zseq (zforI (zenum (ret p)) () fun _ x1 =>
    (zseq (zifS (zop2 fin_ (ret x1.2) (zsl (ret p) (ret none) (zsome (ret x1.1))))
      (zrt (zopt (ret x1.2)))
      (znx ())) fun _ =>
    (znx ()))) fun _ =>
  (zrt (zget (fun _ => none) (ret ()))))
noncomputable def m_first_twice (p : (List Str)) : M Unit (Option Str) := zbody (b_first_twice p)
theorem f_first_twice {G : Gx} {D : Cl} (T : Txt G D) {f : Addr} {fd : FuncData} (F : Fun G.K "first_twice" "first_twice" t_first_twice f fd) : FnG false G.P G.w G.K G.mg G.base 1 f fd ["names"] (spZ G (fun _ : Unit => noE) (fun (q : Unit) (p : (List Str)) => [(rLst rStr).pr p]) m_first_twice (rOpt rStr)) :=
  fn_ok (g := false) (k := 0) (mb := b_first_twice) (n := fun _ _ => stk) (Γn := fun _ _ _ => []) F sc_first_twice (fun _ _ => rfl) (fun _ => rfl) (.inl fun _ _ => rfl) fun q p W =>
  show ZB G k_first_twice _ W _ [.st ((rLst rStr).pr p), .no, .no] _ (b_first_twice p) _ from
  (zb_cons (zs_for (vs := [1, 2]) (Γh := fun _ : Unit => [.st ((rLst rStr).pr p), .no, .no]) (zi_enum (by exact rfl) T.b_enumerate (z_var n_first_twice_0)) (SubL.sub (.keep (.keep (.keep SubL.nil)))) (fun _ => (zg_tup to2 (zgs_cons (zg_name s_first_twice_1 (by decide)) fun _ => (zgs_one (zg_name s_first_twice_2 (by decide)))))) (fun _ x1 =>
    (zb_cons (zs_if (Γn := fun _ : Unit => [.st ((rLst rStr).pr p), .st (rInt.pr x1.1), .st (rStr.pr x1.2)]) (zt_inL inS (z_var n_first_twice_2) (z_slL (z_var n_first_twice_0) zp_no (zp_so (z_var n_first_twice_1))))
      (zb_one (zs_ret (z_some (z_var n_first_twice_2)) sub_nil))
      (zb_nil (SubL.sub (.keep (.keep (.keep SubL.nil))))) sub_nil) fun _ =>
    (zb_nil (SubL.sub (.keep (.drop (.drop SubL.nil))))))) sub_nil) fun _ =>
  (zb_one (zs_ret (z_none z_non) sub_nil)))
theorem at_first_twice {G : Gx} {D : Cl} (T : Txt G D) : FnAt false G "first_twice" 1 ["names"] (spZ G (fun _ : Unit => noE) (fun (q : Unit) (p : (List Str)) => [(rLst rStr).pr p]) m_first_twice (rOpt rStr)) :=
  let ⟨f, fd, h1, h2, h3, h4⟩ := T.d_first_twice; ⟨f, fd, h1, h2, h3, f_first_twice T h4⟩

def k_Ladder_moved_to : Sc := ⟨["self", "at", "found"], defScope t_Ladder_moved_to, 6, true, fun _ => true, false⟩
theorem sc_Ladder_moved_to : FnScope ["self", "at", "found"] ["self", "at"] (defScope t_Ladder_moved_to) := ⟨rfl, rfl, rfl, by decide +kernel, rfl, by decide +kernel, by decide +kernel⟩
theorem n_Ladder_moved_to_0 : Nm k_Ladder_moved_to 0 "self" := nm_of (by decide +kernel)
theorem n_Ladder_moved_to_1 : Nm k_Ladder_moved_to 1 "at" := nm_of (by decide +kernel)
theorem n_Ladder_moved_to_2 : Nm k_Ladder_moved_to 2 "found" := nm_of (by decide +kernel)
theorem s_Ladder_moved_to_2 : Ns k_Ladder_moved_to 2 "found" := ns_of (by decide +kernel)
noncomputable def b_Ladder_moved_to (p : (XLadder × Int)) : M Unit (Fl Unit Empty XLadder) :=
  (zseq (zset (bnd (zpair (zapp ret (zget XLadder.low_ (ret p.1))) (zpair (zapp ret (zget XLadder.middle_ (ret p.1))) (zapp ret (zget XLadder.high_ (ret p.1))))) fun y => lft (m_Ladder_init (y.1, y.2.1, y.2.2, (0 : Int))))) fun found1 =>
  (zseq (zset (ret p.2)) fun begin2 =>
  (zrt (ret { found1 with begin_ := begin2 }))))
noncomputable def m_Ladder_moved_to (p : (XLadder × Int)) : M Unit XLadder := zbody (b_Ladder_moved_to p)
theorem f_Ladder_moved_to {G : Gx} {D : Cl} (T : Txt G D) {f : Addr} {fd : FuncData} (F : Fun G.K "moved_to" "Ladder.moved_to" t_Ladder_moved_to f fd) : FnG false G.P G.w G.K G.mg G.base 7 f fd ["self", "at"] (spZ G (fun _ : Unit => noE) (fun (q : Unit) (p : (XLadder × Int)) => [(rLadder D).pr p.1, rInt.pr p.2]) m_Ladder_moved_to (rLadder D)) :=
  fn_ok (g := false) (k := 6) (mb := b_Ladder_moved_to) (n := fun _ _ => stk) (Γn := fun _ _ _ => []) F sc_Ladder_moved_to (fun _ _ => rfl) (fun _ => rfl) (.inl fun _ _ => rfl) fun q p W =>
  show ZB G k_Ladder_moved_to _ W _ [.st ((rLadder D).pr p.1), .st (rInt.pr p.2), .no] _ (b_Ladder_moved_to p) _ from
  (zb_cons (zs_setF s_Ladder_moved_to_2 (zf_makeK0 (f := m_Ladder_init) (g := fun (y : ((List Int) × (List Int) × (List Int))) => (y.1, y.2.1, y.2.2, (0 : Int))) (mk_Ladder_init_0 T) T.g_Ladder (by decide) (by decide) rfl (by exact fun _ => rfl) (by exact gw3) (za_cons (z_listV (blt_of (u := .type "list") T.b_list (by decide +kernel)) (z_attr (fld_at fun _ => rfl) T.cl_Ladder T.na_Ladder_low (z_var n_Ladder_moved_to_0))) (za_cons (z_listV (blt_of (u := .type "list") T.b_list (by decide +kernel)) (z_attr (fld_at fun _ => rfl) T.cl_Ladder T.na_Ladder_middle (z_var n_Ladder_moved_to_0))) (za_one (z_listV (blt_of (u := .type "list") T.b_list (by decide +kernel)) (z_attr (fld_at fun _ => rfl) T.cl_Ladder T.na_Ladder_high (z_var n_Ladder_moved_to_0))))))) sub_nil) fun found1 =>
  (zb_cons (zs_fld n_Ladder_moved_to_2 rfl T.cl_Ladder T.na_Ladder_begin (by exact of_decide_eq_true rfl) (z_var n_Ladder_moved_to_1) sub_nil) fun begin2 =>
  (zb_wk (sub_frz (i := 2) (q := (rLadder D).pr { found1 with begin_ := begin2 }) ((one_O (fs := fs_Ladder D) (x := { found1 with begin_ := begin2 }) (gs := ("begin", rInt.pr begin2) :: fs_Ladder D found1) fun k => lookup_updF (l := fs_Ladder D found1) (f := "begin") (p := rInt.pr begin2) rfl k))) <| zb_one (zs_ret (z_var n_Ladder_moved_to_2) sub_nil))))
theorem at_Ladder_moved_to {G : Gx} {D : Cl} (T : Txt G D) : MethAt false G D.Ladder "moved_to" 7 ["self", "at"] (spZ G (fun _ : Unit => noE) (fun (q : Unit) (p : (XLadder × Int)) => [(rLadder D).pr p.1, rInt.pr p.2]) m_Ladder_moved_to (rLadder D)) :=
  let ⟨f, fd, h1, h2, h3⟩ := T.d_Ladder_moved_to; ⟨f, fd, h1, h2, f_Ladder_moved_to T h3⟩

def k_Ladder_turned : Sc := ⟨["self", "found"], defScope t_Ladder_turned, 7, true, fun _ => true, false⟩
theorem sc_Ladder_turned : FnScope ["self", "found"] ["self"] (defScope t_Ladder_turned) := ⟨rfl, rfl, rfl, by decide +kernel, rfl, by decide +kernel, by decide +kernel⟩
theorem n_Ladder_turned_0 : Nm k_Ladder_turned 0 "self" := nm_of (by decide +kernel)
theorem n_Ladder_turned_1 : Nm k_Ladder_turned 1 "found" := nm_of (by decide +kernel)
theorem s_Ladder_turned_1 : Ns k_Ladder_turned 1 "found" := ns_of (by decide +kernel)
noncomputable def b_Ladder_turned (p : XLadder) : M Unit (Fl Unit Empty XLadder) :=
  (zseq (zset (bnd (zpair (zapp ret (zget XLadder.high_ (ret p))) (zpair (zapp frev (zget XLadder.middle_ (ret p))) (zapp ret (zget XLadder.low_ (ret p))))) fun y => lft (m_Ladder_init (y.1, y.2.1, y.2.2, (0 : Int))))) fun found1 =>
  (zrt (zmeth (fun x => lft (m_Ladder_moved_to x)) (ret found1) (zop2 isub (zop2 isub (ret (0 : Int)) (zget XLadder.begin_ (ret p))) (zapp flen (zget XLadder.middle_ (ret p)))))))
noncomputable def m_Ladder_turned (p : XLadder) : M Unit XLadder := zbody (b_Ladder_turned p)
theorem f_Ladder_turned {G : Gx} {D : Cl} (T : Txt G D) {f : Addr} {fd : FuncData} (F : Fun G.K "turned" "Ladder.turned" t_Ladder_turned f fd) : FnG false G.P G.w G.K G.mg G.base 8 f fd ["self"] (spZ G (fun _ : Unit => noE) (fun (q : Unit) (p : XLadder) => [(rLadder D).pr p]) m_Ladder_turned (rLadder D)) :=
  fn_ok (g := false) (k := 7) (mb := b_Ladder_turned) (n := fun _ _ => stk) (Γn := fun _ _ _ => []) F sc_Ladder_turned (fun _ _ => rfl) (fun _ => rfl) (.inl fun _ _ => rfl) fun q p W =>
  show ZB G k_Ladder_turned _ W _ [.st ((rLadder D).pr p), .no] _ (b_Ladder_turned p) _ from
  (zb_cons (zs_set s_Ladder_turned_1 (z_obj (fs_Ladder D) (zf_makeK0 (f := m_Ladder_init) (g := fun (y : ((List Int) × (List Int) × (List Int))) => (y.1, y.2.1, y.2.2, (0 : Int))) (mk_Ladder_init_0 T) T.g_Ladder (by decide) (by decide) rfl (by exact fun _ => rfl) (by exact gw3) (za_cons (z_listV (blt_of (u := .type "list") T.b_list (by decide +kernel)) (z_attr (fld_at fun _ => rfl) T.cl_Ladder T.na_Ladder_high (z_var n_Ladder_turned_0))) (za_cons (z_listRev (by exact rfl) T.b_list (by exact rfl) T.b_reversed (z_attr (fld_at fun _ => rfl) T.cl_Ladder T.na_Ladder_middle (z_var n_Ladder_turned_0))) (za_one (z_listV (blt_of (u := .type "list") T.b_list (by decide +kernel)) (z_attr (fld_at fun _ => rfl) T.cl_Ladder T.na_Ladder_low (z_var n_Ladder_turned_0)))))))) sub_nil) fun found1 =>
  (zb_one (zs_ret (z_methP (A := (fun y => [rInt.pr y])) (at_Ladder_moved_to T) T.cl_Ladder (ins_at fun _ => rfl) (by decide) (by decide) (z_var n_Ladder_turned_1) (za_one (z_sub (z_sub z_int (z_attr (fld_at fun _ => rfl) T.cl_Ladder T.na_Ladder_begin (z_var n_Ladder_turned_0))) (z_lenV (blt_of (u := .builtin "len") T.b_len (by decide +kernel)) (z_attr (fld_at fun _ => rfl) T.cl_Ladder T.na_Ladder_middle (z_var n_Ladder_turned_0)))))) sub_nil)))
theorem at_Ladder_turned {G : Gx} {D : Cl} (T : Txt G D) : MethAt false G D.Ladder "turned" 8 ["self"] (spZ G (fun _ : Unit => noE) (fun (q : Unit) (p : XLadder) => [(rLadder D).pr p]) m_Ladder_turned (rLadder D)) :=
  let ⟨f, fd, h1, h2, h3⟩ := T.d_Ladder_turned; ⟨f, fd, h1, h2, f_Ladder_turned T h3⟩

def k_Web_put : Sc := ⟨["self", "p", "q", "ladder", "name"], defScope t_Web_put, 8, true, fun _ => true, false⟩
theorem sc_Web_put : FnScope ["self", "p", "q", "ladder", "name"] ["self", "p", "q", "ladder"] (defScope t_Web_put) := ⟨rfl, rfl, rfl, by decide +kernel, rfl, by decide +kernel, by decide +kernel⟩
theorem n_Web_put_0 : Nm k_Web_put 0 "self" := nm_of (by decide +kernel)
theorem n_Web_put_1 : Nm k_Web_put 1 "p" := nm_of (by decide +kernel)
theorem n_Web_put_2 : Nm k_Web_put 2 "q" := nm_of (by decide +kernel)
theorem n_Web_put_3 : Nm k_Web_put 3 "ladder" := nm_of (by decide +kernel)
theorem n_Web_put_4 : Nm k_Web_put 4 "name" := nm_of (by decide +kernel)
theorem s_Web_put_4 : Ns k_Web_put 4 "name" := ns_of (by decide +kernel)
noncomputable def b_Web_put (x : XWeb × (Str × Str × XLadder)) (y : (List ((Str × Str) × XLadder))) : M Unit (Fl (List ((Str × Str) × XLadder)) Empty Empty) :=
  (zseq (zforI (zlist (zcons (ret x.2.1) (zcons (ret x.2.2.1) (ret [])))) () fun _ x1 =>
    (zseq (zifS (zop2 fnin (ret x1) (zget XWeb.walkers_ (ret x.1)))
      (zraise "NoWalker" "name" V.str (ret x1))
      (znx ())) fun _ =>
    (znx ()))) fun _ =>
  (zseq (zifS (zop2 feq (ret x.2.1) (ret x.2.2.1))
    (zraise "Wrong" "at" V.int (ret (1 : Int)))
    (znx ())) fun _ =>
  (zseq (zifS (zop2 (fun k _ => din false k y) (zpair (ret x.2.1) (ret x.2.2.1)) (zget (fun _ => ()) (ret x.1)))
    stk
    (znx ())) fun _ =>
  (zseq (gputD y (ret x.2.2.2) (zget (fun _ => ()) (ret x.1)) (zpair (ret x.2.1) (ret x.2.2.1))) fun d2 =>
  (zseq (gputD d2 (zapp (fun x => lft (m_Ladder_turned x)) (ret x.2.2.2)) (zget (fun _ => ()) (ret x.1)) (zpair (ret x.2.2.1) (ret x.2.1))) fun d3 =>
  (znx d3))))))
noncomputable def m_Web_put (p : (XWeb × (Str × Str × XLadder)) × (List ((Str × Str) × XLadder))) : M Unit (Unit × (List ((Str × Str) × XLadder))) := zgh (b_Web_put p.1 p.2)
theorem f_Web_put {G : Gx} {D : Cl} (T : Txt G D) {f : Addr} {fd : FuncData} (F : Fun G.K "put" "Web.put" t_Web_put f fd) : FnG false G.P G.w G.K G.mg G.base 9 f fd ["self", "p", "q", "ladder"] (spH G (fun (q : Addr) (p : XWeb × (Str × Str × XLadder)) => (rgWeb G D q).pr p.1 :: [rStr.pr p.2.1, rStr.pr p.2.2.1, (rLadder D).pr p.2.2.2]) (fun (q : Addr) (z : (List ((Str × Str) × XLadder))) => [ownDa (kyT G kytSS) (rLadder D) q z]) m_Web_put rNon) :=
  fn_okH (g := false) (k := 8) (mb := fun p => b_Web_put p.1 p.2) F sc_Web_put (fun _ _ => rfl) fun q x y W =>
  show ZB G k_Web_put _ W _ [.st ((rgWeb G D q).pr x.1), .st (rStr.pr x.2.1), .st (rStr.pr x.2.2.1), .st ((rLadder D).pr x.2.2.2), .no, .gh (ownDa (kyT G kytSS) (rLadder D) q y)] _ (b_Web_put x y) _ from
  (zb_cons (zs_for (vs := [4]) (Γh := fun _ : Unit => [.st ((rgWeb G D q).pr x.1), .st (rStr.pr x.2.1), .st (rStr.pr x.2.2.1), .st ((rLadder D).pr x.2.2.2), .no, .gh (ownDa (kyT G kytSS) (rLadder D) q y)]) (zi_tup (z_vtup (zl_cons (z_var n_Web_put_1) (zl_cons (z_var n_Web_put_2) zl_nil)))) (SubL.sub (.keep (.keep (.keep (.keep (.keep (.keep SubL.nil))))))) (fun _ => (zg_name s_Web_put_4 (by decide))) (fun _ x1 =>
    (zb_cons (zs_if (Γn := fun _ : Unit => [.st ((rgWeb G D q).pr x.1), .st (rStr.pr x.2.1), .st (rStr.pr x.2.2.1), .st ((rLadder D).pr x.2.2.2), .st (rStr.pr x1), .gh (ownDa (kyT G kytSS) (rLadder D) q y)]) (zt_ninL inS (z_var n_Web_put_4) (z_attr (fld_at fun _ => rfl) T.cl_Web T.na_Web_walkers (z_var n_Web_put_0)))
      (zb_one (zs_raise1 (x_NoWalker T) T.xf_NoWalker (by decide) rfl scS (z_var n_Web_put_4) sub_nil))
      (zb_nil (SubL.sub (.keep (.keep (.keep (.keep (.keep (.keep SubL.nil)))))))) sub_nil) fun _ =>
    (zb_nil (SubL.sub (.keep (.keep (.keep (.keep (.drop (.keep SubL.nil)))))))))) sub_nil) fun _ =>
  (zb_cons (zs_if (Γn := fun _ : Unit => [.st ((rgWeb G D q).pr x.1), .st (rStr.pr x.2.1), .st (rStr.pr x.2.2.1), .st ((rLadder D).pr x.2.2.2), .no, .gh (ownDa (kyT G kytSS) (rLadder D) q y)]) (zt_eq scS (z_var n_Web_put_1) (z_var n_Web_put_2))
    (zb_one (zs_raise1 (x_Wrong T) T.xf_Wrong (by decide) rfl scI z_int sub_nil))
    (zb_nil (SubL.sub (.keep (.keep (.keep (.keep (.keep (.keep SubL.nil)))))))) sub_nil) fun _ =>
  (zb_cons (zs_if (Γn := fun _ : Unit => [.st ((rgWeb G D q).pr x.1), .st (rStr.pr x.2.1), .st (rStr.pr x.2.2.1), .st ((rLadder D).pr x.2.2.2), .no, .gh (ownDa (kyT G kytSS) (rLadder D) q y)]) (zt_ginD (g := 5) rfl (z_tup2 (za_cons (z_var n_Web_put_1) (za_one (z_var n_Web_put_2)))) (z_attr (fld_at fun _ => rfl) T.cl_Web T.na_Web_ladders (z_var n_Web_put_0)))
    zb_dead
    (zb_nil (SubL.sub (.keep (.keep (.keep (.keep (.keep (.keep SubL.nil)))))))) sub_nil) fun _ =>
  (zb_cons (zs_gputD (g := 5) rfl (z_var n_Web_put_3) (z_attr (fld_at fun _ => rfl) T.cl_Web T.na_Web_ladders (z_var n_Web_put_0)) (z_tup2 (za_cons (z_var n_Web_put_1) (za_one (z_var n_Web_put_2)))) sub_nil) fun d2 =>
  (zb_cons (zs_gputD (g := 5) rfl (z_methP0 (at_Ladder_turned T) T.cl_Ladder (ins_at fun _ => rfl) (by decide) (by decide) (z_var n_Web_put_3)) (z_attr (fld_at fun _ => rfl) T.cl_Web T.na_Web_ladders (z_var n_Web_put_0)) (z_tup2 (za_cons (z_var n_Web_put_2) (za_one (z_var n_Web_put_1)))) sub_nil) fun d3 =>
  (zb_nil (SubL.sub (.drop (.drop (.drop (.drop (.keep (.keep SubL.nil)))))))))))))
theorem at_Web_put {G : Gx} {D : Cl} (T : Txt G D) : MethAt false G D.Web "put" 9 ["self", "p", "q", "ladder"] (spH G (fun (q : Addr) (p : XWeb × (Str × Str × XLadder)) => (rgWeb G D q).pr p.1 :: [rStr.pr p.2.1, rStr.pr p.2.2.1, (rLadder D).pr p.2.2.2]) (fun (q : Addr) (z : (List ((Str × Str) × XLadder))) => [ownDa (kyT G kytSS) (rLadder D) q z]) m_Web_put rNon) :=
  let ⟨f, fd, h1, h2, h3⟩ := T.d_Web_put; ⟨f, fd, h1, h2, f_Web_put T h3⟩

def k_Web_init : Sc := ⟨["self", "names", "pairs", "twice", "p", "q", "ladder", "name", "pair"], defScope t_Web_init, 9, true, fun _ => true, false⟩
theorem sc_Web_init : FnScope ["self", "names", "pairs", "twice", "p", "q", "ladder", "name", "pair"] ["self", "names", "pairs"] (defScope t_Web_init) := ⟨rfl, rfl, rfl, by decide +kernel, rfl, by decide +kernel, by decide +kernel⟩
theorem n_Web_init_0 : Nm k_Web_init 0 "self" := nm_of (by decide +kernel)
theorem n_Web_init_1 : Nm k_Web_init 1 "names" := nm_of (by decide +kernel)
theorem n_Web_init_2 : Nm k_Web_init 2 "pairs" := nm_of (by decide +kernel)
theorem n_Web_init_3 : Nm k_Web_init 3 "twice" := nm_of (by decide +kernel)
theorem s_Web_init_3 : Ns k_Web_init 3 "twice" := ns_of (by decide +kernel)
theorem n_Web_init_4 : Nm k_Web_init 4 "p" := nm_of (by decide +kernel)
theorem s_Web_init_4 : Ns k_Web_init 4 "p" := ns_of (by decide +kernel)
theorem n_Web_init_5 : Nm k_Web_init 5 "q" := nm_of (by decide +kernel)
theorem s_Web_init_5 : Ns k_Web_init 5 "q" := ns_of (by decide +kernel)
theorem n_Web_init_6 : Nm k_Web_init 6 "ladder" := nm_of (by decide +kernel)
theorem s_Web_init_6 : Ns k_Web_init 6 "ladder" := ns_of (by decide +kernel)
noncomputable def b_Web_init (p : ((List Str) × (List (Str × Str × XLadder)))) : M Unit (Fl ((List Str) × (List ((Str × Str) × XLadder)) × XLadder) Empty Empty) :=
  (zseq (zifS (zor (znot (zis true (ret p.1))) (znot (zchain ile ile (ret c_LEAST_WALKERS) (zapp flen (ret p.1)) (ret c_MOST_WALKERS))))
    (zraise "Wrong" "at" V.int (ret (0 : Int)))
    (znx ())) fun _ =>
  (zseq (zifS (znot (zapp fall (zlc (fun e1 => (ret true)) (fun e1 => (zapp (fun x => lft (m_is_name x)) (ret e1))) (ret p.1))))
    (zraise "Wrong" "at" V.int (ret (0 : Int)))
    (znx ())) fun _ =>
  (zseq (zifS (zor (znot (zis true (ret p.2))) (znot (zapp fall (zlc (fun e2 => (ret true)) (fun e2 => (zapp (fun x => lft (m_is_pair x)) (ret e2))) (ret p.2)))))
    (zraise "Wrong" "at" V.int (ret (1 : Int)))
    (znx ())) fun _ =>
  (zseq (zset (zapp (fun x => lft (m_first_twice x)) (ret p.1))) fun twice3 =>
  (zseq (zifS (zget Option.isSome (ret twice3))
    (zraise "Twice" "name" V.str (zapp munq (ret twice3)))
    (znx ())) fun _ =>
  (zseq (zset (zapp (fsort datS) (ret p.1))) fun walkers4 =>
  (zseq (zset (ret ([] : List ((Str × Str) × XLadder)))) fun ladders5 =>
  (zseq (zset (zapp (fun x => lft (m_plain x)) (ret (0 : Int)))) fun free7 =>
  (zseq (zforI (ret p.2) ladders5 fun c8 x9 =>
    (zseq (bnd (ret (⟨walkers4, [], free7⟩ : XWeb)) fun x => bnd (zpair (ret x9.1) (zpair (ret x9.2.1) (ret x9.2.2))) fun z => bnd (lft (m_Web_put ((x, z), c8))) fun r => ret (.nx r.2)) fun gh10 =>
    (znx gh10))) fun c8 =>
  (znx (walkers4, c8, free7)))))))))))
def y_Web_init (_ : ((List Str) × (List (Str × Str × XLadder)))) (y : ((List Str) × (List ((Str × Str) × XLadder)) × XLadder)) : XWeb := ⟨y.1, y.2.1, y.2.2⟩
noncomputable def m_Web_init (p : ((List Str) × (List (Str × Str × XLadder)))) : M Unit XWeb := zini (y_Web_init p) (b_Web_init p)
theorem f_Web_init {G : Gx} {D : Cl} (T : Txt G D) {f : Addr} {fd : FuncData} (F : Fun G.K "__init__" "Web.__init__" t_Web_init f fd) : FnG false G.P G.w G.K G.mg G.base 10 f fd ["self", "names", "pairs"] (spIS G D.Web (fun (p : ((List Str) × (List (Str × Str × XLadder)))) => [(rLst rStr).pr p.1, (rLst (rT3 rStr rStr (rLadder D))).pr p.2]) m_Web_init (fs_Web G D)) :=
  init_okS (g := false) (k := 9) (C := D.Web) (Γn := fun l a y => [.st ((rObjA l D.Web (fs_Web G D)).pr (y_Web_init a y))]) F sc_Web_init (fun _ => rfl) (fun _ _ _ => rfl) fun l p W =>
  show ZB G k_Web_init _ W _ [.ow (ownO (fun x => x = l) D.Web []), .st ((rLst rStr).pr p.1), .st ((rLst (rT3 rStr rStr (rLadder D))).pr p.2), .no, .no, .no, .no, .no, .no] _ (b_Web_init p) _ from
  zb_wk (Γ' := [.ow (ownO (fun x => x = l) D.Web []), .st ((rLst rStr).pr p.1), .st ((rLst (rT3 rStr rStr (rLadder D))).pr p.2), .no, .no, .no, .no, .no, .no, .no]) (sub_more 1) <|
  (zb_cons (zs_if (Γn := fun _ : Unit => [.ow (ownO (fun x => x = l) D.Web []), .st ((rLst rStr).pr p.1), .st ((rLst (rT3 rStr rStr (rLadder D))).pr p.2), .no, .no, .no, .no, .no, .no, .no]) (zw_t (zw_or (zt_not (zt_val (z_isi (blt_of (u := .builtin "isinstance") T.b_isinstance (by decide +kernel)) isL (blt_of (u := .type "list") T.b_list (by decide +kernel)) rfl (z_var n_Web_init_1)))) (zw_or1 (zt_not (zt_chI ci_le ci_le (z_gintE (by exact rfl) T.c_LEAST_WALKERS) (z_lenL (blt_of (u := .builtin "len") T.b_len (by decide +kernel)) (z_var n_Web_init_1)) (z_gintE (by exact rfl) T.c_MOST_WALKERS))))))
    (zb_one (zs_raise1 (x_Wrong T) T.xf_Wrong (by decide) rfl scI z_int sub_nil))
    (zb_nil (SubL.sub (.keep (.keep (.keep (.keep (.keep (.keep (.keep (.keep (.keep (.keep SubL.nil)))))))))))) sub_nil) fun _ =>
  (zb_cons (zs_if (Γn := fun _ : Unit => [.ow (ownO (fun x => x = l) D.Web []), .st ((rLst rStr).pr p.1), .st ((rLst (rT3 rStr rStr (rLadder D))).pr p.2), .no, .no, .no, .no, .no, .no, .no]) (zt_not (zt_val (z_all (blt_of (u := .builtin "all") T.b_all (by decide +kernel)) (z_lc (Lc.mk (own := [("name", 7)]) (blk_of rfl (by decide +kernel)) (zi_list (z_var n_Web_init_1)) (zg_name (ns_of (i := 7) (by decide +kernel)) (by decide)) (fun e1 => zts_nil) (fun e1 => (z_callP (q := ()) (at_is_name T) (by decide) (by decide) (by exact rfl) (za_one (z_var (nm_of (i := 7) (by decide +kernel)))))) (lc_no ⟨rfl, trivial⟩) (fun _ _ => rfl))))))
    (zb_one (zs_raise1 (x_Wrong T) T.xf_Wrong (by decide) rfl scI z_int sub_nil))
    (zb_nil (SubL.sub (.keep (.keep (.keep (.keep (.keep (.keep (.keep (.keep (.keep (.keep SubL.nil)))))))))))) sub_nil) fun _ =>
  (zb_cons (zs_if (Γn := fun _ : Unit => [.ow (ownO (fun x => x = l) D.Web []), .st ((rLst rStr).pr p.1), .st ((rLst (rT3 rStr rStr (rLadder D))).pr p.2), .no, .no, .no, .no, .no, .no, .no]) (zw_t (zw_or (zt_not (zt_val (z_isi (blt_of (u := .builtin "isinstance") T.b_isinstance (by decide +kernel)) isL (blt_of (u := .type "list") T.b_list (by decide +kernel)) rfl (z_var n_Web_init_2)))) (zw_or1 (zt_not (zt_val (z_all (blt_of (u := .builtin "all") T.b_all (by decide +kernel)) (z_lc (Lc.mk (own := [("pair", 8)]) (blk_of rfl (by decide +kernel)) (zi_list (z_var n_Web_init_2)) (zg_name (ns_of (i := 8) (by decide +kernel)) (by decide)) (fun e2 => zts_nil) (fun e2 => (z_callP (q := ()) (at_is_pair T) (by decide) (by decide) (by exact rfl) (za_one (z_var (nm_of (i := 8) (by decide +kernel)))))) (lc_no ⟨rfl, trivial⟩) (fun _ _ => rfl)))))))))
    (zb_one (zs_raise1 (x_Wrong T) T.xf_Wrong (by decide) rfl scI z_int sub_nil))
    (zb_nil (SubL.sub (.keep (.keep (.keep (.keep (.keep (.keep (.keep (.keep (.keep (.keep SubL.nil)))))))))))) sub_nil) fun _ =>
  (zb_cons (zs_set s_Web_init_3 (z_callP (q := ()) (at_first_twice T) (by decide) (by decide) (by exact rfl) (za_one (z_var n_Web_init_1))) sub_nil) fun twice3 =>
  (zb_cons (zs_if (Γn := fun _ : Unit => [.ow (ownO (fun x => x = l) D.Web []), .st ((rLst rStr).pr p.1), .st ((rLst (rT3 rStr rStr (rLadder D))).pr p.2), .st ((rOpt rStr).pr twice3), .no, .no, .no, .no, .no, .no]) (zt_notN nn_str (z_var n_Web_init_3))
    (zb_one (zs_raise1 (x_Twice T) T.xf_Twice (by decide) rfl scS (z_unq (z_var n_Web_init_3)) sub_nil))
    (zb_nil (SubL.sub (.keep (.keep (.keep (.keep (.keep (.keep (.keep (.keep (.keep (.keep SubL.nil)))))))))))) sub_nil) fun _ =>
  (zb_cons (zs_fld n_Web_init_0 rfl T.cl_Web T.na_Web_walkers (by exact of_decide_eq_true rfl) (z_sortD srtS (blt_of (u := .builtin "sorted") T.b_sorted (by decide +kernel)) (z_var n_Web_init_1)) sub_nil) fun walkers4 =>
  (zb_cons (zs_fldF (P := ownD (kyT G kytSS) (rLadder D)) (Pa := fun a v => ownDa (kyT G kytSS) (rLadder D) a v) n_Web_init_0 rfl T.cl_Web T.na_Web_ladders (by exact of_decide_eq_true rfl) ghD (zf_dnew (K := (kyT G kytSS)) (R2 := (rLadder D))) sub_nil) fun ladders5 =>
  (zb_openO (i := 0) (g := 9) rfl rfl fun l6 =>
  (zb_cons (zs_fld n_Web_init_0 rfl T.cl_Web T.na_Web_free (by exact of_decide_eq_true rfl) (z_callP (q := ()) (at_plain T) (by decide) (by decide) (by exact rfl) (za_one z_int)) sub_nil) fun free7 =>
  (zb_wk (sub_frz (i := 0) (q := (rObjA l D.Web (fg_Web G D l6)).pr (⟨walkers4, [], free7⟩ : XWeb)) (one_OA fun _ => rfl)) <| zb_cons (zs_for (vs := [4, 5, 6]) (Γh := fun c8 : (List ((Str × Str) × XLadder)) => [.st ((rObjA l D.Web (fg_Web G D l6)).pr (⟨walkers4, [], free7⟩ : XWeb)), .st ((rLst rStr).pr p.1), .st ((rLst (rT3 rStr rStr (rLadder D))).pr p.2), .st ((rOpt rStr).pr twice3), .no, .no, .no, .no, .no, .gh (ownDa (kyT G kytSS) (rLadder D) l6 c8)]) (zi_list (z_var n_Web_init_2)) (SubL.sub (.keep (.keep (.keep (.keep (.keep (.keep (.keep (.keep (.keep (.keep SubL.nil))))))))))) (fun c8 => (zg_tup to3 (zgs_cons (zg_name s_Web_init_4 (by decide)) fun _ => (zgs_cons (zg_name s_Web_init_5 (by decide)) fun _ => (zgs_one (zg_name s_Web_init_6 (by decide))))))) (fun c8 x9 =>
    (zb_cons (zs_methH1 (Ro := fun q => rgWeb G D q) (A := (fun (y : (Str × Str × XLadder)) => [rStr.pr y.1, rStr.pr y.2.1, (rLadder D).pr y.2.2])) (P := (fun q z => ownDa (kyT G kytSS) (rLadder D) q z)) (q := l6) (gi := 9) (at_Web_put T) T.cl_Web (ins_at fun _ => rfl) (by decide) (by decide) rfl (z_A (z_var n_Web_init_0)) (za_cons (z_var n_Web_init_4) (za_cons (z_var n_Web_init_5) (za_one (z_var n_Web_init_6)))) sub_nil rfl) fun gh10 =>
    (zb_nil (SubL.sub (.keep (.keep (.keep (.keep (.drop (.drop (.drop (.keep (.keep (.keep SubL.nil)))))))))))))) sub_nil) fun c8 =>
  (zb_frzG (g := 9) (i := 0) (p' := (rObjA l D.Web (fs_Web G D)).pr (⟨walkers4, c8, free7⟩ : XWeb)) rfl rfl (frz_obj "ladders" rfl rfl (by exact fun k hk => by have z : (k == ("ladders" : Str)) = false := beq_eq_false_iff_ne.mpr hk; simp only [fs_Web, fg_Web, List.lookup_cons, z])) <| zb_nil (a := (walkers4, c8, free7)) (sub_take 1))))))))))))
theorem mk_Web_init {G : Gx} {D : Cl} (T : Txt G D) : MkAt false G D.Web 10 ["self", "names", "pairs"] (spIS G D.Web (fun (p : ((List Str) × (List (Str × Str × XLadder)))) => [(rLst rStr).pr p.1, (rLst (rT3 rStr rStr (rLadder D))).pr p.2]) m_Web_init (fs_Web G D)) [] :=
  let ⟨f, fd, h1, h2, h3⟩ := T.d_Web_init; ⟨f, fd, [], h1, h2, .nil, f_Web_init T h3⟩

def k_w_rows : Sc := ⟨["_law_bag_here", "_law_names_here", "_law_found", "_law_name", "_law_place", "_law_coins"], defScope t_w_rows, 1, true, fun _ => true, false⟩
theorem sc_w_rows : FnScope ["_law_bag_here", "_law_names_here", "_law_found", "_law_name", "_law_place", "_law_coins"] ["_law_bag_here", "_law_names_here"] (defScope t_w_rows) := ⟨rfl, rfl, rfl, by decide +kernel, rfl, by decide +kernel, by decide +kernel⟩
theorem n_w_rows_0 : Nm k_w_rows 0 "_law_bag_here" := nm_of (by decide +kernel)
theorem n_w_rows_1 : Nm k_w_rows 1 "_law_names_here" := nm_of (by decide +kernel)
theorem n_w_rows_2 : Nm k_w_rows 2 "_law_found" := nm_of (by decide +kernel)
theorem s_w_rows_2 : Ns k_w_rows 2 "_law_found" := ns_of (by decide +kernel)
theorem n_w_rows_3 : Nm k_w_rows 3 "_law_name" := nm_of (by decide +kernel)
theorem s_w_rows_3 : Ns k_w_rows 3 "_law_name" := ns_of (by decide +kernel)
theorem n_w_rows_4 : Nm k_w_rows 4 "_law_place" := nm_of (by decide +kernel)
theorem s_w_rows_4 : Ns k_w_rows 4 "_law_place" := ns_of (by decide +kernel)
theorem n_w_rows_5 : Nm k_w_rows 5 "_law_coins" := nm_of (by decide +kernel)
theorem s_w_rows_5 : Ns k_w_rows 5 "_law_coins" := ns_of (by decide +kernel)
noncomputable def b_w_rows (p : (Unit × (List Str))) : M Bag (Fl Unit Empty (List (Str × Int × Int))) :=
  (zseq (zset (zlist ((ret []) : M _ (List (Str × Int × Int))))) fun found1 =>
  (zseq (zforI (ret p.2) found1 fun c2 x3 =>
    (zseq (zset (zop2 ixat (zlist (zcons (ret (0 : Int)) (zcons (zapp m_w_take (zpair (ret p.1) (ret (5 : Int)))) (zcons (zop2 ipow (ret (10 : Int)) (ret (12 : Int))) (zcons (zop1 ineg (zop2 ipow (ret (10 : Int)) (ret (12 : Int)))) (zcons (zapp m_w_take (zpair (ret p.1) (zop2 ipow (ret (10 : Int)) (ret (12 : Int))))) (ret []))))))) (zapp m_w_take (zpair (ret p.1) (ret (5 : Int)))))) fun place4 =>
    (zseq (zset (zop2 ixat (zlist (zcons (ret (0 : Int)) (zcons (zapp m_w_take (zpair (ret p.1) (ret (9 : Int)))) (zcons (zop2 ipow (ret (10 : Int)) (ret (18 : Int))) (zcons (zapp m_w_take (zpair (ret p.1) (zop2 ipow (ret (10 : Int)) (ret (18 : Int))))) (ret [])))))) (zapp m_w_take (zpair (ret p.1) (ret (4 : Int)))))) fun coins5 =>
    (zseq (finsert c2 (zpair (zapp m_w_take (zpair (ret p.1) (zop2 iadd (zapp flen (ret c2)) (ret (1 : Int))))) (zpair (ret x3) (zpair (ret place4) (ret coins5))))) fun a7 =>
    (znx a7))))) fun c2 =>
  (zrt (ret c2))))
noncomputable def m_w_rows (p : (Unit × (List Str))) : M Bag (List (Str × Int × Int)) := zbody (b_w_rows p)
theorem f_w_rows {G : Gx} {D : Cl} (T : Txt G D) {f : Addr} {fd : FuncData} (F : Fun G.K "_law_rows" "_law_rows" t_w_rows f fd) : FnG false G.P G.w G.K G.mg G.base 2 f fd ["_law_bag_here", "_law_names_here"] (spZ G (fun q : Addr × Addr => bagE q.1 q.2) (fun (q : Addr × Addr) (p : (Unit × (List Str))) => [(rRef q.1).pr p.1, (rLst rStr).pr p.2]) m_w_rows (rLst (rT3 rStr rInt rInt))) :=
  fn_ok (g := false) (k := 1) (mb := b_w_rows) (n := fun _ _ => stk) (Γn := fun _ _ _ => []) F sc_w_rows (fun _ _ => rfl) (fun _ => rfl) (.inl fun _ _ => rfl) fun q p W =>
  show ZB G k_w_rows _ W _ [.st ((rRef q.1).pr p.1), .st ((rLst rStr).pr p.2), .no, .no, .no, .no] _ (b_w_rows p) _ from
  (zb_cons (zs_setF s_w_rows_2 (zf_list zl_nil) sub_nil) fun found1 =>
  (zb_cons (zs_for (vs := [3]) (Γh := fun c2 : (List (Str × Int × Int)) => [.st ((rRef q.1).pr p.1), .st ((rLst rStr).pr p.2), .ow (ownL (rT3 rStr rInt rInt) c2), .no, .no, .no]) (zi_list (z_var n_w_rows_1)) (SubL.sub (.keep (.keep (.keep (.keep (.keep (.keep SubL.nil))))))) (fun c2 => (zg_name s_w_rows_3 (by decide))) (fun c2 x3 =>
    (zb_cons (zs_set s_w_rows_4 (z_ixL (z_list (zl_cons z_int (zl_cons (z_call (q := q) (at_w_take T) rfl (by decide) (by decide) (by exact rfl) (za_cons (z_var n_w_rows_0) (za_one z_int))) (zl_cons (z_pow z_int z_int) (zl_cons (z_neg (z_pow z_int z_int)) (zl_cons (z_call (q := q) (at_w_take T) rfl (by decide) (by decide) (by exact rfl) (za_cons (z_var n_w_rows_0) (za_one (z_pow z_int z_int)))) zl_nil)))))) (z_call (q := q) (at_w_take T) rfl (by decide) (by decide) (by exact rfl) (za_cons (z_var n_w_rows_0) (za_one z_int)))) sub_nil) fun place4 =>
    (zb_cons (zs_set s_w_rows_5 (z_ixL (z_list (zl_cons z_int (zl_cons (z_call (q := q) (at_w_take T) rfl (by decide) (by decide) (by exact rfl) (za_cons (z_var n_w_rows_0) (za_one z_int))) (zl_cons (z_pow z_int z_int) (zl_cons (z_call (q := q) (at_w_take T) rfl (by decide) (by decide) (by exact rfl) (za_cons (z_var n_w_rows_0) (za_one (z_pow z_int z_int)))) zl_nil))))) (z_call (q := q) (at_w_take T) rfl (by decide) (by decide) (by exact rfl) (za_cons (z_var n_w_rows_0) (za_one z_int)))) sub_nil) fun coins5 =>
    (zb_cons (zs_ins n_w_rows_2 rfl (za_cons (z_lendX (.st (.st (.ow view_L (.st (.st (.st .nil)))))) fun L6 => (z_callU (q := q) (at_w_take T) rfl (by decide) (by decide) (by exact rfl) (za_cons (z_var n_w_rows_0) (za_one (z_add (z_lenF hasL (blt_of (u := .builtin "len") T.b_len (by decide +kernel)) (z_var n_w_rows_2)) z_int))))) (za_one (z_tup3 (za_cons (z_var n_w_rows_3) (za_cons (z_var n_w_rows_4) (za_one (z_var n_w_rows_5))))))) sub_nil) fun a7 =>
    (zb_nil (SubL.sub (.keep (.keep (.keep (.drop (.drop (.drop SubL.nil)))))))))))) sub_nil) fun c2 =>
  (zb_wk (sub_frz (i := 2) one_L) <| zb_one (zs_ret (z_var n_w_rows_2) sub_nil))))
theorem at_w_rows {G : Gx} {D : Cl} (T : Txt G D) : FnAt false G "_law_rows" 2 ["_law_bag_here", "_law_names_here"] (spZ G (fun q : Addr × Addr => bagE q.1 q.2) (fun (q : Addr × Addr) (p : (Unit × (List Str))) => [(rRef q.1).pr p.1, (rLst rStr).pr p.2]) m_w_rows (rLst (rT3 rStr rInt rInt))) :=
  let ⟨f, fd, h1, h2, h3, h4⟩ := T.d_w_rows; ⟨f, fd, h1, h2, h3, f_w_rows T h4⟩

def k_w_is_name : Sc := ⟨["_law_thing", "_law_sign"], defScope t_w_is_name, 0, true, fun _ => true, false⟩
theorem sc_w_is_name : FnScope ["_law_thing", "_law_sign"] ["_law_thing"] (defScope t_w_is_name) := ⟨rfl, rfl, rfl, by decide +kernel, rfl, by decide +kernel, by decide +kernel⟩
theorem n_w_is_name_0 : Nm k_w_is_name 0 "_law_thing" := nm_of (by decide +kernel)
noncomputable def b_w_is_name (p : PyData) : M Unit (Fl Unit Empty Bool) :=
  (zseq (zifS (zor (znot (zget (isD "str") (zget qQ.d (ret p)))) (znot (zchain ile ile (ret (1 : Int)) (zapp flenS (zgetP asS (ret p))) (ret (8 : Int)))))
    (zrt (ret false))
    (znx ())) fun _ =>
  (zrt (zop2 (deq (datL datS)) (zlc (fun e1 => (zop2 nsin_ (ret e1) (ret ("abcdefghijklmnopqrstuvwxyz" : Str)))) (fun e1 => (ret e1)) (zapp fsigns (zgetP asS (ret p)))) (zlist ((ret []) : M _ (List Str))))))
noncomputable def m_w_is_name (p : PyData) : M Unit Bool := zbody (b_w_is_name p)
theorem f_w_is_name {G : Gx} {D : Cl} (T : Txt G D) {f : Addr} {fd : FuncData} (F : Fun G.K "_law_is_name" "_law_is_name" t_w_is_name f fd) : FnG false G.P G.w G.K G.mg G.base 1 f fd ["_law_thing"] (spZ G (fun _ : Unit => noE) (fun (q : Unit) (p : PyData) => [rQ.pr p]) m_w_is_name rBl) :=
  fn_ok (g := false) (k := 0) (mb := b_w_is_name) (n := fun _ _ => stk) (Γn := fun _ _ _ => []) F sc_w_is_name (fun _ _ => rfl) (fun _ => rfl) (.inl fun _ _ => rfl) fun q p W =>
  show ZB G k_w_is_name _ W _ [.st (rQ.pr p), .no] _ (b_w_is_name p) _ from
  (zb_cons (zs_if (Γn := fun _ : Unit => [.st (rQ.pr p), .no]) (zw_t (zw_or (zt_not (zt_val (z_isiX (blt_of (u := .builtin "isinstance") T.b_isinstance (by decide +kernel)) (blt_of (u := .type "str") T.b_str (by decide +kernel)) (fun d => by cases d <;> rfl) (z_x qQ (z_var n_w_is_name_0))))) (zw_or1 (zt_not (zt_chI ci_le ci_le z_int (z_lenS (blt_of (u := .builtin "len") T.b_len (by decide +kernel)) (z_as as_S (z_var n_w_is_name_0))) z_int)))))
    (zb_one (zs_ret z_bl sub_nil))
    (zb_nil (SubL.sub (.keep (.keep SubL.nil)))) sub_nil) fun _ =>
  (zb_one (zs_ret (z_deq (datL datS) (z_lc (Lc.mk (own := [("_law_sign", 1)]) (blk_of rfl (by decide +kernel)) (zi_str (z_as as_S (z_var n_w_is_name_0))) (zg_name (ns_of (i := 1) (by decide +kernel)) (by decide)) (fun e1 => (zts_one (zt_ninS (z_var (nm_of (i := 1) (by decide +kernel))) z_str))) (fun e1 => (z_var (nm_of (i := 1) (by decide +kernel)))) (lc_no ⟨rfl, trivial⟩) (fun _ _ => rfl))) (z_list zl_nil)) sub_nil)))
theorem at_w_is_name {G : Gx} {D : Cl} (T : Txt G D) : FnAt false G "_law_is_name" 1 ["_law_thing"] (spZ G (fun _ : Unit => noE) (fun (q : Unit) (p : PyData) => [rQ.pr p]) m_w_is_name rBl) :=
  let ⟨f, fd, h1, h2, h3, h4⟩ := T.d_w_is_name; ⟨f, fd, h1, h2, h3, f_w_is_name T h4⟩

def k_w_within : Sc := ⟨["_law_thing", "_law_low", "_law_high"], defScope t_w_within, 0, true, fun _ => true, false⟩
theorem sc_w_within : FnScope ["_law_thing", "_law_low", "_law_high"] ["_law_thing", "_law_low", "_law_high"] (defScope t_w_within) := ⟨rfl, rfl, rfl, by decide +kernel, rfl, by decide +kernel, by decide +kernel⟩
theorem n_w_within_0 : Nm k_w_within 0 "_law_thing" := nm_of (by decide +kernel)
theorem n_w_within_1 : Nm k_w_within 1 "_law_low" := nm_of (by decide +kernel)
theorem n_w_within_2 : Nm k_w_within 2 "_law_high" := nm_of (by decide +kernel)
noncomputable def b_w_within (p : (PyData × Int × Int)) : M Unit (Fl Unit Empty Bool) :=
  (zrt (zand (zget (isD "int") (zget qQ.d (ret p.1))) (zand (znot (zget (isD "bool") (zget qQ.d (ret p.1)))) (zchain ile ile (ret p.2.1) (zgetP asI (ret p.1)) (ret p.2.2)))))
noncomputable def m_w_within (p : (PyData × Int × Int)) : M Unit Bool := zbody (b_w_within p)
theorem f_w_within {G : Gx} {D : Cl} (T : Txt G D) {f : Addr} {fd : FuncData} (F : Fun G.K "_law_within" "_law_within" t_w_within f fd) : FnG false G.P G.w G.K G.mg G.base 1 f fd ["_law_thing", "_law_low", "_law_high"] (spZ G (fun _ : Unit => noE) (fun (q : Unit) (p : (PyData × Int × Int)) => [rQ.pr p.1, rInt.pr p.2.1, rInt.pr p.2.2]) m_w_within rBl) :=
  fn_ok (g := false) (k := 0) (mb := b_w_within) (n := fun _ _ => stk) (Γn := fun _ _ _ => []) F sc_w_within (fun _ _ => rfl) (fun _ => rfl) (.inl fun _ _ => rfl) fun q p W =>
  show ZB G k_w_within _ W _ [.st (rQ.pr p.1), .st (rInt.pr p.2.1), .st (rInt.pr p.2.2)] _ (b_w_within p) _ from
  (zb_one (zs_ret (z_and (z_isiX (blt_of (u := .builtin "isinstance") T.b_isinstance (by decide +kernel)) (blt_of (u := .type "int") T.b_int (by decide +kernel)) (fun d => by cases d <;> rfl) (z_x qQ (z_var n_w_within_0))) (z_and (z_not (z_isiX (blt_of (u := .builtin "isinstance") T.b_isinstance (by decide +kernel)) (blt_of (u := .type "bool") T.b_bool (by decide +kernel)) (fun d => by cases d <;> rfl) (z_x qQ (z_var n_w_within_0)))) (z_one (z_chI ci_le ci_le (z_var n_w_within_1) (z_as as_I (z_var n_w_within_0)) (z_var n_w_within_2))))) sub_nil))
theorem at_w_within {G : Gx} {D : Cl} (T : Txt G D) : FnAt false G "_law_within" 1 ["_law_thing", "_law_low", "_law_high"] (spZ G (fun _ : Unit => noE) (fun (q : Unit) (p : (PyData × Int × Int)) => [rQ.pr p.1, rInt.pr p.2.1, rInt.pr p.2.2]) m_w_within rBl) :=
  let ⟨f, fd, h1, h2, h3, h4⟩ := T.d_w_within; ⟨f, fd, h1, h2, h3, f_w_within T h4⟩

def k_w_is_row : Sc := ⟨["_law_thing"], defScope t_w_is_row, 1, true, fun _ => true, false⟩
theorem sc_w_is_row : FnScope ["_law_thing"] ["_law_thing"] (defScope t_w_is_row) := ⟨rfl, rfl, rfl, by decide +kernel, rfl, by decide +kernel, by decide +kernel⟩
theorem n_w_is_row_0 : Nm k_w_is_row 0 "_law_thing" := nm_of (by decide +kernel)
noncomputable def b_w_is_row (p : PyData) : M Unit (Fl Unit Empty Bool) :=
  (zseq (zifS (zor (znot (zget (isD "tuple") (zget qQ.d (ret p)))) (zor (zop2 fne (zapp flen (zgetP asT (ret p))) (ret (3 : Int))) (znot (zapp (fun x => lft (m_w_is_name x)) (zop2 ixat (zgetP asT (ret p)) (ret (0 : Int)))))))
    (zrt (ret false))
    (znx ())) fun _ =>
  (zrt (zand (zapp (fun x => lft (m_w_within x)) (zpair (zop2 ixat (zgetP asT (ret p)) (ret (1 : Int))) (zpair (zop1 ineg (zop2 ipow (ret (10 : Int)) (ret (12 : Int)))) (zop2 ipow (ret (10 : Int)) (ret (12 : Int)))))) (zapp (fun x => lft (m_w_within x)) (zpair (zop2 ixat (zgetP asT (ret p)) (ret (2 : Int))) (zpair (ret (0 : Int)) (zop2 ipow (ret (10 : Int)) (ret (18 : Int)))))))))
noncomputable def m_w_is_row (p : PyData) : M Unit Bool := zbody (b_w_is_row p)
theorem f_w_is_row {G : Gx} {D : Cl} (T : Txt G D) {f : Addr} {fd : FuncData} (F : Fun G.K "_law_is_row" "_law_is_row" t_w_is_row f fd) : FnG false G.P G.w G.K G.mg G.base 2 f fd ["_law_thing"] (spZ G (fun _ : Unit => noE) (fun (q : Unit) (p : PyData) => [rQ.pr p]) m_w_is_row rBl) :=
  fn_ok (g := false) (k := 1) (mb := b_w_is_row) (n := fun _ _ => stk) (Γn := fun _ _ _ => []) F sc_w_is_row (fun _ _ => rfl) (fun _ => rfl) (.inl fun _ _ => rfl) fun q p W =>
  show ZB G k_w_is_row _ W _ [.st (rQ.pr p)] _ (b_w_is_row p) _ from
  (zb_cons (zs_if (Γn := fun _ : Unit => [.st (rQ.pr p)]) (zw_t (zw_or (zt_not (zt_val (z_isiX (blt_of (u := .builtin "isinstance") T.b_isinstance (by decide +kernel)) (blt_of (u := .type "tuple") T.b_tuple (by decide +kernel)) (fun d => by cases d <;> rfl) (z_x qQ (z_var n_w_is_row_0))))) (zw_or (zt_ne scI (z_lenV (blt_of (u := .builtin "len") T.b_len (by decide +kernel)) (z_as as_T (z_var n_w_is_row_0))) z_int) (zw_or1 (zt_not (zt_val (z_callP (q := ()) (at_w_is_name T) (by decide) (by decide) (by exact rfl) (za_one (z_ixV (z_as as_T (z_var n_w_is_row_0)) z_int)))))))))
    (zb_one (zs_ret z_bl sub_nil))
    (zb_nil (SubL.sub (.keep SubL.nil))) sub_nil) fun _ =>
  (zb_one (zs_ret (z_and (z_callP (q := ()) (at_w_within T) (by decide) (by decide) (by exact rfl) (za_cons (z_ixV (z_as as_T (z_var n_w_is_row_0)) z_int) (za_cons (z_neg (z_pow z_int z_int)) (za_one (z_pow z_int z_int))))) (z_one (z_callP (q := ()) (at_w_within T) (by decide) (by decide) (by exact rfl) (za_cons (z_ixV (z_as as_T (z_var n_w_is_row_0)) z_int) (za_cons z_int (za_one (z_pow z_int z_int))))))) sub_nil)))
theorem at_w_is_row {G : Gx} {D : Cl} (T : Txt G D) : FnAt false G "_law_is_row" 2 ["_law_thing"] (spZ G (fun _ : Unit => noE) (fun (q : Unit) (p : PyData) => [rQ.pr p]) m_w_is_row rBl) :=
  let ⟨f, fd, h1, h2, h3, h4⟩ := T.d_w_is_row; ⟨f, fd, h1, h2, h3, f_w_is_row T h4⟩

def k_w_signed : Sc := ⟨["_law_bag_here", "_law_name", "_law_spot", "_law_sign"], defScope t_w_signed, 1, true, fun _ => true, false⟩
theorem sc_w_signed : FnScope ["_law_bag_here", "_law_name", "_law_spot", "_law_sign"] ["_law_bag_here", "_law_name"] (defScope t_w_signed) := ⟨rfl, rfl, rfl, by decide +kernel, rfl, by decide +kernel, by decide +kernel⟩
theorem n_w_signed_0 : Nm k_w_signed 0 "_law_bag_here" := nm_of (by decide +kernel)
theorem n_w_signed_1 : Nm k_w_signed 1 "_law_name" := nm_of (by decide +kernel)
theorem n_w_signed_2 : Nm k_w_signed 2 "_law_spot" := nm_of (by decide +kernel)
theorem s_w_signed_2 : Ns k_w_signed 2 "_law_spot" := ns_of (by decide +kernel)
theorem n_w_signed_3 : Nm k_w_signed 3 "_law_sign" := nm_of (by decide +kernel)
theorem s_w_signed_3 : Ns k_w_signed 3 "_law_sign" := ns_of (by decide +kernel)
noncomputable def b_w_signed (p : (Unit × Str)) : M Bag (Fl Unit Empty Str) :=
  (zseq (zset (zapp m_w_take (zpair (ret p.1) (zop2 iadd (zapp flenS (ret p.2)) (ret (1 : Int)))))) fun spot1 =>
  (zseq (zset (zop2 sixat (ret ("A1 -_\nZ{0~." : Str)) (zapp m_w_take (zpair (ret p.1) (ret (11 : Int)))))) fun sign2 =>
  (zrt (zop2 scat (zop2 scat (zslS (ret p.2) (ret none) (zsome (ret spot1))) (ret sign2)) (zslS (ret p.2) (zsome (zop2 iadd (ret spot1) (zapp m_w_take (zpair (ret p.1) (ret (2 : Int)))))) (ret none))))))
noncomputable def m_w_signed (p : (Unit × Str)) : M Bag Str := zbody (b_w_signed p)
theorem f_w_signed {G : Gx} {D : Cl} (T : Txt G D) {f : Addr} {fd : FuncData} (F : Fun G.K "_law_signed" "_law_signed" t_w_signed f fd) : FnG false G.P G.w G.K G.mg G.base 2 f fd ["_law_bag_here", "_law_name"] (spZ G (fun q : Addr × Addr => bagE q.1 q.2) (fun (q : Addr × Addr) (p : (Unit × Str)) => [(rRef q.1).pr p.1, rStr.pr p.2]) m_w_signed rStr) :=
  fn_ok (g := false) (k := 1) (mb := b_w_signed) (n := fun _ _ => stk) (Γn := fun _ _ _ => []) F sc_w_signed (fun _ _ => rfl) (fun _ => rfl) (.inl fun _ _ => rfl) fun q p W =>
  show ZB G k_w_signed _ W _ [.st ((rRef q.1).pr p.1), .st (rStr.pr p.2), .no, .no] _ (b_w_signed p) _ from
  (zb_cons (zs_set s_w_signed_2 (z_call (q := q) (at_w_take T) rfl (by decide) (by decide) (by exact rfl) (za_cons (z_var n_w_signed_0) (za_one (z_add (z_lenS (blt_of (u := .builtin "len") T.b_len (by decide +kernel)) (z_var n_w_signed_1)) z_int)))) sub_nil) fun spot1 =>
  (zb_cons (zs_set s_w_signed_3 (z_ixS z_str (z_call (q := q) (at_w_take T) rfl (by decide) (by decide) (by exact rfl) (za_cons (z_var n_w_signed_0) (za_one z_int)))) sub_nil) fun sign2 =>
  (zb_one (zs_ret (z_catS (z_catS (z_slS (z_var n_w_signed_1) zp_no (zp_so (z_var n_w_signed_2))) (z_var n_w_signed_3)) (z_slS (z_var n_w_signed_1) (zp_so (z_add (z_var n_w_signed_2) (z_call (q := q) (at_w_take T) rfl (by decide) (by decide) (by exact rfl) (za_cons (z_var n_w_signed_0) (za_one z_int))))) zp_no)) sub_nil))))
theorem at_w_signed {G : Gx} {D : Cl} (T : Txt G D) : FnAt false G "_law_signed" 2 ["_law_bag_here", "_law_name"] (spZ G (fun q : Addr × Addr => bagE q.1 q.2) (fun (q : Addr × Addr) (p : (Unit × Str)) => [(rRef q.1).pr p.1, rStr.pr p.2]) m_w_signed rStr) :=
  let ⟨f, fd, h1, h2, h3, h4⟩ := T.d_w_signed; ⟨f, fd, h1, h2, h3, f_w_signed T h4⟩

def k_w_bent : Sc := ⟨["_law_bag_here", "_law_rows_here", "_law_spot", "_law_way", "_law_some", "_law_name", "_law_place", "_law_coins"], defScope t_w_bent, 2, true, fun _ => true, false⟩
theorem sc_w_bent : FnScope ["_law_bag_here", "_law_rows_here", "_law_spot", "_law_way", "_law_some", "_law_name", "_law_place", "_law_coins"] ["_law_bag_here", "_law_rows_here"] (defScope t_w_bent) := ⟨rfl, rfl, rfl, by decide +kernel, rfl, by decide +kernel, by decide +kernel⟩
theorem n_w_bent_0 : Nm k_w_bent 0 "_law_bag_here" := nm_of (by decide +kernel)
theorem n_w_bent_1 : Nm k_w_bent 1 "_law_rows_here" := nm_of (by decide +kernel)
theorem n_w_bent_2 : Nm k_w_bent 2 "_law_spot" := nm_of (by decide +kernel)
theorem s_w_bent_2 : Ns k_w_bent 2 "_law_spot" := ns_of (by decide +kernel)
theorem n_w_bent_3 : Nm k_w_bent 3 "_law_way" := nm_of (by decide +kernel)
theorem s_w_bent_3 : Ns k_w_bent 3 "_law_way" := ns_of (by decide +kernel)
theorem n_w_bent_4 : Nm k_w_bent 4 "_law_some" := nm_of (by decide +kernel)
theorem s_w_bent_4 : Ns k_w_bent 4 "_law_some" := ns_of (by decide +kernel)
theorem n_w_bent_5 : Nm k_w_bent 5 "_law_name" := nm_of (by decide +kernel)
theorem s_w_bent_5 : Ns k_w_bent 5 "_law_name" := ns_of (by decide +kernel)
theorem n_w_bent_6 : Nm k_w_bent 6 "_law_place" := nm_of (by decide +kernel)
theorem s_w_bent_6 : Ns k_w_bent 6 "_law_place" := ns_of (by decide +kernel)
theorem n_w_bent_7 : Nm k_w_bent 7 "_law_coins" := nm_of (by decide +kernel)
theorem s_w_bent_7 : Ns k_w_bent 7 "_law_coins" := ns_of (by decide +kernel)
noncomputable def b_w_bent (p : (Unit × (List (Str × Int × Int)))) : M Bag (Fl Unit Empty PyData) :=
  (zseq (zset (zapp m_w_take (zpair (ret p.1) (zapp flen (ret p.2))))) fun spot1 =>
  (zseq (zset (zop2 ixat (ret p.2) (ret spot1))) fun w2 =>
  (zseq (zset (zapp m_w_take (zpair (ret p.1) (ret (6 : Int))))) fun way3 =>
  (zseq (zifS (zop2 feq (ret way3) (ret (0 : Int)))
    (zrt (zop2 ixat (zlist (zcons (zget (qN : DaQ rNon).d (ret ())) (zcons (zget ((qV (Zk.q3 qS qI qI)) : DaQ (rVT (rT3 rStr rInt rInt))).d (zapp ret (ret p.2))) (zcons (zgetP dq0 (ret ([] : List (Str × Int)))) (zcons (zget ((qL qI) : DaQ (rLst rInt)).d (zlist ((ret []) : M _ (List Int)))) (zcons (zget (qI : DaQ rInt).d (ret (5 : Int))) (zcons (zget ((qL (qL (Zk.q3 qS qI qI))) : DaQ (rLst (rLst (rT3 rStr rInt rInt)))).d (zlist (zcons (ret p.2) (ret [])))) (ret [])))))))) (zapp m_w_take (zpair (ret p.1) (ret (6 : Int))))))
    (znx ())) fun _ =>
  (zseq (zifS (zop2 feq (ret way3) (ret (1 : Int)))
    (zrt (zget ((qL (Zk.q3 qS qI qI)) : DaQ (rLst (rT3 rStr rInt rInt))).d (zop2 lcat (zsl (ret p.2) (ret none) (zsome (ret spot1))) (zsl (ret p.2) (zsome (zop2 iadd (ret spot1) (ret (1 : Int)))) (ret none)))))
    (znx ())) fun _ =>
  (zseq (zset (zlist (zcons (zget ((Zk.q2 qS qI) : DaQ (rT2 rStr rInt)).d (zpair (ret w2.1) (ret w2.2.1))) (zcons (zget ((qL qQ) : DaQ (rLst rQ)).d (zlist (zcons (zget (qS : DaQ rStr).d (ret w2.1)) (zcons (zget (qI : DaQ rInt).d (ret w2.2.1)) (zcons (zget (qI : DaQ rInt).d (ret w2.2.2)) (ret [])))))) (zcons (zget ((Zk.q4 qS qI qI qI) : DaQ (rT4 rStr rInt rInt rInt)).d (zpair (ret w2.1) (zpair (ret w2.2.1) (zpair (ret w2.2.2) (ret (0 : Int)))))) (zcons (zget ((Zk.q3 qI qI qI) : DaQ (rT3 rInt rInt rInt)).d (zpair (ret (5 : Int)) (zpair (ret w2.2.1) (ret w2.2.2)))) (zcons (zget ((Zk.q3 qS qI qI) : DaQ (rT3 rStr rInt rInt)).d (zpair (ret ("A" : Str)) (zpair (ret w2.2.1) (ret w2.2.2)))) (ret [])))))))) fun some4 =>
  (zseq (zset (zop2 lcat (ret some4) (zlist (zcons (zget ((Zk.q3 qS qI qI) : DaQ (rT3 rStr rInt rInt)).d (zpair (ret w2.1) (zpair (zop2 iadd (zop2 ipow (ret (10 : Int)) (ret (12 : Int))) (ret (1 : Int))) (ret w2.2.2)))) (zcons (zget ((Zk.q3 qS qI qI) : DaQ (rT3 rStr rInt rInt)).d (zpair (ret w2.1) (zpair (zop2 isub (zop1 ineg (zop2 ipow (ret (10 : Int)) (ret (12 : Int)))) (ret (1 : Int))) (ret w2.2.2)))) (zcons (zget ((Zk.q3 qS qI qI) : DaQ (rT3 rStr rInt rInt)).d (zpair (ret w2.1) (zpair (ret w2.2.1) (zop1 ineg (ret (1 : Int)))))) (zcons (zget ((Zk.q3 qS qN qI) : DaQ (rT3 rStr rNon rInt)).d (zpair (ret w2.1) (zpair (ret ()) (ret (1 : Int))))) (ret [])))))))) fun some5 =>
  (zseq (zset (zop2 lcat (ret some5) (zlist (zcons (zget ((Zk.q3 qS qI qI) : DaQ (rT3 rStr rInt rInt)).d (zpair (ret w2.1) (zpair (ret w2.2.1) (zop2 iadd (zop2 ipow (ret (10 : Int)) (ret (18 : Int))) (ret (1 : Int)))))) (zcons (zget ((Zk.q3 qS qB qI) : DaQ (rT3 rStr rBl rInt)).d (zpair (ret w2.1) (zpair (ret true) (ret w2.2.2)))) (zcons (zget ((Zk.q3 qS qI qB) : DaQ (rT3 rStr rInt rBl)).d (zpair (ret w2.1) (zpair (ret w2.2.1) (ret false)))) (zcons (zget ((Zk.q3 qS qI qI) : DaQ (rT3 rStr rInt rInt)).d (zpair (ret ("stranger" : Str)) (zpair (ret w2.2.1) (ret w2.2.2)))) (ret [])))))))) fun some6 =>
  (zseq (zset (zop2 lcat (ret some6) (zlist (zcons (zget ((Zk.q3 qS qI qI) : DaQ (rT3 rStr rInt rInt)).d (zpair (ret w2.1) (zpair (zop2 iadd (ret w2.2.1) (ret (1 : Int))) (ret w2.2.2)))) (zcons (zget ((Zk.q3 qS qI qI) : DaQ (rT3 rStr rInt rInt)).d (zpair (ret w2.1) (zpair (ret (0 : Int)) (ret (0 : Int))))) (zcons (zget (qN : DaQ rNon).d (ret ())) (zcons (zget ((Zk.q3 qS qI qI) : DaQ (rT3 rStr rInt rInt)).d (zpair (ret ("strange" : Str)) (zpair (ret w2.2.1) (ret w2.2.2)))) (ret [])))))))) fun some7 =>
  (zseq (zset (zop2 lcat (ret some7) (zlist (zcons (zget ((Zk.q3 qS qI qN) : DaQ (rT3 rStr rInt rNon)).d (zpair (ret w2.1) (zpair (ret w2.2.1) (ret ())))) (zcons (zget ((Zk.q3 qS qI qS) : DaQ (rT3 rStr rInt rStr)).d (zpair (ret w2.1) (zpair (ret w2.2.1) (zapp fstr (ret w2.2.2))))) (zcons (zget ((Zk.q3 (qL qS) qI qI) : DaQ (rT3 (rLst rStr) rInt rInt)).d (zpair (zlist (zcons (ret w2.1) (ret []))) (zpair (ret w2.2.1) (ret w2.2.2)))) (ret []))))))) fun some8 =>
  (zseq (zset (zop2 lcat (ret some8) (zlist (zcons (zget ((Zk.q3 qS qS qI) : DaQ (rT3 rStr rStr rInt)).d (zpair (ret w2.1) (zpair (zapp fstr (ret w2.2.1)) (ret w2.2.2)))) (zcons (zget ((Zk.q3 qS qI qI) : DaQ (rT3 rStr rInt rInt)).d (zpair (zapp m_w_signed (zpair (ret p.1) (ret w2.1))) (zpair (ret w2.2.1) (ret w2.2.2)))) (ret [])))))) fun some9 =>
  (zrt (zget ((qL qQ) : DaQ (rLst rQ)).d (zop2 lcat (zop2 lcat (zget (fun xs => xs.map ((Zk.q3 qS qI qI) : DaQ (rT3 rStr rInt rInt)).d) (zsl (ret p.2) (ret none) (zsome (ret spot1)))) (zlist (zcons (zop2 ixat (ret some9) (zapp m_w_take (zpair (ret p.1) (ret (22 : Int))))) (ret [])))) (zget (fun xs => xs.map ((Zk.q3 qS qI qI) : DaQ (rT3 rStr rInt rInt)).d) (zsl (ret p.2) (zsome (zop2 iadd (ret spot1) (zapp fint (zop2 ilt (ret way3) (ret (4 : Int)))))) (ret none)))))))))))))))))
noncomputable def m_w_bent (p : (Unit × (List (Str × Int × Int)))) : M Bag PyData := zbody (b_w_bent p)
theorem f_w_bent {G : Gx} {D : Cl} (T : Txt G D) {f : Addr} {fd : FuncData} (F : Fun G.K "_law_bent" "_law_bent" t_w_bent f fd) : FnG false G.P G.w G.K G.mg G.base 3 f fd ["_law_bag_here", "_law_rows_here"] (spZ G (fun q : Addr × Addr => bagE q.1 q.2) (fun (q : Addr × Addr) (p : (Unit × (List (Str × Int × Int)))) => [(rRef q.1).pr p.1, (rLst (rT3 rStr rInt rInt)).pr p.2]) m_w_bent rQ) :=
  fn_ok (g := false) (k := 2) (mb := b_w_bent) (n := fun _ _ => stk) (Γn := fun _ _ _ => []) F sc_w_bent (fun _ _ => rfl) (fun _ => rfl) (.inl fun _ _ => rfl) fun q p W =>
  show ZB G k_w_bent _ W _ [.st ((rRef q.1).pr p.1), .st ((rLst (rT3 rStr rInt rInt)).pr p.2), .no, .no, .no, .no, .no, .no] _ (b_w_bent p) _ from
  (zb_cons (zs_set s_w_bent_2 (z_call (q := q) (at_w_take T) rfl (by decide) (by decide) (by exact rfl) (za_cons (z_var n_w_bent_0) (za_one (z_lenL (blt_of (u := .builtin "len") T.b_len (by decide +kernel)) (z_var n_w_bent_1))))) sub_nil) fun spot1 =>
  (zb_cons (zs_asgS (vs := [5, 6, 7]) (z_ixL (z_var n_w_bent_1) (z_var n_w_bent_2)) (zg_tup to3 (zgs_cons (zg_name s_w_bent_5 (by decide)) fun _ => (zgs_cons (zg_name s_w_bent_6 (by decide)) fun _ => (zgs_one (zg_name s_w_bent_7 (by decide)))))) sub_nil) fun w2 =>
  (zb_eq (Γ' := [.st ((rRef q.1).pr p.1), .st ((rLst (rT3 rStr rInt rInt)).pr p.2), .st (rInt.pr spot1), .no, .no, .st (rStr.pr w2.1), .st (rInt.pr w2.2.1), .st (rInt.pr w2.2.2)]) rfl (zb_cons (zs_set s_w_bent_3 (z_call (q := q) (at_w_take T) rfl (by decide) (by decide) (by exact rfl) (za_cons (z_var n_w_bent_0) (za_one z_int))) sub_nil) fun way3 =>
  (zb_cons (zs_if (Γn := fun _ : Unit => [.st ((rRef q.1).pr p.1), .st ((rLst (rT3 rStr rInt rInt)).pr p.2), .st (rInt.pr spot1), .st (rInt.pr way3), .no, .st (rStr.pr w2.1), .st (rInt.pr w2.2.1), .st (rInt.pr w2.2.2)]) (zt_eq scI (z_var n_w_bent_3) z_int)
    (zb_one (zs_ret (z_ixL (z_list (zl_cons (z_q qN z_non) (zl_cons (z_q (qV (Zk.q3 qS qI qI)) (z_tupL (blt_of (u := .type "tuple") T.b_tuple (by decide +kernel)) (z_var n_w_bent_1))) (zl_cons (z_q0 (z_dict (zf_dnew (K := (kyF G kyfS)) (R2 := rInt)))) (zl_cons (z_q (qL qI) (z_list zl_nil)) (zl_cons (z_q qI z_int) (zl_cons (z_q (qL (qL (Zk.q3 qS qI qI))) (z_list (zl_cons (z_var n_w_bent_1) zl_nil))) zl_nil))))))) (z_call (q := q) (at_w_take T) rfl (by decide) (by decide) (by exact rfl) (za_cons (z_var n_w_bent_0) (za_one z_int)))) sub_nil))
    (zb_nil (SubL.sub (.keep (.keep (.keep (.keep (.keep (.keep (.keep (.keep SubL.nil)))))))))) sub_nil) fun _ =>
  (zb_cons (zs_if (Γn := fun _ : Unit => [.st ((rRef q.1).pr p.1), .st ((rLst (rT3 rStr rInt rInt)).pr p.2), .st (rInt.pr spot1), .st (rInt.pr way3), .no, .st (rStr.pr w2.1), .st (rInt.pr w2.2.1), .st (rInt.pr w2.2.2)]) (zt_eq scI (z_var n_w_bent_3) z_int)
    (zb_one (zs_ret (z_q (qL (Zk.q3 qS qI qI)) (z_catL (z_slL (z_var n_w_bent_1) zp_no (zp_so (z_var n_w_bent_2))) (z_slL (z_var n_w_bent_1) (zp_so (z_add (z_var n_w_bent_2) z_int)) zp_no))) sub_nil))
    (zb_nil (SubL.sub (.keep (.keep (.keep (.keep (.keep (.keep (.keep (.keep SubL.nil)))))))))) sub_nil) fun _ =>
  (zb_cons (zs_set s_w_bent_4 (z_list (zl_cons (z_q (Zk.q2 qS qI) (z_tup2 (za_cons (z_var n_w_bent_5) (za_one (z_var n_w_bent_6))))) (zl_cons (z_q (qL qQ) (z_list (zl_cons (z_q qS (z_var n_w_bent_5)) (zl_cons (z_q qI (z_var n_w_bent_6)) (zl_cons (z_q qI (z_var n_w_bent_7)) zl_nil))))) (zl_cons (z_q (Zk.q4 qS qI qI qI) (z_tup4 (za_cons (z_var n_w_bent_5) (za_cons (z_var n_w_bent_6) (za_cons (z_var n_w_bent_7) (za_one z_int)))))) (zl_cons (z_q (Zk.q3 qI qI qI) (z_tup3 (za_cons z_int (za_cons (z_var n_w_bent_6) (za_one (z_var n_w_bent_7)))))) (zl_cons (z_q (Zk.q3 qS qI qI) (z_tup3 (za_cons z_str (za_cons (z_var n_w_bent_6) (za_one (z_var n_w_bent_7)))))) zl_nil)))))) sub_nil) fun some4 =>
  (zb_cons (zs_set s_w_bent_4 (z_catL (z_var n_w_bent_4) (z_list (zl_cons (z_q (Zk.q3 qS qI qI) (z_tup3 (za_cons (z_var n_w_bent_5) (za_cons (z_add (z_pow z_int z_int) z_int) (za_one (z_var n_w_bent_7)))))) (zl_cons (z_q (Zk.q3 qS qI qI) (z_tup3 (za_cons (z_var n_w_bent_5) (za_cons (z_sub (z_neg (z_pow z_int z_int)) z_int) (za_one (z_var n_w_bent_7)))))) (zl_cons (z_q (Zk.q3 qS qI qI) (z_tup3 (za_cons (z_var n_w_bent_5) (za_cons (z_var n_w_bent_6) (za_one (z_neg z_int)))))) (zl_cons (z_q (Zk.q3 qS qN qI) (z_tup3 (za_cons (z_var n_w_bent_5) (za_cons z_non (za_one z_int))))) zl_nil)))))) sub_nil) fun some5 =>
  (zb_cons (zs_set s_w_bent_4 (z_catL (z_var n_w_bent_4) (z_list (zl_cons (z_q (Zk.q3 qS qI qI) (z_tup3 (za_cons (z_var n_w_bent_5) (za_cons (z_var n_w_bent_6) (za_one (z_add (z_pow z_int z_int) z_int)))))) (zl_cons (z_q (Zk.q3 qS qB qI) (z_tup3 (za_cons (z_var n_w_bent_5) (za_cons z_bl (za_one (z_var n_w_bent_7)))))) (zl_cons (z_q (Zk.q3 qS qI qB) (z_tup3 (za_cons (z_var n_w_bent_5) (za_cons (z_var n_w_bent_6) (za_one z_bl))))) (zl_cons (z_q (Zk.q3 qS qI qI) (z_tup3 (za_cons z_str (za_cons (z_var n_w_bent_6) (za_one (z_var n_w_bent_7)))))) zl_nil)))))) sub_nil) fun some6 =>
  (zb_cons (zs_set s_w_bent_4 (z_catL (z_var n_w_bent_4) (z_list (zl_cons (z_q (Zk.q3 qS qI qI) (z_tup3 (za_cons (z_var n_w_bent_5) (za_cons (z_add (z_var n_w_bent_6) z_int) (za_one (z_var n_w_bent_7)))))) (zl_cons (z_q (Zk.q3 qS qI qI) (z_tup3 (za_cons (z_var n_w_bent_5) (za_cons z_int (za_one z_int))))) (zl_cons (z_q qN z_non) (zl_cons (z_q (Zk.q3 qS qI qI) (z_tup3 (za_cons z_str (za_cons (z_var n_w_bent_6) (za_one (z_var n_w_bent_7)))))) zl_nil)))))) sub_nil) fun some7 =>
  (zb_cons (zs_set s_w_bent_4 (z_catL (z_var n_w_bent_4) (z_list (zl_cons (z_q (Zk.q3 qS qI qN) (z_tup3 (za_cons (z_var n_w_bent_5) (za_cons (z_var n_w_bent_6) (za_one z_non))))) (zl_cons (z_q (Zk.q3 qS qI qS) (z_tup3 (za_cons (z_var n_w_bent_5) (za_cons (z_var n_w_bent_6) (za_one (z_strI (blt_of (u := .type "str") T.b_str (by decide +kernel)) (z_var n_w_bent_7))))))) (zl_cons (z_q (Zk.q3 (qL qS) qI qI) (z_tup3 (za_cons (z_list (zl_cons (z_var n_w_bent_5) zl_nil)) (za_cons (z_var n_w_bent_6) (za_one (z_var n_w_bent_7)))))) zl_nil))))) sub_nil) fun some8 =>
  (zb_cons (zs_set s_w_bent_4 (z_catL (z_var n_w_bent_4) (z_list (zl_cons (z_q (Zk.q3 qS qS qI) (z_tup3 (za_cons (z_var n_w_bent_5) (za_cons (z_strI (blt_of (u := .type "str") T.b_str (by decide +kernel)) (z_var n_w_bent_6)) (za_one (z_var n_w_bent_7)))))) (zl_cons (z_q (Zk.q3 qS qI qI) (z_tup3 (za_cons (z_call (q := q) (at_w_signed T) rfl (by decide) (by decide) (by exact rfl) (za_cons (z_var n_w_bent_0) (za_one (z_var n_w_bent_5)))) (za_cons (z_var n_w_bent_6) (za_one (z_var n_w_bent_7)))))) zl_nil)))) sub_nil) fun some9 =>
  (zb_one (zs_ret (z_q (qL qQ) (z_catL (z_catL (z_lq ((Zk.q3 qS qI qI) : DaQ (rT3 rStr rInt rInt)) (z_slL (z_var n_w_bent_1) zp_no (zp_so (z_var n_w_bent_2)))) (z_list (zl_cons (z_ixL (z_var n_w_bent_4) (z_call (q := q) (at_w_take T) rfl (by decide) (by decide) (by exact rfl) (za_cons (z_var n_w_bent_0) (za_one z_int)))) zl_nil))) (z_lq ((Zk.q3 qS qI qI) : DaQ (rT3 rStr rInt rInt)) (z_slL (z_var n_w_bent_1) (zp_so (z_add (z_var n_w_bent_2) (z_intB (blt_of (u := .type "int") T.b_int (by decide +kernel)) (z_lt (z_var n_w_bent_3) z_int)))) zp_no)))) sub_nil))))))))))))))
theorem at_w_bent {G : Gx} {D : Cl} (T : Txt G D) : FnAt false G "_law_bent" 3 ["_law_bag_here", "_law_rows_here"] (spZ G (fun q : Addr × Addr => bagE q.1 q.2) (fun (q : Addr × Addr) (p : (Unit × (List (Str × Int × Int)))) => [(rRef q.1).pr p.1, (rLst (rT3 rStr rInt rInt)).pr p.2]) m_w_bent rQ) :=
  let ⟨f, fd, h1, h2, h3, h4⟩ := T.d_w_bent; ⟨f, fd, h1, h2, h3, f_w_bent T h4⟩

def k_w_due : Sc := ⟨["_law_names_here", "_law_web", "_law_rows_here", "_law_told_here", "_law_name", "_law_least", "_law_place", "_law_row", "_law_coins"], defScope t_w_due, 2, true, fun _ => true, false⟩
theorem sc_w_due : FnScope ["_law_names_here", "_law_web", "_law_rows_here", "_law_told_here", "_law_name", "_law_least", "_law_place", "_law_row", "_law_coins"] ["_law_names_here", "_law_web", "_law_rows_here"] (defScope t_w_due) := ⟨rfl, rfl, rfl, by decide +kernel, rfl, by decide +kernel, by decide +kernel⟩
theorem n_w_due_0 : Nm k_w_due 0 "_law_names_here" := nm_of (by decide +kernel)
theorem n_w_due_1 : Nm k_w_due 1 "_law_web" := nm_of (by decide +kernel)
theorem n_w_due_2 : Nm k_w_due 2 "_law_rows_here" := nm_of (by decide +kernel)
theorem n_w_due_3 : Nm k_w_due 3 "_law_told_here" := nm_of (by decide +kernel)
theorem n_w_due_4 : Nm k_w_due 4 "_law_name" := nm_of (by decide +kernel)
theorem s_w_due_4 : Ns k_w_due 4 "_law_name" := ns_of (by decide +kernel)
theorem s_w_due_5 : Ns k_w_due 5 "_law_least" := ns_of (by decide +kernel)
theorem n_w_due_6 : Nm k_w_due 6 "_law_place" := nm_of (by decide +kernel)
theorem s_w_due_6 : Ns k_w_due 6 "_law_place" := ns_of (by decide +kernel)
noncomputable def b_w_due (p : ((List Str) × (XWeb ⊕ PyData) × PyData)) : M Unit (Fl Unit Empty ((Str × Int) ⊕ (Str × Str) ⊕ (Str × (List (Str × Int × Int))))) :=
  (zseq (zifS (znot (zget (Sum.elim (fun _ : XWeb => true) (fun _ : PyData => false)) (ret p.2.1)))
    (zrt (zget Sum.inl (zpair (ret ("wrong" : Str)) (ret (0 : Int)))))
    (znx ())) fun _ =>
  (zseq (zifS (zor (znot (zget (isD "list") (zget qQ.d (ret p.2.2)))) (znot (zapp fall (zlc (fun e1 => (ret true)) (fun e1 => (zapp (fun x => lft (m_w_is_row x)) (ret e1))) (zgetP asL (ret p.2.2))))))
    (zrt (zget Sum.inl (zpair (ret ("wrong" : Str)) (ret (1 : Int)))))
    (znx ())) fun _ =>
  (zseq (zset (zlc (fun e3 => (ret true)) (fun e3 => (zget Prod.fst (ret e3))) (zgetP asLR (ret p.2.2)))) fun toldhere2 =>
  (zseq (zforI (zenum (ret toldhere2)) () fun _ x4 =>
    (zseq (zifS (zop2 fin_ (ret x4.2) (zsl (ret toldhere2) (ret none) (zsome (ret x4.1))))
      (zrt (zget Sum.inr (zget Sum.inl (zpair (ret ("twice" : Str)) (ret x4.2)))))
      (znx ())) fun _ =>
    (znx ()))) fun _ =>
  (zseq (zforI (ret toldhere2) () fun _ x5 =>
    (zseq (zifS (zop2 fnin (ret x5) (ret p.1))
      (zrt (zget Sum.inr (zget Sum.inl (zpair (ret ("walker" : Str)) (ret x5)))))
      (znx ())) fun _ =>
    (znx ()))) fun _ =>
  (zseq (zforI (zapp (fsort datS) (ret p.1)) () fun _ x6 =>
    (zseq (zifS (zop2 fnin (ret x6) (ret toldhere2))
      (zrt (zget Sum.inr (zget Sum.inl (zpair (ret ("lacks" : Str)) (ret x6)))))
      (znx ())) fun _ =>
    (znx ()))) fun _ =>
  (zseq (zset (zapp fminL (zlc (fun e8 => (ret true)) (fun e8 => (zget (fun x => x.2.1) (ret e8))) (zgetP asLR (ret p.2.2))))) fun least7 =>
  (zrt (zget Sum.inr (zget Sum.inr (zpair (ret ("told" : Str)) (zapp ret (zlc (fun e9 => (ret true)) (fun e9 => (zpair (ret e9.1) (zpair (zop2 isub (ret e9.2.1) (ret least7)) (ret e9.2.2)))) (zapp (fsort (dat3 datS datI datI)) (zgetP asLR (ret p.2.2))))))))))))))))
noncomputable def m_w_due (p : ((List Str) × (XWeb ⊕ PyData) × PyData)) : M Unit ((Str × Int) ⊕ (Str × Str) ⊕ (Str × (List (Str × Int × Int)))) := zbody (b_w_due p)
theorem f_w_due {G : Gx} {D : Cl} (T : Txt G D) {f : Addr} {fd : FuncData} (F : Fun G.K "_law_due" "_law_due" t_w_due f fd) : FnG false G.P G.w G.K G.mg G.base 3 f fd ["_law_names_here", "_law_web", "_law_rows_here"] (spZ G (fun _ : Unit => noE) (fun (q : Unit) (p : ((List Str) × (XWeb ⊕ PyData) × PyData)) => [(rLst rStr).pr p.1, (rSum (rWeb G D) rQ).pr p.2.1, rQ.pr p.2.2]) m_w_due (rSum (rT2 rStr rInt) (rSum (rT2 rStr rStr) (rT2 rStr (rVT (rT3 rStr rInt rInt)))))) :=
  fn_ok (g := false) (k := 2) (mb := b_w_due) (n := fun _ _ => stk) (Γn := fun _ _ _ => []) F sc_w_due (fun _ _ => rfl) (fun _ => rfl) (.inl fun _ _ => rfl) fun q p W =>
  show ZB G k_w_due _ W _ [.st ((rLst rStr).pr p.1), .st ((rSum (rWeb G D) rQ).pr p.2.1), .st (rQ.pr p.2.2), .no, .no, .no, .no, .no, .no] _ (b_w_due p) _ from
  (zb_cons (zs_if (Γn := fun _ : Unit => [.st ((rLst rStr).pr p.1), .st ((rSum (rWeb G D) rQ).pr p.2.1), .st (rQ.pr p.2.2), .no, .no, .no, .no, .no, .no]) (zt_not (zt_val (z_isiR (blt_of (u := .builtin "isinstance") T.b_isinstance (by decide +kernel)) (ir_sum (ir_one (isO (C := D.Web) T.ic_Web) T.is_Web_Web) (ir_q T.ni_Web)) (by exact rfl) T.g_Web (by decide) (z_var n_w_due_1))))
    (zb_one (zs_ret (z_inl (z_tup2 (za_cons z_str (za_one z_int)))) sub_nil))
    (zb_nil (SubL.sub (.keep (.keep (.keep (.keep (.keep (.keep (.keep (.keep (.keep SubL.nil))))))))))) sub_nil) fun _ =>
  (zb_cons (zs_if (Γn := fun _ : Unit => [.st ((rLst rStr).pr p.1), .st ((rSum (rWeb G D) rQ).pr p.2.1), .st (rQ.pr p.2.2), .no, .no, .no, .no, .no, .no]) (zw_t (zw_or (zt_not (zt_val (z_isiX (blt_of (u := .builtin "isinstance") T.b_isinstance (by decide +kernel)) (blt_of (u := .type "list") T.b_list (by decide +kernel)) (fun d => by cases d <;> rfl) (z_x qQ (z_var n_w_due_2))))) (zw_or1 (zt_not (zt_val (z_all (blt_of (u := .builtin "all") T.b_all (by decide +kernel)) (z_lc (Lc.mk (own := [("_law_row", 7)]) (blk_of rfl (by decide +kernel)) (zi_list (z_as as_L (z_var n_w_due_2))) (zg_name (ns_of (i := 7) (by decide +kernel)) (by decide)) (fun e1 => zts_nil) (fun e1 => (z_callP (q := ()) (at_w_is_row T) (by decide) (by decide) (by exact rfl) (za_one (z_var (nm_of (i := 7) (by decide +kernel)))))) (lc_no ⟨rfl, trivial⟩) (fun _ _ => rfl)))))))))
    (zb_one (zs_ret (z_inl (z_tup2 (za_cons z_str (za_one z_int)))) sub_nil))
    (zb_nil (SubL.sub (.keep (.keep (.keep (.keep (.keep (.keep (.keep (.keep (.keep SubL.nil))))))))))) sub_nil) fun _ =>
  (zb_cons (zs_setLc (i := 3) (Lc.mk (own := [("_law_row", 7)]) (blk_of rfl (by decide +kernel)) (zi_list (z_as as_LR (z_var n_w_due_2))) (zg_name (ns_of (i := 7) (by decide +kernel)) (by decide)) (fun e3 => zts_nil) (fun e3 => (z_at t3_0 (z_var (nm_of (i := 7) (by decide +kernel))))) (lc_no ⟨rfl, trivial⟩) (fun _ _ => rfl)) rfl rfl rfl sub_nil rfl rfl) fun toldhere2 =>
  (zb_cons (zs_for (vs := [6, 4]) (Γh := fun _ : Unit => [.st ((rLst rStr).pr p.1), .st ((rSum (rWeb G D) rQ).pr p.2.1), .st (rQ.pr p.2.2), .st ((rLst rStr).pr toldhere2), .no, .no, .no, .no, .no]) (zi_enum (by exact rfl) T.b_enumerate (z_var n_w_due_3)) (SubL.sub (.keep (.keep (.keep (.keep (.keep (.keep (.keep (.keep (.keep SubL.nil)))))))))) (fun _ => (zg_tup to2 (zgs_cons (zg_name s_w_due_6 (by decide)) fun _ => (zgs_one (zg_name s_w_due_4 (by decide)))))) (fun _ x4 =>
    (zb_cons (zs_if (Γn := fun _ : Unit => [.st ((rLst rStr).pr p.1), .st ((rSum (rWeb G D) rQ).pr p.2.1), .st (rQ.pr p.2.2), .st ((rLst rStr).pr toldhere2), .st (rStr.pr x4.2), .no, .st (rInt.pr x4.1), .no, .no]) (zt_inL inS (z_var n_w_due_4) (z_slL (z_var n_w_due_3) zp_no (zp_so (z_var n_w_due_6))))
      (zb_one (zs_ret (z_inr (z_inl (z_tup2 (za_cons z_str (za_one (z_var n_w_due_4)))))) sub_nil))
      (zb_nil (SubL.sub (.keep (.keep (.keep (.keep (.keep (.keep (.keep (.keep (.keep SubL.nil))))))))))) sub_nil) fun _ =>
    (zb_nil (SubL.sub (.keep (.keep (.keep (.keep (.drop (.keep (.drop (.keep (.keep SubL.nil))))))))))))) sub_nil) fun _ =>
  (zb_cons (zs_for (vs := [4]) (Γh := fun _ : Unit => [.st ((rLst rStr).pr p.1), .st ((rSum (rWeb G D) rQ).pr p.2.1), .st (rQ.pr p.2.2), .st ((rLst rStr).pr toldhere2), .no, .no, .no, .no, .no]) (zi_list (z_var n_w_due_3)) (SubL.sub (.keep (.keep (.keep (.keep (.keep (.keep (.keep (.keep (.keep SubL.nil)))))))))) (fun _ => (zg_name s_w_due_4 (by decide))) (fun _ x5 =>
    (zb_cons (zs_if (Γn := fun _ : Unit => [.st ((rLst rStr).pr p.1), .st ((rSum (rWeb G D) rQ).pr p.2.1), .st (rQ.pr p.2.2), .st ((rLst rStr).pr toldhere2), .st (rStr.pr x5), .no, .no, .no, .no]) (zt_ninL inS (z_var n_w_due_4) (z_var n_w_due_0))
      (zb_one (zs_ret (z_inr (z_inl (z_tup2 (za_cons z_str (za_one (z_var n_w_due_4)))))) sub_nil))
      (zb_nil (SubL.sub (.keep (.keep (.keep (.keep (.keep (.keep (.keep (.keep (.keep SubL.nil))))))))))) sub_nil) fun _ =>
    (zb_nil (SubL.sub (.keep (.keep (.keep (.keep (.drop (.keep (.keep (.keep (.keep SubL.nil))))))))))))) sub_nil) fun _ =>
  (zb_cons (zs_for (vs := [4]) (Γh := fun _ : Unit => [.st ((rLst rStr).pr p.1), .st ((rSum (rWeb G D) rQ).pr p.2.1), .st (rQ.pr p.2.2), .st ((rLst rStr).pr toldhere2), .no, .no, .no, .no, .no]) (zi_list (z_sortD srtS (blt_of (u := .builtin "sorted") T.b_sorted (by decide +kernel)) (z_var n_w_due_0))) (SubL.sub (.keep (.keep (.keep (.keep (.keep (.keep (.keep (.keep (.keep SubL.nil)))))))))) (fun _ => (zg_name s_w_due_4 (by decide))) (fun _ x6 =>
    (zb_cons (zs_if (Γn := fun _ : Unit => [.st ((rLst rStr).pr p.1), .st ((rSum (rWeb G D) rQ).pr p.2.1), .st (rQ.pr p.2.2), .st ((rLst rStr).pr toldhere2), .st (rStr.pr x6), .no, .no, .no, .no]) (zt_ninL inS (z_var n_w_due_4) (z_var n_w_due_3))
      (zb_one (zs_ret (z_inr (z_inl (z_tup2 (za_cons z_str (za_one (z_var n_w_due_4)))))) sub_nil))
      (zb_nil (SubL.sub (.keep (.keep (.keep (.keep (.keep (.keep (.keep (.keep (.keep SubL.nil))))))))))) sub_nil) fun _ =>
    (zb_nil (SubL.sub (.keep (.keep (.keep (.keep (.drop (.keep (.keep (.keep (.keep SubL.nil))))))))))))) sub_nil) fun _ =>
  (zb_cons (zs_set s_w_due_5 (z_minL (blt_of (u := .builtin "min") T.b_min (by decide +kernel)) (z_lc (Lc.mk (own := [("_law_row", 7)]) (blk_of rfl (by decide +kernel)) (zi_list (z_as as_LR (z_var n_w_due_2))) (zg_name (ns_of (i := 7) (by decide +kernel)) (by decide)) (fun e8 => zts_nil) (fun e8 => (z_at t3_1 (z_var (nm_of (i := 7) (by decide +kernel))))) (lc_no ⟨rfl, trivial⟩) (fun _ _ => rfl)))) sub_nil) fun least7 =>
  (zb_one (zs_ret (z_inr (z_inr (z_tup2 (za_cons z_str (za_one (z_tupL (blt_of (u := .type "tuple") T.b_tuple (by decide +kernel)) (z_lc (Lc.mk (own := [("_law_name", 4), ("_law_place", 6), ("_law_coins", 8)]) (blk_of rfl (by decide +kernel)) (zi_list (z_sortD (srt3 (srtS).toSrt (srtI).toSrt (srtI).toSrt) (blt_of (u := .builtin "sorted") T.b_sorted (by decide +kernel)) (z_as as_LR (z_var n_w_due_2)))) (zg_tup to3 (zgs_cons (zg_name (ns_of (i := 4) (by decide +kernel)) (by decide)) fun _ => (zgs_cons (zg_name (ns_of (i := 6) (by decide +kernel)) (by decide)) fun _ => (zgs_one (zg_name (ns_of (i := 8) (by decide +kernel)) (by decide)))))) (fun e9 => zts_nil) (fun e9 => (z_tup3 (za_cons (z_var (nm_of (i := 4) (by decide +kernel))) (za_cons (z_sub (z_var (nm_of (i := 6) (by decide +kernel))) (z_var (nm_of (i := 5) (by decide +kernel)))) (za_one (z_var (nm_of (i := 8) (by decide +kernel)))))))) (lc_no ⟨rfl, ⟨rfl, ⟨rfl, trivial⟩⟩⟩) (fun _ _ => rfl))))))))) sub_nil)))))))))
theorem at_w_due {G : Gx} {D : Cl} (T : Txt G D) : FnAt false G "_law_due" 3 ["_law_names_here", "_law_web", "_law_rows_here"] (spZ G (fun _ : Unit => noE) (fun (q : Unit) (p : ((List Str) × (XWeb ⊕ PyData) × PyData)) => [(rLst rStr).pr p.1, (rSum (rWeb G D) rQ).pr p.2.1, rQ.pr p.2.2]) m_w_due (rSum (rT2 rStr rInt) (rSum (rT2 rStr rStr) (rT2 rStr (rVT (rT3 rStr rInt rInt)))))) :=
  let ⟨f, fd, h1, h2, h3, h4⟩ := T.d_w_due; ⟨f, fd, h1, h2, h3, f_w_due T h4⟩

def k_is_name_2 : Sc := ⟨["thing", "sign"], defScope t_is_name, 0, true, fun _ => true, false⟩
theorem sc_is_name_2 : FnScope ["thing", "sign"] ["thing"] (defScope t_is_name) := ⟨rfl, rfl, rfl, by decide +kernel, rfl, by decide +kernel, by decide +kernel⟩
theorem n_is_name_2_0 : Nm k_is_name_2 0 "thing" := nm_of (by decide +kernel)
noncomputable def b_is_name_2 (p : PyData) : M Unit (Fl Unit Empty Bool) :=
  (zseq (zifS (zor (znot (zget (isD "str") (zget qQ.d (ret p)))) (znot (zchain ile ile (ret (1 : Int)) (zapp flenS (zgetP asS (ret p))) (ret c_MOST_SIGNS))))
    (zrt (ret false))
    (znx ())) fun _ =>
  (zrt (zapp fall (zlc (fun e1 => (ret true)) (fun e1 => (zop2 sin_ (ret e1) (ret c_LETTERS))) (zapp fsigns (zgetP asS (ret p)))))))
noncomputable def m_is_name_2 (p : PyData) : M Unit Bool := zbody (b_is_name_2 p)
theorem f_is_name_2 {G : Gx} {D : Cl} (T : Txt G D) {f : Addr} {fd : FuncData} (F : Fun G.K "is_name" "is_name" t_is_name f fd) : FnG false G.P G.w G.K G.mg G.base 1 f fd ["thing"] (spZ G (fun _ : Unit => noE) (fun (q : Unit) (p : PyData) => [rQ.pr p]) m_is_name_2 rBl) :=
  fn_ok (g := false) (k := 0) (mb := b_is_name_2) (n := fun _ _ => stk) (Γn := fun _ _ _ => []) F sc_is_name_2 (fun _ _ => rfl) (fun _ => rfl) (.inl fun _ _ => rfl) fun q p W =>
  show ZB G k_is_name_2 _ W _ [.st (rQ.pr p), .no] _ (b_is_name_2 p) _ from
  (zb_cons (zs_if (Γn := fun _ : Unit => [.st (rQ.pr p), .no]) (zw_t (zw_or (zt_not (zt_val (z_isiX (blt_of (u := .builtin "isinstance") T.b_isinstance (by decide +kernel)) (blt_of (u := .type "str") T.b_str (by decide +kernel)) (fun d => by cases d <;> rfl) (z_x qQ (z_var n_is_name_2_0))))) (zw_or1 (zt_not (zt_chI ci_le ci_le z_int (z_lenS (blt_of (u := .builtin "len") T.b_len (by decide +kernel)) (z_as as_S (z_var n_is_name_2_0))) (z_gintE (by exact rfl) T.c_MOST_SIGNS))))))
    (zb_one (zs_ret z_bl sub_nil))
    (zb_nil (SubL.sub (.keep (.keep SubL.nil)))) sub_nil) fun _ =>
  (zb_one (zs_ret (z_all (blt_of (u := .builtin "all") T.b_all (by decide +kernel)) (z_lc (Lc.mk (own := [("sign", 1)]) (blk_of rfl (by decide +kernel)) (zi_str (z_as as_S (z_var n_is_name_2_0))) (zg_name (ns_of (i := 1) (by decide +kernel)) (by decide)) (fun e1 => zts_nil) (fun e1 => (z_inS (z_var (nm_of (i := 1) (by decide +kernel))) (z_gstrE (by exact rfl) T.c_LETTERS))) (lc_no ⟨rfl, trivial⟩) (fun _ _ => rfl)))) sub_nil)))
theorem at_is_name_2 {G : Gx} {D : Cl} (T : Txt G D) : FnAt false G "is_name" 1 ["thing"] (spZ G (fun _ : Unit => noE) (fun (q : Unit) (p : PyData) => [rQ.pr p]) m_is_name_2 rBl) :=
  let ⟨f, fd, h1, h2, h3, h4⟩ := T.d_is_name; ⟨f, fd, h1, h2, h3, f_is_name_2 T h4⟩

def k_is_whole_2 : Sc := ⟨["thing"], defScope t_is_whole, 0, true, fun _ => true, false⟩
theorem sc_is_whole_2 : FnScope ["thing"] ["thing"] (defScope t_is_whole) := ⟨rfl, rfl, rfl, by decide +kernel, rfl, by decide +kernel, by decide +kernel⟩
theorem n_is_whole_2_0 : Nm k_is_whole_2 0 "thing" := nm_of (by decide +kernel)
noncomputable def b_is_whole_2 (p : PyData) : M Unit (Fl Unit Empty Bool) :=
  (zrt (zand (zget (isD "int") (zget qQ.d (ret p))) (znot (zget (isD "bool") (zget qQ.d (ret p))))))
noncomputable def m_is_whole_2 (p : PyData) : M Unit Bool := zbody (b_is_whole_2 p)
theorem f_is_whole_2 {G : Gx} {D : Cl} (T : Txt G D) {f : Addr} {fd : FuncData} (F : Fun G.K "is_whole" "is_whole" t_is_whole f fd) : FnG false G.P G.w G.K G.mg G.base 1 f fd ["thing"] (spZ G (fun _ : Unit => noE) (fun (q : Unit) (p : PyData) => [rQ.pr p]) m_is_whole_2 rBl) :=
  fn_ok (g := false) (k := 0) (mb := b_is_whole_2) (n := fun _ _ => stk) (Γn := fun _ _ _ => []) F sc_is_whole_2 (fun _ _ => rfl) (fun _ => rfl) (.inl fun _ _ => rfl) fun q p W =>
  show ZB G k_is_whole_2 _ W _ [.st (rQ.pr p)] _ (b_is_whole_2 p) _ from
  (zb_one (zs_ret (z_and (z_isiX (blt_of (u := .builtin "isinstance") T.b_isinstance (by decide +kernel)) (blt_of (u := .type "int") T.b_int (by decide +kernel)) (fun d => by cases d <;> rfl) (z_x qQ (z_var n_is_whole_2_0))) (z_one (z_not (z_isiX (blt_of (u := .builtin "isinstance") T.b_isinstance (by decide +kernel)) (blt_of (u := .type "bool") T.b_bool (by decide +kernel)) (fun d => by cases d <;> rfl) (z_x qQ (z_var n_is_whole_2_0)))))) sub_nil))
theorem at_is_whole_2 {G : Gx} {D : Cl} (T : Txt G D) : FnAt false G "is_whole" 1 ["thing"] (spZ G (fun _ : Unit => noE) (fun (q : Unit) (p : PyData) => [rQ.pr p]) m_is_whole_2 rBl) :=
  let ⟨f, fd, h1, h2, h3, h4⟩ := T.d_is_whole; ⟨f, fd, h1, h2, h3, f_is_whole_2 T h4⟩

def k_is_between_2 : Sc := ⟨["thing", "low", "high"], defScope t_is_between, 1, true, fun _ => true, false⟩
theorem sc_is_between_2 : FnScope ["thing", "low", "high"] ["thing", "low", "high"] (defScope t_is_between) := ⟨rfl, rfl, rfl, by decide +kernel, rfl, by decide +kernel, by decide +kernel⟩
theorem n_is_between_2_0 : Nm k_is_between_2 0 "thing" := nm_of (by decide +kernel)
theorem n_is_between_2_1 : Nm k_is_between_2 1 "low" := nm_of (by decide +kernel)
theorem n_is_between_2_2 : Nm k_is_between_2 2 "high" := nm_of (by decide +kernel)
noncomputable def b_is_between_2 (p : (PyData × Int × Int)) : M Unit (Fl Unit Empty Bool) :=
  (zrt (zand (zapp (fun x => lft (m_is_whole_2 x)) (ret p.1)) (zchain ile ile (ret p.2.1) (zgetP asI (ret p.1)) (ret p.2.2))))
noncomputable def m_is_between_2 (p : (PyData × Int × Int)) : M Unit Bool := zbody (b_is_between_2 p)
theorem f_is_between_2 {G : Gx} {D : Cl} (T : Txt G D) {f : Addr} {fd : FuncData} (F : Fun G.K "is_between" "is_between" t_is_between f fd) : FnG false G.P G.w G.K G.mg G.base 2 f fd ["thing", "low", "high"] (spZ G (fun _ : Unit => noE) (fun (q : Unit) (p : (PyData × Int × Int)) => [rQ.pr p.1, rInt.pr p.2.1, rInt.pr p.2.2]) m_is_between_2 rBl) :=
  fn_ok (g := false) (k := 1) (mb := b_is_between_2) (n := fun _ _ => stk) (Γn := fun _ _ _ => []) F sc_is_between_2 (fun _ _ => rfl) (fun _ => rfl) (.inl fun _ _ => rfl) fun q p W =>
  show ZB G k_is_between_2 _ W _ [.st (rQ.pr p.1), .st (rInt.pr p.2.1), .st (rInt.pr p.2.2)] _ (b_is_between_2 p) _ from
  (zb_one (zs_ret (z_and (z_callP (q := ()) (at_is_whole_2 T) (by decide) (by decide) (by exact rfl) (za_one (z_var n_is_between_2_0))) (z_one (z_chI ci_le ci_le (z_var n_is_between_2_1) (z_as as_I (z_var n_is_between_2_0)) (z_var n_is_between_2_2)))) sub_nil))
theorem at_is_between_2 {G : Gx} {D : Cl} (T : Txt G D) : FnAt false G "is_between" 2 ["thing", "low", "high"] (spZ G (fun _ : Unit => noE) (fun (q : Unit) (p : (PyData × Int × Int)) => [rQ.pr p.1, rInt.pr p.2.1, rInt.pr p.2.2]) m_is_between_2 rBl) :=
  let ⟨f, fd, h1, h2, h3, h4⟩ := T.d_is_between; ⟨f, fd, h1, h2, h3, f_is_between_2 T h4⟩

def k_is_place : Sc := ⟨["thing"], defScope t_is_place, 2, true, fun _ => true, false⟩
theorem sc_is_place : FnScope ["thing"] ["thing"] (defScope t_is_place) := ⟨rfl, rfl, rfl, by decide +kernel, rfl, by decide +kernel, by decide +kernel⟩
theorem n_is_place_0 : Nm k_is_place 0 "thing" := nm_of (by decide +kernel)
noncomputable def b_is_place (p : PyData) : M Unit (Fl Unit Empty Bool) :=
  (zrt (zapp (fun x => lft (m_is_between_2 x)) (zpair (ret p) (zpair (zop2 isub (ret (0 : Int)) (ret c_MOST_PLACE)) (ret c_MOST_PLACE)))))
noncomputable def m_is_place (p : PyData) : M Unit Bool := zbody (b_is_place p)
theorem f_is_place {G : Gx} {D : Cl} (T : Txt G D) {f : Addr} {fd : FuncData} (F : Fun G.K "is_place" "is_place" t_is_place f fd) : FnG false G.P G.w G.K G.mg G.base 3 f fd ["thing"] (spZ G (fun _ : Unit => noE) (fun (q : Unit) (p : PyData) => [rQ.pr p]) m_is_place rBl) :=
  fn_ok (g := false) (k := 2) (mb := b_is_place) (n := fun _ _ => stk) (Γn := fun _ _ _ => []) F sc_is_place (fun _ _ => rfl) (fun _ => rfl) (.inl fun _ _ => rfl) fun q p W =>
  show ZB G k_is_place _ W _ [.st (rQ.pr p)] _ (b_is_place p) _ from
  (zb_one (zs_ret (z_callP (q := ()) (at_is_between_2 T) (by decide) (by decide) (by exact rfl) (za_cons (z_var n_is_place_0) (za_cons (z_sub z_int (z_gintE (by exact rfl) T.c_MOST_PLACE)) (za_one (z_gintE (by exact rfl) T.c_MOST_PLACE))))) sub_nil))
theorem at_is_place {G : Gx} {D : Cl} (T : Txt G D) : FnAt false G "is_place" 3 ["thing"] (spZ G (fun _ : Unit => noE) (fun (q : Unit) (p : PyData) => [rQ.pr p]) m_is_place rBl) :=
  let ⟨f, fd, h1, h2, h3, h4⟩ := T.d_is_place; ⟨f, fd, h1, h2, h3, f_is_place T h4⟩

def k_are_coins : Sc := ⟨["thing"], defScope t_are_coins, 2, true, fun _ => true, false⟩
theorem sc_are_coins : FnScope ["thing"] ["thing"] (defScope t_are_coins) := ⟨rfl, rfl, rfl, by decide +kernel, rfl, by decide +kernel, by decide +kernel⟩
theorem n_are_coins_0 : Nm k_are_coins 0 "thing" := nm_of (by decide +kernel)
noncomputable def b_are_coins (p : PyData) : M Unit (Fl Unit Empty Bool) :=
  (zrt (zapp (fun x => lft (m_is_between_2 x)) (zpair (ret p) (zpair (ret (0 : Int)) (ret c_MOST_COINS)))))
noncomputable def m_are_coins (p : PyData) : M Unit Bool := zbody (b_are_coins p)
theorem f_are_coins {G : Gx} {D : Cl} (T : Txt G D) {f : Addr} {fd : FuncData} (F : Fun G.K "are_coins" "are_coins" t_are_coins f fd) : FnG false G.P G.w G.K G.mg G.base 3 f fd ["thing"] (spZ G (fun _ : Unit => noE) (fun (q : Unit) (p : PyData) => [rQ.pr p]) m_are_coins rBl) :=
  fn_ok (g := false) (k := 2) (mb := b_are_coins) (n := fun _ _ => stk) (Γn := fun _ _ _ => []) F sc_are_coins (fun _ _ => rfl) (fun _ => rfl) (.inl fun _ _ => rfl) fun q p W =>
  show ZB G k_are_coins _ W _ [.st (rQ.pr p)] _ (b_are_coins p) _ from
  (zb_one (zs_ret (z_callP (q := ()) (at_is_between_2 T) (by decide) (by decide) (by exact rfl) (za_cons (z_var n_are_coins_0) (za_cons z_int (za_one (z_gintE (by exact rfl) T.c_MOST_COINS))))) sub_nil))
theorem at_are_coins {G : Gx} {D : Cl} (T : Txt G D) : FnAt false G "are_coins" 3 ["thing"] (spZ G (fun _ : Unit => noE) (fun (q : Unit) (p : PyData) => [rQ.pr p]) m_are_coins rBl) :=
  let ⟨f, fd, h1, h2, h3, h4⟩ := T.d_are_coins; ⟨f, fd, h1, h2, h3, f_are_coins T h4⟩

def k_is_row : Sc := ⟨["thing"], defScope t_is_row, 3, true, fun _ => true, false⟩
theorem sc_is_row : FnScope ["thing"] ["thing"] (defScope t_is_row) := ⟨rfl, rfl, rfl, by decide +kernel, rfl, by decide +kernel, by decide +kernel⟩
theorem n_is_row_0 : Nm k_is_row 0 "thing" := nm_of (by decide +kernel)
noncomputable def b_is_row (p : PyData) : M Unit (Fl Unit Empty Bool) :=
  (zseq (zifS (zor (znot (zget (isD "tuple") (zget qQ.d (ret p)))) (zop2 fne (zapp flen (zgetP asT (ret p))) (ret (3 : Int))))
    (zrt (ret false))
    (znx ())) fun _ =>
  (zrt (zand (zapp (fun x => lft (m_is_name_2 x)) (zop2 ixat (zgetP asT (ret p)) (ret (0 : Int)))) (zand (zapp (fun x => lft (m_is_place x)) (zop2 ixat (zgetP asT (ret p)) (ret (1 : Int)))) (zapp (fun x => lft (m_are_coins x)) (zop2 ixat (zgetP asT (ret p)) (ret (2 : Int))))))))
noncomputable def m_is_row (p : PyData) : M Unit Bool := zbody (b_is_row p)
theorem f_is_row {G : Gx} {D : Cl} (T : Txt G D) {f : Addr} {fd : FuncData} (F : Fun G.K "is_row" "is_row" t_is_row f fd) : FnG false G.P G.w G.K G.mg G.base 4 f fd ["thing"] (spZ G (fun _ : Unit => noE) (fun (q : Unit) (p : PyData) => [rQ.pr p]) m_is_row rBl) :=
  fn_ok (g := false) (k := 3) (mb := b_is_row) (n := fun _ _ => stk) (Γn := fun _ _ _ => []) F sc_is_row (fun _ _ => rfl) (fun _ => rfl) (.inl fun _ _ => rfl) fun q p W =>
  show ZB G k_is_row _ W _ [.st (rQ.pr p)] _ (b_is_row p) _ from
  (zb_cons (zs_if (Γn := fun _ : Unit => [.st (rQ.pr p)]) (zw_t (zw_or (zt_not (zt_val (z_isiX (blt_of (u := .builtin "isinstance") T.b_isinstance (by decide +kernel)) (blt_of (u := .type "tuple") T.b_tuple (by decide +kernel)) (fun d => by cases d <;> rfl) (z_x qQ (z_var n_is_row_0))))) (zw_or1 (zt_ne scI (z_lenV (blt_of (u := .builtin "len") T.b_len (by decide +kernel)) (z_as as_T (z_var n_is_row_0))) z_int))))
    (zb_one (zs_ret z_bl sub_nil))
    (zb_nil (SubL.sub (.keep SubL.nil))) sub_nil) fun _ =>
  (zb_one (zs_ret (z_and (z_callP (q := ()) (at_is_name_2 T) (by decide) (by decide) (by exact rfl) (za_one (z_ixV (z_as as_T (z_var n_is_row_0)) z_int))) (z_and (z_callP (q := ()) (at_is_place T) (by decide) (by decide) (by exact rfl) (za_one (z_ixV (z_as as_T (z_var n_is_row_0)) z_int))) (z_one (z_callP (q := ()) (at_are_coins T) (by decide) (by decide) (by exact rfl) (za_one (z_ixV (z_as as_T (z_var n_is_row_0)) z_int)))))) sub_nil)))
theorem at_is_row {G : Gx} {D : Cl} (T : Txt G D) : FnAt false G "is_row" 4 ["thing"] (spZ G (fun _ : Unit => noE) (fun (q : Unit) (p : PyData) => [rQ.pr p]) m_is_row rBl) :=
  let ⟨f, fd, h1, h2, h3, h4⟩ := T.d_is_row; ⟨f, fd, h1, h2, h3, f_is_row T h4⟩

def k_Web_names : Sc := ⟨["self"], defScope t_Web_names, 0, true, fun _ => true, false⟩
theorem sc_Web_names : FnScope ["self"] ["self"] (defScope t_Web_names) := ⟨rfl, rfl, rfl, by decide +kernel, rfl, by decide +kernel, by decide +kernel⟩
theorem n_Web_names_0 : Nm k_Web_names 0 "self" := nm_of (by decide +kernel)
noncomputable def b_Web_names (p : XWeb) : M Unit (Fl Unit Empty (List Str)) :=
  (zrt (zapp ret (zget XWeb.walkers_ (ret p))))
noncomputable def m_Web_names (p : XWeb) : M Unit (List Str) := zbody (b_Web_names p)
theorem f_Web_names {G : Gx} {D : Cl} (T : Txt G D) {f : Addr} {fd : FuncData} (F : Fun G.K "names" "Web.names" t_Web_names f fd) : FnG false G.P G.w G.K G.mg G.base 1 f fd ["self"] (spZ G (fun _ : Unit => noE) (fun (q : Unit) (p : XWeb) => [(rWeb G D).pr p]) m_Web_names (rLst rStr)) :=
  fn_ok (g := false) (k := 0) (mb := b_Web_names) (n := fun _ _ => stk) (Γn := fun _ _ _ => []) F sc_Web_names (fun _ _ => rfl) (fun _ => rfl) (.inl fun _ _ => rfl) fun q p W =>
  show ZB G k_Web_names _ W _ [.st ((rWeb G D).pr p)] _ (b_Web_names p) _ from
  (zb_one (zs_ret (z_listL (blt_of (u := .type "list") T.b_list (by decide +kernel)) (z_attr (fld_at fun _ => rfl) T.cl_Web T.na_Web_walkers (z_var n_Web_names_0))) sub_nil))
theorem at_Web_names {G : Gx} {D : Cl} (T : Txt G D) : MethAt false G D.Web "names" 1 ["self"] (spZ G (fun _ : Unit => noE) (fun (q : Unit) (p : XWeb) => [(rWeb G D).pr p]) m_Web_names (rLst rStr)) :=
  let ⟨f, fd, h1, h2, h3⟩ := T.d_Web_names; ⟨f, fd, h1, h2, f_Web_names T h3⟩

def k_leveled : Sc := ⟨["rows", "least", "name", "place", "coins"], defScope t_leveled, 0, true, fun _ => true, false⟩
theorem sc_leveled : FnScope ["rows", "least", "name", "place", "coins"] ["rows"] (defScope t_leveled) := ⟨rfl, rfl, rfl, by decide +kernel, rfl, by decide +kernel, by decide +kernel⟩
theorem n_leveled_0 : Nm k_leveled 0 "rows" := nm_of (by decide +kernel)
theorem s_leveled_1 : Ns k_leveled 1 "least" := ns_of (by decide +kernel)
noncomputable def b_leveled (p : (List (Str × Int × Int))) : M Unit (Fl Unit Empty (List (Str × Int × Int))) :=
  (zseq (zset (zapp fminL (zlc (fun e2 => (ret true)) (fun e2 => (ret e2.2.1)) (ret p)))) fun least1 =>
  (zrt (zapp ret (zapp (fsort (dat3 datS datI datI)) (zlc (fun e3 => (ret true)) (fun e3 => (zpair (ret e3.1) (zpair (zop2 isub (ret e3.2.1) (ret least1)) (ret e3.2.2)))) (ret p))))))
noncomputable def m_leveled (p : (List (Str × Int × Int))) : M Unit (List (Str × Int × Int)) := zbody (b_leveled p)
theorem f_leveled {G : Gx} {D : Cl} (T : Txt G D) {f : Addr} {fd : FuncData} (F : Fun G.K "leveled" "leveled" t_leveled f fd) : FnG false G.P G.w G.K G.mg G.base 1 f fd ["rows"] (spZ G (fun _ : Unit => noE) (fun (q : Unit) (p : (List (Str × Int × Int))) => [(rLst (rT3 rStr rInt rInt)).pr p]) m_leveled (rVT (rT3 rStr rInt rInt))) :=
  fn_ok (g := false) (k := 0) (mb := b_leveled) (n := fun _ _ => stk) (Γn := fun _ _ _ => []) F sc_leveled (fun _ _ => rfl) (fun _ => rfl) (.inl fun _ _ => rfl) fun q p W =>
  show ZB G k_leveled _ W _ [.st ((rLst (rT3 rStr rInt rInt)).pr p), .no, .no, .no, .no] _ (b_leveled p) _ from
  (zb_cons (zs_set s_leveled_1 (z_minL (blt_of (u := .builtin "min") T.b_min (by decide +kernel)) (z_lc (Lc.mk (own := [("name", 2), ("place", 3), ("coins", 4)]) (blk_of rfl (by decide +kernel)) (zi_list (z_var n_leveled_0)) (zg_tup to3 (zgs_cons (zg_name (ns_of (i := 2) (by decide +kernel)) (by decide)) fun _ => (zgs_cons (zg_name (ns_of (i := 3) (by decide +kernel)) (by decide)) fun _ => (zgs_one (zg_name (ns_of (i := 4) (by decide +kernel)) (by decide)))))) (fun e2 => zts_nil) (fun e2 => (z_var (nm_of (i := 3) (by decide +kernel)))) (lc_no ⟨rfl, ⟨rfl, ⟨rfl, trivial⟩⟩⟩) (fun _ _ => rfl)))) sub_nil) fun least1 =>
  (zb_one (zs_ret (z_tupL (blt_of (u := .type "tuple") T.b_tuple (by decide +kernel)) (z_sortD (srt3 (srtS).toSrt (srtI).toSrt (srtI).toSrt) (blt_of (u := .builtin "sorted") T.b_sorted (by decide +kernel)) (z_lc (Lc.mk (own := [("name", 2), ("place", 3), ("coins", 4)]) (blk_of rfl (by decide +kernel)) (zi_list (z_var n_leveled_0)) (zg_tup to3 (zgs_cons (zg_name (ns_of (i := 2) (by decide +kernel)) (by decide)) fun _ => (zgs_cons (zg_name (ns_of (i := 3) (by decide +kernel)) (by decide)) fun _ => (zgs_one (zg_name (ns_of (i := 4) (by decide +kernel)) (by decide)))))) (fun e3 => zts_nil) (fun e3 => (z_tup3 (za_cons (z_var (nm_of (i := 2) (by decide +kernel))) (za_cons (z_sub (z_var (nm_of (i := 3) (by decide +kernel))) (z_var (nm_of (i := 1) (by decide +kernel)))) (za_one (z_var (nm_of (i := 4) (by decide +kernel)))))))) (lc_no ⟨rfl, ⟨rfl, ⟨rfl, trivial⟩⟩⟩) (fun _ _ => rfl))))) sub_nil)))
theorem at_leveled {G : Gx} {D : Cl} (T : Txt G D) : FnAt false G "leveled" 1 ["rows"] (spZ G (fun _ : Unit => noE) (fun (q : Unit) (p : (List (Str × Int × Int))) => [(rLst (rT3 rStr rInt rInt)).pr p]) m_leveled (rVT (rT3 rStr rInt rInt))) :=
  let ⟨f, fd, h1, h2, h3, h4⟩ := T.d_leveled; ⟨f, fd, h1, h2, h3, f_leveled T h4⟩

def k_standing_of : Sc := ⟨["web", "rows", "names", "twice", "name", "place", "coins", "row"], defScope t_standing_of, 4, true, fun _ => true, false⟩
theorem sc_standing_of : FnScope ["web", "rows", "names", "twice", "name", "place", "coins", "row"] ["web", "rows"] (defScope t_standing_of) := ⟨rfl, rfl, rfl, by decide +kernel, rfl, by decide +kernel, by decide +kernel⟩
theorem n_standing_of_0 : Nm k_standing_of 0 "web" := nm_of (by decide +kernel)
theorem n_standing_of_1 : Nm k_standing_of 1 "rows" := nm_of (by decide +kernel)
theorem n_standing_of_2 : Nm k_standing_of 2 "names" := nm_of (by decide +kernel)
theorem n_standing_of_3 : Nm k_standing_of 3 "twice" := nm_of (by decide +kernel)
theorem s_standing_of_3 : Ns k_standing_of 3 "twice" := ns_of (by decide +kernel)
theorem n_standing_of_4 : Nm k_standing_of 4 "name" := nm_of (by decide +kernel)
theorem s_standing_of_4 : Ns k_standing_of 4 "name" := ns_of (by decide +kernel)
noncomputable def b_standing_of (p : ((XWeb ⊕ PyData) × PyData)) : M Unit (Fl Unit Empty (List (Str × Int × Int))) :=
  (zseq (zifS (znot (zget (Sum.elim (fun _ : XWeb => true) (fun _ : PyData => false)) (ret p.1)))
    (zraise "Wrong" "at" V.int (ret (0 : Int)))
    (znx ())) fun _ =>
  (zseq (zifS (zor (znot (zget (isD "list") (zget qQ.d (ret p.2)))) (znot (zapp fall (zlc (fun e1 => (ret true)) (fun e1 => (zapp (fun x => lft (m_is_row x)) (ret e1))) (zgetP asL (ret p.2))))))
    (zraise "Wrong" "at" V.int (ret (1 : Int)))
    (znx ())) fun _ =>
  (zseq (zset (zlc (fun e3 => (ret true)) (fun e3 => (ret e3.1)) (zgetP asLR (ret p.2)))) fun names2 =>
  (zseq (zset (zapp (fun x => lft (m_first_twice x)) (ret names2))) fun twice4 =>
  (zseq (zifS (zget Option.isSome (ret twice4))
    (zraise "Twice" "name" V.str (zapp munq (ret twice4)))
    (znx ())) fun _ =>
  (zseq (zforI (ret names2) () fun _ x5 =>
    (zseq (zifS (zop2 fnin (ret x5) (zapp (fun x => lft (m_Web_names x)) (zapp munl (ret p.1))))
      (zraise "NoWalker" "name" V.str (ret x5))
      (znx ())) fun _ =>
    (znx ()))) fun _ =>
  (zseq (zforI (zapp (fun x => lft (m_Web_names x)) (zapp munl (ret p.1))) () fun _ x6 =>
    (zseq (zifS (zop2 fnin (ret x6) (ret names2))
      (zraise "Lacks" "name" V.str (ret x6))
      (znx ())) fun _ =>
    (znx ()))) fun _ =>
  (zrt (zapp (fun x => lft (m_leveled x)) (zgetP asLR (ret p.2)))))))))))
noncomputable def m_standing_of (p : ((XWeb ⊕ PyData) × PyData)) : M Unit (List (Str × Int × Int)) := zbody (b_standing_of p)
theorem f_standing_of {G : Gx} {D : Cl} (T : Txt G D) {f : Addr} {fd : FuncData} (F : Fun G.K "standing_of" "standing_of" t_standing_of f fd) : FnG false G.P G.w G.K G.mg G.base 5 f fd ["web", "rows"] (spZ G (fun _ : Unit => noE) (fun (q : Unit) (p : ((XWeb ⊕ PyData) × PyData)) => [(rSum (rWeb G D) rQ).pr p.1, rQ.pr p.2]) m_standing_of (rVT (rT3 rStr rInt rInt))) :=
  fn_ok (g := false) (k := 4) (mb := b_standing_of) (n := fun _ _ => stk) (Γn := fun _ _ _ => []) F sc_standing_of (fun _ _ => rfl) (fun _ => rfl) (.inl fun _ _ => rfl) fun q p W =>
  show ZB G k_standing_of _ W _ [.st ((rSum (rWeb G D) rQ).pr p.1), .st (rQ.pr p.2), .no, .no, .no, .no, .no, .no] _ (b_standing_of p) _ from
  (zb_cons (zs_if (Γn := fun _ : Unit => [.st ((rSum (rWeb G D) rQ).pr p.1), .st (rQ.pr p.2), .no, .no, .no, .no, .no, .no]) (zt_not (zt_val (z_isiR (blt_of (u := .builtin "isinstance") T.b_isinstance (by decide +kernel)) (ir_sum (ir_one (isO (C := D.Web) T.ic_Web) T.is_Web_Web) (ir_q T.ni_Web)) (by exact rfl) T.g_Web (by decide) (z_var n_standing_of_0))))
    (zb_one (zs_raise1 (x_Wrong T) T.xf_Wrong (by decide) rfl scI z_int sub_nil))
    (zb_nil (SubL.sub (.keep (.keep (.keep (.keep (.keep (.keep (.keep (.keep SubL.nil)))))))))) sub_nil) fun _ =>
  (zb_cons (zs_if (Γn := fun _ : Unit => [.st ((rSum (rWeb G D) rQ).pr p.1), .st (rQ.pr p.2), .no, .no, .no, .no, .no, .no]) (zw_t (zw_or (zt_not (zt_val (z_isiX (blt_of (u := .builtin "isinstance") T.b_isinstance (by decide +kernel)) (blt_of (u := .type "list") T.b_list (by decide +kernel)) (fun d => by cases d <;> rfl) (z_x qQ (z_var n_standing_of_1))))) (zw_or1 (zt_not (zt_val (z_all (blt_of (u := .builtin "all") T.b_all (by decide +kernel)) (z_lc (Lc.mk (own := [("row", 7)]) (blk_of rfl (by decide +kernel)) (zi_list (z_as as_L (z_var n_standing_of_1))) (zg_name (ns_of (i := 7) (by decide +kernel)) (by decide)) (fun e1 => zts_nil) (fun e1 => (z_callP (q := ()) (at_is_row T) (by decide) (by decide) (by exact rfl) (za_one (z_var (nm_of (i := 7) (by decide +kernel)))))) (lc_no ⟨rfl, trivial⟩) (fun _ _ => rfl)))))))))
    (zb_one (zs_raise1 (x_Wrong T) T.xf_Wrong (by decide) rfl scI z_int sub_nil))
    (zb_nil (SubL.sub (.keep (.keep (.keep (.keep (.keep (.keep (.keep (.keep SubL.nil)))))))))) sub_nil) fun _ =>
  (zb_cons (zs_setLc (i := 2) (Lc.mk (own := [("name", 4), ("place", 5), ("coins", 6)]) (blk_of rfl (by decide +kernel)) (zi_list (z_as as_LR (z_var n_standing_of_1))) (zg_tup to3 (zgs_cons (zg_name (ns_of (i := 4) (by decide +kernel)) (by decide)) fun _ => (zgs_cons (zg_name (ns_of (i := 5) (by decide +kernel)) (by decide)) fun _ => (zgs_one (zg_name (ns_of (i := 6) (by decide +kernel)) (by decide)))))) (fun e3 => zts_nil) (fun e3 => (z_var (nm_of (i := 4) (by decide +kernel)))) (lc_no ⟨rfl, ⟨rfl, ⟨rfl, trivial⟩⟩⟩) (fun _ _ => rfl)) rfl rfl rfl sub_nil rfl rfl) fun names2 =>
  (zb_cons (zs_set s_standing_of_3 (z_callP (q := ()) (at_first_twice T) (by decide) (by decide) (by exact rfl) (za_one (z_var n_standing_of_2))) sub_nil) fun twice4 =>
  (zb_cons (zs_if (Γn := fun _ : Unit => [.st ((rSum (rWeb G D) rQ).pr p.1), .st (rQ.pr p.2), .st ((rLst rStr).pr names2), .st ((rOpt rStr).pr twice4), .no, .no, .no, .no]) (zt_notN nn_str (z_var n_standing_of_3))
    (zb_one (zs_raise1 (x_Twice T) T.xf_Twice (by decide) rfl scS (z_unq (z_var n_standing_of_3)) sub_nil))
    (zb_nil (SubL.sub (.keep (.keep (.keep (.keep (.keep (.keep (.keep (.keep SubL.nil)))))))))) sub_nil) fun _ =>
  (zb_cons (zs_for (vs := [4]) (Γh := fun _ : Unit => [.st ((rSum (rWeb G D) rQ).pr p.1), .st (rQ.pr p.2), .st ((rLst rStr).pr names2), .st ((rOpt rStr).pr twice4), .no, .no, .no, .no]) (zi_list (z_var n_standing_of_2)) (SubL.sub (.keep (.keep (.keep (.keep (.keep (.keep (.keep (.keep SubL.nil))))))))) (fun _ => (zg_name s_standing_of_4 (by decide))) (fun _ x5 =>
    (zb_cons (zs_if (Γn := fun _ : Unit => [.st ((rSum (rWeb G D) rQ).pr p.1), .st (rQ.pr p.2), .st ((rLst rStr).pr names2), .st ((rOpt rStr).pr twice4), .st (rStr.pr x5), .no, .no, .no]) (zt_ninL inS (z_var n_standing_of_4) (z_methP0 (at_Web_names T) T.cl_Web (ins_at fun _ => rfl) (by decide) (by decide) (z_unl (z_var n_standing_of_0))))
      (zb_one (zs_raise1 (x_NoWalker T) T.xf_NoWalker (by decide) rfl scS (z_var n_standing_of_4) sub_nil))
      (zb_nil (SubL.sub (.keep (.keep (.keep (.keep (.keep (.keep (.keep (.keep SubL.nil)))))))))) sub_nil) fun _ =>
    (zb_nil (SubL.sub (.keep (.keep (.keep (.keep (.drop (.keep (.keep (.keep SubL.nil)))))))))))) sub_nil) fun _ =>
  (zb_cons (zs_for (vs := [4]) (Γh := fun _ : Unit => [.st ((rSum (rWeb G D) rQ).pr p.1), .st (rQ.pr p.2), .st ((rLst rStr).pr names2), .st ((rOpt rStr).pr twice4), .no, .no, .no, .no]) (zi_list (z_methP0 (at_Web_names T) T.cl_Web (ins_at fun _ => rfl) (by decide) (by decide) (z_unl (z_var n_standing_of_0)))) (SubL.sub (.keep (.keep (.keep (.keep (.keep (.keep (.keep (.keep SubL.nil))))))))) (fun _ => (zg_name s_standing_of_4 (by decide))) (fun _ x6 =>
    (zb_cons (zs_if (Γn := fun _ : Unit => [.st ((rSum (rWeb G D) rQ).pr p.1), .st (rQ.pr p.2), .st ((rLst rStr).pr names2), .st ((rOpt rStr).pr twice4), .st (rStr.pr x6), .no, .no, .no]) (zt_ninL inS (z_var n_standing_of_4) (z_var n_standing_of_2))
      (zb_one (zs_raise1 (x_Lacks T) T.xf_Lacks (by decide) rfl scS (z_var n_standing_of_4) sub_nil))
      (zb_nil (SubL.sub (.keep (.keep (.keep (.keep (.keep (.keep (.keep (.keep SubL.nil)))))))))) sub_nil) fun _ =>
    (zb_nil (SubL.sub (.keep (.keep (.keep (.keep (.drop (.keep (.keep (.keep SubL.nil)))))))))))) sub_nil) fun _ =>
  (zb_one (zs_ret (z_callP (q := ()) (at_leveled T) (by decide) (by decide) (by exact rfl) (za_one (z_as as_LR (z_var n_standing_of_1)))) sub_nil)))))))))
theorem at_standing_of {G : Gx} {D : Cl} (T : Txt G D) : FnAt false G "standing_of" 5 ["web", "rows"] (spZ G (fun _ : Unit => noE) (fun (q : Unit) (p : ((XWeb ⊕ PyData) × PyData)) => [(rSum (rWeb G D) rQ).pr p.1, rQ.pr p.2]) m_standing_of (rVT (rT3 rStr rInt rInt))) :=
  let ⟨f, fd, h1, h2, h3, h4⟩ := T.d_standing_of; ⟨f, fd, h1, h2, h3, f_standing_of T h4⟩

def k_w_told : Sc := ⟨["_law_web", "_law_rows_here", "e", "_law_sorts"], defScope t_w_told, 5, true, fun _ => true, false⟩
theorem sc_w_told : FnScope ["_law_web", "_law_rows_here", "e", "_law_sorts"] ["_law_web", "_law_rows_here"] (defScope t_w_told) := ⟨rfl, rfl, rfl, by decide +kernel, rfl, by decide +kernel, by decide +kernel⟩
theorem n_w_told_0 : Nm k_w_told 0 "_law_web" := nm_of (by decide +kernel)
theorem n_w_told_1 : Nm k_w_told 1 "_law_rows_here" := nm_of (by decide +kernel)
theorem n_w_told_2 : Nm k_w_told 2 "e" := nm_of (by decide +kernel)
theorem s_w_told_2 : Ns k_w_told 2 "e" := ns_of (by decide +kernel)
theorem n_w_told_3 : Nm k_w_told 3 "_law_sorts" := nm_of (by decide +kernel)
theorem s_w_told_3 : Ns k_w_told 3 "_law_sorts" := ns_of (by decide +kernel)
noncomputable def b_w_told (p : ((XWeb ⊕ PyData) × PyData)) : M Unit (Fl Unit Empty ((Str × (List (Str × Int × Int))) ⊕ (Str × Int) ⊕ (Str × Str))) :=
  (ztryX (fun n => if n = ("Lacks" : Str) then some true else if n = ("NoWalker" : Str) then some true else if n = ("Twice" : Str) then some true else if n = ("Wrong" : Str) then some true else none)
    (zrt (zget Sum.inl (zpair (ret ("told" : Str)) (zapp (fun x => lft (m_standing_of x)) (zpair (ret p.1) (ret p.2))))))
    (fun x => bnd (mopt ((((fun n => if n = ("Lacks" : Str) then some false else if n = ("NoWalker" : Str) then some false else if n = ("Twice" : Str) then some false else if n = ("Wrong" : Str) then some true else none) x.cls).bind fun u => (((fun n => if n = ("Lacks" : Str) then some false else if n = ("NoWalker" : Str) then some false else if n = ("Twice" : Str) then some true else if n = ("Wrong" : Str) then some false else none) x.cls).bind fun u => (((fun n => if n = ("Lacks" : Str) then some false else if n = ("NoWalker" : Str) then some true else if n = ("Twice" : Str) then some false else if n = ("Wrong" : Str) then some false else none) x.cls).bind fun u => (((fun n => if n = ("Lacks" : Str) then some true else if n = ("NoWalker" : Str) then some false else if n = ("Twice" : Str) then some false else if n = ("Wrong" : Str) then some false else none) x.cls).bind fun u => (some []).bind fun w => some (u :: w)).bind fun w => some (u :: w)).bind fun w => some (u :: w)).bind fun w => some (u :: w)).bind fun ys => if ys.length ≤ 1000 then some ys else none)) fun hy3 => (fun x => bnd (mopt (hor (fun x => (some ((hy3.count true : Nat) : Int)).bind fun y => (some (1 : Int)).bind fun z => some (!decide (y = z))) (fun x => hor (fun x => (fun n => if n = ("Lacks" : Str) then some false else if n = ("NoWalker" : Str) then some false else if n = ("Twice" : Str) then some false else if n = ("Wrong" : Str) then some false else none) x.cls) (fun x => ((fun n => if n = ("Lacks" : Str) then some true else if n = ("NoWalker" : Str) then some true else if n = ("Twice" : Str) then some true else if n = ("Wrong" : Str) then some true else none) x.cls).map not) x) x)) fun y => if y = true then (fun x => bnd (mopt (((some ("other" : Str)).bind fun y => (some (0 : Int)).bind fun z => some (y, z)).map (fun y => (Sum.inr (Sum.inl y))))) fun r => ret (.rt r)) x else (fun x => bnd (mopt (atI hy3 0)) fun y => if y = true then (fun x => bnd (mopt (((some ("wrong" : Str)).bind fun y => (xfld ["Wrong"] "at" unI x).bind fun z => some (y, z)).map (fun y => (Sum.inr (Sum.inl y))))) fun r => ret (.rt r)) x else (fun x => bnd (mopt ((((((if true ∈ hy3 then some ((hy3.findIdx (fun z => decide (z = true)) : Nat) : Int) else none)).bind fun y => (some (1 : Int)).bind fun z => some (y - z)).bind fun k => atI (["twice", "walker", "lacks"] : List Str) k).bind fun y => (xfld ["Lacks", "NoWalker", "Twice"] "name" unS x).bind fun z => some (y, z)).map (fun y => (Sum.inr (Sum.inr y))))) fun r => ret (.rt r)) x) x) x))
noncomputable def m_w_told (p : ((XWeb ⊕ PyData) × PyData)) : M Unit ((Str × (List (Str × Int × Int))) ⊕ (Str × Int) ⊕ (Str × Str)) := zbody (b_w_told p)
theorem f_w_told {G : Gx} {D : Cl} (T : Txt G D) {f : Addr} {fd : FuncData} (F : Fun G.K "_law_told" "_law_told" t_w_told f fd) : FnG false G.P G.w G.K G.mg G.base 6 f fd ["_law_web", "_law_rows_here"] (spZ G (fun _ : Unit => noE) (fun (q : Unit) (p : ((XWeb ⊕ PyData) × PyData)) => [(rSum (rWeb G D) rQ).pr p.1, rQ.pr p.2]) m_w_told (rSum (rT2 rStr (rVT (rT3 rStr rInt rInt))) (rSum (rT2 rStr rInt) (rT2 rStr rStr)))) :=
  fn_ok (g := false) (k := 5) (mb := b_w_told) (n := fun _ _ => stk) (Γn := fun _ _ _ => []) F sc_w_told (fun _ _ => rfl) (fun _ => rfl) (.inl fun _ _ => rfl) fun q p W =>
  show ZB G k_w_told _ W _ [.st ((rSum (rWeb G D) rQ).pr p.1), .st (rQ.pr p.2), .no, .no] _ (b_w_told p) _ from
  (zb_one (zs_tryG (Γx := [.st ((rSum (rWeb G D) rQ).pr p.1), .st (rQ.pr p.2), .no, .no]) (Γn := fun _ => []) (onlySt_st (onlySt_st (onlySt_no (onlySt_no onlySt_nil)))) s_w_told_2 (by decide +kernel) (by exact rfl) T.g_AheadError (by decide) rfl (cat_cons T.g_Lacks T.em_Lacks_AheadError (cat_cons T.g_NoWalker T.em_NoWalker_AheadError (cat_cons T.g_Twice T.em_Twice_AheadError (cat_cons T.g_Wrong T.em_Wrong_AheadError cat_nil)))) (sx_of sub_nil) (unk_at (.inl rfl)) (fun _ => unk_nil) (fun a => nomatch a) (fun _ =>
    (zb_one (zs_ret (z_inl (z_tup2 (za_cons z_str (za_one (z_callP (q := ()) (at_standing_of T) (by decide) (by decide) (by exact rfl) (za_cons (z_var n_w_told_0) (za_one (z_var n_w_told_1)))))))) (SubL.sub (.keep (.keep (.keep (.keep SubL.nil))))))))
    (hb_set (R := rLst rBl) s_w_told_3 (by decide) (he_listB (has_blC (ht_isi (i := 2) n_w_told_2 (by decide) (blt_of (u := .builtin "isinstance") T.b_isinstance (by decide +kernel)) (hy_own (by exact rfl) T.g_Wrong (by decide)) hcv_own (it_cons T.g_Lacks T.xc_Lacks T.ki_Lacks_Wrong (it_cons T.g_NoWalker T.xc_NoWalker T.ki_NoWalker_Wrong (it_cons T.g_Twice T.xc_Twice T.ki_Twice_Wrong (it_cons T.g_Wrong T.xc_Wrong T.ki_Wrong_Wrong it_nil))))) (has_blC (ht_isi (i := 2) n_w_told_2 (by decide) (blt_of (u := .builtin "isinstance") T.b_isinstance (by decide +kernel)) (hy_own (by exact rfl) T.g_Twice (by decide)) hcv_own (it_cons T.g_Lacks T.xc_Lacks T.ki_Lacks_Twice (it_cons T.g_NoWalker T.xc_NoWalker T.ki_NoWalker_Twice (it_cons T.g_Twice T.xc_Twice T.ki_Twice_Twice (it_cons T.g_Wrong T.xc_Wrong T.ki_Wrong_Twice it_nil))))) (has_blC (ht_isi (i := 2) n_w_told_2 (by decide) (blt_of (u := .builtin "isinstance") T.b_isinstance (by decide +kernel)) (hy_own (by exact rfl) T.g_NoWalker (by decide)) hcv_own (it_cons T.g_Lacks T.xc_Lacks T.ki_Lacks_NoWalker (it_cons T.g_NoWalker T.xc_NoWalker T.ki_NoWalker_NoWalker (it_cons T.g_Twice T.xc_Twice T.ki_Twice_NoWalker (it_cons T.g_Wrong T.xc_Wrong T.ki_Wrong_NoWalker it_nil))))) (has_blC (ht_isi (i := 2) n_w_told_2 (by decide) (blt_of (u := .builtin "isinstance") T.b_isinstance (by decide +kernel)) (hy_own (by exact rfl) T.g_Lacks (by decide)) hcv_own (it_cons T.g_Lacks T.xc_Lacks T.ki_Lacks_Lacks (it_cons T.g_NoWalker T.xc_NoWalker T.ki_NoWalker_Lacks (it_cons T.g_Twice T.xc_Twice T.ki_Twice_Lacks (it_cons T.g_Wrong T.xc_Wrong T.ki_Wrong_Lacks it_nil))))) has_blN))))) fun hy3 => (hb_if (hw_t (hw_or (ht_ne (ha_cnt (bs := hy3) n_w_told_3 (by exact rfl)) ha_int) (hw_or (ht_valE (he_isiT (i := 2) n_w_told_2 (by decide) (blt_of (u := .builtin "isinstance") T.b_isinstance (by decide +kernel)) (ys_own (by exact rfl) T.g_NoText (by decide) (ys_own (by exact rfl) T.g_TooMany (by decide) ys_nil)) (ia_cons T.g_Lacks T.xc_Lacks (ka_f T.ki_Lacks_NoText (ka_f T.ki_Lacks_TooMany ka_nil)) (ia_cons T.g_NoWalker T.xc_NoWalker (ka_f T.ki_NoWalker_NoText (ka_f T.ki_NoWalker_TooMany ka_nil)) (ia_cons T.g_Twice T.xc_Twice (ka_f T.ki_Twice_NoText (ka_f T.ki_Twice_TooMany ka_nil)) (ia_cons T.g_Wrong T.xc_Wrong (ka_f T.ki_Wrong_NoText (ka_f T.ki_Wrong_TooMany ka_nil)) ia_nil)))) (show (2 : Nat) ≤ sizeLine by decide))) (hw_or1 (ht_not (ht_val (ht_isi (i := 2) n_w_told_2 (by decide) (blt_of (u := .builtin "isinstance") T.b_isinstance (by decide +kernel)) (hy_blt (blt_of (u := .type "ValueError") T.b_ValueError (by decide +kernel))) hcv_ty (it_cons T.g_Lacks T.xc_Lacks T.ki_Lacks_ValueError (it_cons T.g_NoWalker T.xc_NoWalker T.ki_NoWalker_ValueError (it_cons T.g_Twice T.xc_Twice T.ki_Twice_ValueError (it_cons T.g_Wrong T.xc_Wrong T.ki_Wrong_ValueError it_nil))))))))))) (hb_one (hs_ret (he_map (he_tup2 ha_str ha_int (fun _ _ => rfl) (fun _ _ => rfl)) fun _ _ _ r => r))) on_ret (hb_if (ht_val (ha_lix (bs := hy3) n_w_told_3 (by exact rfl))) (hb_one (hs_ret (he_map (he_tup2 ha_str (ha_fld (i := 2) n_w_told_2 (by decide) unI_ok (fc_cons T.g_Wrong T.xc_Wrong T.xf_Wrong fc_nil)) (fun _ _ => rfl) (fun _ _ => rfl)) fun _ _ _ r => r))) on_ret (hb_one (hs_ret (he_map (he_tup2F (he_six (has_str (has_str (has_str has_str0))) (ha_sub (ha_fidx (bs := hy3) n_w_told_3 (by exact rfl)) ha_int)) (ha_fld (i := 2) n_w_told_2 (by decide) unS_ok (fc_cons T.g_Lacks T.xc_Lacks T.xf_Lacks (fc_cons T.g_NoWalker T.xc_NoWalker T.xf_NoWalker (fc_cons T.g_Twice T.xc_Twice T.xf_Twice fc_nil)))) (fun _ _ => rfl)) fun _ _ _ r => r))))))))
theorem at_w_told {G : Gx} {D : Cl} (T : Txt G D) : FnAt false G "_law_told" 6 ["_law_web", "_law_rows_here"] (spZ G (fun _ : Unit => noE) (fun (q : Unit) (p : ((XWeb ⊕ PyData) × PyData)) => [(rSum (rWeb G D) rQ).pr p.1, rQ.pr p.2]) m_w_told (rSum (rT2 rStr (rVT (rT3 rStr rInt rInt))) (rSum (rT2 rStr rInt) (rT2 rStr rStr)))) :=
  let ⟨f, fd, h1, h2, h3, h4⟩ := T.d_w_told; ⟨f, fd, h1, h2, h3, f_w_told T h4⟩

def k_coins_of : Sc := ⟨["standing", "p", "name", "place", "coins"], defScope t_coins_of, 0, true, fun _ => true, false⟩
theorem sc_coins_of : FnScope ["standing", "p", "name", "place", "coins"] ["standing", "p"] (defScope t_coins_of) := ⟨rfl, rfl, rfl, by decide +kernel, rfl, by decide +kernel, by decide +kernel⟩
theorem n_coins_of_0 : Nm k_coins_of 0 "standing" := nm_of (by decide +kernel)
theorem n_coins_of_1 : Nm k_coins_of 1 "p" := nm_of (by decide +kernel)
noncomputable def b_coins_of (p : ((List (Str × Int × Int)) × Str)) : M Unit (Fl Unit Empty Int) :=
  (zrt (zop2 dix (zdc (fun e2 => (ret true)) (fun e2 => (ret e2.1)) (fun e2 => (ret e2.2.2)) (ret p.1)) (ret p.2)))
noncomputable def m_coins_of (p : ((List (Str × Int × Int)) × Str)) : M Unit Int := zbody (b_coins_of p)
theorem f_coins_of {G : Gx} {D : Cl} (T : Txt G D) {f : Addr} {fd : FuncData} (F : Fun G.K "coins_of" "coins_of" t_coins_of f fd) : FnG false G.P G.w G.K G.mg G.base 1 f fd ["standing", "p"] (spZ G (fun _ : Unit => noE) (fun (q : Unit) (p : ((List (Str × Int × Int)) × Str)) => [(rVT (rT3 rStr rInt rInt)).pr p.1, rStr.pr p.2]) m_coins_of rInt) :=
  fn_ok (g := false) (k := 0) (mb := b_coins_of) (n := fun _ _ => stk) (Γn := fun _ _ _ => []) F sc_coins_of (fun _ _ => rfl) (fun _ => rfl) (.inl fun _ _ => rfl) fun q p W =>
  show ZB G k_coins_of _ W _ [.st ((rVT (rT3 rStr rInt rInt)).pr p.1), .st (rStr.pr p.2), .no, .no, .no] _ (b_coins_of p) _ from
  (zb_one (zs_ret (z_dget (K := (kyF G kyfS)) (R2 := rInt) (z_dict (zf_dc (F := kyfS) (Dcm.mk (own := [("name", 2), ("place", 3), ("coins", 4)]) (blk_of rfl (by decide +kernel)) (zi_tup (z_var n_coins_of_0)) (zg_tup to3 (zgs_cons (zg_name (ns_of (i := 2) (by decide +kernel)) (by decide)) fun _ => (zgs_cons (zg_name (ns_of (i := 3) (by decide +kernel)) (by decide)) fun _ => (zgs_one (zg_name (ns_of (i := 4) (by decide +kernel)) (by decide)))))) (fun e2 => zts_nil) (fun e2 => (z_var (nm_of (i := 2) (by decide +kernel)))) (fun e2 => (z_var (nm_of (i := 4) (by decide +kernel)))) (lc_no ⟨rfl, ⟨rfl, ⟨rfl, trivial⟩⟩⟩) (fun _ _ => rfl)))) (z_var n_coins_of_1)) sub_nil))
theorem at_coins_of {G : Gx} {D : Cl} (T : Txt G D) : FnAt false G "coins_of" 1 ["standing", "p"] (spZ G (fun _ : Unit => noE) (fun (q : Unit) (p : ((List (Str × Int × Int)) × Str)) => [(rVT (rT3 rStr rInt rInt)).pr p.1, rStr.pr p.2]) m_coins_of rInt) :=
  let ⟨f, fd, h1, h2, h3, h4⟩ := T.d_coins_of; ⟨f, fd, h1, h2, h3, f_coins_of T h4⟩

def k_w_alike : Sc := ⟨["_law_found", "_law_due_here"], defScope t_w_alike, 0, true, fun _ => true, false⟩
theorem sc_w_alike : FnScope ["_law_found", "_law_due_here"] ["_law_found", "_law_due_here"] (defScope t_w_alike) := ⟨rfl, rfl, rfl, by decide +kernel, rfl, by decide +kernel, by decide +kernel⟩
theorem n_w_alike_0 : Nm k_w_alike 0 "_law_found" := nm_of (by decide +kernel)
theorem n_w_alike_1 : Nm k_w_alike 1 "_law_due_here" := nm_of (by decide +kernel)
noncomputable def b_w_alike (p : (Int × Int)) : M Unit (Fl Unit Empty Bool) :=
  (zrt (zand (zop2 feq (ret p.1) (ret p.2)) (zop2 feq (zapp (frepr datI) (ret p.1)) (zapp (frepr datI) (ret p.2)))))
noncomputable def m_w_alike (p : (Int × Int)) : M Unit Bool := zbody (b_w_alike p)
theorem f_w_alike {G : Gx} {D : Cl} (T : Txt G D) {f : Addr} {fd : FuncData} (F : Fun G.K "_law_alike" "_law_alike" t_w_alike f fd) : FnG false G.P G.w G.K G.mg G.base 1 f fd ["_law_found", "_law_due_here"] (spZ G (fun _ : Unit => noE) (fun (q : Unit) (p : (Int × Int)) => [rInt.pr p.1, rInt.pr p.2]) m_w_alike rBl) :=
  fn_ok (g := false) (k := 0) (mb := b_w_alike) (n := fun _ _ => stk) (Γn := fun _ _ _ => []) F sc_w_alike (fun _ _ => rfl) (fun _ => rfl) (.inl fun _ _ => rfl) fun q p W =>
  show ZB G k_w_alike _ W _ [.st (rInt.pr p.1), .st (rInt.pr p.2)] _ (b_w_alike p) _ from
  (zb_one (zs_ret (z_and (z_eq scI (z_var n_w_alike_0) (z_var n_w_alike_1)) (z_one (z_eq scS (z_reprI (blt_of (u := .builtin "repr") T.b_repr (by decide +kernel)) (z_var n_w_alike_0)) (z_reprI (blt_of (u := .builtin "repr") T.b_repr (by decide +kernel)) (z_var n_w_alike_1))))) sub_nil))
theorem at_w_alike {G : Gx} {D : Cl} (T : Txt G D) : FnAt false G "_law_alike" 1 ["_law_found", "_law_due_here"] (spZ G (fun _ : Unit => noE) (fun (q : Unit) (p : (Int × Int)) => [rInt.pr p.1, rInt.pr p.2]) m_w_alike rBl) :=
  let ⟨f, fd, h1, h2, h3, h4⟩ := T.d_w_alike; ⟨f, fd, h1, h2, h3, f_w_alike T h4⟩

def k_places_of : Sc := ⟨["sketch", "name", "place", "coins"], defScope t_places_of, 0, true, fun _ => true, false⟩
theorem sc_places_of : FnScope ["sketch", "name", "place", "coins"] ["sketch"] (defScope t_places_of) := ⟨rfl, rfl, rfl, by decide +kernel, rfl, by decide +kernel, by decide +kernel⟩
theorem n_places_of_0 : Nm k_places_of 0 "sketch" := nm_of (by decide +kernel)
noncomputable def b_places_of (p : (List (Str × Int × Int))) : M Unit (Fl Unit Empty (List (Str × Int))) :=
  (zrt (zdc (fun e2 => (ret true)) (fun e2 => (ret e2.1)) (fun e2 => (ret e2.2.1)) (ret p)))
noncomputable def m_places_of (p : (List (Str × Int × Int))) : M Unit (List (Str × Int)) := zbody (b_places_of p)
theorem f_places_of {G : Gx} {D : Cl} (T : Txt G D) {f : Addr} {fd : FuncData} (F : Fun G.K "places_of" "places_of" t_places_of f fd) : FnG false G.P G.w G.K G.mg G.base 1 f fd ["sketch"] (spZ G (fun _ : Unit => noE) (fun (q : Unit) (p : (List (Str × Int × Int))) => [(rVT (rT3 rStr rInt rInt)).pr p]) m_places_of (rDct (kyF G kyfS) rInt)) :=
  fn_ok (g := false) (k := 0) (mb := b_places_of) (n := fun _ _ => stk) (Γn := fun _ _ _ => []) F sc_places_of (fun _ _ => rfl) (fun _ => rfl) (.inl fun _ _ => rfl) fun q p W =>
  show ZB G k_places_of _ W _ [.st ((rVT (rT3 rStr rInt rInt)).pr p), .no, .no, .no] _ (b_places_of p) _ from
  (zb_one (zs_ret (z_dict (zf_dc (F := kyfS) (Dcm.mk (own := [("name", 1), ("place", 2), ("coins", 3)]) (blk_of rfl (by decide +kernel)) (zi_tup (z_var n_places_of_0)) (zg_tup to3 (zgs_cons (zg_name (ns_of (i := 1) (by decide +kernel)) (by decide)) fun _ => (zgs_cons (zg_name (ns_of (i := 2) (by decide +kernel)) (by decide)) fun _ => (zgs_one (zg_name (ns_of (i := 3) (by decide +kernel)) (by decide)))))) (fun e2 => zts_nil) (fun e2 => (z_var (nm_of (i := 1) (by decide +kernel)))) (fun e2 => (z_var (nm_of (i := 2) (by decide +kernel)))) (lc_no ⟨rfl, ⟨rfl, ⟨rfl, trivial⟩⟩⟩) (fun _ _ => rfl)))) sub_nil))
theorem at_places_of {G : Gx} {D : Cl} (T : Txt G D) : FnAt false G "places_of" 1 ["sketch"] (spZ G (fun _ : Unit => noE) (fun (q : Unit) (p : (List (Str × Int × Int))) => [(rVT (rT3 rStr rInt rInt)).pr p]) m_places_of (rDct (kyF G kyfS) rInt)) :=
  let ⟨f, fd, h1, h2, h3, h4⟩ := T.d_places_of; ⟨f, fd, h1, h2, h3, f_places_of T h4⟩

def k_lead : Sc := ⟨["standing", "p", "q", "places"], defScope t_lead, 1, true, fun _ => true, false⟩
theorem sc_lead : FnScope ["standing", "p", "q", "places"] ["standing", "p", "q"] (defScope t_lead) := ⟨rfl, rfl, rfl, by decide +kernel, rfl, by decide +kernel, by decide +kernel⟩
theorem n_lead_0 : Nm k_lead 0 "standing" := nm_of (by decide +kernel)
theorem n_lead_1 : Nm k_lead 1 "p" := nm_of (by decide +kernel)
theorem n_lead_2 : Nm k_lead 2 "q" := nm_of (by decide +kernel)
theorem n_lead_3 : Nm k_lead 3 "places" := nm_of (by decide +kernel)
theorem s_lead_3 : Ns k_lead 3 "places" := ns_of (by decide +kernel)
noncomputable def b_lead (p : ((List (Str × Int × Int)) × Str × Str)) : M Unit (Fl Unit Empty Int) :=
  (zseq (zset (zapp (fun x => lft (m_places_of x)) (ret p.1))) fun places1 =>
  (zrt (zop2 isub (zop2 dix (ret places1) (ret p.2.1)) (zop2 dix (ret places1) (ret p.2.2)))))
noncomputable def m_lead (p : ((List (Str × Int × Int)) × Str × Str)) : M Unit Int := zbody (b_lead p)
theorem f_lead {G : Gx} {D : Cl} (T : Txt G D) {f : Addr} {fd : FuncData} (F : Fun G.K "lead" "lead" t_lead f fd) : FnG false G.P G.w G.K G.mg G.base 2 f fd ["standing", "p", "q"] (spZ G (fun _ : Unit => noE) (fun (q : Unit) (p : ((List (Str × Int × Int)) × Str × Str)) => [(rVT (rT3 rStr rInt rInt)).pr p.1, rStr.pr p.2.1, rStr.pr p.2.2]) m_lead rInt) :=
  fn_ok (g := false) (k := 1) (mb := b_lead) (n := fun _ _ => stk) (Γn := fun _ _ _ => []) F sc_lead (fun _ _ => rfl) (fun _ => rfl) (.inl fun _ _ => rfl) fun q p W =>
  show ZB G k_lead _ W _ [.st ((rVT (rT3 rStr rInt rInt)).pr p.1), .st (rStr.pr p.2.1), .st (rStr.pr p.2.2), .no] _ (b_lead p) _ from
  (zb_cons (zs_set s_lead_3 (z_callP (q := ()) (at_places_of T) (by decide) (by decide) (by exact rfl) (za_one (z_var n_lead_0))) sub_nil) fun places1 =>
  (zb_one (zs_ret (z_sub (z_dget (K := (kyF G kyfS)) (R2 := rInt) (z_var n_lead_3) (z_var n_lead_1)) (z_dget (K := (kyF G kyfS)) (R2 := rInt) (z_var n_lead_3) (z_var n_lead_2))) sub_nil)))
theorem at_lead {G : Gx} {D : Cl} (T : Txt G D) : FnAt false G "lead" 2 ["standing", "p", "q"] (spZ G (fun _ : Unit => noE) (fun (q : Unit) (p : ((List (Str × Int × Int)) × Str × Str)) => [(rVT (rT3 rStr rInt rInt)).pr p.1, rStr.pr p.2.1, rStr.pr p.2.2]) m_lead rInt) :=
  let ⟨f, fd, h1, h2, h3, h4⟩ := T.d_lead; ⟨f, fd, h1, h2, h3, f_lead T h4⟩

def k_w_asked_right : Sc := ⟨["_law_standing", "_law_one", "_law_place", "_law_coins", "_law_other", "_law_there", "_law_held"], defScope t_w_asked_right, 2, true, fun _ => true, false⟩
theorem sc_w_asked_right : FnScope ["_law_standing", "_law_one", "_law_place", "_law_coins", "_law_other", "_law_there", "_law_held"] ["_law_standing"] (defScope t_w_asked_right) := ⟨rfl, rfl, rfl, by decide +kernel, rfl, by decide +kernel, by decide +kernel⟩
theorem n_w_asked_right_0 : Nm k_w_asked_right 0 "_law_standing" := nm_of (by decide +kernel)
theorem n_w_asked_right_1 : Nm k_w_asked_right 1 "_law_one" := nm_of (by decide +kernel)
theorem s_w_asked_right_1 : Ns k_w_asked_right 1 "_law_one" := ns_of (by decide +kernel)
theorem n_w_asked_right_2 : Nm k_w_asked_right 2 "_law_place" := nm_of (by decide +kernel)
theorem s_w_asked_right_2 : Ns k_w_asked_right 2 "_law_place" := ns_of (by decide +kernel)
theorem n_w_asked_right_3 : Nm k_w_asked_right 3 "_law_coins" := nm_of (by decide +kernel)
theorem s_w_asked_right_3 : Ns k_w_asked_right 3 "_law_coins" := ns_of (by decide +kernel)
theorem n_w_asked_right_4 : Nm k_w_asked_right 4 "_law_other" := nm_of (by decide +kernel)
theorem s_w_asked_right_4 : Ns k_w_asked_right 4 "_law_other" := ns_of (by decide +kernel)
theorem n_w_asked_right_5 : Nm k_w_asked_right 5 "_law_there" := nm_of (by decide +kernel)
theorem s_w_asked_right_5 : Ns k_w_asked_right 5 "_law_there" := ns_of (by decide +kernel)
theorem s_w_asked_right_6 : Ns k_w_asked_right 6 "_law_held" := ns_of (by decide +kernel)
noncomputable def b_w_asked_right (p : (List (Str × Int × Int))) : M Unit (Fl Unit Empty Bool) :=
  (zseq (zforI (ret p) () fun _ x1 =>
    (zseq (zifS (znot (zapp (fun x => lft (m_w_alike x)) (zpair (zapp (fun x => lft (m_coins_of x)) (zpair (ret p) (ret x1.1))) (ret x1.2.2))))
      (zrt (ret false))
      (znx ())) fun _ =>
    (zseq (zforI (ret p) () fun _ x2 =>
      (zseq (zifS (znot (zapp (fun x => lft (m_w_alike x)) (zpair (zapp (fun x => lft (m_lead x)) (zpair (ret p) (zpair (ret x1.1) (ret x2.1)))) (zop2 isub (ret x1.2.1) (ret x2.2.1)))))
        (zrt (ret false))
        (znx ())) fun _ =>
      (znx ()))) fun _ =>
    (znx ())))) fun _ =>
  (zrt (ret true)))
noncomputable def m_w_asked_right (p : (List (Str × Int × Int))) : M Unit Bool := zbody (b_w_asked_right p)
theorem f_w_asked_right {G : Gx} {D : Cl} (T : Txt G D) {f : Addr} {fd : FuncData} (F : Fun G.K "_law_asked_right" "_law_asked_right" t_w_asked_right f fd) : FnG false G.P G.w G.K G.mg G.base 3 f fd ["_law_standing"] (spZ G (fun _ : Unit => noE) (fun (q : Unit) (p : (List (Str × Int × Int))) => [(rVT (rT3 rStr rInt rInt)).pr p]) m_w_asked_right rBl) :=
  fn_ok (g := false) (k := 2) (mb := b_w_asked_right) (n := fun _ _ => stk) (Γn := fun _ _ _ => []) F sc_w_asked_right (fun _ _ => rfl) (fun _ => rfl) (.inl fun _ _ => rfl) fun q p W =>
  show ZB G k_w_asked_right _ W _ [.st ((rVT (rT3 rStr rInt rInt)).pr p), .no, .no, .no, .no, .no, .no] _ (b_w_asked_right p) _ from
  (zb_cons (zs_for (vs := [1, 2, 3]) (Γh := fun _ : Unit => [.st ((rVT (rT3 rStr rInt rInt)).pr p), .no, .no, .no, .no, .no, .no]) (zi_tup (z_var n_w_asked_right_0)) (SubL.sub (.keep (.keep (.keep (.keep (.keep (.keep (.keep SubL.nil)))))))) (fun _ => (zg_tup to3 (zgs_cons (zg_name s_w_asked_right_1 (by decide)) fun _ => (zgs_cons (zg_name s_w_asked_right_2 (by decide)) fun _ => (zgs_one (zg_name s_w_asked_right_3 (by decide))))))) (fun _ x1 =>
    (zb_cons (zs_if (Γn := fun _ : Unit => [.st ((rVT (rT3 rStr rInt rInt)).pr p), .st (rStr.pr x1.1), .st (rInt.pr x1.2.1), .st (rInt.pr x1.2.2), .no, .no, .no]) (zt_not (zt_val (z_callP (q := ()) (at_w_alike T) (by decide) (by decide) (by exact rfl) (za_cons (z_callP (q := ()) (at_coins_of T) (by decide) (by decide) (by exact rfl) (za_cons (z_var n_w_asked_right_0) (za_one (z_var n_w_asked_right_1)))) (za_one (z_var n_w_asked_right_3))))))
      (zb_one (zs_ret z_bl sub_nil))
      (zb_nil (SubL.sub (.keep (.keep (.keep (.keep (.keep (.keep (.keep SubL.nil))))))))) sub_nil) fun _ =>
    (zb_cons (zs_for (vs := [4, 5, 6]) (Γh := fun _ : Unit => [.st ((rVT (rT3 rStr rInt rInt)).pr p), .st (rStr.pr x1.1), .st (rInt.pr x1.2.1), .st (rInt.pr x1.2.2), .no, .no, .no]) (zi_tup (z_var n_w_asked_right_0)) (SubL.sub (.keep (.keep (.keep (.keep (.keep (.keep (.keep SubL.nil)))))))) (fun _ => (zg_tup to3 (zgs_cons (zg_name s_w_asked_right_4 (by decide)) fun _ => (zgs_cons (zg_name s_w_asked_right_5 (by decide)) fun _ => (zgs_one (zg_name s_w_asked_right_6 (by decide))))))) (fun _ x2 =>
      (zb_cons (zs_if (Γn := fun _ : Unit => [.st ((rVT (rT3 rStr rInt rInt)).pr p), .st (rStr.pr x1.1), .st (rInt.pr x1.2.1), .st (rInt.pr x1.2.2), .st (rStr.pr x2.1), .st (rInt.pr x2.2.1), .st (rInt.pr x2.2.2)]) (zt_not (zt_val (z_callP (q := ()) (at_w_alike T) (by decide) (by decide) (by exact rfl) (za_cons (z_callP (q := ()) (at_lead T) (by decide) (by decide) (by exact rfl) (za_cons (z_var n_w_asked_right_0) (za_cons (z_var n_w_asked_right_1) (za_one (z_var n_w_asked_right_4))))) (za_one (z_sub (z_var n_w_asked_right_2) (z_var n_w_asked_right_5)))))))
        (zb_one (zs_ret z_bl sub_nil))
        (zb_nil (SubL.sub (.keep (.keep (.keep (.keep (.keep (.keep (.keep SubL.nil))))))))) sub_nil) fun _ =>
      (zb_nil (SubL.sub (.keep (.keep (.keep (.keep (.drop (.drop (.drop SubL.nil))))))))))) sub_nil) fun _ =>
    (zb_nil (SubL.sub (.keep (.drop (.drop (.drop (.keep (.keep (.keep SubL.nil)))))))))))) sub_nil) fun _ =>
  (zb_one (zs_ret z_bl sub_nil)))
theorem at_w_asked_right {G : Gx} {D : Cl} (T : Txt G D) : FnAt false G "_law_asked_right" 3 ["_law_standing"] (spZ G (fun _ : Unit => noE) (fun (q : Unit) (p : (List (Str × Int × Int))) => [(rVT (rT3 rStr rInt rInt)).pr p]) m_w_asked_right rBl) :=
  let ⟨f, fd, h1, h2, h3, h4⟩ := T.d_w_asked_right; ⟨f, fd, h1, h2, h3, f_w_asked_right T h4⟩

def k_law : Sc := ⟨["_law_script", "_law_bag_here", "_law_turn", "_law_names_here", "_law_web", "_law_rows_here", "_law_k", "_law_hall", "_law_found", "_law_due_here", "_law_shown", "_law_row"], defScope t_law, 11, true, fun _ => true, true⟩
theorem sc_law : FnScope ["_law_script", "_law_bag_here", "_law_turn", "_law_names_here", "_law_web", "_law_rows_here", "_law_k", "_law_hall", "_law_found", "_law_due_here", "_law_shown", "_law_row"] ["_law_script"] (defScope t_law) := ⟨rfl, rfl, rfl, by decide +kernel, rfl, by decide +kernel, by decide +kernel⟩
theorem n_law_0 : Nm k_law 0 "_law_script" := nm_of (by decide +kernel)
theorem n_law_1 : Nm k_law 1 "_law_bag_here" := nm_of (by decide +kernel)
theorem s_law_1 : Ns k_law 1 "_law_bag_here" := ns_of (by decide +kernel)
theorem s_law_2 : Ns k_law 2 "_law_turn" := ns_of (by decide +kernel)
theorem n_law_3 : Nm k_law 3 "_law_names_here" := nm_of (by decide +kernel)
theorem s_law_3 : Ns k_law 3 "_law_names_here" := ns_of (by decide +kernel)
theorem n_law_4 : Nm k_law 4 "_law_web" := nm_of (by decide +kernel)
theorem s_law_4 : Ns k_law 4 "_law_web" := ns_of (by decide +kernel)
theorem n_law_5 : Nm k_law 5 "_law_rows_here" := nm_of (by decide +kernel)
theorem s_law_5 : Ns k_law 5 "_law_rows_here" := ns_of (by decide +kernel)
theorem s_law_6 : Ns k_law 6 "_law_k" := ns_of (by decide +kernel)
theorem n_law_7 : Nm k_law 7 "_law_hall" := nm_of (by decide +kernel)
theorem s_law_7 : Ns k_law 7 "_law_hall" := ns_of (by decide +kernel)
theorem n_law_8 : Nm k_law 8 "_law_found" := nm_of (by decide +kernel)
theorem s_law_8 : Ns k_law 8 "_law_found" := ns_of (by decide +kernel)
theorem n_law_9 : Nm k_law 9 "_law_due_here" := nm_of (by decide +kernel)
theorem s_law_9 : Ns k_law 9 "_law_due_here" := ns_of (by decide +kernel)
theorem n_law_10 : Nm k_law 10 "_law_shown" := nm_of (by decide +kernel)
theorem s_law_10 : Ns k_law 10 "_law_shown" := ns_of (by decide +kernel)
noncomputable def r_law (p : List Int) : M Bag (Fl Unit Empty Bool) :=
  (zseq (zforI (zapp frA1 (ret (8 : Int))) () fun _ x1 =>
    (zseq (zset (zapp m_w_names (zpair (ret ()) (zop2 iadd (ret (2 : Int)) (zapp m_w_take (zpair (ret ()) (zop2 ixat (zlist (zcons (ret (5 : Int)) (zcons (ret (5 : Int)) (zcons (ret (11 : Int)) (ret []))))) (zapp m_w_take (zpair (ret ()) (ret (3 : Int))))))))))) fun nameshere2 =>
    (zseq (zset (zapp (fun y => lft (m_Web_init y)) (zpair (zapp ret (ret nameshere2)) (zlist (zcons (zpair (zop2 ixat (ret nameshere2) (ret (0 : Int))) (zpair (zop2 ixat (ret nameshere2) (ret (1 : Int))) (zapp (fun x => lft (m_plain x)) (ret (3 : Int))))) (ret [])))))) fun web3 =>
    (zseq (zset (zget ((qL (Zk.q3 qS qI qI)) : DaQ (rLst (rT3 rStr rInt rInt))).d (zapp m_w_rows (zpair (ret ()) (ret nameshere2))))) fun rowshere4 =>
    (zseq (zforI (zapp frA1 (zapp m_w_take (zpair (ret ()) (ret (3 : Int))))) rowshere4 fun c5 x6 =>
      (zseq (zifS (zand (zget (isD "list") (zget qQ.d (ret c5))) (zand (zop2 dneP (ret c5) (zget ((qL qI) : DaQ (rLst rInt)).d (zlist ((ret []) : M _ (List Int))))) (zop2 feqNil (zlc (fun e7 => (znot (zapp (fun x => lft (m_w_is_row x)) (ret e7)))) (fun e7 => (ret e7)) (zgetP asL (ret c5))) (zlist ((ret []) : M _ (List Int))))))
        (zseq (zset (zapp m_w_bent (zpair (ret ()) (zgetP asLR (ret c5))))) fun rowshere9 =>
        (znx rowshere9))
        (znx c5)) fun j8 =>
      (znx j8))) fun c5 =>
    (zseq (zset (zop2 ixat (zlist (zcons (zget Sum.inl (ret web3)) (zcons (zget Sum.inl (ret web3)) (zcons (zget Sum.inl (ret web3)) (zcons (zget Sum.inl (ret web3)) (zcons (zget Sum.inl (ret web3)) (zcons (zget Sum.inr (zget (qN : DaQ rNon).d (ret ()))) (zcons (zget Sum.inr (zget ((qL qS) : DaQ (rLst rStr)).d (ret nameshere2))) (zcons (zget Sum.inr (zget (qS : DaQ rStr).d (ret ("web" : Str)))) (ret [])))))))))) (zapp m_w_take (zpair (ret ()) (ret (8 : Int)))))) fun hall10 =>
    (zseq (zset (zpair (zapp (fun x => lft (m_w_due x)) (zpair (ret nameshere2) (zpair (ret hall10) (ret c5)))) (zapp freprY (ret c5)))) fun w11 =>
    (zseq (zset (zapp (fun x => lft (m_w_told x)) (zpair (ret hall10) (ret c5)))) fun found12 =>
    (zseq (zifS (zor (zop2 fne (zapp (freprW (datU (DatR.w (dat2 datS (datV (dat3 datS datI datI)))) (datU (DatR.w (dat2 datS datI)) (DatR.w (dat2 datS datS))))) (ret found12)) (zapp (freprW (datU (DatR.w (dat2 datS datI)) (datU (DatR.w (dat2 datS datS)) (DatR.w (dat2 datS (datV (dat3 datS datI datI))))))) (ret w11.1))) (zop2 fne (zapp freprY (ret c5)) (ret w11.2)))
      (zrt (ret false))
      (znx ())) fun _ =>
    (zseq (zifS (zand (zop2 feq (zgetP (Sum.elim (fun x : (Str × Int) => some (x.1)) (Sum.elim (fun x : (Str × Str) => some (x.1)) (fun x : (Str × (List (Str × Int × Int))) => some (x.1)))) (ret w11.1)) (ret ("told" : Str))) (znot (zapp (fun x => lft (m_w_asked_right x)) (zapp munl (zgetP (Sum.elim (fun x => ((fun x : (Str × (List (Str × Int × Int))) => some (x.2)) x).map Sum.inl) (Sum.elim (fun x => ((fun x => ((fun x : (Str × Int) => some (x.2)) x).map Sum.inl) x).map Sum.inr) (fun x => ((fun x => ((fun x : (Str × Str) => some (x.2)) x).map Sum.inr) x).map Sum.inr))) (ret found12))))))
      (zrt (ret false))
      (znx ())) fun _ =>
    (znx ()))))))))))) fun _ =>
  (zrt (ret true)))
noncomputable def m_law (p : List Int) : M Unit Bool := zbody (zbag w_cells p (r_law p))
theorem f_law {G : Gx} {D : Cl} (T : Txt G D) {f : Addr} {fd : FuncData} (F : Fun G.K "law" "law" t_law f fd) : FnG true G.P G.w G.K G.mg G.base 12 f fd ["_law_script"] (spZ G (fun _ : Unit => noE) (fun (q : Unit) (p : List Int) => [(rSc G.K rInt).pr p]) m_law rBl) :=
  fn_ok (g := true) (k := 11) (mb := fun p => zbag w_cells p (r_law p)) (Γn := fun _ _ _ => []) F sc_law (fun _ _ => rfl) (fun _ => rfl) (.inl fun _ _ => rfl) fun q p W =>
  zb_bag (c := k_law) (at_w_bag T) (by decide) (by decide) rfl n_law_0 rfl s_law_1 fun q1 q2 =>
  show ZB G k_law _ W _ [.st ((rSc G.K rInt).pr p), .st ((rRef q1).pr ()), .no, .no, .no, .no, .no, .no, .no, .no, .no, .no] _ (r_law p) _ from
  (zb_cons (zs_for (vs := [2]) (Γh := fun _ : Unit => [.st ((rSc G.K rInt).pr p), .st ((rRef q1).pr ()), .no, .no, .no, .no, .no, .no, .no, .no, .no, .no]) (zi_r1 (blt_of (u := .type "range") T.b_range (by decide +kernel)) z_int) (SubL.sub (.keep (.keep (.keep (.keep (.keep (.keep (.keep (.keep (.keep (.keep (.keep (.keep SubL.nil))))))))))))) (fun _ => (zg_name s_law_2 (by decide))) (fun _ x1 =>
    (zb_cons (zs_set s_law_3 (z_call (q := (q1, q2)) (at_w_names T) rfl (by decide) (by decide) (by exact rfl) (za_cons (z_var n_law_1) (za_one (z_add z_int (z_call (q := (q1, q2)) (at_w_take T) rfl (by decide) (by decide) (by exact rfl) (za_cons (z_var n_law_1) (za_one (z_ixL (z_list (zl_cons z_int (zl_cons z_int (zl_cons z_int zl_nil)))) (z_call (q := (q1, q2)) (at_w_take T) rfl (by decide) (by decide) (by exact rfl) (za_cons (z_var n_law_1) (za_one z_int))))))))))) sub_nil) fun nameshere2 =>
    (zb_cons (zs_set s_law_4 (z_makeS (mk_Web_init T) T.g_Web (by decide) (by decide) rfl (za_cons (z_listL (blt_of (u := .type "list") T.b_list (by decide +kernel)) (z_var n_law_3)) (za_one (z_list (zl_cons (z_tup3 (za_cons (R := rStr) (A := fun y : (Str × XLadder) => [rStr.pr y.1, (rLadder D).pr y.2]) (z_ixL (z_var n_law_3) z_int) (za_cons (R := rStr) (A := fun y : XLadder => [(rLadder D).pr y]) (z_ixL (z_var n_law_3) z_int) (za_one (z_callP (q := ()) (at_plain T) (by decide) (by decide) (by exact rfl) (za_one z_int)))))) zl_nil))))) sub_nil) fun web3 =>
    (zb_cons (zs_set s_law_5 (z_q (qL (Zk.q3 qS qI qI)) (z_call (q := (q1, q2)) (at_w_rows T) rfl (by decide) (by decide) (by exact rfl) (za_cons (z_var n_law_1) (za_one (z_var n_law_3))))) sub_nil) fun rowshere4 =>
    (zb_cons (zs_for (vs := [6]) (Γh := fun c5 : PyData => [.st ((rSc G.K rInt).pr p), .st ((rRef q1).pr ()), .st (rInt.pr x1), .st ((rLst rStr).pr nameshere2), .st ((rWeb G D).pr web3), .st (rQ.pr c5), .no, .no, .no, .no, .no, .no]) (zi_r1 (blt_of (u := .type "range") T.b_range (by decide +kernel)) (z_call (q := (q1, q2)) (at_w_take T) rfl (by decide) (by decide) (by exact rfl) (za_cons (z_var n_law_1) (za_one z_int)))) (SubL.sub (.keep (.keep (.keep (.keep (.keep (.keep (.keep (.keep (.keep (.keep (.keep (.keep SubL.nil))))))))))))) (fun c5 => (zg_name s_law_6 (by decide))) (fun c5 x6 =>
      (zb_cons (zs_if (Γn := fun j8 : PyData => [.st ((rSc G.K rInt).pr p), .st ((rRef q1).pr ()), .st (rInt.pr x1), .st ((rLst rStr).pr nameshere2), .st ((rWeb G D).pr web3), .st (rQ.pr j8), .st (rInt.pr x6), .no, .no, .no, .no, .no]) (zw_t (zw_and (zt_val (z_isiX (blt_of (u := .builtin "isinstance") T.b_isinstance (by decide +kernel)) (blt_of (u := .type "list") T.b_list (by decide +kernel)) (fun d => by cases d <;> rfl) (z_x qQ (z_var n_law_5)))) (zw_and (zt_dneP (z_var n_law_5) (z_q (qL qI) (z_list zl_nil))) (zw_and1 (zt_eqNil (R1 := rInt) (z_lc (Lc.mk (own := [("_law_row", 11)]) (blk_of rfl (by decide +kernel)) (zi_list (z_as as_L (z_var n_law_5))) (zg_name (ns_of (i := 11) (by decide +kernel)) (by decide)) (fun e7 => (zts_one (zt_not (zt_val (z_callP (q := ()) (at_w_is_row T) (by decide) (by decide) (by exact rfl) (za_one (z_var (nm_of (i := 11) (by decide +kernel))))))))) (fun e7 => (z_var (nm_of (i := 11) (by decide +kernel)))) (lc_no ⟨rfl, trivial⟩) (fun _ _ => rfl))) (z_list zl_nil))))))
        (zb_cons (zs_set s_law_5 (z_call (q := (q1, q2)) (at_w_bent T) rfl (by decide) (by decide) (by exact rfl) (za_cons (z_var n_law_1) (za_one (z_as as_LR (z_var n_law_5))))) sub_nil) fun rowshere9 =>
        (zb_nil (SubL.sub (.keep (.keep (.keep (.keep (.keep (.keep (.keep (.keep (.keep (.keep (.keep (.keep SubL.nil)))))))))))))))
        (zb_nil (SubL.sub (.keep (.keep (.keep (.keep (.keep (.keep (.keep (.keep (.keep (.keep (.keep (.keep SubL.nil)))))))))))))) sub_nil) fun j8 =>
      (zb_nil (SubL.sub (.keep (.keep (.keep (.keep (.keep (.keep (.drop (.keep (.keep (.keep (.keep (.keep SubL.nil)))))))))))))))) sub_nil) fun c5 =>
    (zb_cons (zs_set s_law_7 (z_ixL (z_list (R := (rSum (rWeb G D) rQ)) (zl_cons (z_inl (z_var n_law_4)) (zl_cons (z_inl (z_var n_law_4)) (zl_cons (z_inl (z_var n_law_4)) (zl_cons (z_inl (z_var n_law_4)) (zl_cons (z_inl (z_var n_law_4)) (zl_cons (z_inr (z_q qN z_non)) (zl_cons (z_inr (z_q (qL qS) (z_var n_law_3))) (zl_cons (z_inr (z_q qS z_str)) zl_nil))))))))) (z_call (q := (q1, q2)) (at_w_take T) rfl (by decide) (by decide) (by exact rfl) (za_cons (z_var n_law_1) (za_one z_int)))) sub_nil) fun hall10 =>
    (zb_cons (zs_par2 s_law_9.n s_law_10.n rfl rfl (by decide) (za_cons (z_callP (q := ()) (at_w_due T) (by decide) (by decide) (by exact rfl) (za_cons (z_var n_law_3) (za_cons (z_var n_law_7) (za_one (z_var n_law_5))))) (za_one (z_reprY rfl (blt_of (u := .builtin "repr") T.b_repr (by decide +kernel)) (z_var n_law_5)))) sub_nil) fun w11 =>
    (zb_eq (Γ' := [.st ((rSc G.K rInt).pr p), .st ((rRef q1).pr ()), .st (rInt.pr x1), .st ((rLst rStr).pr nameshere2), .st ((rWeb G D).pr web3), .st (rQ.pr c5), .no, .st ((rSum (rWeb G D) rQ).pr hall10), .no, .st ((rSum (rT2 rStr rInt) (rSum (rT2 rStr rStr) (rT2 rStr (rVT (rT3 rStr rInt rInt))))).pr w11.1), .st (rStr.pr w11.2), .no]) rfl (zb_cons (zs_set s_law_8 (z_callP (q := ()) (at_w_told T) (by decide) (by decide) (by exact rfl) (za_cons (z_var n_law_7) (za_one (z_var n_law_5)))) sub_nil) fun found12 =>
    (zb_cons (zs_if (Γn := fun _ : Unit => [.st ((rSc G.K rInt).pr p), .st ((rRef q1).pr ()), .st (rInt.pr x1), .st ((rLst rStr).pr nameshere2), .st ((rWeb G D).pr web3), .st (rQ.pr c5), .no, .st ((rSum (rWeb G D) rQ).pr hall10), .st ((rSum (rT2 rStr (rVT (rT3 rStr rInt rInt))) (rSum (rT2 rStr rInt) (rT2 rStr rStr))).pr found12), .st ((rSum (rT2 rStr rInt) (rSum (rT2 rStr rStr) (rT2 rStr (rVT (rT3 rStr rInt rInt))))).pr w11.1), .st (rStr.pr w11.2), .no]) (zw_t (zw_or (zt_ne scS (z_reprW (datU (DatR.w (dat2 datS (datV (dat3 datS datI datI)))) (datU (DatR.w (dat2 datS datI)) (DatR.w (dat2 datS datS)))) (rf_sum rf2 (rf_sum rf2 rf2)) rfl (blt_of (u := .builtin "repr") T.b_repr (by decide +kernel)) (z_var n_law_8)) (z_reprW (datU (DatR.w (dat2 datS datI)) (datU (DatR.w (dat2 datS datS)) (DatR.w (dat2 datS (datV (dat3 datS datI datI)))))) (rf_sum rf2 (rf_sum rf2 rf2)) rfl (blt_of (u := .builtin "repr") T.b_repr (by decide +kernel)) (z_var n_law_9))) (zw_or1 (zt_ne scS (z_reprY rfl (blt_of (u := .builtin "repr") T.b_repr (by decide +kernel)) (z_var n_law_5)) (z_var n_law_10)))))
      (zb_one (zs_ret z_bl sub_nil))
      (zb_nil (SubL.sub (.keep (.keep (.keep (.keep (.keep (.keep (.keep (.keep (.keep (.keep (.keep (.keep SubL.nil)))))))))))))) sub_nil) fun _ =>
    (zb_cons (zs_if (Γn := fun _ : Unit => [.st ((rSc G.K rInt).pr p), .st ((rRef q1).pr ()), .st (rInt.pr x1), .st ((rLst rStr).pr nameshere2), .st ((rWeb G D).pr web3), .st (rQ.pr c5), .no, .st ((rSum (rWeb G D) rQ).pr hall10), .st ((rSum (rT2 rStr (rVT (rT3 rStr rInt rInt))) (rSum (rT2 rStr rInt) (rT2 rStr rStr))).pr found12), .st ((rSum (rT2 rStr rInt) (rSum (rT2 rStr rStr) (rT2 rStr (rVT (rT3 rStr rInt rInt))))).pr w11.1), .st (rStr.pr w11.2), .no]) (zw_t (zw_and (zt_eq scS (z_atP (tp_sum (tp_yes t2_0) (tp_sum (tp_yes t2_0) (tp_yes t2_0))) (z_var n_law_9)) z_str) (zw_and1 (zt_not (zt_val (z_callP (q := ()) (at_w_asked_right T) (by decide) (by decide) (by exact rfl) (za_one (z_unl (z_atP (tp_sum (tp_inl (tp_yes t2_1)) (tp_sum (tp_inr (tp_inl (tp_yes t2_1))) (tp_inr (tp_inr (tp_yes t2_1))))) (z_var n_law_8))))))))))
      (zb_one (zs_ret z_bl sub_nil))
      (zb_nil (SubL.sub (.keep (.keep (.keep (.keep (.keep (.keep (.keep (.keep (.keep (.keep (.keep (.keep SubL.nil)))))))))))))) sub_nil) fun _ =>
    (zb_nil (SubL.sub (.keep (.keep (.drop (.drop (.drop (.drop (.keep (.drop (.drop (.drop (.drop (.keep SubL.nil))))))))))))))))))))))))) sub_nil) fun _ =>
  (zb_one (zs_ret z_bl sub_nil)))
end Zk

namespace Zk
open PySem L2
theorem ok_cellat {n : M Bag Int} : Ok Bok (zifS (zop2 ilt (bget Bag.pos) (zapp blen (ret ()))) (zseq (zset (bcell (ret ()) (bget Bag.pos))) fun c => znx c) (znx (0 : Int)) : M Bag (Fl Int Empty Int)) (fun o => match o with | .nx v => 0 ≤ v | _ => False) := fun s hs => by
  obtain ⟨h1, h2, h3, h4⟩ := id hs
  by_cases hp : s.pos < s.cells.length
  · have e : atI s.cells s.pos = some (s.cells[s.pos.toNat]'(by omega)) := atI_nat h3 (by omega)
    refine ⟨.nx _, s, ?_, hs, h4 _ (List.getElem_mem (by omega : s.pos.toNat < s.cells.length))⟩
    simp only [zifS, zop2, bnd, bget, zapp, ret, blen, ilt, hp, decide_true, if_true, zseq, zset, bcell, e, znx]
  · refine ⟨.nx 0, s, ?_, hs, Int.le_refl 0⟩
    simp only [zifS, zop2, bnd, bget, zapp, ret, blen, ilt, hp, decide_false, znx]
    rfl
theorem ok_take {n : Int} (h1 : 1 ≤ n) (h2 : n < 2 ^ 9000) : Ok Bok (m_w_take ((), n)) (fun v => 0 ≤ v ∧ v < n) := by
  unfold m_w_take b_w_take
  refine ok_body ?_
  refine oks_seq (N := fun _ => True) (oks_if (P := fun _ => True) (ok_op2 (P1 := fun _ => True) (P2 := fun _ => True) (ok_bget fun _ _ => trivial) (ok_ret trivial) fun a b _ _ => ok_ret trivial) (fun _ => ?_) (fun _ => oks_nx trivial)) fun _ _ => ?_
  · refine oks_seq (N := fun v => v = 0) (oks_set (ok_ret rfl)) fun c hc => ?_
    subst hc
    refine oks_seq (N := fun v => 0 ≤ v) (fun s hs => ?_) fun j hj => ?_
    · obtain ⟨o, s', e, i, p⟩ := ok_cellat (n := ret 0) s hs
      cases o with
      | nx a => exact ⟨_, _, e, i, p⟩
      | rt a => exact p.elim
      | bk a => exact p.elim
      | ct a => exact p.elim
    refine oks_seq (oks_bput (P := fun v => 0 ≤ v) (ok_op2 (P1 := fun v => 0 ≤ v) (P2 := fun v => v = 1) (ok_bget fun s hs => hs.2.2.1) (ok_ret rfl) fun a b ha hb => ok_ret (by omega)) fun s v hs hv => ⟨hs.1, hs.2.1, hv, hs.2.2.2⟩) fun _ _ => ?_
    refine oks_seq (N := fun _ => True) (oks_if (P := fun _ => True) (ok_ret trivial) (fun _ => ?_) (fun _ => oks_nx trivial)) fun _ _ => ?_
    · exact oks_seq (oks_bput (P := fun v => 0 ≤ v) (ok_ret hj) fun s v hs hv => ⟨hv, hs.2.1, hs.2.2.1, hs.2.2.2⟩) fun _ _ => oks_nx trivial
    refine oks_seq (oks_bput (P := fun v => 0 ≤ v) ?_ fun s v hs hv => ⟨hs.1, hv, hs.2.2.1, hs.2.2.2⟩) fun _ _ => oks_nx trivial
    refine ok_op2 (P1 := fun v => 0 ≤ v) (P2 := fun v => v = 2147483647) ?_ (ok_ret rfl) fun a b ha hb => ?_
    · refine ok_op2 (P1 := fun v => 0 ≤ v) (P2 := fun v => 0 ≤ v) (ok_op2 (P1 := fun v => 0 ≤ v) (P2 := fun v => 0 ≤ v) ?_ ?_ fun a b ha hb => ok_ret (by omega)) ?_ fun a b ha hb => ok_ret (by omega)
      · refine ok_op2 (P1 := fun v => 0 ≤ v) (P2 := fun v => v = 48271) (ok_bget fun s hs => hs.2.1) (ok_ret rfl) fun a b ha hb => ?_
        subst hb; rw [imul_eq (mul_small (by omega))]; exact ok_ret (by omega)
      · rw [zop2_ret, imod_eq (by omega)]; exact ok_ret (by omega)
      · refine ok_op2 (P1 := fun v => v = 7919) (P2 := fun v => 0 ≤ v) (ok_ret rfl) (ok_bget fun s hs => hs.2.2.1) fun a b ha hb => ?_
        subst ha; rw [imul_eq (mul_smallL (by omega))]; exact ok_ret (by omega)
    · subst hb; rw [imod_eq (by omega)]; exact ok_ret (by omega)
  refine oks_seq (N := fun _ => True) (oks_if (P := fun _ => True) (ok_op2 (P1 := fun _ => True) (P2 := fun _ => True) (ok_bget fun _ _ => trivial) (ok_ret trivial) fun a b _ _ => ok_ret trivial) (fun _ => ?_) (fun _ => oks_nx trivial)) fun _ _ => ?_
  · refine oks_seq (N := fun v => 0 ≤ v ∧ v < n) (oks_set (ok_op2 (P1 := fun v => 0 ≤ v) (P2 := fun v => v = n) (ok_bget fun s hs => hs.1) (ok_ret rfl) fun a b ha hb => ?_)) fun v hv => ?_
    · subst hb; rw [imod_eq (by omega)]; exact ok_ret ⟨Int.emod_nonneg _ (by omega), Int.emod_lt_of_pos _ (by omega)⟩
    · refine oks_seq (oks_bput (P := fun v => 0 ≤ v) (ok_op2 (P1 := fun v => 0 ≤ v) (P2 := fun v => v = n) (ok_bget fun s hs => hs.1) (ok_ret rfl) fun a b ha hb => ?_) fun s v hs hv => ⟨hv, hs.2.1, hs.2.2.1, hs.2.2.2⟩) fun _ _ => oks_rt (ok_ret hv)
      subst hb; rw [idiv_eq (div_ok (by omega) h2)]; exact ok_ret (Int.ediv_nonneg ha (by omega))
  refine oks_seq (N := fun v => 0 ≤ v ∧ v < 1000000007) (oks_set (ok_op2 (P1 := fun v => 0 ≤ v) (P2 := fun v => v = 1000000007) ?_ (ok_ret rfl) fun a b ha hb => ?_)) fun f hf => ?_
  · refine ok_op2 (P1 := fun v => 0 ≤ v) (P2 := fun v => v = 39373) (ok_op2 (P1 := fun v => 0 ≤ v) (P2 := fun v => v = 1) (ok_bget fun s hs => hs.2.1) (ok_ret rfl) fun a b ha hb => ok_ret (by omega)) (ok_ret rfl) fun a b ha hb => ?_
    subst hb; rw [imul_eq (mul_small (by omega))]; exact ok_ret (by omega)
  · subst hb; rw [imod_eq (by omega)]; exact ok_ret (by omega)
  have e1 : (zop2 imod (zop2 imul (zop2 imod (zop2 imul (ret f) (ret f)) (ret (998244353 : Int))) (ret (30011 : Int))) (ret (998244353 : Int)) : M Bag Int) = ret (f * f % 998244353 * 30011 % 998244353) := by
    rw [zop2_ret, imul_eq (mul_small (by omega)), zop2_ret, imod_eq (by omega), zop2_ret, imul_eq (mul_small (by omega)), zop2_ret, imod_eq (by omega)]
  rw [e1, zset_ret, zseq_nx]
  have hs : 0 ≤ f * f % 998244353 * 30011 % 998244353 ∧ f * f % 998244353 * 30011 % 998244353 < 998244353 := by omega
  generalize f * f % 998244353 * 30011 % 998244353 = g at hs
  rw [zop2_ret, igt_eq, zifS_ret]
  split
  · rw [zop2_ret, imul_eq (mul_small (by omega)), zop2_ret, iadd_eq, zop2_ret, imod_eq (by omega), zrt_ret, zseq_rt]
    exact oks_rt (ok_ret ⟨Int.emod_nonneg _ (by omega), Int.emod_lt_of_pos _ (by omega)⟩)
  · rw [znx_ret, zseq_nx, zop2_ret, idiv_eq (div_ok (by omega) (by omega)), zop2_ret, imod_eq (by omega), zrt_ret]
    exact oks_rt (ok_ret ⟨Int.emod_nonneg _ (by omega), Int.emod_lt_of_pos _ (by omega)⟩)
theorem ok_tk {u : Unit} {n : Int} (h1 : 1 ≤ n) (h2 : n < 2 ^ 9000) : Ok Bok (m_w_take (u, n)) (fun v => 0 ≤ v ∧ v < n) := ok_take h1 h2
end Zk

namespace Zk
open PySem L2
/-! ### texts by their signs -/
abbrev Ls_ (x : Str) : List Nat := x.cps.toList
theorem ls_inj {x y : Str} (h : Ls_ x = Ls_ y) : x = y := by
  cases x; cases y
  simp only [Ls_, Str.mk.injEq] at *
  exact Array.toList_inj.mp h
theorem ls_len (x : Str) : x.length = (Ls_ x).length := by show x.cps.size = _; simp
theorem ls_cat (x y : Str) : Ls_ (x ++ y) = Ls_ x ++ Ls_ y := by show (x.cps ++ y.cps).toList = _; simp
theorem ls_mk (l : List Nat) : Ls_ ⟨l.toArray⟩ = l := rfl
theorem slice_to {x : Str} {j : Int} (h : 0 ≤ j ∧ j ≤ (Ls_ x).length) : Ls_ (Txt.slice x none (some j)) = (Ls_ x).take j.toNat := by
  have e : Txt.slice x none (some j) = _ := StrLaws.sliceText_to (x := x) (j := j) h
  rw [e]; simp
theorem slice_from {x : Str} {i : Int} (h : 0 ≤ i ∧ i ≤ (Ls_ x).length) : Ls_ (Txt.slice x (some i) none) = (Ls_ x).drop i.toNat := by
  have e : Txt.slice x (some i) none = _ := StrLaws.sliceText_from (x := x) (i := i) h
  rw [e, ls_mk, List.take_of_length_le (by rw [List.length_drop]; omega)]
theorem foldl_reps (c : Array Nat) : ∀ (n : Nat) (acc : Array Nat), ((List.replicate n c).foldl (· ++ ·) acc).toList = acc.toList ++ (List.replicate n c.toList).flatten
  | 0, acc => by simp
  | n + 1, acc => by
    rw [List.replicate_succ, List.foldl_cons, foldl_reps c n (acc ++ c), List.replicate_succ, List.flatten_cons]
    simp
theorem ls_mul {x : Str} {k : Int} (h : 0 ≤ k) : Ls_ (Txt.mul x k) = (List.replicate k.toNat (Ls_ x)).flatten := by
  unfold Txt.mul
  by_cases h1 : k < 1
  · rw [if_pos h1, show k = 0 by omega]; rfl
  · rw [if_neg h1]
    by_cases h2 : (k == 1 || x.length == 0) = true
    · rw [if_pos h2]
      rcases (Bool.or_eq_true _ _).mp h2 with z | z
      · rw [show k = 1 from by simpa using z]; simp
      · have : Ls_ x = [] := by
          have : x.length = 0 := by simpa using z
          rw [ls_len] at this; exact List.length_eq_zero_iff.mp this
        rw [this]; simp
    · rw [if_neg h2]
      show ((List.replicate k.toNat x.cps).foldl (· ++ ·) #[]).toList = _
      rw [foldl_reps]; simp
section
variable {τ : Type}
theorem sixat_eq {x : Str} {i : Int} {c : Nat} (hl : x.length ≤ 1000) (h : atI (Ls_ x) i = some c) : (sixat x i : M τ Str) = ret ⟨#[c]⟩ := by
  unfold sixat; rw [chk_pos (Nat.le_trans hl (by decide)), h]
theorem smul_eq {x : Str} {k : Int} (h : 0 ≤ k ∧ k ≤ 1000) (hl : x.length ≤ 1000) : (smul x k : M τ Str) = ret (Txt.mul x k) := by
  unfold smul
  have : x.length * k.toNat ≤ 1000 * 1000 := Nat.mul_le_mul hl (by omega)
  rw [chk_pos ⟨by omega, by omega, Nat.le_trans this (by decide)⟩]
theorem scat_eq {x y : Str} (h : x.length + y.length ≤ 100000) : (scat x y : M τ Str) = ret (x ++ y) := by
  unfold scat; rw [chk_pos (Nat.le_trans h (by decide))]
theorem flenS_eq {x : Str} (h : x.length ≤ 100000) : (flenS x : M τ Int) = ret ((Ls_ x).length : Int) := by
  unfold flenS; rw [chk_pos (Nat.le_trans h (by decide)), ls_len]
theorem zslS_ret {x : Str} {l h : Option Int} (hl : x.length ≤ 100000) : zslS (ret x) (ret l) (ret h) = (ret (Txt.slice x l h) : M τ Str) := by
  unfold zslS; rw [bnd_ret, bnd_ret, bnd_ret, chk_pos (Nat.le_trans hl (by decide))]
end
/-! ### names -/
def abc : Str := "abcdefghijklmnopqrstuvwxyz"
theorem ls_abc : Ls_ abc = (List.range 26).map (97 + ·) := by decide
theorem abc_at {i : Int} (h : 0 ≤ i ∧ i < 26) : atI (Ls_ abc) i = some (97 + i.toNat) := by
  rw [atI_nat h.1 (by rw [ls_abc]; simp; omega)]
  simp only [ls_abc, List.getElem_map, List.getElem_range]
theorem abc_len : abc.length ≤ 1000 := by decide
structure NameOk (n : Str) : Prop where
  len : 1 ≤ (Ls_ n).length ∧ (Ls_ n).length ≤ 8
  abc : ∀ c ∈ Ls_ n, 97 ≤ c ∧ c ≤ 122
theorem nodup_on {T U : Type} {g : T → U} : ∀ {l : List T}, (∀ a ∈ l, ∀ b ∈ l, g a = g b → a = b) → l.Nodup → (l.map g).Nodup
  | [], _, _ => List.nodup_nil
  | a :: l, h, n => by
    rw [List.nodup_cons] at n
    rw [List.map_cons, List.nodup_cons]
    refine ⟨fun z => ?_, nodup_on (fun x hx y hy => h x (by simp [hx]) y (by simp [hy])) n.2⟩
    obtain ⟨b, hb, e⟩ := List.mem_map.mp z
    exact n.1 (h b (by simp [hb]) a (by simp) e ▸ hb)
theorem rng_nodup (lo : Int) (n : Nat) : (rng lo n).Nodup := nodup_map (fun a b h => by omega) List.nodup_range
def NamesOk (k : Int) (ns : List Str) : Prop := (ns.length : Int) = k ∧ ns.Nodup ∧ ∀ n ∈ ns, NameOk n
theorem names_map {k : Int} (hk : 0 ≤ k) {g : Int → Str} (h1 : ∀ e, 0 ≤ e → e < k → NameOk (g e)) (h2 : ∀ e e', 0 ≤ e → e < k → 0 ≤ e' → e' < k → g e = g e' → e = e') : NamesOk k ((rng 0 k.toNat).map g) :=
  ⟨by rw [List.length_map, rng_length]; omega, nodup_on (fun a ha b hb e => by
    have := mem_rng.mp ha; have := mem_rng.mp hb
    exact h2 a b (by omega) (by omega) (by omega) (by omega) e) (rng_nodup _ _), fun n hn => by
    obtain ⟨e, he, rfl⟩ := List.mem_map.mp hn
    have := mem_rng.mp he
    exact h1 e (by omega) (by omega)⟩
theorem rng_ix {τ : Type} {T : Type} {k : Nat} {g : Int → T} {e : Int} (h : 0 ≤ e ∧ e < k) : (ixat ((rng 0 k).map g) e : M τ T) = ret (g e) := by
  rw [ixat_nat h.1 (by rw [List.length_map, rng_length]; omega)]
  congr 1
  rw [List.getElem_map]
  congr 1
  unfold rng
  rw [List.getElem_map, List.getElem_range]; omega
theorem ok_names {u : Unit} {k : Int} (h : 1 ≤ k ∧ k ≤ 12) : Ok Bok (m_w_names (u, k)) (NamesOk k) := by
  have hs : sizeLine = 16777216 := by decide
  unfold m_w_names b_w_names
  refine ok_body ?_
  rw [show ("abcdefghijklmnopqrstuvwxyz" : Str) = abc from rfl, zset_ret, zseq_nx]
  refine oks_seq (N := fun base => ∃ c m, 97 ≤ c ∧ c ≤ 122 ∧ 1 ≤ m ∧ m ≤ 8 ∧ Ls_ base = List.replicate m c) (oks_set ?_) fun base hb => ?_
  · refine ok_op2 (P1 := fun x => ∃ c : Nat, 97 ≤ c ∧ c ≤ 122 ∧ x = ⟨#[c]⟩) (P2 := fun m => 1 ≤ m ∧ m ≤ 8) (ok_op2 (P1 := fun x => x = abc) (P2 := fun i => 0 ≤ i ∧ i < 26) (ok_ret rfl) (by rw [zpair_ret, zapp_ret]; exact ok_tk (by omega) (by omega)) fun x i hx hi => ?_) (ok_op2 (P1 := fun x => x = 1) (P2 := fun i => 0 ≤ i ∧ i < 8) (ok_ret rfl) (by rw [zpair_ret, zapp_ret]; exact ok_tk (by omega) (by omega)) fun x i hx hi => ok_ret (by omega)) fun x m hx hm => ?_
    · subst hx
      rw [sixat_eq abc_len (abc_at hi)]
      exact ok_ret ⟨97 + i.toNat, by omega, by omega, rfl⟩
    · obtain ⟨c, h1, h2, rfl⟩ := hx
      rw [smul_eq (by omega) (by show 1 ≤ 1000; omega)]
      refine ok_ret ⟨c, m.toNat, h1, h2, by omega, by omega, ?_⟩
      rw [ls_mul (by omega)]
      show (List.replicate m.toNat [c]).flatten = _
      rw [List.flatten_replicate_singleton]
  obtain ⟨c, m, hc1, hc2, hm1, hm2, eb⟩ := hb
  have hbl : base.length = m := by rw [ls_len, eb, List.length_replicate]
  have lb : (Ls_ base).length = m := by rw [eb, List.length_replicate]
  rw [zapp_ret, flenS_eq (by omega), zpair_ret, zapp_ret, lb]
  refine oks_seq (oks_set (ok_tk (by omega) (by omega))) fun spot hsp => ?_
  refine oks_seq (oks_set (by rw [zpair_ret, zapp_ret]; exact ok_tk (by omega) (by omega))) fun turn ht => ?_
  refine oks_seq (oks_set (by rw [zpair_ret, zapp_ret]; exact ok_tk (by omega) (by omega))) fun way hw => ?_
  rw [zop2_ret, feq_eq, zop2_ret, ilt_eq, zand_rr, zifS_ret]
  by_cases hway : (decide (way = 0) && decide (k < 9)) = true
  · rw [if_pos hway]
    have hk9 : k < 9 := by
      have := (Bool.and_eq_true _ _).mp hway
      simpa using this.2
    rw [zapp_ret, frA1_eq, zlc_map (g := fun e => (⟨(List.replicate (e + 1).toNat (97 + turn.toNat)).toArray⟩ : Str)) (fun e he => ?_) (by rw [rng_length, hs]; omega), zrt_ret, zseq_rt]
    · refine oks_rt (ok_ret (names_map (by omega) (fun e h0 h1 => ⟨?_, fun x hx => ?_⟩) fun e e' h0 h1 h0' h1' z => ?_))
      · rw [ls_mk, List.length_replicate]; omega
      · rw [ls_mk] at hx
        have := List.eq_of_mem_replicate hx
        omega
      · have := congrArg (fun x => (Ls_ x).length) z
        simp only [ls_mk, List.length_replicate] at this
        omega
    · have := mem_rng.mp he
      rw [zop2_ret, sixat_eq abc_len (abc_at ht), zop2_ret, smul_eq (by omega) (by show 1 ≤ 1000; omega), zop2_ret, iadd_eq, zsome_ret]
      have e8 : Ls_ (Txt.mul (⟨#[97 + turn.toNat]⟩ : Str) 8) = List.replicate 8 (97 + turn.toNat) := by
        rw [ls_mul (by omega)]
        show (List.replicate 8 [97 + turn.toNat]).flatten = _
        rw [List.flatten_replicate_singleton]
      rw [zslS_ret (by rw [ls_len, e8, List.length_replicate]; omega)]
      congr 1
      refine ls_inj ?_
      rw [slice_to (by rw [e8, List.length_replicate]; omega), e8, ls_mk, List.take_replicate]
      congr 1; omega
  rw [if_neg hway, znx_ret, zseq_nx]
  obtain ⟨g1, lg1⟩ : ∃ g1 : Int → Str, ∀ e, Ls_ (g1 e) = (Ls_ base).take spot.toNat ++ [97 + ((turn + e) % 26).toNat] ++ (Ls_ base).drop (spot.toNat + 1) := ⟨fun e => ⟨((Ls_ base).take spot.toNat ++ [97 + ((turn + e) % 26).toNat] ++ (Ls_ base).drop (spot.toNat + 1)).toArray⟩, fun e => rfl⟩
  have ln1 : ∀ e, (Ls_ (g1 e)).length = m := fun e => by
    rw [lg1]; simp only [List.length_append, List.length_take, List.length_drop, lb, List.length_singleton]; omega
  have abc1 : ∀ e, ∀ x ∈ Ls_ (g1 e), 97 ≤ x ∧ x ≤ 122 := fun e x hx => by
    rw [lg1] at hx
    rcases List.mem_append.mp hx with hx | hx
    · rcases List.mem_append.mp hx with hx | hx
      · have := List.mem_of_mem_take hx
        rw [eb] at this
        have := List.eq_of_mem_replicate this; omega
      · have := List.mem_singleton.mp hx; omega
    · have := List.mem_of_mem_drop hx
      rw [eb] at this
      have := List.eq_of_mem_replicate this; omega
  have at1 : ∀ e, (Ls_ (g1 e))[spot.toNat]? = some (97 + ((turn + e) % 26).toNat) := fun e => by
    rw [lg1, List.append_assoc, List.getElem?_append_right (by rw [List.length_take]; omega)]
    have : spot.toNat - (List.take spot.toNat (Ls_ base)).length = 0 := by rw [List.length_take]; omega
    rw [this]; rfl
  have ef : (zlc (fun e8 => (ret true)) (fun e8 => (zop2 scat (zop2 scat (zslS (ret base) (ret none) (zsome (ret spot))) (zop2 sixat (ret abc) (zop2 imod (zop2 iadd (ret turn) (ret e8)) (ret (26 : Int))))) (zslS (ret base) (zsome (zop2 iadd (ret spot) (ret (1 : Int)))) (ret none)))) (zapp frA1 (ret k)) : M Bag (List Str)) = ret ((rng 0 k.toNat).map g1) := by
    rw [zapp_ret, frA1_eq, zlc_map (g := g1) (fun e he => ?_) (by rw [rng_length, hs]; omega)]
    have := mem_rng.mp he
    have e1 : Ls_ (Txt.slice base none (some spot)) = (Ls_ base).take spot.toNat := slice_to (by omega)
    have e2 : Ls_ (Txt.slice base (some (spot + 1)) none) = (Ls_ base).drop (spot + 1).toNat := slice_from (by omega)
    rw [zsome_ret, zslS_ret (by omega), zop2_ret, iadd_eq, zop2_ret, imod_eq (by omega), zop2_ret, sixat_eq abc_len (abc_at ⟨Int.emod_nonneg _ (by omega), Int.emod_lt_of_pos _ (by omega)⟩), zop2_ret, scat_eq (by rw [ls_len, e1, List.length_take]; show _ + 1 ≤ _; omega), zop2_ret, iadd_eq, zsome_ret, zslS_ret (by omega), zop2_ret, scat_eq (by
      rw [ls_len, ls_len, ls_cat, e1, e2, List.length_append, List.length_take, List.length_drop]; show _ + 1 + _ ≤ _; omega)]
    congr 1
    refine ls_inj ?_
    rw [ls_cat, ls_cat, e1, e2, lg1]
    congr 2; omega
  rw [ef, zset_ret, zseq_nx]
  have inj : ∀ e e' : Int, 0 ≤ e → e < k → 0 ≤ e' → e' < k → 97 + ((turn + e) % 26).toNat = 97 + ((turn + e') % 26).toNat → e = e' := fun e e' h0 h1 h0' h1' z => by omega
  rw [zop2_ret, feq_eq, zop2_ret, ilt_eq, zand_rr, zifS_ret]
  refine oks_seq (N := NamesOk k) ?_ fun fs hf => oks_rt (ok_ret hf)
  by_cases hw1 : (decide (way = 1) && decide ((m : Int) < 8)) = true
  · rw [if_pos hw1]
    have hm7 : m < 8 := by
      have := (Bool.and_eq_true _ _).mp hw1
      have := this.2
      simp at this; omega
    let g2 : Int → Str := fun e => g1 e ++ Txt.mul ("a" : Str) (e % 2)
    have la : Ls_ ("a" : Str) = [97] := by decide
    have lm : ∀ e : Int, Ls_ (Txt.mul ("a" : Str) (e % 2)) = List.replicate (e % 2).toNat 97 := fun e => by
      rw [ls_mul (by omega), la, List.flatten_replicate_singleton]
    rw [zapp_ret, frA1_eq, zlc_map (g := g2) (fun e he => ?_) (by rw [rng_length, hs]; omega), zset_ret, zseq_nx]
    · refine oks_nx (names_map (by omega) (fun e h0 h1 => ⟨?_, fun x hx => ?_⟩) fun e e' h0 h1 h0' h1' z => ?_)
      · show 1 ≤ (Ls_ (g1 e ++ _)).length ∧ (Ls_ (g1 e ++ _)).length ≤ 8
        rw [ls_cat, List.length_append, ln1, lm, List.length_replicate]; omega
      · have hx : x ∈ Ls_ (g1 e ++ _) := hx
        rw [ls_cat] at hx
        rcases List.mem_append.mp hx with hx | hx
        · exact abc1 e x hx
        · rw [lm] at hx
          have := List.eq_of_mem_replicate hx; omega
      · have z := congrArg (fun x => (Ls_ x)[spot.toNat]?) z
        have z : (Ls_ (g1 e ++ _))[spot.toNat]? = (Ls_ (g1 e' ++ _))[spot.toNat]? := z
        rw [ls_cat, ls_cat, List.getElem?_append_left (by rw [ln1]; omega), List.getElem?_append_left (by rw [ln1]; omega), at1, at1] at z
        exact inj e e' h0 h1 h0' h1' (Option.some.inj z)
    · have := mem_rng.mp he
      rw [zop2_ret, rng_ix ⟨by omega, by omega⟩, zop2_ret, imod_eq (by omega), zop2_ret, smul_eq (by omega) (by decide), zop2_ret, scat_eq (by rw [ls_len, ls_len, ln1, lm, List.length_replicate]; omega)]
  · rw [if_neg hw1]
    refine oks_nx (names_map (by omega) (fun e h0 h1 => ⟨by rw [ln1]; omega, abc1 e⟩) fun e e' h0 h1 h0' h1' z => ?_)
    have z := congrArg (fun x => (Ls_ x)[spot.toNat]?) z
    simp only [at1] at z
    exact inj e e' h0 h1 h0' h1' (Option.some.inj z)
end Zk

namespace Zk
open PySem L2
/-! ### dicts, plainly -/
section
variable {τ α β γ δ κ ρ ι : Type} [DecidableEq ι]
theorem dlook_none {k : ι} : ∀ {xs : List (ι × α)}, (∀ t ∈ xs, t.1 ≠ k) → dlook xs k = none
  | [], _ => rfl
  | t :: xs, h => by rw [dlook_cons, if_neg (h t (by simp))]; exact dlook_none fun u hu => h u (by simp [hu])
theorem dput_new {k : ι} {v : α} {xs : List (ι × α)} (h : ∀ t ∈ xs, t.1 ≠ k) : dput xs k v = xs ++ [(k, v)] := by
  unfold dput
  rw [if_neg fun z => ?_]
  obtain ⟨t, ht, e⟩ := List.any_eq_true.mp z
  exact h t ht (of_decide_eq_true e)
theorem dmerge_nodup : ∀ {xs acc : List (ι × α)}, ((acc ++ xs).map (·.1)).Nodup → dmerge acc xs = acc ++ xs
  | [], acc, _ => by simp [dmerge]
  | t :: xs, acc, h => by
    show dmerge (dput acc t.1 t.2) xs = _
    have hn : ∀ u ∈ acc, u.1 ≠ t.1 := fun u hu e => by
      rw [List.map_append, List.nodup_append] at h
      exact h.2.2 u.1 (List.mem_map.mpr ⟨u, hu, rfl⟩) t.1 (by simp) e
    rw [dput_new hn, dmerge_nodup (by rw [List.append_assoc]; exact h), List.append_assoc]; rfl
@[simp] theorem fdict_eq {xs : List (ι × α)} : (fdict xs : M τ _) = ret (dmerge [] xs) := rfl
@[simp] theorem dkeys_eq {xs : List (ι × α)} : (dkeys xs : M τ _) = ret (xs.map (·.1)) := rfl
theorem dix_eq {xs : List (ι × α)} {k : ι} {y : α} (h : dlook xs k = some y) : (dix xs k : M τ α) = ret y := by unfold dix; rw [h]
theorem gputD_eq {xs : List (ι × α)} {k : ι} {v : α} (h : xs.length < 1000000) : (gputD xs (ret v) (ret ()) (ret k) : M τ (Fl _ κ ρ)) = ret (.nx (dput xs k v)) := by
  unfold gputD
  rw [bnd_ret, bnd_ret, bnd_ret, chk_pos (Nat.lt_of_lt_of_le h (by decide))]
@[simp] theorem nox_ret {a : α} : nox (ret a : M τ α) = ret a := rfl
theorem zdcomp_ret {k : β → ι} {v : β → γ} {kf : β → M τ ι} {f : β → M τ γ} : ∀ (xs : List β) (acc : List (ι × γ)), (∀ x ∈ xs, kf x = ret (k x)) → (∀ x ∈ xs, f x = ret (v x)) → acc.length + xs.length ≤ 1000000 → zdcomp (fun _ => ret true) kf f acc xs = (ret (dmerge acc (xs.map fun x => (k x, v x))) : M τ _)
  | [], acc, _, _, _ => rfl
  | x :: xs, acc, hk, hf, hl => by
    unfold zdcomp
    have hp : (dput acc (k x) (v x)).length ≤ acc.length + 1 := by unfold dput; split <;> simp
    simp only [List.length_cons] at hl
    rw [nox_ret, bnd_ret, if_pos rfl, hk x (by simp), nox_ret, bnd_ret, hf x (by simp), nox_ret, bnd_ret, chk_pos (Nat.lt_of_lt_of_le (show acc.length < 1000000 by omega) (by decide)), zdcomp_ret xs _ (fun y hy => hk y (by simp [hy])) (fun y hy => hf y (by simp [hy])) (by omega)]
    rfl
theorem zdc_ret {k : β → ι} {v : β → γ} {kf : β → M τ ι} {f : β → M τ γ} {xs : List β} (hk : ∀ x ∈ xs, kf x = ret (k x)) (hf : ∀ x ∈ xs, f x = ret (v x)) (hl : xs.length ≤ 1000000) : zdc (fun _ => ret true) kf f (ret xs) = (ret (dmerge [] (xs.map fun x => (k x, v x))) : M τ _) := by
  unfold zdc; rw [bnd_ret]; exact zdcomp_ret xs [] hk hf (by simpa using hl)
end
/-! ### sums -/
section
variable {α β : Type}
end
/-! ### sorted -/
def NLt (a b : Str) : Prop := a.cps.toList < b.cps.toList
theorem fsort_names {τ : Type} {ns : List Str} (hl : ns.length ≤ 1000000) : (fsort datS ns : M τ _) = ret (ns.mergeSort (PySem.W.dataLe false datS.d)) := by
  unfold fsort; rw [chk_pos ⟨by decide, Nat.le_trans hl (by decide)⟩]
end Zk

namespace Zk
open PySem L2
/-! ### ladders, plainly -/
abbrev Plan := Int × List Int × List Int × List Int
def PriceOk (x : Int) : Prop := 0 ≤ x ∧ x ≤ 100000000000000000000
structure Valid (p : Plan) : Prop where
  b : -100 ≤ p.1 ∧ p.1 ≤ 100
  r : p.2.1.length ≤ 40
  l : 1 ≤ p.2.2.1.length ∧ p.2.2.1.length ≤ 4
  h : 1 ≤ p.2.2.2.length ∧ p.2.2.2.length ≤ 4
  rp : ∀ x ∈ p.2.1, PriceOk x
  lp : ∀ x ∈ p.2.2.1, PriceOk x
  hp : ∀ x ∈ p.2.2.2, PriceOk x
/-- a plan as it may be turned -/
structure Wd (p : Plan) : Prop where
  b : -200 ≤ p.1 ∧ p.1 + p.2.1.length ≤ 200
  r : p.2.1.length ≤ 40
  l : 1 ≤ p.2.2.1.length ∧ p.2.2.1.length ≤ 4
  h : 1 ≤ p.2.2.2.length ∧ p.2.2.2.length ≤ 4
  rp : ∀ x ∈ p.2.1, PriceOk x
  lp : ∀ x ∈ p.2.2.1, PriceOk x
  hp : ∀ x ∈ p.2.2.2, PriceOk x
theorem Valid.w {p : Plan} (v : Valid p) : Wd p := ⟨by have := v.b; have := v.r; omega, v.r, v.l, v.h, v.rp, v.lp, v.hp⟩
/-- the sums of a list's beginnings -/
def sumsF (xs : List Int) : List Int := (List.range (xs.length + 1)).map fun i => (xs.take i).sum
theorem sumsF_length (xs : List Int) : (sumsF xs).length = xs.length + 1 := by simp [sumsF]
theorem sumsF_get {xs : List Int} {i : Nat} (h : i ≤ xs.length) : (sumsF xs)[i]? = some (xs.take i).sum := by
  unfold sumsF
  rw [List.getElem?_map, List.getElem?_range (by omega)]; rfl
theorem sumsF_snoc (xs : List Int) (x : Int) : sumsF (xs ++ [x]) = sumsF xs ++ [xs.sum + x] := by
  unfold sumsF
  rw [List.length_append, List.length_singleton, List.range_succ, List.map_append, List.map_singleton]
  congr 1
  · refine List.map_congr_left fun i hi => ?_
    have : i ≤ xs.length := by simp at hi; omega
    rw [List.take_append_of_le_length this]
  · rw [List.take_of_length_le (by simp), List.sum_append]; simp
theorem sumsF_ne (xs : List Int) : sumsF xs ≠ [] := by
  intro e
  have := sumsF_length xs
  rw [e] at this; simp at this
theorem sumsF_last (xs : List Int) : (sumsF xs).getLast (sumsF_ne xs) = xs.sum := by
  have h := sumsF_get (xs := xs) (i := xs.length) (Nat.le_refl _)
  rw [List.take_length] at h
  rw [List.getLast_eq_getElem]
  have e : (sumsF xs).length - 1 = xs.length := by rw [sumsF_length]; omega
  have h2 := (List.getElem?_eq_some_iff.mp h).2
  rw [← h2]
  congr 1
theorem sums_loop {f : List Int → Int → M Unit (Fl (List Int) (List Int) (List Int))} (hf : ∀ pre x, pre.length < 1000 → f (sumsF pre) x = ret (.nx (sumsF (pre ++ [x])))) : ∀ (xs pre : List Int), pre.length + xs.length < 1000 → (zfor f (sumsF pre) xs : M Unit (Fl (List Int) Empty (List Int))) = ret (.nx (sumsF (pre ++ xs)))
  | [], pre, _ => by rw [List.append_nil]; rfl
  | x :: xs, pre, h => by
    simp only [List.length_cons] at h
    rw [zfor_cons_nx (hf pre x (by omega)), sums_loop hf xs (pre ++ [x]) (by simp; omega)]
    simp
theorem sums_eq {xs : List Int} (h : xs.length < 900) : m_sums_of xs = ret (sumsF xs) := by
  unfold m_sums_of b_sums_of
  rw [show zcons (ret 0) (ret []) = (ret [0] : M Unit (List Int)) from rfl, zlist_ret (by decide), zset_ret, zseq_nx, zforI_ret, show [(0 : Int)] = sumsF [] from rfl]
  rw [sums_loop (fun pre x hp => ?_) xs [] (by simp; omega)]
  · rfl
  · rw [show zop1 ineg (ret 1) = (ret (-1) : M Unit Int) from rfl, zop2_ret, ixat_last (sumsF_ne pre), sumsF_last, zop2_ret, iadd_eq, bnd_ret, chk_pos (by rw [sumsF_length]; exact Nat.lt_of_lt_of_le (by omega : pre.length + 1 < 1001) (by decide)), zseq_nx, znx_ret, sumsF_snoc]
/-! ### the ladder made of a plan -/
theorem is_whole_eq (x : Int) : m_is_whole x = ret true := rfl
theorem is_between_eq (x lo hi : Int) : m_is_between (x, lo, hi) = ret (decide (lo ≤ x) && decide (x ≤ hi)) := by
  unfold m_is_between b_is_between
  simp [is_whole_eq]
theorem is_price_eq (x : Int) : m_is_price x = ret (decide (0 ≤ x) && decide (x ≤ 100000000000000000000)) := by
  unfold m_is_price b_is_price
  simp [is_between_eq, c_MOST_PRICE]
theorem are_prices_eq {xs : List Int} {lo hi : Int} (hl : xs.length ≤ 1000) : m_are_prices (xs, lo, hi) = ret (decide (lo ≤ xs.length) && decide ((xs.length : Int) ≤ hi) && xs.all fun x => decide (0 ≤ x) && decide (x ≤ 100000000000000000000)) := by
  unfold m_are_prices b_are_prices
  rw [zlc_map (g := fun x => decide (0 ≤ x) && decide (x ≤ 100000000000000000000)) (fun x _ => by simp [is_price_eq]) (Nat.le_trans hl (by decide))]
  simp only [zis_ret, znot_ret, Bool.not_true, zor_f, zapp_ret, flen_eq, zchain_ll, zifS_ret, fall_eq, zrt_ret, znx_ret]
  by_cases h : (decide (lo ≤ (xs.length : Int)) && decide ((xs.length : Int) ≤ hi)) = true
  · rw [h]; simp [List.all_map]
  · rw [Bool.eq_false_iff.mpr h]; rfl
theorem prices_true {xs : List Int} {lo hi : Int} (h1 : lo ≤ xs.length) (h2 : (xs.length : Int) ≤ hi) (h3 : ∀ x ∈ xs, PriceOk x) (hl : xs.length ≤ 1000) : m_are_prices (xs, lo, hi) = ret true := by
  rw [are_prices_eq hl, decide_eq_true h1, decide_eq_true h2]
  have : (xs.all fun x => decide (0 ≤ x) && decide (x ≤ 100000000000000000000)) = true := by
    rw [List.all_eq_true]
    intro x hx
    have := h3 x hx
    rw [decide_eq_true this.1, decide_eq_true this.2]; rfl
  rw [this]; rfl
def ladF (p : Plan) : XLadder := ⟨p.2.2.1, p.2.1, p.2.2.2, p.1, sumsF p.2.2.1, sumsF p.2.1, sumsF p.2.2.2⟩
theorem init_eq {p : Plan} (v : Valid p) : m_Ladder_init (p.2.2.1, p.2.1, p.2.2.2, p.1) = ret (ladF p) := by
  obtain ⟨hl1, hl2⟩ := v.l
  obtain ⟨hh1, hh2⟩ := v.h
  obtain ⟨hb1, hb2⟩ := v.b
  have hr := v.r
  unfold m_Ladder_init b_Ladder_init
  simp only [zpair_ret, zcons_ret]
  rw [zlist_ret (by show 3 ≤ sizeLine; decide), zset_ret, zseq_nx, zenum_ret, zforI_ret]
  have e : fenum [(p.2.2.1, (1 : Int), c_MOST_REPEATED), (p.2.1, 0, c_MOST_ROW), (p.2.2.2, 1, c_MOST_REPEATED)] = [(0, p.2.2.1, 1, 4), (1, p.2.1, 0, 40), (2, p.2.2.2, 1, 4)] := rfl
  rw [e, zfor_cons_nx (a' := ()), zfor_cons_nx (a' := ()), zfor_cons_nx (a' := ()), zfor_nil, zseq_nx]
  · rw [show (zop2 isub (ret 0) (ret c_FARTHEST_AT) : M Unit Int) = ret (-100) from rfl]
    simp only [zpair_ret, zapp_ret, lft_ret, is_between_eq, c_FARTHEST_AT, sums_eq (show p.2.2.1.length < 900 by omega), sums_eq (show p.2.1.length < 900 by omega), sums_eq (show p.2.2.2.length < 900 by omega)]
    rw [decide_eq_true hb1, decide_eq_true hb2]
    rfl
  all_goals
    simp only [zpair_ret, zapp_ret, lft_ret]
    rw [prices_true (by omega) (by omega) (by first | exact v.lp | exact v.rp | exact v.hp) (by omega)]
    rfl
end Zk

namespace Zk
open PySem L2
/-! ### turned ladders -/
def turnF (p : Plan) : Plan := (0 - p.1 - p.2.1.length, p.2.1.reverse, p.2.2.2, p.2.2.1)
theorem moved_eq {p : Plan} (v : Wd p) (a : Int) : m_Ladder_moved_to (ladF p, a) = ret (ladF (a, p.2)) := by
  have h := init_eq (p := (0, p.2)) ⟨by show -100 ≤ (0 : Int) ∧ (0 : Int) ≤ 100; omega, v.r, v.l, v.h, v.rp, v.lp, v.hp⟩
  unfold m_Ladder_moved_to b_Ladder_moved_to
  simp only [zget_ret, zapp_ret, zpair_ret, bnd_ret]
  have e : m_Ladder_init ((ladF p).low_, (ladF p).middle_, (ladF p).high_, 0) = ret (ladF (0, p.2)) := h
  rw [e, lft_ret, zset_ret, zseq_nx, zset_ret, zseq_nx, zrt_ret, zbody_rt]
  rfl
theorem turned_eq {p : Plan} (v : Wd p) : m_Ladder_turned (ladF p) = ret (ladF (turnF p)) := by
  have h := init_eq (p := (0, p.2.1.reverse, p.2.2.2, p.2.2.1)) ⟨by show -100 ≤ (0 : Int) ∧ (0 : Int) ≤ 100; omega, by simpa using v.r, v.h, v.l, fun x hx => v.rp x (by simpa using hx), v.hp, v.lp⟩
  unfold m_Ladder_turned b_Ladder_turned
  simp only [zget_ret, zapp_ret, zpair_ret, bnd_ret, frev]
  have e : m_Ladder_init ((ladF p).high_, (ladF p).middle_.reverse, (ladF p).low_, 0) = ret (ladF (0, p.2.1.reverse, p.2.2.2, p.2.2.1)) := h
  rw [e, lft_ret, zset_ret, zseq_nx]
  simp only [zop2_ret, isub_eq, flen_eq, zmeth_ret]
  have w : Wd (0, p.2.1.reverse, p.2.2.2, p.2.2.1) := ⟨by have := v.r; simp only [List.length_reverse]; omega, by simpa using v.r, v.h, v.l, fun x hx => v.rp x (by simpa using hx), v.hp, v.lp⟩
  rw [moved_eq w, lft_ret, zrt_ret, zbody_rt]
  rfl
end Zk

namespace Zk
open PySem L2
/-! ### webs, plainly -/
abbrev Plans := List ((Str × Str) × Plan)
structure NsOk (ns : List Str) : Prop where
  len : 2 ≤ ns.length ∧ ns.length ≤ 12
  srt : ns.Pairwise NLt
  ok : ∀ n ∈ ns, NameOk n
structure PlOk (ns : List Str) (ps : Plans) : Prop where
  k : ∀ t ∈ ps, t.1.1 ∈ ns ∧ t.1.2 ∈ ns ∧ NLt t.1.1 t.1.2
  nd : (ps.map (·.1)).Nodup
  v : ∀ t ∈ ps, Valid t.2
  len : ps.length ≤ 1000
def freeP : Plan := (0, [], [0], [0])
theorem free_valid : Valid freeP := ⟨by decide, by decide, by decide, by decide, by simp [freeP], by simp [freeP, PriceOk], by simp [freeP, PriceOk]⟩
/-! ### names known -/
theorem is_name_eq {n : Str} (h : NameOk n) : m_is_name n = ret true := by
  have hl : n.length ≤ 100000 := by rw [ls_len]; have := h.len; omega
  have hc := h.len
  unfold m_is_name b_is_name
  rw [zis_ret, znot_ret, zapp_ret, flenS_eq hl, zchain_ll, c_MOST_SIGNS, znot_ret, zor_rr]
  rw [decide_eq_true (show (1 : Int) ≤ (Ls_ n).length by omega), decide_eq_true (show ((Ls_ n).length : Int) ≤ 8 by omega)]
  rw [show (!true || !(true && true)) = false from rfl, zifS_ret, if_neg (by decide), znx_ret, zseq_nx]
  have e1 : ∀ x ∈ signs n, (zop2 sin_ (ret x) (ret c_LETTERS) : M Unit Bool) = ret true := fun x hx => by
    unfold signs at hx
    obtain ⟨c, hc, rfl⟩ := List.mem_map.mp hx
    rw [zop2_ret]
    show (ret (decide (c ∈ Ls_ abc)) : M Unit Bool) = ret true
    rw [decide_eq_true]
    have := h.abc c hc
    rw [ls_abc]
    exact List.mem_map.mpr ⟨c - 97, List.mem_range.mpr (by omega), by omega⟩
  have e2 : (signs n).length ≤ sizeLine := by
    unfold signs
    rw [List.length_map]
    have : sizeLine = 16777216 := by decide
    show (Ls_ n).length ≤ _
    omega
  rw [zapp_ret, show (fsigns n : M Unit _) = ret (signs n) from rfl, zlc_map (g := fun _ => true) e1 e2, zapp_ret, fall_eq, zrt_ret, zbody_rt]
  congr 1
  simp
theorem fenum_get {T : Type} {xs : List T} {t : Int × T} (h : t ∈ fenum xs) : ∃ i : Nat, t.1 = i ∧ xs[i]? = some t.2 := by
  unfold fenum at h
  obtain ⟨p, hp, rfl⟩ := List.mem_map.mp h
  exact ⟨p.2, rfl, by have := List.mem_zipIdx_iff_getElem?.mp hp; exact this⟩
theorem first_twice_eq {ns : List Str} (h : ns.Nodup) : m_first_twice ns = ret none := by
  unfold m_first_twice b_first_twice
  rw [zenum_ret, zforI_ret, zfor_same (fun x hx => ?_), zseq_nx, zget_ret, zrt_ret, zbody_rt]
  obtain ⟨i, e1, e2⟩ := fenum_get hx
  rw [e1, zsome_ret, zsl_ret, cut_hi, zop2_ret]
  have : x.2 ∉ ns.take i := fun hm => by
    obtain ⟨j, hj, e⟩ := List.mem_iff_getElem.mp hm
    rw [List.length_take] at hj
    rw [List.getElem_take] at e
    have e3 : ns[j]? = some x.2 := by rw [List.getElem?_eq_getElem (by omega), e]
    have := nodup_ix h e2 e3
    omega
  unfold fin_
  rw [decide_eq_false this, zifS_ret, if_neg (by decide), znx_ret, zseq_nx]
theorem fnin_f {τ T : Type} [DecidableEq T] {x : T} {xs : List T} (h : x ∈ xs) : (fnin x xs : M τ Bool) = ret false := by unfold fnin; rw [decide_eq_true h]; rfl
theorem all_true {T : Type} (xs : List T) : (xs.map fun _ => true).all id = true := by simp
/-! ### the web of a world -/
theorem put_eq {ns : List Str} {free : XLadder} {p q : Str} {pl : Plan} {y : List ((Str × Str) × XLadder)} (hp : p ∈ ns) (hq : q ∈ ns) (hne : p ≠ q) (v : Valid pl) (h1 : ∀ t ∈ y, t.1 ≠ (p, q)) (h2 : ∀ t ∈ y, t.1 ≠ (q, p)) (hl : y.length < 100000) :
    m_Web_put (((⟨ns, [], free⟩ : XWeb), (p, q, ladF pl)), y) = ret ((), y ++ [((p, q), ladF pl), ((q, p), ladF (turnF pl))]) := by
  unfold m_Web_put b_Web_put
  simp only [zcons_ret, zget_ret, zpair_ret]
  rw [zlist_eq (by simp), zforI_ret, zfor_same (fun x hx => ?_), zseq_nx, zop2_ret, feq_eq, decide_eq_false hne, zifS_ret, if_neg (by decide), znx_ret, zseq_nx, zop2_ret]
  · have e : (din false (p, q) y : M Unit Bool) = ret false := by unfold din; rw [dlook_none h1]; rfl
    rw [e, zifS_ret, if_neg (by decide), zseq_nx, gputD_eq (by omega), zseq_nx, dput_new h1, zapp_ret, turned_eq v.w, lft_ret, gputD_eq (by rw [List.length_append, List.length_singleton]; omega), zseq_nx, dput_new (fun t ht => ?_)]
    · unfold zgh; rw [List.append_assoc]; rfl
    · rcases List.mem_append.mp ht with z | z
      · exact h2 t z
      · rw [List.mem_singleton.mp z]
        exact fun z => hne (congrArg Prod.fst z)
  · have hm : x ∈ ns := by
      simp only [List.mem_cons, List.not_mem_nil, or_false] at hx
      rcases hx with rfl | rfl
      · exact hp
      · exact hq
    rw [zop2_ret, fnin_f hm, zifS_ret, if_neg (by decide), znx_ret, zseq_nx]
theorem plain_eq : m_plain 0 = ret (ladF freeP) := by
  unfold m_plain b_plain
  rw [zapp_ret, is_price_eq, lft_ret, znot_ret, zifS_ret, if_neg (by decide), znx_ret, zseq_nx, zcons_ret, zlist_eq (by simp), zlist_eq (by simp), zpair_ret, zpair_ret, bnd_ret]
  have := init_eq free_valid
  rw [show m_Ladder_init (([0] : List Int), ([] : List Int), ([0] : List Int), (0 : Int)) = ret (ladF freeP) from this, lft_ret, zrt_ret, zbody_rt]
theorem is_pair_eq {p q : Str} {l : XLadder} (hp : NameOk p) (hq : NameOk q) : m_is_pair (p, q, l) = ret true := by
  unfold m_is_pair b_is_pair
  simp only [zis_ret, znot_ret, zget_ret, zop2_ret, fne_eq, zor_rr, zapp_ret, is_name_eq hp, is_name_eq hq, lft_ret, zand_rr, zifS_ret]
  rfl
end Zk

namespace Zk
open PySem L2
/-! ### what the things are -/
abbrev az : Str := "abcdefghijklmnopqrstuvwxyz"
def wholeF : PyData → Bool | .int _ => true | _ => false
def betwF (lo hi : Int) : PyData → Bool | .int i => decide (lo ≤ i) && decide (i ≤ hi) | _ => false
def lettersF (x : Str) : Bool := (Ls_ x).all fun c => decide (c ∈ Ls_ az)
def nameF : PyData → Bool | .str x => (decide ((1 : Int) ≤ ((Ls_ x).length : Int)) && decide (((Ls_ x).length : Int) ≤ 8)) && lettersF x | _ => false
structure SOk (x : Str) : Prop where
  l : x.length ≤ 100000
  o : PyData.strOk x = true
structure EOk (e : PyData) : Prop where
  c : e.canLay0 = true
  d : e.depth ≤ 10
  s : ∀ x, e = .str x → SOk x
structure GOk (d : PyData) : Prop where
  s : ∀ x, d = .str x → SOk x
  l : ∀ ds, d = .list ds → ds.length ≤ 100000 ∧ ∀ e ∈ ds, EOk e
section
variable {ns : List Str} {d : PyData} {lo hi : Int}
theorem zand_tt {τ : Type} {n : M τ Bool} : zand (ret true : M τ Bool) n = n := rfl
theorem zor_ff {τ : Type} {n : M τ Bool} : zor (ret false : M τ Bool) n = n := rfl
theorem wholeP_eq : m_is_whole_2 d = ret (wholeF d) := by cases d <;> rfl
theorem within_eq : m_w_within (d, lo, hi) = ret (betwF lo hi d) := by
  unfold m_w_within b_w_within
  cases d with
  | int i =>
    show zbody (zrt (zchain ile ile (ret lo) (ret i) (ret hi))) = ret (betwF lo hi (.int i))
    rw [zchain_ll, zrt_ret, zbody_rt]; rfl
  | _ => rfl
theorem between_eq : m_is_between_2 (d, lo, hi) = ret (betwF lo hi d) := by
  unfold m_is_between_2 b_is_between_2
  rw [zapp_ret, wholeP_eq, lft_ret]
  cases d with
  | int i =>
    show zbody (zrt (zchain ile ile (ret lo) (ret i) (ret hi))) = ret (betwF lo hi (.int i))
    rw [zchain_ll, zrt_ret, zbody_rt]; rfl
  | _ => rfl
theorem sign_ok {x : Str} (h : PyData.strOk x = true) : ∀ s ∈ signs x, PyData.strOk s = true := fun s hs => by
  unfold signs at hs
  obtain ⟨c, hc, rfl⟩ := List.mem_map.mp hs
  unfold PyData.strOk at h ⊢
  rw [← Array.all_toList, List.all_eq_true] at h ⊢
  intro c' hc'
  have : c' = c := by simpa using hc'
  rw [this]; exact h c hc
theorem lay_strs : ∀ {xs : List Str}, (∀ s ∈ xs, PyData.strOk s = true) → PyData.canLayAll0 (xs.map PyData.str) = true
  | [], _ => by simp [PyData.canLayAll0]
  | x :: xs, h => by
    rw [List.map_cons, PyData.canLayAll0, PyData.canLay0, h x (by simp), lay_strs fun s hs => h s (by simp [hs])]; rfl
theorem letters_iff {x : Str} : lettersF x = true ↔ ((signs x).filter fun s => !decide ((Ls_ s).headD 0 ∈ Ls_ az)) = [] := by
  unfold lettersF
  rw [List.filter_eq_nil_iff, List.all_eq_true]
  constructor
  · intro h s hs
    unfold signs at hs
    obtain ⟨c, hc, rfl⟩ := List.mem_map.mp hs
    have := h c hc
    show ¬ (!decide (c ∈ Ls_ az)) = true
    rw [this]; decide
  · intro h c hc
    have this : ¬ (!decide (c ∈ Ls_ az)) = true := h ⟨#[c]⟩ (by unfold signs; exact List.mem_map.mpr ⟨c, hc, rfl⟩)
    cases e : decide (c ∈ Ls_ az) with
    | true => rfl
    | false => rw [e] at this; exact absurd rfl this
theorem name_own (h : ∀ x, d = .str x → SOk x) : m_w_is_name d = ret (nameF d) := by
  unfold m_w_is_name b_w_is_name
  cases d with
  | str x =>
    have hx := h x rfl
    have hl : x.length ≤ 100000 := hx.l
    rw [show (zget (isD "str") (zget qQ.d (ret (PyData.str x))) : M Unit Bool) = ret true from rfl, znot_ret, show (!true) = false from rfl, zor_ff, show (zgetP asS (ret (PyData.str x)) : M Unit Str) = ret x from rfl, zapp_ret, flenS_eq hl, zchain_ll, znot_ret, zifS_ret]
    have e0 : nameF (.str x) = ((decide ((1 : Int) ≤ ((Ls_ x).length : Int)) && decide (((Ls_ x).length : Int) ≤ 8)) && lettersF x) := rfl
    rw [e0]
    cases (decide ((1 : Int) ≤ ((Ls_ x).length : Int)) && decide (((Ls_ x).length : Int) ≤ 8)) with
    | false => rfl
    | true =>
      rw [show (!true) = false from rfl, if_neg (by decide), znx_ret, zseq_nx, zapp_ret, show (fsigns x : M Unit _) = ret (signs x) from rfl]
      have sl : (signs x).length ≤ 100000 := by
        unfold signs
        rw [List.length_map]
        have : x.length = (Ls_ x).length := ls_len x
        show (Ls_ x).length ≤ _
        omega
      rw [zlc_filter (p := fun s => !decide ((Ls_ s).headD 0 ∈ Ls_ az)) (g := fun s => s) (fun s hs => ?_) (fun _ _ => rfl) (Nat.le_trans sl (by decide)), List.map_id', zlist_eq (by simp), zop2_ret, deq_eq ⟨?_, rfl, by decide⟩, zrt_ret, zbody_rt, Bool.true_and]
      · refine congrArg ret (Bool.eq_iff_iff.mpr ?_)
        rw [decide_eq_true_iff, letters_iff]
      · show (PyData.list (((signs x).filter fun s => !decide ((Ls_ s).headD 0 ∈ Ls_ az)).map PyData.str)).canLay0 = true
        rw [PyData.canLay0]
        exact lay_strs fun s hs => sign_ok hx.o s (List.mem_filter.mp hs).1
      · unfold signs at hs
        obtain ⟨c, hc, rfl⟩ := List.mem_map.mp hs
        rw [zop2_ret]; rfl
  | _ => rfl
theorem name_prog (h : ∀ x, d = .str x → SOk x) : m_is_name_2 d = ret (nameF d) := by
  unfold m_is_name_2 b_is_name_2
  cases d with
  | str x =>
    have hx := h x rfl
    have hl : x.length ≤ 100000 := hx.l
    rw [show (zget (isD "str") (zget qQ.d (ret (PyData.str x))) : M Unit Bool) = ret true from rfl, znot_ret, show (!true) = false from rfl, zor_ff, show (zgetP asS (ret (PyData.str x)) : M Unit Str) = ret x from rfl, zapp_ret, flenS_eq hl, c_MOST_SIGNS, zchain_ll, znot_ret, zifS_ret]
    have e0 : nameF (.str x) = ((decide ((1 : Int) ≤ ((Ls_ x).length : Int)) && decide (((Ls_ x).length : Int) ≤ 8)) && lettersF x) := rfl
    rw [e0]
    cases (decide ((1 : Int) ≤ ((Ls_ x).length : Int)) && decide (((Ls_ x).length : Int) ≤ 8)) with
    | false => rfl
    | true =>
      rw [show (!true) = false from rfl, if_neg (by decide), znx_ret, zseq_nx, zapp_ret, show (fsigns x : M Unit _) = ret (signs x) from rfl]
      have sl : (signs x).length ≤ 100000 := by
        unfold signs
        rw [List.length_map]
        have : x.length = (Ls_ x).length := ls_len x
        show (Ls_ x).length ≤ _
        omega
      rw [zlc_map (g := fun s => decide ((Ls_ s).headD 0 ∈ Ls_ az)) (fun s hs => ?_) (Nat.le_trans sl (by decide)), zapp_ret, fall_eq, zrt_ret, zbody_rt, Bool.true_and]
      · refine congrArg ret (Bool.eq_iff_iff.mpr ?_)
        unfold lettersF signs
        rw [List.map_map, List.all_map]
        rfl
      · unfold signs at hs
        obtain ⟨c, hc, rfl⟩ := List.mem_map.mp hs
        rw [zop2_ret]; rfl
  | _ => rfl
/-! ### groups -/
theorem eqv_nil {xs : List PyData} : PyData.eqv (.list xs) (.list []) = decide (xs = []) := by
  cases xs <;> simp [PyData.eqv, PyData.eqvAll]
end
end Zk

namespace Zk
open PySem L2
/-! ### things whose texts are short -/
structure Sh (N D : Nat) (d : PyData) : Prop where
  w : d.showable = true
  dd : d.depth ≤ D
  t : d.leavesShort 1921 = true
  b : d.bulk ≤ N
theorem Sh.mono {N N' D D' : Nat} {d : PyData} (h : Sh N D d) (h1 : N ≤ N') (h2 : D ≤ D') : Sh N' D' d := ⟨h.w, Nat.le_trans h.dd h2, h.t, Nat.le_trans h.b h1⟩
theorem sh_all {N D : Nat} {xs : List PyData} (h : ∀ e ∈ xs, Sh N D e) : PyData.showableAll xs = true ∧ PyData.depthAll xs ≤ D ∧ PyData.leavesShortAll 1921 xs = true ∧ PyData.bulkAll xs ≤ (N + 1) * xs.length := by
  induction xs with
  | nil => exact ⟨by simp [PyData.showableAll], by simp [PyData.depthAll], rfl, by simp [PyData.bulkAll]⟩
  | cons x xs ih =>
    obtain ⟨h1, h3, h4, h5⟩ := ih fun e he => h e (by simp [he])
    have hx := h x (by simp)
    refine ⟨by rw [PyData.showableAll, hx.w, h1]; rfl, ?_, by rw [PyData.leavesShortAll, hx.t, h4]; rfl, ?_⟩
    · have := hx.dd
      simp only [PyData.depthAll]; omega
    · have := hx.b
      rw [PyData.bulkAll, List.length_cons, Nat.mul_add]; omega
theorem sh_list {N D m : Nat} {xs : List PyData} (h : ∀ e ∈ xs, Sh N D e) (hl : xs.length ≤ m) : Sh ((N + 1) * m) (D + 1) (.list xs) := by
  obtain ⟨h1, h3, h4, h5⟩ := sh_all h
  exact ⟨by rw [PyData.showable]; exact h1, by rw [PyData.depth]; omega, by rw [PyData.leavesShort]; exact h4, by rw [PyData.bulk]; exact Nat.le_trans h5 (Nat.mul_le_mul_left _ hl)⟩
theorem sh_tup {N D m : Nat} {xs : List PyData} (h : ∀ e ∈ xs, Sh N D e) (hl : xs.length ≤ m) : Sh ((N + 1) * m) (D + 1) (.tuple xs) := by
  obtain ⟨h1, h3, h4, h5⟩ := sh_all h
  exact ⟨by rw [PyData.showable]; exact h1, by rw [PyData.depth]; omega, by rw [PyData.leavesShort]; exact h4, by rw [PyData.bulk]; exact Nat.le_trans h5 (Nat.mul_le_mul_left _ hl)⟩
theorem sh_int {i : Int} (h : i.natAbs < 2 ^ 1900) : Sh 1 0 (.int i) := by
  have s1 := int_small h
  refine ⟨by simp [PyData.showable, s1], by simp [PyData.depth], ?_, by simp [PyData.bulk]⟩
  simp only [PyData.leavesShort]
  exact decide_eq_true (show_int h)
theorem sh_non : Sh 1 0 .none := ⟨by simp [PyData.showable], by simp [PyData.depth], by simp [PyData.leavesShort], by simp [PyData.bulk]⟩
theorem sh_bl {b : Bool} : Sh 1 0 (.bool b) := ⟨by simp [PyData.showable], by simp [PyData.depth], by simp [PyData.leavesShort], by simp [PyData.bulk]⟩
theorem repr_sh {τ : Type} {d : PyData} (h : Sh 8000 50 d) : (freprY d : M τ Str) = ret d.shown := by
  refine chk_pos ⟨h.w, Nat.le_trans h.dd (by omega), ?_⟩
  rw [show sizeLine = 16777216 by decide]
  have := PyData.shown_le_bulk 1921 (by omega) d h.t
  have := h.b
  have : (1921 + 2) * d.bulk ≤ (1921 + 2) * 8000 := Nat.mul_le_mul_left _ h.b
  omega
end Zk

namespace Zk
open PySem L2
/-! ### rows among things -/
abbrev Row := Str × Int × Int
def rowD (r : Row) : PyData := .tuple [.str r.1, .int r.2.1, .int r.2.2]
def rowB : PyData → Bool
  | .tuple [n, p, c] => nameF n && (betwF (-1000000000000) 1000000000000 p && betwF 0 1000000000000000000 c)
  | _ => false
structure Rw (e : PyData) : Prop where
  c : e.canLay0 = true
  d : e.depth ≤ 10
  t : ∀ ds, e = .tuple ds → ds.length ≤ 10 ∧ ∀ x ∈ ds, ∀ y, x = .str y → SOk y
structure RowV (r : Row) : Prop where
  n : NameOk r.1
  p : -1000000000000 ≤ r.2.1 ∧ r.2.1 ≤ 1000000000000
  c : 0 ≤ r.2.2 ∧ r.2.2 ≤ 1000000000000000000
theorem pow12 : (zop2 ipow (ret (10 : Int)) (ret (12 : Int)) : M Unit Int) = ret 1000000000000 := by
  rw [zop2_ret]
  show chk _ _ = _
  rw [chk_pos (by unfold powOk CPow; decide)]; rfl
theorem pow18 : (zop2 ipow (ret (10 : Int)) (ret (18 : Int)) : M Unit Int) = ret 1000000000000000000 := by
  rw [zop2_ret]
  show chk _ _ = _
  rw [chk_pos (by unfold powOk CPow; decide)]; rfl
theorem row_own {e : PyData} (h : Rw e) : m_w_is_row e = ret (rowB e) := by
  unfold m_w_is_row b_w_is_row
  rw [pow12, pow18, zop1_ret, ineg_eq]
  cases e with
  | tuple ds =>
    obtain ⟨h1, h2⟩ := h.t ds rfl
    rw [show (zget (isD "tuple") (zget qQ.d (ret (PyData.tuple ds))) : M Unit Bool) = ret true from rfl, znot_ret, show (!true) = false from rfl, zor_ff, show (zgetP asT (ret (PyData.tuple ds)) : M Unit (List PyData)) = ret ds from rfl]
    match ds, h1, h2 with
    | [], _, _ => rfl
    | [a], _, _ => rfl
    | [a, b], _, _ => rfl
    | a :: b :: c :: d :: r, h1, _ =>
      have e3 : (zop2 fne (zapp flen (ret (a :: b :: c :: d :: r))) (ret (3 : Int)) : M Unit Bool) = ret true := by
        rw [zapp_ret, flen_eq, zop2_ret, fne_eq]
        refine congrArg ret ?_
        rw [List.length_cons, List.length_cons, List.length_cons, List.length_cons]
        simp only [Bool.not_eq_true', decide_eq_false_iff_not, decide_not, Bool.not_eq_eq_eq_not, Bool.not_true]
        omega
      rw [e3]; rfl
    | [a, b, c], _, h2 =>
      rw [show (zop2 fne (zapp flen (ret [a, b, c])) (ret (3 : Int)) : M Unit Bool) = ret false from rfl, zor_ff, show (zop2 ixat (ret [a, b, c]) (ret (0 : Int)) : M Unit PyData) = ret a from rfl, show (zop2 ixat (ret [a, b, c]) (ret (1 : Int)) : M Unit PyData) = ret b from rfl, show (zop2 ixat (ret [a, b, c]) (ret (2 : Int)) : M Unit PyData) = ret c from rfl]
      rw [zapp_ret, name_own (fun x hx => h2 a (by simp) x hx), lft_ret, znot_ret, zpair_ret, zpair_ret, zapp_ret, within_eq, lft_ret, zpair_ret, zpair_ret, zapp_ret, within_eq, lft_ret, zand_rr, zifS_ret]
      show _ = ret (nameF a && (betwF (-1000000000000) 1000000000000 b && betwF 0 1000000000000000000 c))
      cases nameF a <;> rfl
  | _ => rfl
theorem place_eq {e : PyData} : m_is_place e = ret (betwF (-1000000000000) 1000000000000 e) := by
  unfold m_is_place b_is_place
  rw [c_MOST_PLACE, zop2_ret, isub_eq, zpair_ret, zpair_ret, zapp_ret, between_eq, lft_ret, zrt_ret, zbody_rt]; rfl
theorem coins_eq {e : PyData} : m_are_coins e = ret (betwF 0 1000000000000000000 e) := by
  unfold m_are_coins b_are_coins
  rw [c_MOST_COINS, zpair_ret, zpair_ret, zapp_ret, between_eq, lft_ret, zrt_ret, zbody_rt]
theorem row_prog {e : PyData} (h : Rw e) : m_is_row e = ret (rowB e) := by
  unfold m_is_row b_is_row
  cases e with
  | tuple ds =>
    obtain ⟨h1, h2⟩ := h.t ds rfl
    rw [show (zget (isD "tuple") (zget qQ.d (ret (PyData.tuple ds))) : M Unit Bool) = ret true from rfl, znot_ret, show (!true) = false from rfl, zor_ff, show (zgetP asT (ret (PyData.tuple ds)) : M Unit (List PyData)) = ret ds from rfl]
    match ds, h1, h2 with
    | [], _, _ => rfl
    | [a], _, _ => rfl
    | [a, b], _, _ => rfl
    | a :: b :: c :: d :: r, h1, _ =>
      have e3 : (zop2 fne (zapp flen (ret (a :: b :: c :: d :: r))) (ret (3 : Int)) : M Unit Bool) = ret true := by
        rw [zapp_ret, flen_eq, zop2_ret, fne_eq]
        refine congrArg ret ?_
        rw [List.length_cons, List.length_cons, List.length_cons, List.length_cons]
        simp only [Bool.not_eq_true', decide_eq_false_iff_not, decide_not, Bool.not_eq_eq_eq_not, Bool.not_true]
        omega
      rw [e3]; rfl
    | [a, b, c], _, h2 =>
      rw [show (zop2 fne (zapp flen (ret [a, b, c])) (ret (3 : Int)) : M Unit Bool) = ret false from rfl, show (zop2 ixat (ret [a, b, c]) (ret (0 : Int)) : M Unit PyData) = ret a from rfl, show (zop2 ixat (ret [a, b, c]) (ret (1 : Int)) : M Unit PyData) = ret b from rfl, show (zop2 ixat (ret [a, b, c]) (ret (2 : Int)) : M Unit PyData) = ret c from rfl]
      rw [zifS_ret, if_neg (by decide), znx_ret, zseq_nx, zapp_ret, name_prog (fun x hx => h2 a (by simp) x hx), lft_ret, zapp_ret, place_eq, lft_ret, zapp_ret, coins_eq, lft_ret, zand_rr, zand_rr, zrt_ret, zbody_rt]; rfl
  | _ => rfl
theorem name_ok {x : Str} (h : nameF (.str x) = true) : NameOk x := by
  have h : ((decide ((1 : Int) ≤ ((Ls_ x).length : Int)) && decide (((Ls_ x).length : Int) ≤ 8)) && lettersF x) = true := h
  rw [Bool.and_eq_true, Bool.and_eq_true, decide_eq_true_iff, decide_eq_true_iff] at h
  obtain ⟨⟨h1, h2⟩, h3⟩ := h
  refine ⟨⟨by omega, by omega⟩, fun c hc => ?_⟩
  have := of_decide_eq_true (List.all_eq_true.mp h3 c hc)
  rw [show az = abc from rfl, ls_abc] at this
  obtain ⟨k, hk, rfl⟩ := List.mem_map.mp this
  have := List.mem_range.mp hk
  omega
theorem row_of {e : PyData} (h : rowB e = true) : ∃ r, asRow e = some r ∧ e = rowD r ∧ RowV r := by
  unfold rowB at h
  split at h
  · rename_i n p c
    rw [Bool.and_eq_true, Bool.and_eq_true] at h
    obtain ⟨h1, h2, h3⟩ := h
    cases n with
    | str x =>
      cases p with
      | int i =>
        cases c with
        | int j =>
          have h2 : (decide (-1000000000000 ≤ i) && decide (i ≤ 1000000000000)) = true := h2
          have h3 : (decide (0 ≤ j) && decide (j ≤ 1000000000000000000)) = true := h3
          rw [Bool.and_eq_true, decide_eq_true_iff, decide_eq_true_iff] at h2 h3
          exact ⟨(x, i, j), rfl, rfl, name_ok h1, h2, h3⟩
        | _ => cases h3
      | _ => cases h2
    | _ => cases h1
  · cases h
theorem rows_all : ∀ {ds : List PyData}, ds.all rowB = true → ∃ xs, rowsOf ds = some xs ∧ ds = xs.map rowD ∧ ∀ x ∈ xs, RowV x
  | [], _ => ⟨[], rfl, rfl, by simp⟩
  | d :: ds, h => by
    rw [List.all_cons, Bool.and_eq_true] at h
    obtain ⟨xs, e1, e2, e3⟩ := rows_all h.2
    obtain ⟨r, k1, k2, k3⟩ := row_of h.1
    refine ⟨r :: xs, by unfold rowsOf; rw [k1, Option.bind_some, e1]; rfl, by rw [List.map_cons, ← e2, ← k2], fun x hx => ?_⟩
    rcases List.mem_cons.mp hx with rfl | hx
    · exact k3
    · exact e3 x hx
end Zk

namespace Zk
open PySem L2
/-! ### loops that end at the first -/
section
variable {τ α β κ ρ : Type}
theorem zfor_cons_rse {f : α → β → M τ (Fl α α ρ)} {a : α} {x : β} {xs : List β} {e : Exc} (h : f a x = rse e) : zfor f a (x :: xs) = (rse e : M τ (Fl α κ ρ)) := by
  funext s
  show (match f a x s with | .ok (.nx a') s' => _ | .ok (.ct a') s' => _ | .ok (.bk a') s' => _ | .ok (.rt r) s' => _ | .exc e s' => _ | .stuck => _) = _
  rw [h]; rfl
end
section
variable {τ β κ ρ : Type}
theorem zfor_find {f : Unit → β → M τ (Fl Unit Unit ρ)} {p : β → Bool} {g : β → ρ} : ∀ {xs : List β}, (∀ x ∈ xs, f () x = if p x = true then ret (.rt (g x)) else ret (.nx ())) → (zfor f () xs : M τ (Fl Unit κ ρ)) = (xs.find? p).elim (ret (.nx ())) fun x => ret (.rt (g x))
  | [], _ => rfl
  | x :: xs, h => by
    have hx := h x (by simp)
    have ih := zfor_find (xs := xs) fun y hy => h y (by simp [hy])
    by_cases z : p x = true
    · rw [if_pos z] at hx
      rw [List.find?_cons_of_pos z]
      rw [zfor_cons_rt hx]; rfl
    · rw [if_neg z] at hx
      rw [List.find?_cons_of_neg z, zfor_cons_nx hx, ih]
theorem zfor_findX {f : Unit → β → M τ (Fl Unit Unit ρ)} {p : β → Bool} {g : β → Exc} : ∀ {xs : List β}, (∀ x ∈ xs, f () x = if p x = true then rse (g x) else ret (.nx ())) → (zfor f () xs : M τ (Fl Unit κ ρ)) = (xs.find? p).elim (ret (.nx ())) fun x => rse (g x)
  | [], _ => rfl
  | x :: xs, h => by
    have hx := h x (by simp)
    have ih := zfor_findX (xs := xs) fun y hy => h y (by simp [hy])
    by_cases z : p x = true
    · rw [if_pos z] at hx
      rw [List.find?_cons_of_pos z]
      rw [zfor_cons_rse hx]; rfl
    · rw [if_neg z] at hx
      rw [List.find?_cons_of_neg z, zfor_cons_nx hx, ih]
end
/-! ### what is due, plainly -/
inductive Rf
  | wrong (k : Int) | twice (n : Str) | walker (n : Str) | lacks (n : Str) | told (xs : List Row)
abbrev D23 : Type := (Str × Int) ⊕ (Str × Str) ⊕ (Str × List Row)
abbrev T23 : Type := (Str × List Row) ⊕ (Str × Int) ⊕ (Str × Str)
def outD : Rf → D23
  | .wrong k => .inl ("wrong", k)
  | .twice n => .inr (.inl ("twice", n))
  | .walker n => .inr (.inl ("walker", n))
  | .lacks n => .inr (.inl ("lacks", n))
  | .told xs => .inr (.inr ("told", xs))
def outT : Rf → T23
  | .wrong k => .inr (.inl ("wrong", k))
  | .twice n => .inr (.inr ("twice", n))
  | .walker n => .inr (.inr ("walker", n))
  | .lacks n => .inr (.inr ("lacks", n))
  | .told xs => .inl ("told", xs)
abbrev leR : Row → Row → Bool := PySem.W.dataLe false (dat3 datS datI datI).d
abbrev sortN (ns : List Str) : List Str := ns.mergeSort (PySem.W.dataLe false datS.d)
def lessF (xs : List Row) (r : Row) : Row := (r.1, r.2.1 - minF (xs.map fun r => r.2.1), r.2.2)
def lvF (xs : List Row) : List Row := (xs.map (lessF xs)).mergeSort leR
def twF (ms : List Str) : Option (Int × Str) := (fenum ms).find? fun t => decide (t.2 ∈ ms.take t.1.toNat)
def rowsR (ns : List Str) (xs : List Row) : Rf :=
  match twF (xs.map (·.1)) with
  | some t => .twice t.2
  | none => match (xs.map (·.1)).find? (fun n => !decide (n ∈ ns)) with
    | some n => .walker n
    | none => match (sortN ns).find? (fun n => !decide (n ∈ xs.map (·.1))) with
      | some n => .lacks n
      | none => .told (lvF xs)
def dueR (ns : List Str) (web : Bool) (d : PyData) : Rf :=
  if web = true then match d with
    | .list ds => if ds.all rowB = true then match rowsOf ds with | some xs => rowsR ns xs | none => .wrong 1 else .wrong 1
    | _ => .wrong 1
  else .wrong 0
abbrev isW : XWeb ⊕ PyData → Bool := Sum.elim (fun _ => true) (fun _ => false)
def RowsT (d : PyData) : Prop := ∀ ds, d = .list ds → ds.length ≤ 100 ∧ ∀ e ∈ ds, Rw e
theorem tw_nodup {ms : List Str} (h : twF ms = none) : ms.Nodup := by
  refine List.pairwise_iff_getElem.mpr fun i j hi hj hij he => ?_
  have hm : ((j : Int), ms[j]) ∈ fenum ms := by
    unfold fenum
    exact List.mem_map.mpr ⟨(ms[j], j), List.mem_zipIdx_iff_getElem?.mpr (List.getElem?_eq_getElem hj), rfl⟩
  have := List.find?_eq_none.mp h _ hm
  apply this
  rw [decide_eq_true_iff]
  show ms[j] ∈ ms.take (j : Int).toNat
  rw [Int.toNat_natCast]
  exact List.mem_iff_getElem.mpr ⟨i, by rw [List.length_take]; omega, by rw [List.getElem_take]; exact he⟩
theorem fsort_rows {τ : Type} {xs : List Row} (hl : xs.length ≤ 1000000) : (fsort (dat3 datS datI datI) xs : M τ _) = ret (xs.mergeSort leR) := by
  unfold fsort; rw [chk_pos ⟨by decide, Nat.le_trans hl (by decide)⟩]
theorem sort_mem {ns : List Str} {n : Str} : n ∈ sortN ns ↔ n ∈ ns := (List.mergeSort_perm _ _).mem_iff
theorem le_apart {a b : Str} {x y z w : Int} (h : a ≠ b) : leR (a, x, y) (b, z, w) = !decide (b.cps.toList < a.cps.toList) := by
  show PySem.W.dataLe false (dat3 datS datI datI).d (a, x, y) (b, z, w) = _
  rw [PySem.W.dataLe_eq]
  show (!PySem.W.dataLt (.tuple [.str b, .int z, .int w]) (.tuple [.str a, .int x, .int y])) = _
  rw [PySem.W.dataLt_tuple, PySem.W.dataLt_cons (by simp [PySem.W.alike]), if_neg (by simp [PyData.eqv]; exact fun e => h e.symm), PySem.W.dataLt_str]
theorem le_refl (r : Row) : leR r r = true := by
  show PySem.W.dataLe false (dat3 datS datI datI).d r r = true
  rw [PySem.W.dataLe_eq]
  show (!PySem.W.dataLt (.tuple [.str r.1, .int r.2.1, .int r.2.2]) (.tuple [.str r.1, .int r.2.1, .int r.2.2])) = _
  have := (PySem.W.sortLe_total (PyProof.Rows.listOrd PyProof.Rows.itemOrd) false fun b : Row => PySem.W.keyToks ((dat3 datS datI datI).d b)).total r r
  have h2 : leR r r = true := by rcases this with h | h <;> exact h
  rw [show leR r r = PySem.W.dataLe false (dat3 datS datI datI).d r r from rfl, PySem.W.dataLe_eq] at h2
  exact h2
theorem fst_inj {xs : List Row} (h : (xs.map (·.1)).Nodup) {a b : Row} (ha : a ∈ xs) (hb : b ∈ xs) (e : a.1 = b.1) : a = b := by
  induction xs with
  | nil => cases ha
  | cons x xs ih =>
    rw [List.map_cons, List.nodup_cons] at h
    rcases List.mem_cons.mp ha with e1 | ha
    · rcases List.mem_cons.mp hb with e2 | hb
      · rw [e1, e2]
      · exact absurd (show x.1 ∈ xs.map (·.1) from List.mem_map.mpr ⟨b, hb, by rw [← e, e1]⟩) h.1
    · rcases List.mem_cons.mp hb with e2 | hb
      · exact absurd (show x.1 ∈ xs.map (·.1) from List.mem_map.mpr ⟨a, ha, by rw [e, e2]⟩) h.1
      · exact ih h.2 ha hb
theorem lv_sorted {xs : List Row} (h : (xs.map (·.1)).Nodup) : lvF xs = (xs.mergeSort leR).map (lessF xs) := by
  unfold lvF
  refine (List.map_mergeSort fun a ha b hb => ?_).symm
  by_cases e : a.1 = b.1
  · have := fst_inj h ha hb e
    subst this
    rw [le_refl, le_refl]
  · rw [show leR a b = leR (a.1, a.2.1, a.2.2) (b.1, b.2.1, b.2.2) from rfl, le_apart e]
    unfold lessF
    rw [le_apart e]
end Zk

namespace Zk
open PySem L2
theorem all_map {ds : List PyData} : (ds.map rowB).all id = ds.all rowB := by rw [List.all_map]; rfl
theorem asLR_ret {τ : Type} {ds : List PyData} {xs : List Row} (h : rowsOf ds = some xs) : (zgetP asLR (ret (PyData.list ds)) : M τ (List Row)) = ret xs := by
  show mopt (asLR (.list ds)) = _
  unfold asLR
  rw [show asL (.list ds) = some ds from rfl, Option.bind_some, h]; rfl
theorem rows_len' : ∀ {ds : List PyData} {xs : List Row}, ds = xs.map rowD → xs.length = ds.length := fun h => by rw [h, List.length_map]
theorem tw_cut {τ : Type} {ms : List Str} {x : Int × Str} (hx : x ∈ fenum ms) : (zop2 fin_ (ret x.2) (zsl (ret ms) (ret none) (zsome (ret x.1))) : M τ Bool) = ret (decide (x.2 ∈ ms.take x.1.toNat)) := by
  obtain ⟨i, e1, e2⟩ := fenum_get hx
  rw [e1, zsome_ret, zsl_ret, cut_hi, zop2_ret]; rfl
theorem due_eq {ns : List Str} {hall : XWeb ⊕ PyData} {d : PyData} (hl : 1 ≤ ns.length ∧ ns.length ≤ 100) (hd : RowsT d) : m_w_due (ns, hall, d) = ret (outD (dueR ns (isW hall) d)) := by
  have sz : sizeLine = 16777216 := by decide
  unfold m_w_due b_w_due
  cases hall with
  | inr z => rfl
  | inl w =>
    rw [show (zget (Sum.elim (fun _ : XWeb => true) (fun _ : PyData => false)) (ret (Sum.inl w)) : M Unit Bool) = ret true from rfl, znot_ret, zifS_ret, if_neg (by decide), znx_ret, zseq_nx]
    cases d with
    | list ds =>
      obtain ⟨h1, h2⟩ := hd ds rfl
      rw [show (zget (isD "list") (zget qQ.d (ret (PyData.list ds))) : M Unit Bool) = ret true from rfl, znot_ret, show (!true) = false from rfl, zor_f, show (zgetP asL (ret (PyData.list ds)) : M Unit (List PyData)) = ret ds from rfl]
      rw [zlc_map (g := rowB) (fun e he => by rw [zapp_ret, row_own (h2 e he), lft_ret]) (by omega), zapp_ret, fall_eq, all_map, znot_ret, zifS_ret]
      by_cases ha : ds.all rowB = true
      · obtain ⟨xs, e1, e2, e3⟩ := rows_all ha
        have hx := rows_len' e2
        rw [ha, if_neg (by decide), zseq_nx, asLR_ret e1, zlc_map (g := fun r : Row => r.1) (fun _ _ => by rfl) (by omega), zset_ret, zseq_nx, zenum_ret, zforI_ret]
        have edue : dueR ns (isW (.inl w)) (.list ds) = rowsR ns xs := by
          show (if ds.all rowB = true then match rowsOf ds with | some xs => rowsR ns xs | none => .wrong 1 else .wrong 1) = _
          rw [if_pos ha, e1]
        rw [edue, zfor_find (p := fun t => decide (t.2 ∈ (xs.map (·.1)).take t.1.toNat)) (g := fun t => .inr (.inl ("twice", t.2))) (fun x hx => by
          rw [tw_cut hx, zifS_ret]
          by_cases z : decide (x.2 ∈ (xs.map (·.1)).take x.1.toNat) = true
          · rw [if_pos z, if_pos z]; rfl
          · rw [if_neg z, if_neg z]; rfl)]
        unfold rowsR
        cases et : twF (xs.map (·.1)) with
        | some t =>
          unfold twF at et
          rw [et]; rfl
        | none =>
          have nd := tw_nodup et
          unfold twF at et
          rw [et, Option.elim_none, zseq_nx, zforI_ret, zfor_find (p := fun n => !decide (n ∈ ns)) (g := fun n => .inr (.inl ("walker", n))) (fun x hx => by
            rw [zop2_ret]; unfold fnin; rw [zifS_ret]
            by_cases z : (!decide (x ∈ ns)) = true
            · rw [if_pos z, if_pos z]; rfl
            · rw [if_neg z, if_neg z]; rfl)]
          cases ew : (xs.map (·.1)).find? (fun n => !decide (n ∈ ns)) with
          | some n => rfl
          | none =>
            rw [Option.elim_none, zseq_nx, zapp_ret, fsort_names (show ns.length ≤ 1000000 by omega), zforI_ret, zfor_find (p := fun n => !decide (n ∈ xs.map (·.1))) (g := fun n => .inr (.inl ("lacks", n))) (fun x hx => by
              rw [zop2_ret]; unfold fnin; rw [zifS_ret]
              by_cases z : (!decide (x ∈ xs.map (·.1))) = true
              · rw [if_pos z, if_pos z]; rfl
              · rw [if_neg z, if_neg z]; rfl)]
            cases el : (sortN ns).find? (fun n => !decide (n ∈ xs.map (·.1))) with
            | some n => rfl
            | none =>
              have hne : xs.map (fun r : Row => r.2.1) ≠ [] := by
                obtain ⟨n, hn⟩ := List.exists_mem_of_length_pos (show 0 < ns.length by omega)
                have := List.find?_eq_none.mp el n (sort_mem.mpr hn)
                have : n ∈ xs.map (·.1) := by simpa using this
                obtain ⟨r, hr, _⟩ := List.mem_map.mp this
                intro z
                rw [List.map_eq_nil_iff.mp z] at hr
                cases hr
              rw [Option.elim_none, zseq_nx, zlc_map (g := fun r : Row => r.2.1) (fun _ _ => by rfl) (by omega), zapp_ret, fminL_eq hne, zset_ret, zseq_nx, zapp_ret, fsort_rows (by omega)]
              rw [zlc_map (g := lessF xs) (fun _ _ => by rfl) (by rw [List.length_mergeSort]; omega), ← lv_sorted nd]; rfl
      · have hf : ds.all rowB = false := by simpa using ha
        rw [hf]
        have edue : dueR ns (isW (.inl w)) (.list ds) = .wrong 1 := by
          show (if ds.all rowB = true then match rowsOf ds with | some xs => rowsR ns xs | none => .wrong 1 else .wrong 1) = _
          rw [if_neg ha]
        rw [edue]; rfl
    | _ => rfl
end Zk

namespace Zk
open PySem L2
def rfM : Rf → M Unit (List Row)
  | .wrong k => rse ⟨"Wrong", [("at", .int k)]⟩
  | .twice n => rse ⟨"Twice", [("name", .str n)]⟩
  | .walker n => rse ⟨"NoWalker", [("name", .str n)]⟩
  | .lacks n => rse ⟨"Lacks", [("name", .str n)]⟩
  | .told xs => ret xs
theorem first_eq {ms : List Str} (hl : ms.length ≤ 1000) : m_first_twice ms = ret ((twF ms).map (·.2)) := by
  unfold m_first_twice b_first_twice
  rw [zenum_ret, zforI_ret, zfor_find (p := fun t => decide (t.2 ∈ ms.take t.1.toNat)) (g := fun t => some t.2) (fun x hx => by
    rw [tw_cut hx, zifS_ret]
    by_cases z : decide (x.2 ∈ ms.take x.1.toNat) = true
    · rw [if_pos z, if_pos z]; rfl
    · rw [if_neg z, if_neg z]; rfl)]
  unfold twF
  cases (fenum ms).find? (fun t => decide (t.2 ∈ ms.take t.1.toNat)) <;> rfl
theorem leveled_any {xs : List Row} (hl : xs.length ≤ 1000) (hne : xs ≠ []) : m_leveled xs = ret (lvF xs) := by
  have sz : sizeLine = 16777216 := by decide
  unfold m_leveled b_leveled
  rw [zlc_map (g := fun r : Row => r.2.1) (fun _ _ => by rfl) (by omega), zapp_ret, fminL_eq (by simpa using hne), zset_ret, zseq_nx]
  rw [zlc_map (g := lessF xs) (fun _ _ => by rfl) (by omega), zapp_ret, fsort_rows (by rw [List.length_map]; omega)]; rfl
theorem standing_eq {ns : List Str} {hall : XWeb ⊕ PyData} {d : PyData} (hl : 1 ≤ ns.length ∧ ns.length ≤ 100) (hd : RowsT d) (hw : ∀ w, hall = .inl w → w.walkers_ = sortN ns) : m_standing_of (hall, d) = rfM (dueR ns (isW hall) d) := by
  have sz : sizeLine = 16777216 := by decide
  unfold m_standing_of b_standing_of
  cases hall with
  | inr z => rfl
  | inl w =>
    have hw := hw w rfl
    have enm : m_Web_names w = ret (sortN ns) := by rw [← hw]; rfl
    rw [show (zget (Sum.elim (fun _ : XWeb => true) (fun _ : PyData => false)) (ret (Sum.inl w)) : M Unit Bool) = ret true from rfl, znot_ret, zifS_ret, if_neg (by decide), znx_ret, zseq_nx]
    cases d with
    | list ds =>
      obtain ⟨h1, h2⟩ := hd ds rfl
      rw [show (zget (isD "list") (zget qQ.d (ret (PyData.list ds))) : M Unit Bool) = ret true from rfl, znot_ret, show (!true) = false from rfl, zor_f, show (zgetP asL (ret (PyData.list ds)) : M Unit (List PyData)) = ret ds from rfl]
      rw [zlc_map (g := rowB) (fun e he => by rw [zapp_ret, row_prog (h2 e he), lft_ret]) (by omega), zapp_ret, fall_eq, all_map, znot_ret, zifS_ret]
      by_cases ha : ds.all rowB = true
      · obtain ⟨xs, e1, e2, e3⟩ := rows_all ha
        have hx := rows_len' e2
        rw [ha, if_neg (by decide), zseq_nx, asLR_ret e1, zlc_map (g := fun r : Row => r.1) (fun _ _ => by rfl) (by omega), zset_ret, zseq_nx, zapp_ret, first_eq (by rw [List.length_map]; omega), lft_ret, zset_ret, zseq_nx]
        have edue : dueR ns (isW (.inl w)) (.list ds) = rowsR ns xs := by
          show (if ds.all rowB = true then match rowsOf ds with | some xs => rowsR ns xs | none => .wrong 1 else .wrong 1) = _
          rw [if_pos ha, e1]
        rw [edue]
        unfold rowsR
        cases et : twF (xs.map (·.1)) with
        | some t => rfl
        | none =>
          rw [show (zget Option.isSome (ret (Option.map (fun t : Int × Str => t.2) none)) : M Unit Bool) = ret false from rfl, zifS_ret, if_neg (by decide), zseq_nx]
          rw [zforI_ret, zfor_findX (p := fun n => !decide (n ∈ ns)) (g := fun n => (⟨"NoWalker", [("name", .str n)]⟩ : Exc)) (fun x hx => by
            rw [show (zapp munl (ret (Sum.inl w)) : M Unit XWeb) = ret w from rfl, zapp_ret, enm, lft_ret, zop2_ret]; unfold fnin; rw [zifS_ret]
            have em : (!decide (x ∈ sortN ns)) = !decide (x ∈ ns) := by rw [decide_eq_decide.mpr (sort_mem (n := x) (ns := ns))]
            rw [em]
            by_cases z : (!decide (x ∈ ns)) = true
            · rw [if_pos z, if_pos z]; rfl
            · rw [if_neg z, if_neg z]; rfl)]
          cases ew : (xs.map (·.1)).find? (fun n => !decide (n ∈ ns)) with
          | some n => rfl
          | none =>
            rw [Option.elim_none, zseq_nx, show (zapp munl (ret (Sum.inl w)) : M Unit XWeb) = ret w from rfl, zapp_ret, enm, lft_ret, zforI_ret, zfor_findX (p := fun n => !decide (n ∈ xs.map (·.1))) (g := fun n => (⟨"Lacks", [("name", .str n)]⟩ : Exc)) (fun x hx => by
              rw [zop2_ret]; unfold fnin; rw [zifS_ret]
              by_cases z : (!decide (x ∈ xs.map (·.1))) = true
              · rw [if_pos z, if_pos z]; rfl
              · rw [if_neg z, if_neg z]; rfl)]
            cases el : (sortN ns).find? (fun n => !decide (n ∈ xs.map (·.1))) with
            | some n => rfl
            | none =>
              have hne : xs ≠ [] := by
                obtain ⟨n, hn⟩ := List.exists_mem_of_length_pos (show 0 < ns.length by omega)
                have := List.find?_eq_none.mp el n (sort_mem.mpr hn)
                have : n ∈ xs.map (·.1) := by simpa using this
                obtain ⟨r, hr, _⟩ := List.mem_map.mp this
                intro z
                rw [z] at hr
                cases hr
              rw [Option.elim_none, zseq_nx, zapp_ret, leveled_any (by omega) hne]; rfl
      · have hf : ds.all rowB = false := by simpa using ha
        rw [hf]
        have edue : dueR ns (isW (.inl w)) (.list ds) = .wrong 1 := by
          show (if ds.all rowB = true then match rowsOf ds with | some xs => rowsR ns xs | none => .wrong 1 else .wrong 1) = _
          rw [if_neg ha]
        rw [edue]; rfl
    | _ => rfl
theorem told_eq {ns : List Str} {hall : XWeb ⊕ PyData} {d : PyData} (hl : 1 ≤ ns.length ∧ ns.length ≤ 100) (hd : RowsT d) (hw : ∀ w, hall = .inl w → w.walkers_ = sortN ns) : m_w_told (hall, d) = ret (outT (dueR ns (isW hall) d)) := by
  unfold m_w_told b_w_told
  rw [zpair_ret, zapp_ret, standing_eq hl hd hw]
  cases dueR ns (isW hall) d with
  | told xs => rfl
  | wrong k => rfl
  | twice n => rfl
  | walker n => rfl
  | lacks n => rfl
end Zk

namespace Zk
open PySem L2
/-! ### what is drawn -/
structure SA (x : Str) : Prop where
  o : PyData.strOk x = true
  l : x.length ≤ 30
theorem SA.s {x : Str} (h : SA x) : SOk x := ⟨by have := h.l; omega, h.o⟩
theorem sa_sh {x : Str} (h : SA x) : Sh 30 0 (.str x) := by
  refine ⟨by simp [PyData.showable], by simp [PyData.depth], ?_, ?_⟩
  · simp only [PyData.leavesShort]
    have := h.o
    unfold PyData.strOk at this
    rw [← Array.all_toList, List.all_eq_true] at this
    exact List.all_eq_true.mpr fun c hc => decide_eq_true (by have := of_decide_eq_true (this c hc); omega)
  · exact h.l
theorem sa_name {x : Str} (h : NameOk x) : SA x := by
  refine ⟨?_, by rw [ls_len]; have := h.len.2; omega⟩
  unfold PyData.strOk
  rw [← Array.all_toList, List.all_eq_true]
  exact fun c hc => decide_eq_true (by have := h.abc c hc; omega)
theorem sa_int {i : Int} (h : i.natAbs < 10 ^ 20) : SA ((toString i : String) : Str) := by
  refine ⟨?_, ?_⟩
  · unfold PyData.strOk
    rw [← Array.all_toList, List.all_eq_true]
    intro c hc
    have : c ∈ ((toString i).toList.map Char.toNat) := by
      rw [show (((toString i : String) : Str) = PySem.Str.ofString (toString i)) from rfl, PySem.Str.ofString_eq_toList] at hc
      exact hc
    obtain ⟨d, _, rfl⟩ := List.mem_map.mp this
    refine decide_eq_true ?_
    have := d.valid
    have : d.toNat < 1114112 := by
      rcases this with h | ⟨_, h⟩
      · exact Nat.lt_trans h (by decide)
      · exact h
    exact this
  · show (PySem.Str.ofString (toString i)).length ≤ 30
    rw [PySem.ofString_length]
    exact Nat.le_trans (PySem.int_text_length_le10 (k := 20) (by decide) h) (by decide)
/-- what stands in a row -/
structure At (e : PyData) : Prop where
  s : Sh 40 3 e
  c : e.canLay0 = true
  o : ∀ x, e = .str x → SOk x
structure Th1 (e : PyData) : Prop where
  s : Sh 300 4 e
  r : Rw e
structure Wh (d : PyData) : Prop where
  s : Sh 8000 50 d
  r : ∀ ds, d = .list ds → ds.length ≤ 20 ∧ ∀ e ∈ ds, Rw e
theorem at_str {x : Str} (h : SA x) : At (.str x) := ⟨(sa_sh h).mono (by omega) (by omega), by simp [PyData.canLay0, h.o], fun y e => by cases e; exact h.s⟩
theorem at_int {i : Int} (h : i.natAbs < 2 ^ 1900) : At (.int i) := ⟨(sh_int h).mono (by omega) (by omega), by simp [PyData.canLay0], fun y e => by cases e⟩
theorem at_non : At .none := ⟨sh_non.mono (by omega) (by omega), by simp [PyData.canLay0], fun y e => by cases e⟩
theorem at_bl {b : Bool} : At (.bool b) := ⟨sh_bl.mono (by omega) (by omega), by simp [PyData.canLay0], fun y e => by cases e⟩
theorem at_name {x : Str} (h : SA x) : At (.list [.str x]) := ⟨(sh_list (m := 1) (fun e he => by rw [List.mem_singleton.mp he]; exact sa_sh h) (by simp)).mono (by omega) (by omega), by simp [PyData.canLay0, PyData.canLayAll0, h.o], fun y e => by cases e⟩
theorem at_lay : ∀ {xs : List PyData}, (∀ e ∈ xs, e.canLay0 = true) → PyData.canLayAll0 xs = true
  | [], _ => by simp [PyData.canLayAll0]
  | x :: xs, h => by rw [PyData.canLayAll0, h x (by simp), at_lay fun e he => h e (by simp [he])]; rfl
theorem th_tup {ds : List PyData} (h : ∀ e ∈ ds, At e) (hl : ds.length ≤ 4) : Th1 (.tuple ds) := by
  have s := sh_tup (m := 4) (fun e he => (h e he).s) hl
  exact ⟨s.mono (by omega) (by omega), by rw [PyData.canLay0]; exact at_lay fun e he => (h e he).c, Nat.le_trans s.dd (by omega), fun xs e => by cases e; exact ⟨by omega, fun x hx y ey => (h x hx).o y ey⟩⟩
theorem th_lst {ds : List PyData} (h : ∀ e ∈ ds, At e) (hl : ds.length ≤ 4) : Th1 (.list ds) := by
  have s := sh_list (m := 4) (fun e he => (h e he).s) hl
  exact ⟨s.mono (by omega) (by omega), by rw [PyData.canLay0]; exact at_lay fun e he => (h e he).c, Nat.le_trans s.dd (by omega), fun xs e => by cases e⟩
theorem th_non : Th1 .none := ⟨sh_non.mono (by omega) (by omega), by simp [PyData.canLay0], by simp [PyData.depth], fun xs e => by cases e⟩
theorem wh_list {ds : List PyData} (h : ∀ e ∈ ds, Th1 e) (hl : ds.length ≤ 20) : Wh (.list ds) := by
  have s := sh_list (m := 20) (fun e he => (h e he).s) hl
  exact ⟨s.mono (by omega) (by omega), fun xs e => by cases e; exact ⟨hl, fun e he => (h e he).r⟩⟩
theorem wh_tup {ds : List PyData} (h : ∀ e ∈ ds, Th1 e) (hl : ds.length ≤ 20) : Wh (.tuple ds) := by
  have s := sh_tup (m := 20) (fun e he => (h e he).s) hl
  exact ⟨s.mono (by omega) (by omega), fun xs e => by cases e⟩
theorem wh_in {ds : List PyData} (h : ∀ e ∈ ds, Th1 e) (hl : ds.length ≤ 20) : Wh (.list [.list ds]) := by
  have s := sh_list (m := 20) (fun e he => (h e he).s) hl
  refine ⟨(sh_list (m := 1) (fun e he => by rw [List.mem_singleton.mp he]; exact s) (by simp)).mono (by omega) (by omega), fun xs e => ?_⟩
  cases e
  refine ⟨by simp, fun e he => ?_⟩
  rw [List.mem_singleton.mp he]
  exact ⟨by rw [PyData.canLay0]; exact at_lay fun e he => (h e he).r.c, Nat.le_trans s.dd (by omega), fun xs e => by cases e⟩
theorem row_nat {r : Row} (h : RowV r) : r.2.1.natAbs < 2 ^ 1900 ∧ r.2.2.natAbs < 2 ^ 1900 := by
  obtain ⟨p1, p2⟩ := h.p
  obtain ⟨c1, c2⟩ := h.c
  have : (1000000000000000001 : Nat) < 2 ^ 1900 := by decide +kernel
  exact ⟨Nat.lt_trans (show r.2.1.natAbs < 1000000000000000001 by omega) this, Nat.lt_trans (show r.2.2.natAbs < 1000000000000000001 by omega) this⟩
theorem nat_i {i : Int} (h : i.natAbs < 10000000000000000000) : i.natAbs < 2 ^ 1900 := Nat.lt_trans h (by decide +kernel)
theorem th3 {a b c : PyData} (ha : At a) (hb : At b) (hc : At c) : Th1 (.tuple [a, b, c]) := th_tup (fun e he => by
  simp only [List.mem_cons, List.not_mem_nil, or_false] at he
  rcases he with rfl | rfl | rfl <;> assumption) (by simp)
theorem th_row {r : Row} (h : RowV r) : Th1 (rowD r) := th3 (at_str (sa_name h.n)) (at_int (row_nat h).1) (at_int (row_nat h).2)
theorem th_rows {xs : List Row} (h : ∀ x ∈ xs, RowV x) : ∀ e ∈ xs.map rowD, Th1 e := fun e he => by
  obtain ⟨x, hx, rfl⟩ := List.mem_map.mp he
  exact th_row (h x hx)
end Zk

namespace Zk
open PySem L2
section
variable {τ α κ ρ : Type} {I : τ → Prop}
theorem oks_finsertQ {xs : List α} {m : M τ (Int × α)} {Qv : α → Prop} {N : List α → Prop} {R : ρ → Prop} {Kb Kc : κ → Prop} (hl : xs.length ≤ 100000) (hm : Ok I m fun p => (0 ≤ p.1 ∧ p.1 < 2 ^ 63) ∧ Qv p.2) (k : ∀ i v, Qv v → N (xs.take i ++ [v] ++ xs.drop i)) : OkS I (finsert xs m : M τ (Fl (List α) κ ρ)) N R Kb Kc := fun s hs => by
  obtain ⟨p, s', e, i, ⟨h1, h2⟩, h3⟩ := hm s hs
  refine ⟨.nx (xs.take p.1.toNat ++ [p.2] ++ xs.drop p.1.toNat), s', ?_, i, k _ _ h3⟩
  unfold finsert bnd
  rw [e]
  show chk _ _ s' = _
  rw [chk_pos ⟨by rw [show sizeLine = 16777216 by decide]; omega, h1, h2⟩]; rfl
theorem ok_getQ {α β : Type} {m : M τ α} {f : α → β} {P : α → Prop} {Q : β → Prop} (h : Ok I m P) (k : ∀ x, P x → Q (f x)) : Ok I (zget f m) Q := (ok_get h).mono fun y ⟨x, hx, e⟩ => by rw [e]; exact k x hx
end
theorem w_cells_ok (ns : List Int) (h : ns.length ≤ 63) : ∃ cs, w_cells ns = ret cs ∧ ∀ x ∈ cs, 0 ≤ x := by
  refine ⟨((ns.take 63).map fun x => if x < 0 then -x else x), ?_, fun x hx => ?_⟩
  · unfold w_cells
    rw [zsome_ret, zsl_ret, show cut ns none (some (63 : Int)) = ns.take 63 from cut_hi 63, zlc_map (g := fun x => if x < 0 then -x else x) (fun x _ => by rw [zapp_ret, fabs_eq]) (by rw [List.length_take, show sizeLine = 16777216 by decide]; omega)]
  · obtain ⟨y, _, rfl⟩ := List.mem_map.mp hx
    split <;> omega
theorem ok_tkU {u : Unit} {n : Int} (h1 : 1 ≤ n) (h2 : n < 2 ^ 9000) : Ok Bok (zapp m_w_take (zpair (ret u) (ret n))) (fun v => 0 ≤ v ∧ v < n) := ok_take h1 h2
theorem big (v : Int) (h : v ≤ 10000000000000000000) : v < 2 ^ 9000 := Int.lt_of_le_of_lt h (by decide +kernel)
theorem p12B : (zop2 ipow (ret (10 : Int)) (ret (12 : Int)) : M Bag Int) = ret 1000000000000 := by
  rw [zop2_ret]
  show chk _ _ = _
  rw [chk_pos (by unfold powOk CPow; decide)]; rfl
theorem p18B : (zop2 ipow (ret (10 : Int)) (ret (18 : Int)) : M Bag Int) = ret 1000000000000000000 := by
  rw [zop2_ret]
  show chk _ _ = _
  rw [chk_pos (by unfold powOk CPow; decide)]; rfl
theorem ok_rows {u : Unit} {ns : List Str} (h : ∀ n ∈ ns, NameOk n) (hl : ns.length ≤ 100) : Ok Bok (m_w_rows (u, ns)) (fun xs => xs.length = ns.length ∧ ∀ x ∈ xs, RowV x) := by
  unfold m_w_rows b_w_rows
  rw [p12B, p18B, zop1_ret, ineg_eq]
  refine ok_body ?_
  rw [zlist_eq (by simp), zset_ret, zseq_nx]
  refine oks_seq (N := fun xs => xs.length = ns.length ∧ ∀ x ∈ xs, RowV x) (oks_for (J := fun r xs => xs.length + r.length = ns.length ∧ (∀ x ∈ xs, RowV x) ∧ ∀ n ∈ r, NameOk n) ⟨by simp, by simp, h⟩ (fun x r a hj => ?_) fun a h => ⟨by simpa using h.1, h.2.1⟩) fun xs hx => oks_rt (ok_ret hx)
  obtain ⟨j1, j2, j3⟩ := hj
  rw [List.length_cons] at j1
  refine oks_seq (N := fun v : Int => -1000000000000 ≤ v ∧ v ≤ 1000000000000) (oks_set (ok_ix (k := 5) (ok_listN (ok_cons (ok_ret (by omega)) (ok_cons ((ok_tkU (by omega) (big _ (by omega))).mono fun v hv => by omega) (ok_cons (ok_ret (by omega)) (ok_cons (ok_ret (by omega)) (ok_cons ((ok_tkU (by omega) (big _ (by omega))).mono fun v hv => by omega) ok_nil))))) (by decide)) (ok_tkU (by omega) (big _ (by omega))))) fun pl hpl => ?_
  refine oks_seq (N := fun v : Int => 0 ≤ v ∧ v ≤ 1000000000000000000) (oks_set (ok_ix (k := 4) (ok_listN (ok_cons (ok_ret (by omega)) (ok_cons ((ok_tkU (by omega) (big _ (by omega))).mono fun v hv => by omega) (ok_cons (ok_ret (by omega)) (ok_cons ((ok_tkU (by omega) (big _ (by omega))).mono fun v hv => by omega) ok_nil)))) (by decide)) (ok_tkU (by omega) (big _ (by omega))))) fun co hco => ?_
  rw [zapp_ret (f := flen), flen_eq, zop2_ret (f := iadd), iadd_eq]
  refine oks_seq (N := fun xs : List Row => xs.length + r.length = ns.length ∧ (∀ x ∈ xs, RowV x) ∧ ∀ n ∈ r, NameOk n) (oks_finsertQ (Qv := fun v => v = (x, pl, co)) (by omega) ((ok_pair (P1 := fun v : Int => 0 ≤ v ∧ v < 2 ^ 63) (P2 := fun v => v = (x, pl, co)) ((ok_tkU (by omega) (big _ (by omega))).mono fun v hv => by omega) (by rw [zpair_ret, zpair_ret]; exact ok_ret rfl)).mono fun p hp => hp) fun i v hv => ⟨?_, fun y hy => ?_, fun n hn => j3 n (by simp [hn])⟩) fun xs hx => oks_nx hx
  · simp only [List.length_append, List.length_take, List.length_drop, List.length_singleton]; omega
  · rcases List.mem_append.mp hy with hy | hy
    · rcases List.mem_append.mp hy with hy | hy
      · exact j2 y (List.mem_of_mem_take hy)
      · rw [List.mem_singleton.mp hy, hv]
        exact ⟨j3 x (by simp), hpl, hco⟩
    · exact j2 y (List.mem_of_mem_drop hy)
/-! ### a name with a sign -/
theorem slice_sub (x : Str) (l h : Option Int) : (∀ c ∈ Ls_ (Txt.slice x l h), c ∈ Ls_ x) ∧ (Ls_ (Txt.slice x l h)).length ≤ (Ls_ x).length := by
  have e : Txt.slice x l h = L2.cutS x l h := L2.sliceText_cut x l h
  rw [e]
  unfold L2.cutS
  rw [ls_mk]
  exact ⟨fun c hc => List.mem_of_mem_drop (List.mem_of_mem_take hc), by rw [List.length_take, List.length_drop]; have : (Ls_ x).length = x.cps.toList.length := rfl; omega⟩
def CL (k : Nat) (x : Str) : Prop := (∀ c ∈ Ls_ x, c < 128) ∧ (Ls_ x).length ≤ k
theorem cl_sa {x : Str} (h : CL 30 x) : SA x := by
  refine ⟨?_, by rw [ls_len]; exact h.2⟩
  unfold PyData.strOk
  rw [← Array.all_toList, List.all_eq_true]
  exact fun c hc => decide_eq_true (by have := h.1 c hc; omega)
theorem cl_cat {x y : Str} {j k : Nat} (h : CL j x) (h2 : CL k y) : CL (j + k) (x ++ y) := by
  refine ⟨fun c hc => ?_, by rw [ls_cat, List.length_append]; have := h.2; have := h2.2; omega⟩
  rw [ls_cat] at hc
  rcases List.mem_append.mp hc with hc | hc
  · exact h.1 c hc
  · exact h2.1 c hc
theorem cl_slice {x : Str} {k : Nat} (l u : Option Int) (h : CL k x) : CL k (Txt.slice x l u) := by
  obtain ⟨h1, h2⟩ := slice_sub x l u
  exact ⟨fun c hc => h.1 c (h1 c hc), Nat.le_trans h2 h.2⟩
abbrev odd23 : Str := "A1 -_\nZ{0~."
theorem odd_small : (Ls_ odd23).all (fun c => decide (c < 128)) = true ∧ (Ls_ odd23).length = 11 := by decide +kernel
theorem ok_signed {u : Unit} {x : Str} (h : NameOk x) : Ok Bok (m_w_signed (u, x)) SA := by
  have cx : CL 8 x := ⟨fun c hc => by have := h.abc c hc; omega, h.len.2⟩
  have lx : x.length = (Ls_ x).length := ls_len x
  have l8 := h.len.2
  obtain ⟨o1, o2⟩ := odd_small
  unfold m_w_signed b_w_signed
  refine ok_body ?_
  dsimp only
  rw [zapp_ret (f := flenS), flenS_eq (by omega), zop2_ret (f := iadd), iadd_eq]
  refine oks_seq (N := fun v : Int => 0 ≤ v ∧ v < 10) (oks_set ((ok_tkU (by omega) (big _ (by omega))).mono fun v hv => by omega)) fun sp hsp => ?_
  refine oks_seq (N := CL 1) (oks_set (ok_op2 (f := sixat) (P1 := fun y => y = odd23) (P2 := fun i => 0 ≤ i ∧ i < 11) (ok_ret rfl) (ok_tkU (by omega) (big _ (by omega))) fun y i hy hi => ?_)) fun sg hsg => ?_
  · subst hy
    rw [sixat_eq (c := (Ls_ odd23)[i.toNat]'(by rw [o2]; omega)) (by rw [ls_len, o2]; omega) (atI_nat hi.1 (by rw [o2]; omega))]
    exact ok_ret ⟨fun c hc => by
      have : c = (Ls_ odd23)[i.toNat]'(by rw [o2]; omega) := by simpa using hc
      rw [this]; exact of_decide_eq_true (List.all_eq_true.mp o1 _ (List.getElem_mem _)), Nat.le_refl 1⟩
  · have eS : (zslS (ret x) (ret none) (zsome (ret sp)) : M Bag Str) = ret (Txt.slice x none (some sp)) := by rw [zsome_ret]; exact zslS_ret (by omega)
    have c1 := cl_slice none (some sp) cx
    have c2 := cl_cat c1 hsg
    rw [eS, zop2_ret (f := scat), scat_eq (by rw [ls_len, ls_len]; have := c1.2; have := hsg.2; omega)]
    refine oks_rt (ok_op2 (P1 := CL (8 + 1)) (P2 := CL 8) (ok_ret c2) ?_ fun y z hy hz => ?_)
    · unfold zslS zsome
      refine ok_bnd (P := fun y => y = x) (ok_ret rfl) fun y hy => ok_bnd (P := fun _ => True) (ok_bnd (P := fun _ => True) (ok_op2 (Q := fun _ => True) (P1 := fun _ => True) (P2 := fun _ => True) (ok_ret trivial) (ok_any (ok_tkU (by omega) (big _ (by omega)))) fun a b _ _ => by rw [iadd_eq]; exact ok_ret trivial) fun i _ => ok_ret trivial) fun l _ => ok_bnd (P := fun _ => True) (ok_ret trivial) fun h2 _ => ?_
      subst hy
      rw [chk_pos (show y.length ≤ sizeLine by rw [show sizeLine = 16777216 by decide]; omega)]
      exact ok_ret (cl_slice _ _ cx)
    · rw [scat_eq (by rw [ls_len, ls_len]; have := hy.2; have := hz.2; omega)]
      exact ok_ret (cl_sa ⟨(cl_cat hy hz).1, by have := (cl_cat hy hz).2; omega⟩)
end Zk

namespace Zk
open PySem L2
theorem th2 {a b : PyData} (ha : At a) (hb : At b) : Th1 (.tuple [a, b]) := th_tup (fun e he => by
  simp only [List.mem_cons, List.not_mem_nil, or_false] at he
  rcases he with rfl | rfl <;> assumption) (by simp)
theorem th4 {a b c d : PyData} (ha : At a) (hb : At b) (hc : At c) (hd : At d) : Th1 (.tuple [a, b, c, d]) := th_tup (fun e he => by
  simp only [List.mem_cons, List.not_mem_nil, or_false] at he
  rcases he with rfl | rfl | rfl | rfl <;> assumption) (by simp)
theorem thL3 {a b c : PyData} (ha : At a) (hb : At b) (hc : At c) : Th1 (.list [a, b, c]) := th_lst (fun e he => by
  simp only [List.mem_cons, List.not_mem_nil, or_false] at he
  rcases he with rfl | rfl | rfl <;> assumption) (by simp)
abbrev Q23 (n : Nat) (d : PyData) : Prop := Wh d ∧ ∀ ds, d = .list ds → ds.length ≤ n
theorem sa_A : SA "A" := ⟨by decide +kernel, by decide +kernel⟩
theorem sa_stranger : SA "stranger" := ⟨by decide +kernel, by decide +kernel⟩
theorem sa_strange : SA "strange" := ⟨by decide +kernel, by decide +kernel⟩
theorem go23 {α : Type} {Q : PyData → Prop} (c : Bool) (m : M Bag PyData) (f : Unit → M Bag (Fl α Empty PyData)) {N : α → Prop} {Kb Kc : Empty → Prop} (hm : c = true → Ok Bok m Q) (hf : OkS Bok (f ()) N Q Kb Kc) : OkS Bok (zseq (zifS (ret c) (zrt m) (znx ())) f) N Q Kb Kc := oks_seq (N := fun _ => True) (oks_if (P := fun b => b = c) (ok_ret rfl) (fun e => oks_rt (hm e.symm)) fun _ => oks_nx trivial) fun _ _ => hf
theorem ok_bent {u : Unit} {xs : List Row} (h : ∀ x ∈ xs, RowV x) (hl : 1 ≤ xs.length ∧ xs.length ≤ 15) : Ok Bok (m_w_bent (u, xs)) (Q23 (xs.length + 1)) := by
  unfold m_w_bent b_w_bent
  refine ok_body ?_
  dsimp only
  rw [zapp_ret (f := flen), flen_eq]
  refine oks_seq (N := fun v : Int => 0 ≤ v ∧ v < xs.length) (oks_set (ok_tkU (by omega) (big _ (by omega)))) fun sp hsp => ?_
  refine oks_seq (N := RowV) (oks_set (ok_ix (k := xs.length) (ok_ret ⟨rfl, h⟩) (ok_ret hsp))) fun w hw => ?_
  refine oks_seq (N := fun v : Int => 0 ≤ v ∧ v < 6) (oks_set (ok_tkU (by omega) (big _ (by omega)))) fun way hway => ?_
  rw [zop2_ret (f := feq), feq_eq, zop2_ret (f := feq), feq_eq]
  have tr := th_rows h
  have lr : (xs.map rowD).length = xs.length := List.length_map ..
  have an : At (.str w.1) := at_str (sa_name hw.n)
  have ap : At (.int w.2.1) := at_int (row_nat hw).1
  have ac : At (.int w.2.2) := at_int (row_nat hw).2
  obtain ⟨p1, p2⟩ := hw.p
  obtain ⟨c1, c2⟩ := hw.c
  refine go23 _ _ _ (fun _ => ?_) (go23 _ _ _ (fun _ => ?_) ?_)
  · refine ok_ix (k := 6) (ok_listN (ok_cons (show Ok Bok (ret PyData.none) _ from ok_ret ⟨⟨sh_non.mono (by omega) (by omega), fun ds e => by cases e⟩, fun ds e => by cases e⟩)
      (ok_cons (show Ok Bok (ret (PyData.tuple (xs.map rowD))) _ from ok_ret ⟨wh_tup tr (by omega), fun ds e => by cases e⟩)
      (ok_cons (show Ok Bok (ret (PyData.dict [])) _ from ok_ret ⟨⟨⟨by decide +kernel, by decide +kernel, by decide +kernel, by decide +kernel⟩, fun ds e => by cases e⟩, fun ds e => by cases e⟩)
      (ok_cons (show Ok Bok (ret (PyData.list [])) _ from ok_ret ⟨wh_list (fun e he => by cases he) (by simp), fun ds e => by cases e; simp⟩)
      (ok_cons (show Ok Bok (ret (PyData.int 5)) _ from ok_ret ⟨⟨(sh_int (by decide)).mono (by omega) (by omega), fun ds e => by cases e⟩, fun ds e => by cases e⟩)
      (ok_cons (show Ok Bok (ret (PyData.list [.list (xs.map rowD)])) _ from ok_ret ⟨wh_in tr (by omega), fun ds e => by cases e; simp⟩) ok_nil)))))) (by decide)) (ok_tkU (by omega) (big _ (by omega)))
  · rw [zsome_ret, zsl_ret, cut_hi' hsp.1, zop2_ret (f := iadd), iadd_eq, zsome_ret, zsl_ret, cut_lo' (by omega), zop2_ret, lcat_eq (by rw [List.length_take, List.length_drop]; omega)]
    refine ok_ret ?_
    show Q23 _ (.list ((xs.take sp.toNat ++ xs.drop (sp + 1).toNat).map rowD))
    refine ⟨wh_list (th_rows fun x hx => ?_) (by rw [List.length_map, List.length_append, List.length_take, List.length_drop]; omega), fun ds e => by cases e; rw [List.length_map, List.length_append, List.length_take, List.length_drop]; omega⟩
    rcases List.mem_append.mp hx with hx | hx
    · exact h x (List.mem_of_mem_take hx)
    · exact h x (List.mem_of_mem_drop hx)
  · rw [p12B, p18B]
    refine oks_seq (N := LOf 5 Th1) (oks_set (ok_listN (ok_cons (show Ok Bok (ret (PyData.tuple [.str w.1, .int w.2.1])) _ from ok_ret (th2 an ap))
      (ok_cons (show Ok Bok (ret (PyData.list [.str w.1, .int w.2.1, .int w.2.2])) _ from ok_ret (thL3 an ap ac))
      (ok_cons (show Ok Bok (ret (PyData.tuple [.str w.1, .int w.2.1, .int w.2.2, .int 0])) _ from ok_ret (th4 an ap ac (at_int (by decide))))
      (ok_cons (show Ok Bok (ret (PyData.tuple [.int 5, .int w.2.1, .int w.2.2])) _ from ok_ret (th3 (at_int (by decide)) ap ac))
      (ok_cons (show Ok Bok (ret (PyData.tuple [.str "A", .int w.2.1, .int w.2.2])) _ from ok_ret (th3 (at_str sa_A) ap ac)) ok_nil))))) (by decide))) fun s4 h4 => ?_
    refine oks_seq (N := LOf 9 Th1) (oks_set (ok_catL (j := 5) (k := 4) (ok_ret h4) (ok_listN (ok_cons (show Ok Bok (ret (PyData.tuple [.str w.1, .int (1000000000000 + 1), .int w.2.2])) _ from ok_ret (th3 an (at_int (nat_i (by decide))) ac))
      (ok_cons (show Ok Bok (ret (PyData.tuple [.str w.1, .int (-1000000000000 - 1), .int w.2.2])) _ from ok_ret (th3 an (at_int (nat_i (by decide))) ac))
      (ok_cons (show Ok Bok (ret (PyData.tuple [.str w.1, .int w.2.1, .int (-1)])) _ from ok_ret (th3 an ap (at_int (by decide))))
      (ok_cons (show Ok Bok (ret (PyData.tuple [.str w.1, .none, .int 1])) _ from ok_ret (th3 an at_non (at_int (by decide)))) ok_nil)))) (by decide)) (by decide))) fun s5 h5 => ?_
    refine oks_seq (N := LOf 13 Th1) (oks_set (ok_catL (j := 9) (k := 4) (ok_ret h5) (ok_listN (ok_cons (show Ok Bok (ret (PyData.tuple [.str w.1, .int w.2.1, .int (1000000000000000000 + 1)])) _ from ok_ret (th3 an ap (at_int (nat_i (by decide)))))
      (ok_cons (show Ok Bok (ret (PyData.tuple [.str w.1, .bool true, .int w.2.2])) _ from ok_ret (th3 an at_bl ac))
      (ok_cons (show Ok Bok (ret (PyData.tuple [.str w.1, .int w.2.1, .bool false])) _ from ok_ret (th3 an ap at_bl))
      (ok_cons (show Ok Bok (ret (PyData.tuple [.str "stranger", .int w.2.1, .int w.2.2])) _ from ok_ret (th3 (at_str sa_stranger) ap ac)) ok_nil)))) (by decide)) (by decide))) fun s6 h6 => ?_
    refine oks_seq (N := LOf 17 Th1) (oks_set (ok_catL (j := 13) (k := 4) (ok_ret h6) (ok_listN (ok_cons (show Ok Bok (ret (PyData.tuple [.str w.1, .int (w.2.1 + 1), .int w.2.2])) _ from ok_ret (th3 an (at_int (nat_i (by omega))) ac))
      (ok_cons (show Ok Bok (ret (PyData.tuple [.str w.1, .int 0, .int 0])) _ from ok_ret (th3 an (at_int (by decide)) (at_int (by decide))))
      (ok_cons (show Ok Bok (ret PyData.none) _ from ok_ret th_non)
      (ok_cons (show Ok Bok (ret (PyData.tuple [.str "strange", .int w.2.1, .int w.2.2])) _ from ok_ret (th3 (at_str sa_strange) ap ac)) ok_nil)))) (by decide)) (by decide))) fun s7 h7 => ?_
    have small : ∀ {i : Int}, i.natAbs < 10 ^ 20 → (zapp fstr (ret i) : M Bag Str) = ret ((toString i : String) : Str) := fun {i} hi => by
      rw [zapp_ret]
      exact chk_pos (int_small (Nat.lt_trans hi (by decide +kernel)))
    have sp1 : w.2.1.natAbs < 10 ^ 20 := Nat.lt_of_lt_of_le (show w.2.1.natAbs < 1000000000000000001 by omega) (by decide)
    have sc1 : w.2.2.natAbs < 10 ^ 20 := Nat.lt_of_lt_of_le (show w.2.2.natAbs < 1000000000000000001 by omega) (by decide)
    refine oks_seq (N := LOf 20 Th1) (oks_set (ok_catL (j := 17) (k := 3) (ok_ret h7) (ok_listN (ok_cons (show Ok Bok (ret (PyData.tuple [.str w.1, .int w.2.1, .none])) _ from ok_ret (th3 an ap at_non))
      (ok_cons (by rw [small sc1]; exact (show Ok Bok (ret (PyData.tuple [.str w.1, .int w.2.1, .str _])) _ from ok_ret (th3 an ap (at_str (sa_int sc1)))))
      (ok_cons (show Ok Bok (ret (PyData.tuple [.list [.str w.1], .int w.2.1, .int w.2.2])) _ from ok_ret (th3 (at_name (sa_name hw.n)) ap ac)) ok_nil))) (by decide)) (by decide))) fun s8 h8 => ?_
    refine oks_seq (N := LOf 22 Th1) (oks_set (ok_catL (j := 20) (k := 2) (ok_ret h8) (ok_listN (ok_cons (by rw [small sp1]; exact (show Ok Bok (ret (PyData.tuple [.str w.1, .str _, .int w.2.2])) _ from ok_ret (th3 an (at_str (sa_int sp1)) ac)))
      (ok_cons (ok_getQ (P := fun r : Row => SA r.1 ∧ r.2 = w.2) ((ok_pair (ok_app (P := fun p => p = (u, w.1)) (ok_pair (P1 := fun a => a = u) (P2 := fun b => b = w.1) (ok_ret rfl) (ok_ret rfl) |>.mono fun p hp => Prod.ext hp.1 hp.2) fun p hp => by rw [hp]; exact ok_signed hw.n) (by rw [zpair_ret]; exact ok_ret (Q := fun r => r = w.2) rfl)).mono fun p hp => hp) fun r hr => by
        rw [show r = (r.1, w.2) from Prod.ext rfl hr.2]
        exact th3 (at_str hr.1) ap ac) ok_nil)) (by decide)) (by decide))) fun s9 h9 => ?_
    rw [zop2_ret (f := ilt), ilt_eq, zapp_ret (f := fint), show (fint (decide (way < 4)) : M Bag Int) = ret (if decide (way < 4) = true then 1 else 0) from rfl, zop2_ret (f := iadd), iadd_eq, zsome_ret, zsome_ret, zsl_ret, zsl_ret, cut_hi' hsp.1]
    obtain ⟨k, hk, ek⟩ : ∃ k : Int, (0 ≤ k ∧ k ≤ xs.length ∧ sp ≤ k) ∧ sp + (if decide (way < 4) = true then 1 else 0) = k := ⟨_, by split <;> omega, rfl⟩
    rw [ek, cut_lo' hk.1, zget_ret, zget_ret]
    refine oks_rt (ok_getQ (P := fun c : List PyData => (∀ e ∈ c, Th1 e) ∧ c.length ≤ xs.length + 1) (ok_op2 (f := lcat) (P1 := fun c : List PyData => (∀ e ∈ c, Th1 e) ∧ c.length = sp.toNat + 1) (P2 := fun c => c = (xs.drop k.toNat).map rowD) (ok_op2 (f := lcat) (P1 := fun c => c = (xs.take sp.toNat).map rowD) (P2 := LOf 1 Th1) (ok_ret rfl) (ok_listN (ok_cons (ok_ix (k := 22) (ok_ret h9) (ok_tkU (by omega) (big _ (by omega)))) ok_nil) (by decide)) fun a b ha hb => ?_) (ok_ret rfl) fun a b ha hb => ?_) fun c hc => ?_)
    · rw [lcat_eq (by rw [ha, hb.1, List.length_map, List.length_take]; omega)]
      refine ok_ret ⟨fun e he => ?_, by rw [ha, List.length_append, hb.1, List.length_map, List.length_take]; omega⟩
      rcases List.mem_append.mp he with he | he
      · rw [ha] at he; exact th_rows (fun x hx => h x (List.mem_of_mem_take hx)) e he
      · exact hb.2 e he
    · rw [lcat_eq (by rw [ha.2, hb, List.length_map, List.length_drop]; omega)]
      refine ok_ret ⟨fun e he => ?_, by rw [hb, List.length_append, ha.2, List.length_map, List.length_drop]; omega⟩
      rcases List.mem_append.mp he with he | he
      · exact ha.1 e he
      · rw [hb] at he; exact th_rows (fun x hx => h x (List.mem_of_mem_drop hx)) e he
    · rw [show ((qL qQ) : DaQ (rLst rQ)).d c = .list c from congrArg PyData.list (List.map_id' c)]
      exact ⟨wh_list hc.1 (by omega), fun ds e => by cases e; exact hc.2⟩
end Zk

namespace Zk
open PySem L2
/-! ### what is told, looked at -/
structure RowW (r : Row) : Prop where
  n : NameOk r.1
  p : r.2.1.natAbs < 2 ^ 100
  c : r.2.2.natAbs < 2 ^ 100
theorem lt100 {i : Int} (h : i.natAbs < 2 ^ 100) : i.natAbs < 2 ^ 1900 := Nat.lt_trans h (by decide +kernel)
theorem look_row {g : Row → Int} : ∀ {xs : List Row} {r : Row}, (xs.map (·.1)).Nodup → r ∈ xs → dlook (xs.map fun r => (r.1, g r)) r.1 = some (g r)
  | [], _, _, h => by cases h
  | x :: xs, r, nd, h => by
    rw [List.map_cons, List.nodup_cons] at nd
    rcases List.mem_cons.mp h with rfl | h
    · simp [dlook]
    · have hne : x.1 ≠ r.1 := fun e => nd.1 (by rw [e]; exact List.mem_map.mpr ⟨r, h, rfl⟩)
      have := look_row (g := g) nd.2 h
      rw [List.map_cons]
      unfold dlook at this ⊢
      rw [List.find?_cons_of_neg (by simpa using hne)]
      exact this
theorem dict_row {g : Row → Int} {xs : List Row} {f : Row → M Unit Int} (hf : ∀ x ∈ xs, f x = ret (g x)) (nd : (xs.map (·.1)).Nodup) (hl : xs.length ≤ 1000) : (zdc (fun _ => ret true) (fun e : Row => ret e.1) f (ret xs) : M Unit (List (Str × Int))) = ret (xs.map fun r => (r.1, g r)) := by
  rw [zdc_ret (k := fun r : Row => r.1) (v := g) (fun _ _ => rfl) hf (by omega), dmerge_nodup (by rw [List.nil_append, List.map_map]; exact nd), List.nil_append]
theorem coins_of_eq {xs : List Row} {r : Row} (nd : (xs.map (·.1)).Nodup) (hl : xs.length ≤ 1000) (hr : r ∈ xs) : m_coins_of (xs, r.1) = ret r.2.2 := by
  unfold m_coins_of b_coins_of
  rw [dict_row (g := fun r => r.2.2) (fun _ _ => rfl) nd hl, zop2_ret, dix_eq (look_row (g := fun r => r.2.2) nd hr), zrt_ret, zbody_rt]
theorem lead_row {xs : List Row} {r q : Row} (nd : (xs.map (·.1)).Nodup) (hl : xs.length ≤ 1000) (hr : r ∈ xs) (hq : q ∈ xs) : m_lead (xs, r.1, q.1) = ret (r.2.1 - q.2.1) := by
  unfold m_lead b_lead m_places_of b_places_of
  rw [zapp_ret]
  rw [dict_row (g := fun r => r.2.1) (fun _ _ => rfl) nd hl, zrt_ret, zbody_rt, lft_ret, zset_ret, zseq_nx, zop2_ret, zop2_ret, dix_eq (look_row (g := fun r => r.2.1) nd hr), dix_eq (look_row (g := fun r => r.2.1) nd hq), zop2_ret, isub_eq, zrt_ret, zbody_rt]
theorem alike_eq {i : Int} (h : i.natAbs < 2 ^ 1900) : m_w_alike (i, i) = ret true := by
  unfold m_w_alike b_w_alike
  rw [zapp_ret, frepr_eq (frepr_int h), zop2_ret, feq_eq, zop2_ret, feq_eq, zand_rr, zrt_ret, zbody_rt]
  simp
theorem asked_eq {xs : List Row} (nd : (xs.map (·.1)).Nodup) (hl : xs.length ≤ 1000) (h : ∀ x ∈ xs, RowW x) : m_w_asked_right xs = ret true := by
  unfold m_w_asked_right b_w_asked_right
  rw [zforI_ret, zfor_same (fun x hx => ?_), zseq_nx, zrt_ret, zbody_rt]
  rw [zpair_ret, zapp_ret, coins_of_eq nd hl hx, lft_ret, zpair_ret, zapp_ret, alike_eq (lt100 (h x hx).c), lft_ret, znot_ret, zifS_ret, if_neg (by decide), znx_ret, zseq_nx]
  rw [zforI_ret, zfor_same (fun y hy => ?_), zseq_nx]
  have hp := (h x hx).p
  have hq := (h y hy).p
  have : (x.2.1 - y.2.1).natAbs < 2 ^ 1900 := Nat.lt_of_lt_of_le (show (x.2.1 - y.2.1).natAbs < 2 ^ 100 + 2 ^ 100 by omega) (by decide +kernel)
  rw [zpair_ret, zpair_ret, zapp_ret, lead_row nd hl hx hy, lft_ret, zop2_ret, isub_eq, zpair_ret, zapp_ret, alike_eq this, lft_ret, znot_ret, zifS_ret, if_neg (by decide), zseq_nx]
/-! ### what is due is told alike -/
def dataOf : Rf → PyData
  | .wrong k => .tuple [.str "wrong", .int k]
  | .twice n => .tuple [.str "twice", .str n]
  | .walker n => .tuple [.str "walker", .str n]
  | .lacks n => .tuple [.str "lacks", .str n]
  | .told xs => .tuple [.str "told", .tuple (xs.map rowD)]
def RfOk : Rf → Prop
  | .wrong k => k = 0 ∨ k = 1
  | .twice n => NameOk n
  | .walker n => NameOk n
  | .lacks n => NameOk n
  | .told xs => xs.length ≤ 20 ∧ (∀ x ∈ xs, RowW x) ∧ (xs.map (·.1)).Nodup
theorem sh_pair {N M D : Nat} {a b : PyData} (h : Sh N D a) (k : Sh M D b) : Sh (N + M + 2) (D + 1) (.tuple [a, b]) := by
  have h1 := h.b
  have h2 := k.b
  have h3 := h.dd
  have h4 := k.dd
  refine ⟨by simp [PyData.showable, PyData.showableAll, h.w, k.w], ?_, ?_, ?_⟩
  · simp only [PyData.depth, PyData.depthAll]; omega
  · simp only [PyData.leavesShort, PyData.leavesShortAll, h.t, k.t, Bool.and_self]
  · simp only [PyData.bulk, PyData.bulkAll]; omega
theorem sa_word : SA "wrong" ∧ SA "twice" ∧ SA "walker" ∧ SA "lacks" ∧ SA "told" := ⟨⟨by decide +kernel, by decide +kernel⟩, ⟨by decide +kernel, by decide +kernel⟩, ⟨by decide +kernel, by decide +kernel⟩, ⟨by decide +kernel, by decide +kernel⟩, ⟨by decide +kernel, by decide +kernel⟩⟩
theorem lay2 {a b : PyData} (h : a.canLay0 = true) (k : b.canLay0 = true) : (PyData.tuple [a, b]).canLay0 = true := by
  simp [PyData.canLay0, PyData.canLayAll0, h, k]
theorem th_rowW {r : Row} (h : RowW r) : Th1 (rowD r) := th3 (at_str (sa_name h.n)) (at_int (lt100 h.p)) (at_int (lt100 h.c))
theorem two_str {x y : Str} (hx : SA x) (hy : SA y) : Sh 8000 50 (.tuple [.str x, .str y]) ∧ (PyData.tuple [.str x, .str y]).canLay0 = true := ⟨(sh_pair (sa_sh hx) (sa_sh hy)).mono (by omega) (by omega), lay2 (by simp [PyData.canLay0, hx.o]) (by simp [PyData.canLay0, hy.o])⟩
theorem data_ok {R : Rf} (h : RfOk R) : Sh 8000 50 (dataOf R) ∧ (dataOf R).canLay0 = true := by
  obtain ⟨w1, w2, w3, w4, w5⟩ := sa_word
  cases R with
  | wrong k =>
    have hk : k.natAbs < 2 ^ 1900 := Nat.lt_of_lt_of_le (show k.natAbs < 2 by rcases h with rfl | rfl <;> decide) (by decide +kernel)
    exact ⟨(sh_pair (sa_sh w1) (sh_int hk)).mono (by omega) (by omega), lay2 (by simp [PyData.canLay0, w1.o]) (by simp [PyData.canLay0])⟩
  | twice n => exact two_str w2 (sa_name h)
  | walker n => exact two_str w3 (sa_name h)
  | lacks n => exact two_str w4 (sa_name h)
  | told xs =>
    obtain ⟨h1, h2, _⟩ := h
    have ht : ∀ e ∈ xs.map rowD, Th1 e := fun e he => by
      obtain ⟨x, hx, rfl⟩ := List.mem_map.mp he
      exact th_rowW (h2 x hx)
    have hs := sh_tup (m := 20) (fun e he => (ht e he).s) (show (xs.map rowD).length ≤ 20 by rw [List.length_map]; exact h1)
    refine ⟨(sh_pair ((sa_sh w5).mono (Nat.le_refl _) (by omega)) hs).mono (by omega) (by omega), lay2 (by simp [PyData.canLay0, w5.o]) ?_⟩
    rw [PyData.canLay0]
    exact at_lay fun e he => (ht e he).r.c
theorem reprW_of {τ α : Type} {R : Rel α} {D : DatW R} {x : α} {d : PyData} (e : D.d x = d) (hn : D.n ≤ 60) (h : Sh 8000 50 d) (k : d.canLay0 = true) : (freprW D x : M τ Str) = ret d.shown := by
  unfold freprW
  rw [e]
  refine chk_pos ⟨h.w, k, hn, ?_⟩
  have := PyData.shown_le_bulk 1921 (by omega) d h.t
  have := h.b
  have : (1921 + 2) * d.bulk ≤ (1921 + 2) * 8000 := Nat.mul_le_mul_left _ h.b
  rw [show sizeLine = 16777216 by decide]; omega
theorem repr_told {τ : Type} {R : Rf} (h : RfOk R) : (freprW (datU (DatR.w (dat2 datS (datV (dat3 datS datI datI)))) (datU (DatR.w (dat2 datS datI)) (DatR.w (dat2 datS datS)))) (outT R) : M τ Str) = ret (dataOf R).shown := by
  obtain ⟨h1, h2⟩ := data_ok h
  exact reprW_of (by cases R <;> rfl) (by decide) h1 h2
theorem repr_due {τ : Type} {R : Rf} (h : RfOk R) : (freprW (datU (DatR.w (dat2 datS datI)) (datU (DatR.w (dat2 datS datS)) (DatR.w (dat2 datS (datV (dat3 datS datI datI)))))) (outD R) : M τ Str) = ret (dataOf R).shown := by
  obtain ⟨h1, h2⟩ := data_ok h
  exact reprW_of (by cases R <;> rfl) (by decide) h1 h2
end Zk

namespace Zk
open PySem L2
/-! ### the law -/
theorem Wh.t {d : PyData} (h : Wh d) : RowsT d := fun ds e => ⟨by have := (h.r ds e).1; omega, (h.r ds e).2⟩
theorem shapedR {xs : List PyData} (h : ∀ e ∈ xs, Rw e) : SeqAt.shaped (.list xs) = true := by
  have key : ∀ {xs : List PyData}, (∀ e ∈ xs, Rw e) → PyData.canLayAll0 xs = true ∧ PyData.depthAll xs ≤ 10 := by
    intro xs
    induction xs with
    | nil => intro _; exact ⟨by simp [PyData.canLayAll0], by simp [PyData.depthAll]⟩
    | cons x xs ih =>
      intro h
      obtain ⟨h1, h2⟩ := ih fun e he => h e (by simp [he])
      have hx := h x (by simp)
      refine ⟨by rw [PyData.canLayAll0, hx.c, h1]; rfl, ?_⟩
      have := hx.d
      simp only [PyData.depthAll]
      omega
  obtain ⟨h1, h2⟩ := key h
  have h3 : (PyData.list xs).depth = PyData.depthAll xs + 1 := by rw [PyData.depth]
  unfold SeqAt.shaped
  simp only [PyData.canLay0, h1, Bool.true_and, decide_eq_true_eq]
  omega
def bendB : PyData → Bool
  | .list ds => !decide (ds = []) && (ds.filter fun e => !rowB e).isEmpty
  | _ => false
theorem test_eq {d : PyData} (h : Wh d) : (zand (zget (isD "list") (zget qQ.d (ret d))) (zand (zop2 dneP (ret d) (zget ((qL qI) : DaQ (rLst rInt)).d (zlist ((ret []) : M _ (List Int))))) (zop2 feqNil (zlc (fun e7 => (znot (zapp (fun x => lft (m_w_is_row x)) (ret e7)))) (fun e7 => (ret e7)) (zgetP asL (ret d))) (zlist ((ret []) : M _ (List Int))))) : M Bag Bool) = ret (bendB d) := by
  cases d with
  | list ds =>
    obtain ⟨h1, h2⟩ := h.r ds rfl
    rw [show (zget (isD "list") (zget qQ.d (ret (PyData.list ds))) : M Bag Bool) = ret true from rfl, zand_tt, show (zgetP asL (ret (PyData.list ds)) : M Bag (List PyData)) = ret ds from rfl]
    have e1 : (zop2 dneP (ret (PyData.list ds)) (zget ((qL qI) : DaQ (rLst rInt)).d (zlist ((ret []) : M _ (List Int)))) : M Bag Bool) = ret (!decide (ds = [])) := by
      rw [zlist_eq (by simp), zget_ret, zop2_ret]
      show (dneP (.list ds) (.list []) : M Bag Bool) = _
      unfold dneP
      rw [chk_pos ⟨shapedR h2, shapedR (by simp)⟩, eqv_nil]
    rw [e1, zlc_filter (p := fun e => !rowB e) (g := fun e => e) (fun e he => by rw [zapp_ret, row_own (h2 e he), lft_ret, znot_ret]) (fun _ _ => rfl) (by rw [show sizeLine = 16777216 by decide]; omega), List.map_id', zlist_eq (by simp), zop2_ret]
    show zand (ret (!decide (ds = []))) (ret ((ds.filter fun e => !rowB e).isEmpty)) = _
    rw [zand_rr]; rfl
  | _ => rfl
theorem bend_rows {d : PyData} (h : bendB d = true) : ∃ ds xs, d = .list ds ∧ rowsOf ds = some xs ∧ ds = xs.map rowD ∧ (∀ x ∈ xs, RowV x) ∧ 1 ≤ xs.length := by
  cases d with
  | list ds =>
    have h : (!decide (ds = []) && (ds.filter fun e => !rowB e).isEmpty) = true := h
    rw [Bool.and_eq_true] at h
    have hall : ds.all rowB = true := by
      rw [List.all_eq_true]
      intro e he
      have := List.isEmpty_iff.mp h.2
      rw [List.filter_eq_nil_iff] at this
      simpa using this e he
    obtain ⟨xs, e1, e2, e3⟩ := rows_all hall
    refine ⟨ds, xs, rfl, e1, e2, e3, ?_⟩
    rcases Nat.eq_zero_or_pos xs.length with z | z
    · have z := List.length_eq_zero_iff.mp z
      rw [z] at e2
      rw [e2] at h
      exact absurd h.1 (by decide)
    · exact z
  | _ => cases h
theorem rows_out {ns : List Str} {xs : List Row} (hx : ∀ x ∈ xs, RowV x) (hn : ∀ n ∈ ns, NameOk n) (hl : xs.length ≤ 20) : RfOk (rowsR ns xs) := by
  have hm : ∀ n ∈ xs.map (·.1), NameOk n := fun n hn => by
    obtain ⟨x, h, rfl⟩ := List.mem_map.mp hn
    exact (hx x h).n
  unfold rowsR
  cases et : twF (xs.map (·.1)) with
  | some t =>
    have := List.mem_of_find?_eq_some et
    obtain ⟨i, e1, e2⟩ := fenum_get this
    exact hm _ (List.mem_of_getElem? e2)
  | none =>
    have nd := tw_nodup et
    dsimp only
    cases ew : (xs.map (·.1)).find? (fun n => !decide (n ∈ ns)) with
    | some n => exact hm n (List.mem_of_find?_eq_some ew)
    | none =>
      dsimp only
      cases el : (sortN ns).find? (fun n => !decide (n ∈ xs.map (·.1))) with
      | some n => exact hn n (sort_mem.mp (List.mem_of_find?_eq_some el))
      | none =>
        have pm : (lvF xs).Perm (xs.map (lessF xs)) := List.mergeSort_perm _ _
        refine ⟨by rw [pm.length_eq, List.length_map]; exact hl, fun y hy => ?_, ?_⟩
        · obtain ⟨x, hxm, rfl⟩ := List.mem_map.mp (pm.mem_iff.mp hy)
          have hne : xs.map (fun r : Row => r.2.1) ≠ [] := fun z => by
            rw [List.map_eq_nil_iff.mp z] at hxm; cases hxm
          obtain ⟨z, hz, ez⟩ := List.mem_map.mp (minF_mem hne)
          have hv := hx x hxm
          have hw := hx z hz
          have a := hv.p
          have b := hw.p
          have c := hv.c
          have e : (2 : Nat) ^ 100 = 1267650600228229401496703205376 := by decide
          refine ⟨hv.n, ?_, ?_⟩
          · show (x.2.1 - minF (xs.map fun r : Row => r.2.1)).natAbs < _
            rw [← ez, e]; omega
          · show x.2.2.natAbs < _
            rw [e]; omega
        · refine (pm.map _).nodup_iff.mpr ?_
          rw [List.map_map]
          exact nd
theorem due_ok {ns : List Str} {b : Bool} {d : PyData} (hn : ∀ n ∈ ns, NameOk n) (h : Wh d) : RfOk (dueR ns b d) := by
  unfold dueR
  split
  · cases d with
    | list ds =>
      dsimp only
      split
      · rename_i ha
        obtain ⟨xs, e1, e2, e3⟩ := rows_all ha
        rw [e1]
        exact rows_out e3 hn (by rw [rows_len' e2]; exact (h.r ds rfl).1)
      · exact .inr rfl
    | _ => exact .inr rfl
  · exact .inl rfl
theorem last_eq {R : Rf} (h : RfOk R) : (zand (zop2 feq (zgetP (Sum.elim (fun x : (Str × Int) => some (x.1)) (Sum.elim (fun x : (Str × Str) => some (x.1)) (fun x : (Str × (List (Str × Int × Int))) => some (x.1)))) (ret (outD R))) (ret ("told" : Str))) (znot (zapp (fun x => lft (m_w_asked_right x)) (zapp munl (zgetP (Sum.elim (fun x => ((fun x : (Str × (List (Str × Int × Int))) => some (x.2)) x).map Sum.inl) (Sum.elim (fun x => ((fun x => ((fun x : (Str × Int) => some (x.2)) x).map Sum.inl) x).map Sum.inr) (fun x => ((fun x => ((fun x : (Str × Str) => some (x.2)) x).map Sum.inr) x).map Sum.inr))) (ret (outT R)))))) : M Bag Bool) = ret false := by
  cases R with
  | told ys =>
    obtain ⟨h1, h2, h3⟩ := h
    have e : m_w_asked_right ys = ret true := asked_eq h3 (by omega) h2
    show zand (ret (decide (("told" : Str) = "told"))) (znot (lft (m_w_asked_right ys))) = _
    rw [e, decide_eq_true rfl]; rfl
  | wrong k => rfl
  | twice n => rfl
  | walker n => rfl
  | lacks n => rfl
/-! ### the web -/
theorem plain_3 : m_plain 3 = ret (ladF (0, [], [3], [3])) := by
  unfold m_plain b_plain
  rw [zapp_ret, is_price_eq, lft_ret, znot_ret, zifS_ret, if_neg (by decide), znx_ret, zseq_nx, zcons_ret, zlist_eq (by simp), zlist_eq (by simp), zpair_ret, zpair_ret, bnd_ret]
  have v3 : Valid (0, [], [3], [3]) := ⟨by decide, by decide, by decide, by decide, by simp, by simp [PriceOk], by simp [PriceOk]⟩
  have := init_eq v3
  rw [show m_Ladder_init (([3] : List Int), ([] : List Int), ([3] : List Int), (0 : Int)) = ret (ladF (0, [], [3], [3])) from this, lft_ret, zrt_ret, zbody_rt]
theorem web_made {ns : List Str} {a b : Str} (nd : ns.Nodup) (hn : ∀ n ∈ ns, NameOk n) (hl : 2 ≤ ns.length ∧ ns.length ≤ 12) (ha : a ∈ ns) (hb : b ∈ ns) (hne : a ≠ b) : ∃ w, m_Web_init (ns, [(a, b, ladF (0, [], [3], [3]))]) = ret w ∧ w.walkers_ = sortN ns := by
  have hs : sizeLine = 16777216 := by decide
  obtain ⟨l1, l2⟩ := hl
  have v3 : Valid (0, [], [3], [3]) := ⟨by decide, by decide, by decide, by decide, by simp, by simp [PriceOk], by simp [PriceOk]⟩
  refine ⟨⟨sortN ns, [((a, b), ladF (0, [], [3], [3])), ((b, a), ladF (turnF (0, [], [3], [3])))], ladF freeP⟩, ?_, rfl⟩
  unfold m_Web_init b_Web_init
  simp only [zis_ret, znot_ret, Bool.not_true, zor_f, zapp_ret, flen_eq, zchain_ll, c_LEAST_WALKERS, c_MOST_WALKERS]
  rw [decide_eq_true (by omega), decide_eq_true (by omega), zifS_ret, if_neg (by decide), znx_ret, zseq_nx]
  rw [zlc_map (g := fun _ => true) (fun x hx => by rw [is_name_eq (hn x hx), lft_ret]) (by omega), zapp_ret, fall_eq, all_true, znot_ret, zifS_ret, if_neg (by decide), zseq_nx]
  rw [zlc_map (g := fun _ => true) (fun x hx => by rw [List.mem_singleton.mp hx, is_pair_eq (hn a ha) (hn b hb), lft_ret]) (by rw [hs]; simp), zapp_ret, fall_eq, all_true, znot_ret, zifS_ret, if_neg (by decide), zseq_nx]
  rw [first_twice_eq nd, lft_ret, zset_ret, zseq_nx, zget_ret, zifS_ret, if_neg (by decide), zseq_nx]
  rw [fsort_names (by omega), zset_ret, zseq_nx, zset_ret, zseq_nx, plain_eq, lft_ret, zset_ret, zseq_nx, zforI_ret]
  have hp := put_eq (ns := sortN ns) (free := ladF freeP) (y := []) (sort_mem.mpr ha) (sort_mem.mpr hb) hne v3 (by simp) (by simp) (by simp)
  rw [zfor_cons_nx (a' := [((a, b), ladF (0, [], [3], [3])), ((b, a), ladF (turnF (0, [], [3], [3])))]) (by
    rw [bnd_ret, zpair_ret, zpair_ret, bnd_ret, hp, lft_ret, bnd_ret, zseq_nx]; rfl), zfor_nil, zseq_nx]
  rfl
theorem two_names {ns : List Str} (nd : ns.Nodup) (hl : 2 ≤ ns.length) : ∃ a b, (ixat ns 0 : M Bag Str) = ret a ∧ (ixat ns 1 : M Bag Str) = ret b ∧ a ∈ ns ∧ b ∈ ns ∧ a ≠ b := by
  match ns, nd, hl with
  | a :: b :: r, nd, _ =>
    refine ⟨a, b, by unfold ixat; rw [atI_nat (by omega) (by simp)]; rfl, by unfold ixat; rw [atI_nat (by omega) (by simp)]; rfl, by simp, by simp, fun e => ?_⟩
    rw [List.nodup_cons] at nd
    exact nd.1 (by simp [e])
theorem law_true : ∀ ns : List Int, ns.length ≤ 63 → m_law ns () = .ok true () := fun xs hx => by
  obtain ⟨cs, ec, hc⟩ := w_cells_ok xs hx
  unfold m_law
  refine law_end (I := Bok) ec ⟨Int.le_refl 0, (by decide : (0 : Int) ≤ 1234567891), Int.le_refl 0, hc⟩ ?_
  unfold r_law
  rw [zapp_ret, frA1_eq]
  refine oks_seq (N := fun _ => True) (oks_for (J := fun _ _ => True) trivial (fun _ _ _ _ => ?_) fun _ _ => trivial) fun _ _ => oks_rt (ok_ret rfl)
  refine oks_seq (N := fun ns => ∃ k : Int, (2 ≤ k ∧ k ≤ 12) ∧ NamesOk k ns) (oks_set (ok_app (ok_pair (P1 := fun _ => True) (P2 := fun v => 2 ≤ v ∧ v ≤ 12) (ok_ret trivial) (ok_op2 (P1 := fun v => v = 2) (P2 := fun v => 0 ≤ v ∧ v < 11) (ok_ret rfl) (ok_app (ok_pair (P1 := fun _ => True) (P2 := fun v => 1 ≤ v ∧ v ≤ 11) (ok_ret trivial) (ok_ix (k := 3) (ok_listN (ok_cons (ok_ret (by omega)) (ok_cons (ok_ret (by omega)) (ok_cons (ok_ret (by omega)) ok_nil))) (by decide)) (ok_tkU (by omega) (big _ (by omega))))) fun q hq => (ok_take hq.2.1 (big _ (by have := hq.2.2; omega))).mono fun v hv => by have := hq.2.2; omega) fun a b ha hb => by rw [iadd_eq]; exact ok_ret (by omega))) fun q hq => (ok_names (u := q.1) (k := q.2) (by have := hq.2; omega)).mono fun ns h => ⟨q.2, hq.2, h⟩)) fun ns hns => ?_
  obtain ⟨k, hk, hlen, nd, hn⟩ := hns
  have hl : 2 ≤ ns.length ∧ ns.length ≤ 12 := by omega
  obtain ⟨a, b, ea, eb, ha, hb, hne⟩ := two_names nd hl.1
  obtain ⟨w, ew, hw⟩ := web_made nd hn hl ha hb hne
  rw [zapp_ret (f := ret), zop2_ret (f := ixat), ea, zop2_ret (f := ixat), eb, zapp_ret (f := fun x => lft (m_plain x)), plain_3, lft_ret, zpair_ret, zpair_ret, zcons_ret, zlist_eq (by simp), zpair_ret, zapp_ret (f := fun y => lft (m_Web_init y)), ew, lft_ret, zset_ret, zseq_nx]
  refine oks_seq (N := fun c : PyData => Wh c ∧ ∀ ds, c = .list ds → ds.length ≤ 12) (oks_set (ok_getQ (P := fun xs : List Row => xs.length = ns.length ∧ ∀ x ∈ xs, RowV x) (by rw [zpair_ret, zapp_ret]; exact ok_rows hn (by omega)) fun xs hxs => ?_)) fun rows0 hr0 => ?_
  · show Wh (.list (xs.map rowD)) ∧ _
    have hlx : (xs.map rowD).length = xs.length := List.length_map ..
    exact ⟨wh_list (th_rows hxs.2) (by omega), fun ds e => by cases e; show (xs.map rowD).length ≤ 12; omega⟩
  refine oks_seq (N := Wh) (oks_forB (P := fun js => js.length ≤ 2) (ok_app (ok_tkU (by omega) (big _ (by omega))) fun t ht => by rw [frA1_eq]; exact ok_ret (by rw [rng_length]; omega)) fun js hjs => ?_) fun d hd => ?_
  · refine oks_zfor (J := fun r c => Wh c ∧ ∀ ds, c = .list ds → ds.length + r.length ≤ 14) (fun x r c hJ => ?_) (fun c hJ => hJ.1) js rows0 ⟨hr0.1, fun ds e => by have := hr0.2 ds e; omega⟩
    rw [test_eq hJ.1, zifS_ret]
    refine oks_seq (N := fun c => Wh c ∧ ∀ ds, c = .list ds → ds.length + r.length ≤ 14) ?_ fun c hc => oks_nx hc
    by_cases z : bendB c = true
    · rw [if_pos z]
      obtain ⟨ds, ys, e0, e1, e2, e3, e4⟩ := bend_rows z
      subst e0
      have h14 := hJ.2 ds rfl
      rw [List.length_cons] at h14
      have hy := rows_len' e2
      refine oks_seq (N := Q23 (ys.length + 1)) (oks_set (by rw [asLR_ret e1, zpair_ret, zapp_ret]; exact ok_bent e3 (by omega))) fun c hc => oks_nx ⟨hc.1, fun zs e => by have := hc.2 zs e; omega⟩
    · rw [if_neg z]
      exact oks_nx ⟨hJ.1, fun ds e => by have := hJ.2 ds e; rw [List.length_cons] at this; omega⟩
  refine oks_seq (N := fun hall : XWeb ⊕ PyData => ∀ v, hall = .inl v → v.walkers_ = sortN ns) (oks_set (ok_ix (k := 8) (ok_listN (ok_cons (ok_ret fun v e => by cases e; exact hw) (ok_cons (ok_ret fun v e => by cases e; exact hw) (ok_cons (ok_ret fun v e => by cases e; exact hw) (ok_cons (ok_ret fun v e => by cases e; exact hw) (ok_cons (ok_ret fun v e => by cases e; exact hw) (ok_cons (show Ok Bok (ret (Sum.inr PyData.none)) _ from ok_ret fun v e => by cases e) (ok_cons (show Ok Bok (ret (Sum.inr (PyData.list (ns.map PyData.str)))) _ from ok_ret fun v e => by cases e) (ok_cons (show Ok Bok (ret (Sum.inr (PyData.str "web"))) _ from ok_ret fun v e => by cases e) ok_nil)))))))) (by decide)) (ok_tkU (by omega) (big _ (by omega))))) fun hall hh => ?_
  have hl2 : 1 ≤ ns.length ∧ ns.length ≤ 100 := by omega
  have hR := due_ok (b := isW hall) hn hd
  rw [zpair_ret, zpair_ret, zapp_ret (f := fun x => lft (m_w_due x)), due_eq hl2 hd.t, lft_ret, zapp_ret (f := freprY), repr_sh hd.s, zpair_ret, zset_ret, zseq_nx]
  rw [zapp_ret (f := fun x => lft (m_w_told x)), told_eq hl2 hd.t hh, lft_ret, zset_ret, zseq_nx, zapp_ret (f := freprW _), repr_told hR, zapp_ret (f := freprW _), repr_due hR, zop2_ret, fne_eq, zop2_ret, fne_eq, decide_eq_true rfl, decide_eq_true rfl, zor_rr, zifS_ret, if_neg (by decide), znx_ret, zseq_nx]
  rw [last_eq hR, zifS_ret, if_neg (by decide), zseq_nx]
  exact oks_nx trivial
end Zk

namespace Zk
open PySem L2

theorem all_mk {P : Program} {w : World} {K : PySem.W.Frag} {h : Heap} {mg : Str → Option Value} {fa C_AheadError C_Lacks f_Lacks_init C_NoWalker f_NoWalker_init C_Twice f_Twice_init C_Wrong f_Wrong_init C_NoText C_TooMany C_Ladder C_Web f_w_bag f_w_take f_w_names f_is_whole f_is_between f_is_price f_are_prices f_sums_of f_Ladder_init D_Ladder_init f_plain f_is_name f_is_pair f_first_twice f_Ladder_moved_to f_Ladder_turned f_Web_put f_Web_init f_w_rows f_w_is_name f_w_within f_w_is_row f_w_signed f_w_bent f_w_due f_is_place f_are_coins f_is_row f_Web_names f_leveled f_standing_of f_w_told f_coins_of f_w_alike f_places_of f_lead f_w_asked_right f_law : Addr} (X : K.In h) (G : h.Ns mainGlobals mg) (hfa : mg "law" = some (.ref fa))
    {u_FARTHEST_AT : Value}
    {u_LEAST_WALKERS : Value}
    {u_LETTERS : Value}
    {u_MOST_COINS : Value}
    {u_MOST_PLACE : Value}
    {u_MOST_PRICE : Value}
    {u_MOST_REPEATED : Value}
    {u_MOST_ROW : Value}
    {u_MOST_SIGNS : Value}
    {u_MOST_WALKERS : Value}
    {nm_Lacks q_Lacks : Str} {N_Lacks : Addr} {bs_Lacks bm_Lacks : List Value} {sn_Lacks : List Str} {sub_Lacks : List Value} {ab_Lacks : Bool} {col_Lacks : Option Bool} {dd_Lacks : Option Addr} {m0_Lacks m1_Lacks m2_Lacks m3_Lacks m5_Lacks : Option Value}
    {od_Lacks_init an_Lacks_init : Option Addr} {sl_Lacks_init : Array (Option Value)} {oc_Lacks_init kV_Lacks_init dc_Lacks_init pm_Lacks_init cd_Lacks_init ct_Lacks_init : Value}
    {nm_NoWalker q_NoWalker : Str} {N_NoWalker : Addr} {bs_NoWalker bm_NoWalker : List Value} {sn_NoWalker : List Str} {sub_NoWalker : List Value} {ab_NoWalker : Bool} {col_NoWalker : Option Bool} {dd_NoWalker : Option Addr} {m0_NoWalker m1_NoWalker m2_NoWalker m3_NoWalker m5_NoWalker : Option Value}
    {od_NoWalker_init an_NoWalker_init : Option Addr} {sl_NoWalker_init : Array (Option Value)} {oc_NoWalker_init kV_NoWalker_init dc_NoWalker_init pm_NoWalker_init cd_NoWalker_init ct_NoWalker_init : Value}
    {nm_Twice q_Twice : Str} {N_Twice : Addr} {bs_Twice bm_Twice : List Value} {sn_Twice : List Str} {sub_Twice : List Value} {ab_Twice : Bool} {col_Twice : Option Bool} {dd_Twice : Option Addr} {m0_Twice m1_Twice m2_Twice m3_Twice m5_Twice : Option Value}
    {od_Twice_init an_Twice_init : Option Addr} {sl_Twice_init : Array (Option Value)} {oc_Twice_init kV_Twice_init dc_Twice_init pm_Twice_init cd_Twice_init ct_Twice_init : Value}
    {nm_Wrong q_Wrong : Str} {N_Wrong : Addr} {bs_Wrong bm_Wrong : List Value} {sn_Wrong : List Str} {sub_Wrong : List Value} {ab_Wrong : Bool} {col_Wrong : Option Bool} {dd_Wrong : Option Addr} {m0_Wrong m1_Wrong m2_Wrong m3_Wrong m5_Wrong : Option Value}
    {od_Wrong_init an_Wrong_init : Option Addr} {sl_Wrong_init : Array (Option Value)} {oc_Wrong_init kV_Wrong_init dc_Wrong_init pm_Wrong_init cd_Wrong_init ct_Wrong_init : Value}
    {od_w_bag an_w_bag : Option Addr} {sl_w_bag : Array (Option Value)} {oc_w_bag kV_w_bag dc_w_bag pm_w_bag cd_w_bag ct_w_bag : Value}
    {od_w_take an_w_take : Option Addr} {sl_w_take : Array (Option Value)} {oc_w_take kV_w_take dc_w_take pm_w_take cd_w_take ct_w_take : Value}
    {od_w_names an_w_names : Option Addr} {sl_w_names : Array (Option Value)} {oc_w_names kV_w_names dc_w_names pm_w_names cd_w_names ct_w_names : Value}
    {od_is_whole an_is_whole : Option Addr} {sl_is_whole : Array (Option Value)} {oc_is_whole kV_is_whole dc_is_whole pm_is_whole cd_is_whole ct_is_whole : Value}
    {od_is_between an_is_between : Option Addr} {sl_is_between : Array (Option Value)} {oc_is_between kV_is_between dc_is_between pm_is_between cd_is_between ct_is_between : Value}
    {od_is_price an_is_price : Option Addr} {sl_is_price : Array (Option Value)} {oc_is_price kV_is_price dc_is_price pm_is_price cd_is_price ct_is_price : Value}
    {od_are_prices an_are_prices : Option Addr} {sl_are_prices : Array (Option Value)} {oc_are_prices kV_are_prices dc_are_prices pm_are_prices cd_are_prices ct_are_prices : Value}
    {od_sums_of an_sums_of : Option Addr} {sl_sums_of : Array (Option Value)} {oc_sums_of kV_sums_of dc_sums_of pm_sums_of cd_sums_of ct_sums_of : Value}
    {od_Ladder_init an_Ladder_init : Option Addr} {sl_Ladder_init : Array (Option Value)} {oc_Ladder_init dc_Ladder_init pm_Ladder_init cd_Ladder_init ct_Ladder_init : Value}
    {w_Ladder_init_at : Tok}
    {od_plain an_plain : Option Addr} {sl_plain : Array (Option Value)} {oc_plain kV_plain dc_plain pm_plain cd_plain ct_plain : Value}
    {od_is_name an_is_name : Option Addr} {sl_is_name : Array (Option Value)} {oc_is_name kV_is_name dc_is_name pm_is_name cd_is_name ct_is_name : Value}
    {od_is_pair an_is_pair : Option Addr} {sl_is_pair : Array (Option Value)} {oc_is_pair kV_is_pair dc_is_pair pm_is_pair cd_is_pair ct_is_pair : Value}
    {od_first_twice an_first_twice : Option Addr} {sl_first_twice : Array (Option Value)} {oc_first_twice kV_first_twice dc_first_twice pm_first_twice cd_first_twice ct_first_twice : Value}
    {od_Ladder_moved_to an_Ladder_moved_to : Option Addr} {sl_Ladder_moved_to : Array (Option Value)} {oc_Ladder_moved_to kV_Ladder_moved_to dc_Ladder_moved_to pm_Ladder_moved_to cd_Ladder_moved_to ct_Ladder_moved_to : Value}
    {od_Ladder_turned an_Ladder_turned : Option Addr} {sl_Ladder_turned : Array (Option Value)} {oc_Ladder_turned kV_Ladder_turned dc_Ladder_turned pm_Ladder_turned cd_Ladder_turned ct_Ladder_turned : Value}
    {od_Web_put an_Web_put : Option Addr} {sl_Web_put : Array (Option Value)} {oc_Web_put kV_Web_put dc_Web_put pm_Web_put cd_Web_put ct_Web_put : Value}
    {od_Web_init an_Web_init : Option Addr} {sl_Web_init : Array (Option Value)} {oc_Web_init kV_Web_init dc_Web_init pm_Web_init cd_Web_init ct_Web_init : Value}
    {od_w_rows an_w_rows : Option Addr} {sl_w_rows : Array (Option Value)} {oc_w_rows kV_w_rows dc_w_rows pm_w_rows cd_w_rows ct_w_rows : Value}
    {od_w_is_name an_w_is_name : Option Addr} {sl_w_is_name : Array (Option Value)} {oc_w_is_name kV_w_is_name dc_w_is_name pm_w_is_name cd_w_is_name ct_w_is_name : Value}
    {od_w_within an_w_within : Option Addr} {sl_w_within : Array (Option Value)} {oc_w_within kV_w_within dc_w_within pm_w_within cd_w_within ct_w_within : Value}
    {od_w_is_row an_w_is_row : Option Addr} {sl_w_is_row : Array (Option Value)} {oc_w_is_row kV_w_is_row dc_w_is_row pm_w_is_row cd_w_is_row ct_w_is_row : Value}
    {od_w_signed an_w_signed : Option Addr} {sl_w_signed : Array (Option Value)} {oc_w_signed kV_w_signed dc_w_signed pm_w_signed cd_w_signed ct_w_signed : Value}
    {od_w_bent an_w_bent : Option Addr} {sl_w_bent : Array (Option Value)} {oc_w_bent kV_w_bent dc_w_bent pm_w_bent cd_w_bent ct_w_bent : Value}
    {od_w_due an_w_due : Option Addr} {sl_w_due : Array (Option Value)} {oc_w_due kV_w_due dc_w_due pm_w_due cd_w_due ct_w_due : Value}
    {od_is_place an_is_place : Option Addr} {sl_is_place : Array (Option Value)} {oc_is_place kV_is_place dc_is_place pm_is_place cd_is_place ct_is_place : Value}
    {od_are_coins an_are_coins : Option Addr} {sl_are_coins : Array (Option Value)} {oc_are_coins kV_are_coins dc_are_coins pm_are_coins cd_are_coins ct_are_coins : Value}
    {od_is_row an_is_row : Option Addr} {sl_is_row : Array (Option Value)} {oc_is_row kV_is_row dc_is_row pm_is_row cd_is_row ct_is_row : Value}
    {od_Web_names an_Web_names : Option Addr} {sl_Web_names : Array (Option Value)} {oc_Web_names kV_Web_names dc_Web_names pm_Web_names cd_Web_names ct_Web_names : Value}
    {od_leveled an_leveled : Option Addr} {sl_leveled : Array (Option Value)} {oc_leveled kV_leveled dc_leveled pm_leveled cd_leveled ct_leveled : Value}
    {od_standing_of an_standing_of : Option Addr} {sl_standing_of : Array (Option Value)} {oc_standing_of kV_standing_of dc_standing_of pm_standing_of cd_standing_of ct_standing_of : Value}
    {od_w_told an_w_told : Option Addr} {sl_w_told : Array (Option Value)} {oc_w_told kV_w_told dc_w_told pm_w_told cd_w_told ct_w_told : Value}
    {od_coins_of an_coins_of : Option Addr} {sl_coins_of : Array (Option Value)} {oc_coins_of kV_coins_of dc_coins_of pm_coins_of cd_coins_of ct_coins_of : Value}
    {od_w_alike an_w_alike : Option Addr} {sl_w_alike : Array (Option Value)} {oc_w_alike kV_w_alike dc_w_alike pm_w_alike cd_w_alike ct_w_alike : Value}
    {od_places_of an_places_of : Option Addr} {sl_places_of : Array (Option Value)} {oc_places_of kV_places_of dc_places_of pm_places_of cd_places_of ct_places_of : Value}
    {od_lead an_lead : Option Addr} {sl_lead : Array (Option Value)} {oc_lead kV_lead dc_lead pm_lead cd_lead ct_lead : Value}
    {od_w_asked_right an_w_asked_right : Option Addr} {sl_w_asked_right : Array (Option Value)} {oc_w_asked_right kV_w_asked_right dc_w_asked_right pm_w_asked_right cd_w_asked_right ct_w_asked_right : Value}
    {od_law an_law : Option Addr} {sl_law : Array (Option Value)} {oc_law kV_law dc_law pm_law cd_law ct_law : Value}
    (z_ValueError : PySem.W.nsIn K mainGlobals "ValueError" = some none)
    (z_abs : PySem.W.nsIn K mainGlobals "abs" = some none)
    (z_all : PySem.W.nsIn K mainGlobals "all" = some none)
    (z_bool : PySem.W.nsIn K mainGlobals "bool" = some none)
    (z_enumerate : PySem.W.nsIn K mainGlobals "enumerate" = some none)
    (z_int : PySem.W.nsIn K mainGlobals "int" = some none)
    (z_isinstance : PySem.W.nsIn K mainGlobals "isinstance" = some none)
    (z_len : PySem.W.nsIn K mainGlobals "len" = some none)
    (z_list : PySem.W.nsIn K mainGlobals "list" = some none)
    (z_min : PySem.W.nsIn K mainGlobals "min" = some none)
    (z_range : PySem.W.nsIn K mainGlobals "range" = some none)
    (z_repr : PySem.W.nsIn K mainGlobals "repr" = some none)
    (z_reversed : PySem.W.nsIn K mainGlobals "reversed" = some none)
    (z_sorted : PySem.W.nsIn K mainGlobals "sorted" = some none)
    (z_str : PySem.W.nsIn K mainGlobals "str" = some none)
    (z_tuple : PySem.W.nsIn K mainGlobals "tuple" = some none)
    (m_FARTHEST_AT : PySem.W.nsIn K mainGlobals "FARTHEST_AT" = some (some u_FARTHEST_AT))
    (r_FARTHEST_AT : RelV (.int c_FARTHEST_AT) u_FARTHEST_AT)
    (m_LEAST_WALKERS : PySem.W.nsIn K mainGlobals "LEAST_WALKERS" = some (some u_LEAST_WALKERS))
    (r_LEAST_WALKERS : RelV (.int c_LEAST_WALKERS) u_LEAST_WALKERS)
    (m_LETTERS : PySem.W.nsIn K mainGlobals "LETTERS" = some (some u_LETTERS))
    (r_LETTERS : RelV (.str c_LETTERS) u_LETTERS)
    (m_MOST_COINS : PySem.W.nsIn K mainGlobals "MOST_COINS" = some (some u_MOST_COINS))
    (r_MOST_COINS : RelV (.int c_MOST_COINS) u_MOST_COINS)
    (m_MOST_PLACE : PySem.W.nsIn K mainGlobals "MOST_PLACE" = some (some u_MOST_PLACE))
    (r_MOST_PLACE : RelV (.int c_MOST_PLACE) u_MOST_PLACE)
    (m_MOST_PRICE : PySem.W.nsIn K mainGlobals "MOST_PRICE" = some (some u_MOST_PRICE))
    (r_MOST_PRICE : RelV (.int c_MOST_PRICE) u_MOST_PRICE)
    (m_MOST_REPEATED : PySem.W.nsIn K mainGlobals "MOST_REPEATED" = some (some u_MOST_REPEATED))
    (r_MOST_REPEATED : RelV (.int c_MOST_REPEATED) u_MOST_REPEATED)
    (m_MOST_ROW : PySem.W.nsIn K mainGlobals "MOST_ROW" = some (some u_MOST_ROW))
    (r_MOST_ROW : RelV (.int c_MOST_ROW) u_MOST_ROW)
    (m_MOST_SIGNS : PySem.W.nsIn K mainGlobals "MOST_SIGNS" = some (some u_MOST_SIGNS))
    (r_MOST_SIGNS : RelV (.int c_MOST_SIGNS) u_MOST_SIGNS)
    (m_MOST_WALKERS : PySem.W.nsIn K mainGlobals "MOST_WALKERS" = some (some u_MOST_WALKERS))
    (r_MOST_WALKERS : RelV (.int c_MOST_WALKERS) u_MOST_WALKERS)
    (g_AheadError : PySem.W.nsIn K mainGlobals "AheadError" = some (some (.ref C_AheadError)))
    (rd_AheadError : PySem.W.readsIn K C_AheadError (.type "type") = true)
    (ga_AheadError : PySem.W.specialIn K (.ref C_AheadError) "__getattribute__" = some (some (.builtin "type.__getattribute__")))
    (at_AheadError : PySem.W.findCls K (.ref C_AheadError) (.type "type") "__init__" = some (.val (.builtin "ValueError.__init__")))
    (g_Lacks : PySem.W.nsIn K mainGlobals "Lacks" = some (some (.ref C_Lacks)))
    (xl_Lacks : K.lookup C_Lacks = some (excClassObj nm_Lacks q_Lacks C_Lacks N_Lacks bs_Lacks bm_Lacks true sn_Lacks sub_Lacks ab_Lacks col_Lacks dd_Lacks m0_Lacks m1_Lacks m2_Lacks m3_Lacks m5_Lacks "ValueError.__new__"))
    (bm_Lacks : PySem.HandSPX.refsVE bm_Lacks = true)
    (sa_Lacks : PySem.W.findIn K (.ref C_Lacks) "__setattr__" = some (some (.builtin "object.__setattr__")))
    (ex_Lacks : PySem.W.subIn K (.ref C_Lacks) (.type "BaseException") = some true)
    (ty_Lacks : PySem.W.typeIn K (.ref C_Lacks) = some (.type "type"))
    (kc_Lacks : PySem.W.keepIn K (.ref C_Lacks) = true)
    (xf_Lacks : PySem.W.findIn K (.ref C_Lacks) "name" = some none)
    (a_Lacks_init : PySem.W.findIn K (.ref C_Lacks) "__init__" = some (some (.ref f_Lacks_init)))
    (t_Lacks_init_ : PySem.W.typeIn K (.ref f_Lacks_init) = some (.type "function"))
    (l_Lacks_init : K.lookup f_Lacks_init = some ⟨oc_Lacks_init, od_Lacks_init, .func (PySem.W.fnOf "__init__" "Lacks.__init__" (defArgs t_Lacks_init) (defBody t_Lacks_init) (defScope t_Lacks_init) .none kV_Lacks_init dc_Lacks_init pm_Lacks_init an_Lacks_init cd_Lacks_init ct_Lacks_init), sl_Lacks_init⟩)
    (c_Lacks_init : PySem.W.codeIn K cd_Lacks_init "Lacks.__init__" = true)
    (k_Lacks_init : PySem.W.keepIn K (.ref f_Lacks_init) = true)
    (g_NoWalker : PySem.W.nsIn K mainGlobals "NoWalker" = some (some (.ref C_NoWalker)))
    (xl_NoWalker : K.lookup C_NoWalker = some (excClassObj nm_NoWalker q_NoWalker C_NoWalker N_NoWalker bs_NoWalker bm_NoWalker true sn_NoWalker sub_NoWalker ab_NoWalker col_NoWalker dd_NoWalker m0_NoWalker m1_NoWalker m2_NoWalker m3_NoWalker m5_NoWalker "ValueError.__new__"))
    (bm_NoWalker : PySem.HandSPX.refsVE bm_NoWalker = true)
    (sa_NoWalker : PySem.W.findIn K (.ref C_NoWalker) "__setattr__" = some (some (.builtin "object.__setattr__")))
    (ex_NoWalker : PySem.W.subIn K (.ref C_NoWalker) (.type "BaseException") = some true)
    (ty_NoWalker : PySem.W.typeIn K (.ref C_NoWalker) = some (.type "type"))
    (kc_NoWalker : PySem.W.keepIn K (.ref C_NoWalker) = true)
    (xf_NoWalker : PySem.W.findIn K (.ref C_NoWalker) "name" = some none)
    (a_NoWalker_init : PySem.W.findIn K (.ref C_NoWalker) "__init__" = some (some (.ref f_NoWalker_init)))
    (t_NoWalker_init_ : PySem.W.typeIn K (.ref f_NoWalker_init) = some (.type "function"))
    (l_NoWalker_init : K.lookup f_NoWalker_init = some ⟨oc_NoWalker_init, od_NoWalker_init, .func (PySem.W.fnOf "__init__" "NoWalker.__init__" (defArgs t_NoWalker_init) (defBody t_NoWalker_init) (defScope t_NoWalker_init) .none kV_NoWalker_init dc_NoWalker_init pm_NoWalker_init an_NoWalker_init cd_NoWalker_init ct_NoWalker_init), sl_NoWalker_init⟩)
    (c_NoWalker_init : PySem.W.codeIn K cd_NoWalker_init "NoWalker.__init__" = true)
    (k_NoWalker_init : PySem.W.keepIn K (.ref f_NoWalker_init) = true)
    (g_Twice : PySem.W.nsIn K mainGlobals "Twice" = some (some (.ref C_Twice)))
    (xl_Twice : K.lookup C_Twice = some (excClassObj nm_Twice q_Twice C_Twice N_Twice bs_Twice bm_Twice true sn_Twice sub_Twice ab_Twice col_Twice dd_Twice m0_Twice m1_Twice m2_Twice m3_Twice m5_Twice "ValueError.__new__"))
    (bm_Twice : PySem.HandSPX.refsVE bm_Twice = true)
    (sa_Twice : PySem.W.findIn K (.ref C_Twice) "__setattr__" = some (some (.builtin "object.__setattr__")))
    (ex_Twice : PySem.W.subIn K (.ref C_Twice) (.type "BaseException") = some true)
    (ty_Twice : PySem.W.typeIn K (.ref C_Twice) = some (.type "type"))
    (kc_Twice : PySem.W.keepIn K (.ref C_Twice) = true)
    (xf_Twice : PySem.W.findIn K (.ref C_Twice) "name" = some none)
    (a_Twice_init : PySem.W.findIn K (.ref C_Twice) "__init__" = some (some (.ref f_Twice_init)))
    (t_Twice_init_ : PySem.W.typeIn K (.ref f_Twice_init) = some (.type "function"))
    (l_Twice_init : K.lookup f_Twice_init = some ⟨oc_Twice_init, od_Twice_init, .func (PySem.W.fnOf "__init__" "Twice.__init__" (defArgs t_Twice_init) (defBody t_Twice_init) (defScope t_Twice_init) .none kV_Twice_init dc_Twice_init pm_Twice_init an_Twice_init cd_Twice_init ct_Twice_init), sl_Twice_init⟩)
    (c_Twice_init : PySem.W.codeIn K cd_Twice_init "Twice.__init__" = true)
    (k_Twice_init : PySem.W.keepIn K (.ref f_Twice_init) = true)
    (g_Wrong : PySem.W.nsIn K mainGlobals "Wrong" = some (some (.ref C_Wrong)))
    (xl_Wrong : K.lookup C_Wrong = some (excClassObj nm_Wrong q_Wrong C_Wrong N_Wrong bs_Wrong bm_Wrong true sn_Wrong sub_Wrong ab_Wrong col_Wrong dd_Wrong m0_Wrong m1_Wrong m2_Wrong m3_Wrong m5_Wrong "ValueError.__new__"))
    (bm_Wrong : PySem.HandSPX.refsVE bm_Wrong = true)
    (sa_Wrong : PySem.W.findIn K (.ref C_Wrong) "__setattr__" = some (some (.builtin "object.__setattr__")))
    (ex_Wrong : PySem.W.subIn K (.ref C_Wrong) (.type "BaseException") = some true)
    (ty_Wrong : PySem.W.typeIn K (.ref C_Wrong) = some (.type "type"))
    (kc_Wrong : PySem.W.keepIn K (.ref C_Wrong) = true)
    (xf_Wrong : PySem.W.findIn K (.ref C_Wrong) "at" = some none)
    (a_Wrong_init : PySem.W.findIn K (.ref C_Wrong) "__init__" = some (some (.ref f_Wrong_init)))
    (t_Wrong_init_ : PySem.W.typeIn K (.ref f_Wrong_init) = some (.type "function"))
    (l_Wrong_init : K.lookup f_Wrong_init = some ⟨oc_Wrong_init, od_Wrong_init, .func (PySem.W.fnOf "__init__" "Wrong.__init__" (defArgs t_Wrong_init) (defBody t_Wrong_init) (defScope t_Wrong_init) .none kV_Wrong_init dc_Wrong_init pm_Wrong_init an_Wrong_init cd_Wrong_init ct_Wrong_init), sl_Wrong_init⟩)
    (c_Wrong_init : PySem.W.codeIn K cd_Wrong_init "Wrong.__init__" = true)
    (k_Wrong_init : PySem.W.keepIn K (.ref f_Wrong_init) = true)
    (g_NoText : PySem.W.nsIn K mainGlobals "NoText" = some (some (.ref C_NoText)))
    (g_TooMany : PySem.W.nsIn K mainGlobals "TooMany" = some (some (.ref C_TooMany)))
    (hx_AheadError : PySem.W.hasDictIn K C_AheadError = true)
    (hx_Lacks : PySem.W.hasDictIn K C_Lacks = true)
    (hx_NoWalker : PySem.W.hasDictIn K C_NoWalker = true)
    (hx_Twice : PySem.W.hasDictIn K C_Twice = true)
    (hx_Wrong : PySem.W.hasDictIn K C_Wrong = true)
    (ex_AheadError : PySem.W.subIn K (.ref C_AheadError) (.type "BaseException") = some true)
    (ty_AheadError : PySem.W.typeIn K (.ref C_AheadError) = some (.type "type"))
    (xg_Lacks : PySem.W.findIn K (.ref C_Lacks) "__getattribute__" = some (some (.builtin "BaseException.__getattribute__")))
    (xk_Lacks : PySem.W.findIn K (.ref C_Lacks) "__getattr__" = some none)
    (xa_Lacks : PySem.W.findIn K (.ref C_Lacks) "__class__" = some (some (.builtin "object.__class__")))
    (xn_Lacks : PySem.W.specialIn K (.builtin "object.__class__") "__get__" = some (some (.builtin "getset_descriptor.__get__")))
    (xt_Lacks : PySem.W.takesIn K (.builtin "object.__class__") = some true)
    (xm_Lacks : PySem.W.mroIn K C_Lacks (.type "object") = some true)
    (xg_NoWalker : PySem.W.findIn K (.ref C_NoWalker) "__getattribute__" = some (some (.builtin "BaseException.__getattribute__")))
    (xk_NoWalker : PySem.W.findIn K (.ref C_NoWalker) "__getattr__" = some none)
    (xa_NoWalker : PySem.W.findIn K (.ref C_NoWalker) "__class__" = some (some (.builtin "object.__class__")))
    (xn_NoWalker : PySem.W.specialIn K (.builtin "object.__class__") "__get__" = some (some (.builtin "getset_descriptor.__get__")))
    (xt_NoWalker : PySem.W.takesIn K (.builtin "object.__class__") = some true)
    (xm_NoWalker : PySem.W.mroIn K C_NoWalker (.type "object") = some true)
    (xg_Twice : PySem.W.findIn K (.ref C_Twice) "__getattribute__" = some (some (.builtin "BaseException.__getattribute__")))
    (xk_Twice : PySem.W.findIn K (.ref C_Twice) "__getattr__" = some none)
    (xa_Twice : PySem.W.findIn K (.ref C_Twice) "__class__" = some (some (.builtin "object.__class__")))
    (xn_Twice : PySem.W.specialIn K (.builtin "object.__class__") "__get__" = some (some (.builtin "getset_descriptor.__get__")))
    (xt_Twice : PySem.W.takesIn K (.builtin "object.__class__") = some true)
    (xm_Twice : PySem.W.mroIn K C_Twice (.type "object") = some true)
    (xg_Wrong : PySem.W.findIn K (.ref C_Wrong) "__getattribute__" = some (some (.builtin "BaseException.__getattribute__")))
    (xk_Wrong : PySem.W.findIn K (.ref C_Wrong) "__getattr__" = some none)
    (xa_Wrong : PySem.W.findIn K (.ref C_Wrong) "__class__" = some (some (.builtin "object.__class__")))
    (xn_Wrong : PySem.W.specialIn K (.builtin "object.__class__") "__get__" = some (some (.builtin "getset_descriptor.__get__")))
    (xt_Wrong : PySem.W.takesIn K (.builtin "object.__class__") = some true)
    (xm_Wrong : PySem.W.mroIn K C_Wrong (.type "object") = some true)
    (cx_NoText : PySem.W.isClsIn K C_NoText = true)
    (ty_NoText : PySem.W.typeIn K (.ref C_NoText) = some (.type "type"))
    (ss_NoText : PySem.W.subIn K (.ref C_NoText) (.ref C_NoText) = some true)
    (sb_Lacks_NoText : PySem.W.subIn K (.ref C_Lacks) (.ref C_NoText) = some false)
    (cx_NoWalker : PySem.W.isClsIn K C_NoWalker = true)
    (ss_NoWalker : PySem.W.subIn K (.ref C_NoWalker) (.ref C_NoWalker) = some true)
    (sb_Lacks_NoWalker : PySem.W.subIn K (.ref C_Lacks) (.ref C_NoWalker) = some false)
    (cx_TooMany : PySem.W.isClsIn K C_TooMany = true)
    (ty_TooMany : PySem.W.typeIn K (.ref C_TooMany) = some (.type "type"))
    (ss_TooMany : PySem.W.subIn K (.ref C_TooMany) (.ref C_TooMany) = some true)
    (sb_Lacks_TooMany : PySem.W.subIn K (.ref C_Lacks) (.ref C_TooMany) = some false)
    (cx_Twice : PySem.W.isClsIn K C_Twice = true)
    (ss_Twice : PySem.W.subIn K (.ref C_Twice) (.ref C_Twice) = some true)
    (sb_Lacks_Twice : PySem.W.subIn K (.ref C_Lacks) (.ref C_Twice) = some false)
    (st_Lacks_ValueError : PySem.W.subIn K (.ref C_Lacks) (.type "ValueError") = some true)
    (cx_Wrong : PySem.W.isClsIn K C_Wrong = true)
    (ss_Wrong : PySem.W.subIn K (.ref C_Wrong) (.ref C_Wrong) = some true)
    (sb_Lacks_Wrong : PySem.W.subIn K (.ref C_Lacks) (.ref C_Wrong) = some false)
    (cx_Lacks : PySem.W.isClsIn K C_Lacks = true)
    (ss_Lacks : PySem.W.subIn K (.ref C_Lacks) (.ref C_Lacks) = some true)
    (sb_NoWalker_Lacks : PySem.W.subIn K (.ref C_NoWalker) (.ref C_Lacks) = some false)
    (sb_NoWalker_NoText : PySem.W.subIn K (.ref C_NoWalker) (.ref C_NoText) = some false)
    (sb_NoWalker_TooMany : PySem.W.subIn K (.ref C_NoWalker) (.ref C_TooMany) = some false)
    (sb_NoWalker_Twice : PySem.W.subIn K (.ref C_NoWalker) (.ref C_Twice) = some false)
    (st_NoWalker_ValueError : PySem.W.subIn K (.ref C_NoWalker) (.type "ValueError") = some true)
    (sb_NoWalker_Wrong : PySem.W.subIn K (.ref C_NoWalker) (.ref C_Wrong) = some false)
    (sb_Twice_Lacks : PySem.W.subIn K (.ref C_Twice) (.ref C_Lacks) = some false)
    (sb_Twice_NoText : PySem.W.subIn K (.ref C_Twice) (.ref C_NoText) = some false)
    (sb_Twice_NoWalker : PySem.W.subIn K (.ref C_Twice) (.ref C_NoWalker) = some false)
    (sb_Twice_TooMany : PySem.W.subIn K (.ref C_Twice) (.ref C_TooMany) = some false)
    (st_Twice_ValueError : PySem.W.subIn K (.ref C_Twice) (.type "ValueError") = some true)
    (sb_Twice_Wrong : PySem.W.subIn K (.ref C_Twice) (.ref C_Wrong) = some false)
    (sb_Wrong_Lacks : PySem.W.subIn K (.ref C_Wrong) (.ref C_Lacks) = some false)
    (sb_Wrong_NoText : PySem.W.subIn K (.ref C_Wrong) (.ref C_NoText) = some false)
    (sb_Wrong_NoWalker : PySem.W.subIn K (.ref C_Wrong) (.ref C_NoWalker) = some false)
    (sb_Wrong_TooMany : PySem.W.subIn K (.ref C_Wrong) (.ref C_TooMany) = some false)
    (sb_Wrong_Twice : PySem.W.subIn K (.ref C_Wrong) (.ref C_Twice) = some false)
    (st_Wrong_ValueError : PySem.W.subIn K (.ref C_Wrong) (.type "ValueError") = some true)
    (sb_Lacks_AheadError : PySem.W.subIn K (.ref C_Lacks) (.ref C_AheadError) = some true)
    (sb_NoWalker_AheadError : PySem.W.subIn K (.ref C_NoWalker) (.ref C_AheadError) = some true)
    (sb_Twice_AheadError : PySem.W.subIn K (.ref C_Twice) (.ref C_AheadError) = some true)
    (sb_Wrong_AheadError : PySem.W.subIn K (.ref C_Wrong) (.ref C_AheadError) = some true)
    (g_Ladder : PySem.W.nsIn K mainGlobals "Ladder" = some (some (.ref C_Ladder)))
    (pg_Ladder : PySem.W.plainGet K C_Ladder Str.empty = true)
    (hd_Ladder : PySem.W.hasDictIn K C_Ladder = true)
    (po_Ladder : PySem.W.plainOver K C_Ladder = true)
    (sa_Ladder : PySem.W.findIn K (.ref C_Ladder) "__setattr__" = some (some (.builtin "object.__setattr__")))
    (mk_Ladder_ : PySem.W.makesIn K C_Ladder = true)
    (kc_Ladder : PySem.W.keepIn K (.ref C_Ladder) = true)
    (na_Ladder_low : PySem.W.findIn K (.ref C_Ladder) "low" = some none)
    (na_Ladder_middle : PySem.W.findIn K (.ref C_Ladder) "middle" = some none)
    (na_Ladder_high : PySem.W.findIn K (.ref C_Ladder) "high" = some none)
    (na_Ladder_begin : PySem.W.findIn K (.ref C_Ladder) "begin" = some none)
    (na_Ladder_low_sums : PySem.W.findIn K (.ref C_Ladder) "low_sums" = some none)
    (na_Ladder_middle_sums : PySem.W.findIn K (.ref C_Ladder) "middle_sums" = some none)
    (na_Ladder_high_sums : PySem.W.findIn K (.ref C_Ladder) "high_sums" = some none)
    (ica_Ladder : PySem.W.findIn K (.ref C_Ladder) "__class__" = some (some (.builtin "object.__class__")))
    (icn_Ladder : PySem.W.specialIn K (.builtin "object.__class__") "__get__" = some (some (.builtin "getset_descriptor.__get__")))
    (ict_Ladder : PySem.W.takesIn K (.builtin "object.__class__") = some true)
    (icm_Ladder : PySem.W.mroIn K C_Ladder (.type "object") = some true)
    (g_Web : PySem.W.nsIn K mainGlobals "Web" = some (some (.ref C_Web)))
    (pg_Web : PySem.W.plainGet K C_Web Str.empty = true)
    (hd_Web : PySem.W.hasDictIn K C_Web = true)
    (po_Web : PySem.W.plainOver K C_Web = true)
    (sa_Web : PySem.W.findIn K (.ref C_Web) "__setattr__" = some (some (.builtin "object.__setattr__")))
    (mk_Web_ : PySem.W.makesIn K C_Web = true)
    (kc_Web : PySem.W.keepIn K (.ref C_Web) = true)
    (na_Web_walkers : PySem.W.findIn K (.ref C_Web) "walkers" = some none)
    (na_Web_ladders : PySem.W.findIn K (.ref C_Web) "ladders" = some none)
    (na_Web_free : PySem.W.findIn K (.ref C_Web) "free" = some none)
    (ica_Web : PySem.W.findIn K (.ref C_Web) "__class__" = some (some (.builtin "object.__class__")))
    (icn_Web : PySem.W.specialIn K (.builtin "object.__class__") "__get__" = some (some (.builtin "getset_descriptor.__get__")))
    (ict_Web : PySem.W.takesIn K (.builtin "object.__class__") = some true)
    (icm_Web : PySem.W.mroIn K C_Web (.type "object") = some true)
    (ci_Web : PySem.W.isClsIn K C_Web = true)
    (ty_Web : PySem.W.typeIn K (.ref C_Web) = some (.type "type"))
    (a_w_bag : PySem.W.nsIn K mainGlobals "_law_bag" = some (some (.ref f_w_bag)))
    (l_w_bag : K.lookup f_w_bag = some ⟨oc_w_bag, od_w_bag, .func (PySem.W.fnOf "_law_bag" "_law_bag" (defArgs t_w_bag) (defBody t_w_bag) (defScope t_w_bag) .none kV_w_bag dc_w_bag pm_w_bag an_w_bag cd_w_bag ct_w_bag), sl_w_bag⟩)
    (c_w_bag : PySem.W.codeIn K cd_w_bag "_law_bag" = true)
    (k_w_bag : PySem.W.keepIn K (.ref f_w_bag) = true)
    (a_w_take : PySem.W.nsIn K mainGlobals "_law_take" = some (some (.ref f_w_take)))
    (l_w_take : K.lookup f_w_take = some ⟨oc_w_take, od_w_take, .func (PySem.W.fnOf "_law_take" "_law_take" (defArgs t_w_take) (defBody t_w_take) (defScope t_w_take) .none kV_w_take dc_w_take pm_w_take an_w_take cd_w_take ct_w_take), sl_w_take⟩)
    (c_w_take : PySem.W.codeIn K cd_w_take "_law_take" = true)
    (k_w_take : PySem.W.keepIn K (.ref f_w_take) = true)
    (a_w_names : PySem.W.nsIn K mainGlobals "_law_names" = some (some (.ref f_w_names)))
    (l_w_names : K.lookup f_w_names = some ⟨oc_w_names, od_w_names, .func (PySem.W.fnOf "_law_names" "_law_names" (defArgs t_w_names) (defBody t_w_names) (defScope t_w_names) .none kV_w_names dc_w_names pm_w_names an_w_names cd_w_names ct_w_names), sl_w_names⟩)
    (c_w_names : PySem.W.codeIn K cd_w_names "_law_names" = true)
    (k_w_names : PySem.W.keepIn K (.ref f_w_names) = true)
    (a_is_whole : PySem.W.nsIn K mainGlobals "is_whole" = some (some (.ref f_is_whole)))
    (l_is_whole : K.lookup f_is_whole = some ⟨oc_is_whole, od_is_whole, .func (PySem.W.fnOf "is_whole" "is_whole" (defArgs t_is_whole) (defBody t_is_whole) (defScope t_is_whole) .none kV_is_whole dc_is_whole pm_is_whole an_is_whole cd_is_whole ct_is_whole), sl_is_whole⟩)
    (c_is_whole : PySem.W.codeIn K cd_is_whole "is_whole" = true)
    (k_is_whole : PySem.W.keepIn K (.ref f_is_whole) = true)
    (a_is_between : PySem.W.nsIn K mainGlobals "is_between" = some (some (.ref f_is_between)))
    (l_is_between : K.lookup f_is_between = some ⟨oc_is_between, od_is_between, .func (PySem.W.fnOf "is_between" "is_between" (defArgs t_is_between) (defBody t_is_between) (defScope t_is_between) .none kV_is_between dc_is_between pm_is_between an_is_between cd_is_between ct_is_between), sl_is_between⟩)
    (c_is_between : PySem.W.codeIn K cd_is_between "is_between" = true)
    (k_is_between : PySem.W.keepIn K (.ref f_is_between) = true)
    (a_is_price : PySem.W.nsIn K mainGlobals "is_price" = some (some (.ref f_is_price)))
    (l_is_price : K.lookup f_is_price = some ⟨oc_is_price, od_is_price, .func (PySem.W.fnOf "is_price" "is_price" (defArgs t_is_price) (defBody t_is_price) (defScope t_is_price) .none kV_is_price dc_is_price pm_is_price an_is_price cd_is_price ct_is_price), sl_is_price⟩)
    (c_is_price : PySem.W.codeIn K cd_is_price "is_price" = true)
    (k_is_price : PySem.W.keepIn K (.ref f_is_price) = true)
    (a_are_prices : PySem.W.nsIn K mainGlobals "are_prices" = some (some (.ref f_are_prices)))
    (l_are_prices : K.lookup f_are_prices = some ⟨oc_are_prices, od_are_prices, .func (PySem.W.fnOf "are_prices" "are_prices" (defArgs t_are_prices) (defBody t_are_prices) (defScope t_are_prices) .none kV_are_prices dc_are_prices pm_are_prices an_are_prices cd_are_prices ct_are_prices), sl_are_prices⟩)
    (c_are_prices : PySem.W.codeIn K cd_are_prices "are_prices" = true)
    (k_are_prices : PySem.W.keepIn K (.ref f_are_prices) = true)
    (a_sums_of : PySem.W.nsIn K mainGlobals "sums_of" = some (some (.ref f_sums_of)))
    (l_sums_of : K.lookup f_sums_of = some ⟨oc_sums_of, od_sums_of, .func (PySem.W.fnOf "sums_of" "sums_of" (defArgs t_sums_of) (defBody t_sums_of) (defScope t_sums_of) .none kV_sums_of dc_sums_of pm_sums_of an_sums_of cd_sums_of ct_sums_of), sl_sums_of⟩)
    (c_sums_of : PySem.W.codeIn K cd_sums_of "sums_of" = true)
    (k_sums_of : PySem.W.keepIn K (.ref f_sums_of) = true)
    (a_Ladder_init : PySem.W.findIn K (.ref C_Ladder) "__init__" = some (some (.ref f_Ladder_init)))
    (i_Ladder_init : PySem.W.isFn K (.ref f_Ladder_init) = true)
    (l_Ladder_init : K.lookup f_Ladder_init = some ⟨oc_Ladder_init, od_Ladder_init, .func (PySem.W.fnOf "__init__" "Ladder.__init__" (defArgs t_Ladder_init) (defBody t_Ladder_init) (defScope t_Ladder_init) .none (.ref D_Ladder_init) dc_Ladder_init pm_Ladder_init an_Ladder_init cd_Ladder_init ct_Ladder_init), sl_Ladder_init⟩)
    (c_Ladder_init : PySem.W.codeIn K cd_Ladder_init "Ladder.__init__" = true)
    (k_Ladder_init : PySem.W.keepIn K (.ref f_Ladder_init) = true)
    (d_Ladder_init_at : PySem.W.nsIn K D_Ladder_init "at" = some (some (.int 0 w_Ladder_init_at)))
    (a_plain : PySem.W.nsIn K mainGlobals "plain" = some (some (.ref f_plain)))
    (l_plain : K.lookup f_plain = some ⟨oc_plain, od_plain, .func (PySem.W.fnOf "plain" "plain" (defArgs t_plain) (defBody t_plain) (defScope t_plain) .none kV_plain dc_plain pm_plain an_plain cd_plain ct_plain), sl_plain⟩)
    (c_plain : PySem.W.codeIn K cd_plain "plain" = true)
    (k_plain : PySem.W.keepIn K (.ref f_plain) = true)
    (a_is_name : PySem.W.nsIn K mainGlobals "is_name" = some (some (.ref f_is_name)))
    (l_is_name : K.lookup f_is_name = some ⟨oc_is_name, od_is_name, .func (PySem.W.fnOf "is_name" "is_name" (defArgs t_is_name) (defBody t_is_name) (defScope t_is_name) .none kV_is_name dc_is_name pm_is_name an_is_name cd_is_name ct_is_name), sl_is_name⟩)
    (c_is_name : PySem.W.codeIn K cd_is_name "is_name" = true)
    (k_is_name : PySem.W.keepIn K (.ref f_is_name) = true)
    (a_is_pair : PySem.W.nsIn K mainGlobals "is_pair" = some (some (.ref f_is_pair)))
    (l_is_pair : K.lookup f_is_pair = some ⟨oc_is_pair, od_is_pair, .func (PySem.W.fnOf "is_pair" "is_pair" (defArgs t_is_pair) (defBody t_is_pair) (defScope t_is_pair) .none kV_is_pair dc_is_pair pm_is_pair an_is_pair cd_is_pair ct_is_pair), sl_is_pair⟩)
    (c_is_pair : PySem.W.codeIn K cd_is_pair "is_pair" = true)
    (k_is_pair : PySem.W.keepIn K (.ref f_is_pair) = true)
    (a_first_twice : PySem.W.nsIn K mainGlobals "first_twice" = some (some (.ref f_first_twice)))
    (l_first_twice : K.lookup f_first_twice = some ⟨oc_first_twice, od_first_twice, .func (PySem.W.fnOf "first_twice" "first_twice" (defArgs t_first_twice) (defBody t_first_twice) (defScope t_first_twice) .none kV_first_twice dc_first_twice pm_first_twice an_first_twice cd_first_twice ct_first_twice), sl_first_twice⟩)
    (c_first_twice : PySem.W.codeIn K cd_first_twice "first_twice" = true)
    (k_first_twice : PySem.W.keepIn K (.ref f_first_twice) = true)
    (a_Ladder_moved_to : PySem.W.findIn K (.ref C_Ladder) "moved_to" = some (some (.ref f_Ladder_moved_to)))
    (i_Ladder_moved_to : PySem.W.isFn K (.ref f_Ladder_moved_to) = true)
    (l_Ladder_moved_to : K.lookup f_Ladder_moved_to = some ⟨oc_Ladder_moved_to, od_Ladder_moved_to, .func (PySem.W.fnOf "moved_to" "Ladder.moved_to" (defArgs t_Ladder_moved_to) (defBody t_Ladder_moved_to) (defScope t_Ladder_moved_to) .none kV_Ladder_moved_to dc_Ladder_moved_to pm_Ladder_moved_to an_Ladder_moved_to cd_Ladder_moved_to ct_Ladder_moved_to), sl_Ladder_moved_to⟩)
    (c_Ladder_moved_to : PySem.W.codeIn K cd_Ladder_moved_to "Ladder.moved_to" = true)
    (k_Ladder_moved_to : PySem.W.keepIn K (.ref f_Ladder_moved_to) = true)
    (a_Ladder_turned : PySem.W.findIn K (.ref C_Ladder) "turned" = some (some (.ref f_Ladder_turned)))
    (i_Ladder_turned : PySem.W.isFn K (.ref f_Ladder_turned) = true)
    (l_Ladder_turned : K.lookup f_Ladder_turned = some ⟨oc_Ladder_turned, od_Ladder_turned, .func (PySem.W.fnOf "turned" "Ladder.turned" (defArgs t_Ladder_turned) (defBody t_Ladder_turned) (defScope t_Ladder_turned) .none kV_Ladder_turned dc_Ladder_turned pm_Ladder_turned an_Ladder_turned cd_Ladder_turned ct_Ladder_turned), sl_Ladder_turned⟩)
    (c_Ladder_turned : PySem.W.codeIn K cd_Ladder_turned "Ladder.turned" = true)
    (k_Ladder_turned : PySem.W.keepIn K (.ref f_Ladder_turned) = true)
    (a_Web_put : PySem.W.findIn K (.ref C_Web) "put" = some (some (.ref f_Web_put)))
    (i_Web_put : PySem.W.isFn K (.ref f_Web_put) = true)
    (l_Web_put : K.lookup f_Web_put = some ⟨oc_Web_put, od_Web_put, .func (PySem.W.fnOf "put" "Web.put" (defArgs t_Web_put) (defBody t_Web_put) (defScope t_Web_put) .none kV_Web_put dc_Web_put pm_Web_put an_Web_put cd_Web_put ct_Web_put), sl_Web_put⟩)
    (c_Web_put : PySem.W.codeIn K cd_Web_put "Web.put" = true)
    (k_Web_put : PySem.W.keepIn K (.ref f_Web_put) = true)
    (a_Web_init : PySem.W.findIn K (.ref C_Web) "__init__" = some (some (.ref f_Web_init)))
    (i_Web_init : PySem.W.isFn K (.ref f_Web_init) = true)
    (l_Web_init : K.lookup f_Web_init = some ⟨oc_Web_init, od_Web_init, .func (PySem.W.fnOf "__init__" "Web.__init__" (defArgs t_Web_init) (defBody t_Web_init) (defScope t_Web_init) .none kV_Web_init dc_Web_init pm_Web_init an_Web_init cd_Web_init ct_Web_init), sl_Web_init⟩)
    (c_Web_init : PySem.W.codeIn K cd_Web_init "Web.__init__" = true)
    (k_Web_init : PySem.W.keepIn K (.ref f_Web_init) = true)
    (a_w_rows : PySem.W.nsIn K mainGlobals "_law_rows" = some (some (.ref f_w_rows)))
    (l_w_rows : K.lookup f_w_rows = some ⟨oc_w_rows, od_w_rows, .func (PySem.W.fnOf "_law_rows" "_law_rows" (defArgs t_w_rows) (defBody t_w_rows) (defScope t_w_rows) .none kV_w_rows dc_w_rows pm_w_rows an_w_rows cd_w_rows ct_w_rows), sl_w_rows⟩)
    (c_w_rows : PySem.W.codeIn K cd_w_rows "_law_rows" = true)
    (k_w_rows : PySem.W.keepIn K (.ref f_w_rows) = true)
    (a_w_is_name : PySem.W.nsIn K mainGlobals "_law_is_name" = some (some (.ref f_w_is_name)))
    (l_w_is_name : K.lookup f_w_is_name = some ⟨oc_w_is_name, od_w_is_name, .func (PySem.W.fnOf "_law_is_name" "_law_is_name" (defArgs t_w_is_name) (defBody t_w_is_name) (defScope t_w_is_name) .none kV_w_is_name dc_w_is_name pm_w_is_name an_w_is_name cd_w_is_name ct_w_is_name), sl_w_is_name⟩)
    (c_w_is_name : PySem.W.codeIn K cd_w_is_name "_law_is_name" = true)
    (k_w_is_name : PySem.W.keepIn K (.ref f_w_is_name) = true)
    (a_w_within : PySem.W.nsIn K mainGlobals "_law_within" = some (some (.ref f_w_within)))
    (l_w_within : K.lookup f_w_within = some ⟨oc_w_within, od_w_within, .func (PySem.W.fnOf "_law_within" "_law_within" (defArgs t_w_within) (defBody t_w_within) (defScope t_w_within) .none kV_w_within dc_w_within pm_w_within an_w_within cd_w_within ct_w_within), sl_w_within⟩)
    (c_w_within : PySem.W.codeIn K cd_w_within "_law_within" = true)
    (k_w_within : PySem.W.keepIn K (.ref f_w_within) = true)
    (a_w_is_row : PySem.W.nsIn K mainGlobals "_law_is_row" = some (some (.ref f_w_is_row)))
    (l_w_is_row : K.lookup f_w_is_row = some ⟨oc_w_is_row, od_w_is_row, .func (PySem.W.fnOf "_law_is_row" "_law_is_row" (defArgs t_w_is_row) (defBody t_w_is_row) (defScope t_w_is_row) .none kV_w_is_row dc_w_is_row pm_w_is_row an_w_is_row cd_w_is_row ct_w_is_row), sl_w_is_row⟩)
    (c_w_is_row : PySem.W.codeIn K cd_w_is_row "_law_is_row" = true)
    (k_w_is_row : PySem.W.keepIn K (.ref f_w_is_row) = true)
    (a_w_signed : PySem.W.nsIn K mainGlobals "_law_signed" = some (some (.ref f_w_signed)))
    (l_w_signed : K.lookup f_w_signed = some ⟨oc_w_signed, od_w_signed, .func (PySem.W.fnOf "_law_signed" "_law_signed" (defArgs t_w_signed) (defBody t_w_signed) (defScope t_w_signed) .none kV_w_signed dc_w_signed pm_w_signed an_w_signed cd_w_signed ct_w_signed), sl_w_signed⟩)
    (c_w_signed : PySem.W.codeIn K cd_w_signed "_law_signed" = true)
    (k_w_signed : PySem.W.keepIn K (.ref f_w_signed) = true)
    (a_w_bent : PySem.W.nsIn K mainGlobals "_law_bent" = some (some (.ref f_w_bent)))
    (l_w_bent : K.lookup f_w_bent = some ⟨oc_w_bent, od_w_bent, .func (PySem.W.fnOf "_law_bent" "_law_bent" (defArgs t_w_bent) (defBody t_w_bent) (defScope t_w_bent) .none kV_w_bent dc_w_bent pm_w_bent an_w_bent cd_w_bent ct_w_bent), sl_w_bent⟩)
    (c_w_bent : PySem.W.codeIn K cd_w_bent "_law_bent" = true)
    (k_w_bent : PySem.W.keepIn K (.ref f_w_bent) = true)
    (a_w_due : PySem.W.nsIn K mainGlobals "_law_due" = some (some (.ref f_w_due)))
    (l_w_due : K.lookup f_w_due = some ⟨oc_w_due, od_w_due, .func (PySem.W.fnOf "_law_due" "_law_due" (defArgs t_w_due) (defBody t_w_due) (defScope t_w_due) .none kV_w_due dc_w_due pm_w_due an_w_due cd_w_due ct_w_due), sl_w_due⟩)
    (c_w_due : PySem.W.codeIn K cd_w_due "_law_due" = true)
    (k_w_due : PySem.W.keepIn K (.ref f_w_due) = true)
    (a_is_place : PySem.W.nsIn K mainGlobals "is_place" = some (some (.ref f_is_place)))
    (l_is_place : K.lookup f_is_place = some ⟨oc_is_place, od_is_place, .func (PySem.W.fnOf "is_place" "is_place" (defArgs t_is_place) (defBody t_is_place) (defScope t_is_place) .none kV_is_place dc_is_place pm_is_place an_is_place cd_is_place ct_is_place), sl_is_place⟩)
    (c_is_place : PySem.W.codeIn K cd_is_place "is_place" = true)
    (k_is_place : PySem.W.keepIn K (.ref f_is_place) = true)
    (a_are_coins : PySem.W.nsIn K mainGlobals "are_coins" = some (some (.ref f_are_coins)))
    (l_are_coins : K.lookup f_are_coins = some ⟨oc_are_coins, od_are_coins, .func (PySem.W.fnOf "are_coins" "are_coins" (defArgs t_are_coins) (defBody t_are_coins) (defScope t_are_coins) .none kV_are_coins dc_are_coins pm_are_coins an_are_coins cd_are_coins ct_are_coins), sl_are_coins⟩)
    (c_are_coins : PySem.W.codeIn K cd_are_coins "are_coins" = true)
    (k_are_coins : PySem.W.keepIn K (.ref f_are_coins) = true)
    (a_is_row : PySem.W.nsIn K mainGlobals "is_row" = some (some (.ref f_is_row)))
    (l_is_row : K.lookup f_is_row = some ⟨oc_is_row, od_is_row, .func (PySem.W.fnOf "is_row" "is_row" (defArgs t_is_row) (defBody t_is_row) (defScope t_is_row) .none kV_is_row dc_is_row pm_is_row an_is_row cd_is_row ct_is_row), sl_is_row⟩)
    (c_is_row : PySem.W.codeIn K cd_is_row "is_row" = true)
    (k_is_row : PySem.W.keepIn K (.ref f_is_row) = true)
    (a_Web_names : PySem.W.findIn K (.ref C_Web) "names" = some (some (.ref f_Web_names)))
    (i_Web_names : PySem.W.isFn K (.ref f_Web_names) = true)
    (l_Web_names : K.lookup f_Web_names = some ⟨oc_Web_names, od_Web_names, .func (PySem.W.fnOf "names" "Web.names" (defArgs t_Web_names) (defBody t_Web_names) (defScope t_Web_names) .none kV_Web_names dc_Web_names pm_Web_names an_Web_names cd_Web_names ct_Web_names), sl_Web_names⟩)
    (c_Web_names : PySem.W.codeIn K cd_Web_names "Web.names" = true)
    (k_Web_names : PySem.W.keepIn K (.ref f_Web_names) = true)
    (a_leveled : PySem.W.nsIn K mainGlobals "leveled" = some (some (.ref f_leveled)))
    (l_leveled : K.lookup f_leveled = some ⟨oc_leveled, od_leveled, .func (PySem.W.fnOf "leveled" "leveled" (defArgs t_leveled) (defBody t_leveled) (defScope t_leveled) .none kV_leveled dc_leveled pm_leveled an_leveled cd_leveled ct_leveled), sl_leveled⟩)
    (c_leveled : PySem.W.codeIn K cd_leveled "leveled" = true)
    (k_leveled : PySem.W.keepIn K (.ref f_leveled) = true)
    (a_standing_of : PySem.W.nsIn K mainGlobals "standing_of" = some (some (.ref f_standing_of)))
    (l_standing_of : K.lookup f_standing_of = some ⟨oc_standing_of, od_standing_of, .func (PySem.W.fnOf "standing_of" "standing_of" (defArgs t_standing_of) (defBody t_standing_of) (defScope t_standing_of) .none kV_standing_of dc_standing_of pm_standing_of an_standing_of cd_standing_of ct_standing_of), sl_standing_of⟩)
    (c_standing_of : PySem.W.codeIn K cd_standing_of "standing_of" = true)
    (k_standing_of : PySem.W.keepIn K (.ref f_standing_of) = true)
    (a_w_told : PySem.W.nsIn K mainGlobals "_law_told" = some (some (.ref f_w_told)))
    (l_w_told : K.lookup f_w_told = some ⟨oc_w_told, od_w_told, .func (PySem.W.fnOf "_law_told" "_law_told" (defArgs t_w_told) (defBody t_w_told) (defScope t_w_told) .none kV_w_told dc_w_told pm_w_told an_w_told cd_w_told ct_w_told), sl_w_told⟩)
    (c_w_told : PySem.W.codeIn K cd_w_told "_law_told" = true)
    (k_w_told : PySem.W.keepIn K (.ref f_w_told) = true)
    (a_coins_of : PySem.W.nsIn K mainGlobals "coins_of" = some (some (.ref f_coins_of)))
    (l_coins_of : K.lookup f_coins_of = some ⟨oc_coins_of, od_coins_of, .func (PySem.W.fnOf "coins_of" "coins_of" (defArgs t_coins_of) (defBody t_coins_of) (defScope t_coins_of) .none kV_coins_of dc_coins_of pm_coins_of an_coins_of cd_coins_of ct_coins_of), sl_coins_of⟩)
    (c_coins_of : PySem.W.codeIn K cd_coins_of "coins_of" = true)
    (k_coins_of : PySem.W.keepIn K (.ref f_coins_of) = true)
    (a_w_alike : PySem.W.nsIn K mainGlobals "_law_alike" = some (some (.ref f_w_alike)))
    (l_w_alike : K.lookup f_w_alike = some ⟨oc_w_alike, od_w_alike, .func (PySem.W.fnOf "_law_alike" "_law_alike" (defArgs t_w_alike) (defBody t_w_alike) (defScope t_w_alike) .none kV_w_alike dc_w_alike pm_w_alike an_w_alike cd_w_alike ct_w_alike), sl_w_alike⟩)
    (c_w_alike : PySem.W.codeIn K cd_w_alike "_law_alike" = true)
    (k_w_alike : PySem.W.keepIn K (.ref f_w_alike) = true)
    (a_places_of : PySem.W.nsIn K mainGlobals "places_of" = some (some (.ref f_places_of)))
    (l_places_of : K.lookup f_places_of = some ⟨oc_places_of, od_places_of, .func (PySem.W.fnOf "places_of" "places_of" (defArgs t_places_of) (defBody t_places_of) (defScope t_places_of) .none kV_places_of dc_places_of pm_places_of an_places_of cd_places_of ct_places_of), sl_places_of⟩)
    (c_places_of : PySem.W.codeIn K cd_places_of "places_of" = true)
    (k_places_of : PySem.W.keepIn K (.ref f_places_of) = true)
    (a_lead : PySem.W.nsIn K mainGlobals "lead" = some (some (.ref f_lead)))
    (l_lead : K.lookup f_lead = some ⟨oc_lead, od_lead, .func (PySem.W.fnOf "lead" "lead" (defArgs t_lead) (defBody t_lead) (defScope t_lead) .none kV_lead dc_lead pm_lead an_lead cd_lead ct_lead), sl_lead⟩)
    (c_lead : PySem.W.codeIn K cd_lead "lead" = true)
    (k_lead : PySem.W.keepIn K (.ref f_lead) = true)
    (a_w_asked_right : PySem.W.nsIn K mainGlobals "_law_asked_right" = some (some (.ref f_w_asked_right)))
    (l_w_asked_right : K.lookup f_w_asked_right = some ⟨oc_w_asked_right, od_w_asked_right, .func (PySem.W.fnOf "_law_asked_right" "_law_asked_right" (defArgs t_w_asked_right) (defBody t_w_asked_right) (defScope t_w_asked_right) .none kV_w_asked_right dc_w_asked_right pm_w_asked_right an_w_asked_right cd_w_asked_right ct_w_asked_right), sl_w_asked_right⟩)
    (c_w_asked_right : PySem.W.codeIn K cd_w_asked_right "_law_asked_right" = true)
    (k_w_asked_right : PySem.W.keepIn K (.ref f_w_asked_right) = true)
    (a_law : PySem.W.nsIn K mainGlobals "law" = some (some (.ref f_law)))
    (l_law : K.lookup f_law = some ⟨oc_law, od_law, .func (PySem.W.fnOf "law" "law" (defArgs t_law) (defBody t_law) (defScope t_law) .none kV_law dc_law pm_law an_law cd_law ct_law), sl_law⟩)
    (c_law : PySem.W.codeIn K cd_law "law" = true)
    (k_law : PySem.W.keepIn K (.ref f_law) = true) :
    ∃ fd : FuncData, (∀ (s : Shared) (v : Value), BindsTo s fd ⟨[v], []⟩ [("_law_script", v)]) ∧ ∀ base : Heap, K.In base → base.Ns mainGlobals mg → FnG true P w K mg base 12 fa fd ["_law_script"] (spZ ⟨P, w, K, mg, base⟩ (fun _ : Unit => noE) (fun (_ : Unit) (p : List Int) => [(rSc K rInt).pr p]) m_law rBl) := by
  have e := hfa.symm.trans (PySem.W.mg_of X G a_law)
  cases e
  have F_Lacks_init := fun_mk (st := t_Lacks_init) l_Lacks_init c_Lacks_init k_Lacks_init
  have B_Lacks_init := F_Lacks_init.binds (ps := ["self", "name"]) fun _ _ _ _ _ _ us hl => match us, hl with | [_, _], _ => rfl
  have F_NoWalker_init := fun_mk (st := t_NoWalker_init) l_NoWalker_init c_NoWalker_init k_NoWalker_init
  have B_NoWalker_init := F_NoWalker_init.binds (ps := ["self", "name"]) fun _ _ _ _ _ _ us hl => match us, hl with | [_, _], _ => rfl
  have F_Twice_init := fun_mk (st := t_Twice_init) l_Twice_init c_Twice_init k_Twice_init
  have B_Twice_init := F_Twice_init.binds (ps := ["self", "name"]) fun _ _ _ _ _ _ us hl => match us, hl with | [_, _], _ => rfl
  have F_Wrong_init := fun_mk (st := t_Wrong_init) l_Wrong_init c_Wrong_init k_Wrong_init
  have B_Wrong_init := F_Wrong_init.binds (ps := ["self", "at"]) fun _ _ _ _ _ _ us hl => match us, hl with | [_, _], _ => rfl
  have F_w_bag := fun_mk (st := t_w_bag) l_w_bag c_w_bag k_w_bag
  have B_w_bag := F_w_bag.binds (ps := ["_law_script"]) fun _ _ _ _ _ _ us hl => match us, hl with | [_], _ => rfl
  have F_w_take := fun_mk (st := t_w_take) l_w_take c_w_take k_w_take
  have B_w_take := F_w_take.binds (ps := ["_law_bag_here", "_law_many"]) fun _ _ _ _ _ _ us hl => match us, hl with | [_, _], _ => rfl
  have F_w_names := fun_mk (st := t_w_names) l_w_names c_w_names k_w_names
  have B_w_names := F_w_names.binds (ps := ["_law_bag_here", "_law_many"]) fun _ _ _ _ _ _ us hl => match us, hl with | [_, _], _ => rfl
  have F_is_whole := fun_mk (st := t_is_whole) l_is_whole c_is_whole k_is_whole
  have B_is_whole := F_is_whole.binds (ps := ["thing"]) fun _ _ _ _ _ _ us hl => match us, hl with | [_], _ => rfl
  have F_is_between := fun_mk (st := t_is_between) l_is_between c_is_between k_is_between
  have B_is_between := F_is_between.binds (ps := ["thing", "low", "high"]) fun _ _ _ _ _ _ us hl => match us, hl with | [_, _, _], _ => rfl
  have F_is_price := fun_mk (st := t_is_price) l_is_price c_is_price k_is_price
  have B_is_price := F_is_price.binds (ps := ["thing"]) fun _ _ _ _ _ _ us hl => match us, hl with | [_], _ => rfl
  have F_are_prices := fun_mk (st := t_are_prices) l_are_prices c_are_prices k_are_prices
  have B_are_prices := F_are_prices.binds (ps := ["thing", "least", "most"]) fun _ _ _ _ _ _ us hl => match us, hl with | [_, _, _], _ => rfl
  have F_sums_of := fun_mk (st := t_sums_of) l_sums_of c_sums_of k_sums_of
  have B_sums_of := F_sums_of.binds (ps := ["prices"]) fun _ _ _ _ _ _ us hl => match us, hl with | [_], _ => rfl
  have F_Ladder_init : FunD K "__init__" "Ladder.__init__" (defArgs t_Ladder_init) (defBody t_Ladder_init) (defScope t_Ladder_init) [] [("at", .int 0)] f_Ladder_init _ := ⟨⟨_, _, _, _, _, _, _, _, _, _, rfl, l_Ladder_init, c_Ladder_init, .inl ⟨rfl, rfl⟩, .inr ⟨D_Ladder_init, rfl, fun q hq => by simp only [List.mem_cons, List.not_mem_nil, or_false] at hq; rcases hq with rfl; exact ⟨_, d_Ladder_init_at, ⟨_, rfl⟩⟩⟩⟩, k_Ladder_init⟩
  have F_plain := fun_mk (st := t_plain) l_plain c_plain k_plain
  have B_plain := F_plain.binds (ps := ["price"]) fun _ _ _ _ _ _ us hl => match us, hl with | [_], _ => rfl
  have F_is_name := fun_mk (st := t_is_name) l_is_name c_is_name k_is_name
  have B_is_name := F_is_name.binds (ps := ["thing"]) fun _ _ _ _ _ _ us hl => match us, hl with | [_], _ => rfl
  have F_is_pair := fun_mk (st := t_is_pair) l_is_pair c_is_pair k_is_pair
  have B_is_pair := F_is_pair.binds (ps := ["thing"]) fun _ _ _ _ _ _ us hl => match us, hl with | [_], _ => rfl
  have F_first_twice := fun_mk (st := t_first_twice) l_first_twice c_first_twice k_first_twice
  have B_first_twice := F_first_twice.binds (ps := ["names"]) fun _ _ _ _ _ _ us hl => match us, hl with | [_], _ => rfl
  have F_Ladder_moved_to := fun_mk (st := t_Ladder_moved_to) l_Ladder_moved_to c_Ladder_moved_to k_Ladder_moved_to
  have B_Ladder_moved_to := F_Ladder_moved_to.binds (ps := ["self", "at"]) fun _ _ _ _ _ _ us hl => match us, hl with | [_, _], _ => rfl
  have F_Ladder_turned := fun_mk (st := t_Ladder_turned) l_Ladder_turned c_Ladder_turned k_Ladder_turned
  have B_Ladder_turned := F_Ladder_turned.binds (ps := ["self"]) fun _ _ _ _ _ _ us hl => match us, hl with | [_], _ => rfl
  have F_Web_put := fun_mk (st := t_Web_put) l_Web_put c_Web_put k_Web_put
  have B_Web_put := F_Web_put.binds (ps := ["self", "p", "q", "ladder"]) fun _ _ _ _ _ _ us hl => match us, hl with | [_, _, _, _], _ => rfl
  have F_Web_init := fun_mk (st := t_Web_init) l_Web_init c_Web_init k_Web_init
  have B_Web_init := F_Web_init.binds (ps := ["self", "names", "pairs"]) fun _ _ _ _ _ _ us hl => match us, hl with | [_, _, _], _ => rfl
  have F_w_rows := fun_mk (st := t_w_rows) l_w_rows c_w_rows k_w_rows
  have B_w_rows := F_w_rows.binds (ps := ["_law_bag_here", "_law_names_here"]) fun _ _ _ _ _ _ us hl => match us, hl with | [_, _], _ => rfl
  have F_w_is_name := fun_mk (st := t_w_is_name) l_w_is_name c_w_is_name k_w_is_name
  have B_w_is_name := F_w_is_name.binds (ps := ["_law_thing"]) fun _ _ _ _ _ _ us hl => match us, hl with | [_], _ => rfl
  have F_w_within := fun_mk (st := t_w_within) l_w_within c_w_within k_w_within
  have B_w_within := F_w_within.binds (ps := ["_law_thing", "_law_low", "_law_high"]) fun _ _ _ _ _ _ us hl => match us, hl with | [_, _, _], _ => rfl
  have F_w_is_row := fun_mk (st := t_w_is_row) l_w_is_row c_w_is_row k_w_is_row
  have B_w_is_row := F_w_is_row.binds (ps := ["_law_thing"]) fun _ _ _ _ _ _ us hl => match us, hl with | [_], _ => rfl
  have F_w_signed := fun_mk (st := t_w_signed) l_w_signed c_w_signed k_w_signed
  have B_w_signed := F_w_signed.binds (ps := ["_law_bag_here", "_law_name"]) fun _ _ _ _ _ _ us hl => match us, hl with | [_, _], _ => rfl
  have F_w_bent := fun_mk (st := t_w_bent) l_w_bent c_w_bent k_w_bent
  have B_w_bent := F_w_bent.binds (ps := ["_law_bag_here", "_law_rows_here"]) fun _ _ _ _ _ _ us hl => match us, hl with | [_, _], _ => rfl
  have F_w_due := fun_mk (st := t_w_due) l_w_due c_w_due k_w_due
  have B_w_due := F_w_due.binds (ps := ["_law_names_here", "_law_web", "_law_rows_here"]) fun _ _ _ _ _ _ us hl => match us, hl with | [_, _, _], _ => rfl
  have F_is_place := fun_mk (st := t_is_place) l_is_place c_is_place k_is_place
  have B_is_place := F_is_place.binds (ps := ["thing"]) fun _ _ _ _ _ _ us hl => match us, hl with | [_], _ => rfl
  have F_are_coins := fun_mk (st := t_are_coins) l_are_coins c_are_coins k_are_coins
  have B_are_coins := F_are_coins.binds (ps := ["thing"]) fun _ _ _ _ _ _ us hl => match us, hl with | [_], _ => rfl
  have F_is_row := fun_mk (st := t_is_row) l_is_row c_is_row k_is_row
  have B_is_row := F_is_row.binds (ps := ["thing"]) fun _ _ _ _ _ _ us hl => match us, hl with | [_], _ => rfl
  have F_Web_names := fun_mk (st := t_Web_names) l_Web_names c_Web_names k_Web_names
  have B_Web_names := F_Web_names.binds (ps := ["self"]) fun _ _ _ _ _ _ us hl => match us, hl with | [_], _ => rfl
  have F_leveled := fun_mk (st := t_leveled) l_leveled c_leveled k_leveled
  have B_leveled := F_leveled.binds (ps := ["rows"]) fun _ _ _ _ _ _ us hl => match us, hl with | [_], _ => rfl
  have F_standing_of := fun_mk (st := t_standing_of) l_standing_of c_standing_of k_standing_of
  have B_standing_of := F_standing_of.binds (ps := ["web", "rows"]) fun _ _ _ _ _ _ us hl => match us, hl with | [_, _], _ => rfl
  have F_w_told := fun_mk (st := t_w_told) l_w_told c_w_told k_w_told
  have B_w_told := F_w_told.binds (ps := ["_law_web", "_law_rows_here"]) fun _ _ _ _ _ _ us hl => match us, hl with | [_, _], _ => rfl
  have F_coins_of := fun_mk (st := t_coins_of) l_coins_of c_coins_of k_coins_of
  have B_coins_of := F_coins_of.binds (ps := ["standing", "p"]) fun _ _ _ _ _ _ us hl => match us, hl with | [_, _], _ => rfl
  have F_w_alike := fun_mk (st := t_w_alike) l_w_alike c_w_alike k_w_alike
  have B_w_alike := F_w_alike.binds (ps := ["_law_found", "_law_due_here"]) fun _ _ _ _ _ _ us hl => match us, hl with | [_, _], _ => rfl
  have F_places_of := fun_mk (st := t_places_of) l_places_of c_places_of k_places_of
  have B_places_of := F_places_of.binds (ps := ["sketch"]) fun _ _ _ _ _ _ us hl => match us, hl with | [_], _ => rfl
  have F_lead := fun_mk (st := t_lead) l_lead c_lead k_lead
  have B_lead := F_lead.binds (ps := ["standing", "p", "q"]) fun _ _ _ _ _ _ us hl => match us, hl with | [_, _, _], _ => rfl
  have F_w_asked_right := fun_mk (st := t_w_asked_right) l_w_asked_right c_w_asked_right k_w_asked_right
  have B_w_asked_right := F_w_asked_right.binds (ps := ["_law_standing"]) fun _ _ _ _ _ _ us hl => match us, hl with | [_], _ => rfl
  refine ⟨PySem.W.fnOf "law" "law" (defArgs t_law) (defBody t_law) (defScope t_law) .none kV_law dc_law pm_law an_law cd_law ct_law, fun s v => .of_eq rfl, fun base _ _ => ?_⟩
  have T : Txt ⟨P, w, K, mg, base⟩ ⟨C_Ladder, C_Web, C_Lacks, C_NoWalker, C_Twice, C_Wrong, C_AheadError, C_NoText, C_TooMany⟩ := {
    b_ValueError := PySem.W.mg_none_of X G z_ValueError,
    b_abs := PySem.W.mg_none_of X G z_abs,
    b_all := PySem.W.mg_none_of X G z_all,
    b_bool := PySem.W.mg_none_of X G z_bool,
    b_enumerate := PySem.W.mg_none_of X G z_enumerate,
    b_int := PySem.W.mg_none_of X G z_int,
    b_isinstance := PySem.W.mg_none_of X G z_isinstance,
    b_len := PySem.W.mg_none_of X G z_len,
    b_list := PySem.W.mg_none_of X G z_list,
    b_min := PySem.W.mg_none_of X G z_min,
    b_range := PySem.W.mg_none_of X G z_range,
    b_repr := PySem.W.mg_none_of X G z_repr,
    b_reversed := PySem.W.mg_none_of X G z_reversed,
    b_sorted := PySem.W.mg_none_of X G z_sorted,
    b_str := PySem.W.mg_none_of X G z_str,
    b_tuple := PySem.W.mg_none_of X G z_tuple,
    c_FARTHEST_AT := ⟨u_FARTHEST_AT, PySem.W.mg_of X G m_FARTHEST_AT, r_FARTHEST_AT⟩,
    c_LEAST_WALKERS := ⟨u_LEAST_WALKERS, PySem.W.mg_of X G m_LEAST_WALKERS, r_LEAST_WALKERS⟩,
    c_LETTERS := ⟨u_LETTERS, PySem.W.mg_of X G m_LETTERS, r_LETTERS⟩,
    c_MOST_COINS := ⟨u_MOST_COINS, PySem.W.mg_of X G m_MOST_COINS, r_MOST_COINS⟩,
    c_MOST_PLACE := ⟨u_MOST_PLACE, PySem.W.mg_of X G m_MOST_PLACE, r_MOST_PLACE⟩,
    c_MOST_PRICE := ⟨u_MOST_PRICE, PySem.W.mg_of X G m_MOST_PRICE, r_MOST_PRICE⟩,
    c_MOST_REPEATED := ⟨u_MOST_REPEATED, PySem.W.mg_of X G m_MOST_REPEATED, r_MOST_REPEATED⟩,
    c_MOST_ROW := ⟨u_MOST_ROW, PySem.W.mg_of X G m_MOST_ROW, r_MOST_ROW⟩,
    c_MOST_SIGNS := ⟨u_MOST_SIGNS, PySem.W.mg_of X G m_MOST_SIGNS, r_MOST_SIGNS⟩,
    c_MOST_WALKERS := ⟨u_MOST_WALKERS, PySem.W.mg_of X G m_MOST_WALKERS, r_MOST_WALKERS⟩,
    g_AheadError := PySem.W.mg_of X G g_AheadError,
    ain_AheadError := ⟨.type "type", ⟨rd_AheadError, ga_AheadError⟩, at_AheadError⟩,
    g_Lacks := PySem.W.mg_of X G g_Lacks,
    ox_Lacks := ⟨⟨_, _, _, _, _, _, _, _, _, _, _, _, _, _, _, xl_Lacks, bm_Lacks⟩, sa_Lacks, ex_Lacks, ty_Lacks, kc_Lacks⟩,
    xi_Lacks := ⟨f_Lacks_init, _, a_Lacks_init, t_Lacks_init_, B_Lacks_init, F_Lacks_init⟩,
    xf_Lacks := xf_Lacks,
    g_NoWalker := PySem.W.mg_of X G g_NoWalker,
    ox_NoWalker := ⟨⟨_, _, _, _, _, _, _, _, _, _, _, _, _, _, _, xl_NoWalker, bm_NoWalker⟩, sa_NoWalker, ex_NoWalker, ty_NoWalker, kc_NoWalker⟩,
    xi_NoWalker := ⟨f_NoWalker_init, _, a_NoWalker_init, t_NoWalker_init_, B_NoWalker_init, F_NoWalker_init⟩,
    xf_NoWalker := xf_NoWalker,
    g_Twice := PySem.W.mg_of X G g_Twice,
    ox_Twice := ⟨⟨_, _, _, _, _, _, _, _, _, _, _, _, _, _, _, xl_Twice, bm_Twice⟩, sa_Twice, ex_Twice, ty_Twice, kc_Twice⟩,
    xi_Twice := ⟨f_Twice_init, _, a_Twice_init, t_Twice_init_, B_Twice_init, F_Twice_init⟩,
    xf_Twice := xf_Twice,
    g_Wrong := PySem.W.mg_of X G g_Wrong,
    ox_Wrong := ⟨⟨_, _, _, _, _, _, _, _, _, _, _, _, _, _, _, xl_Wrong, bm_Wrong⟩, sa_Wrong, ex_Wrong, ty_Wrong, kc_Wrong⟩,
    xi_Wrong := ⟨f_Wrong_init, _, a_Wrong_init, t_Wrong_init_, B_Wrong_init, F_Wrong_init⟩,
    xf_Wrong := xf_Wrong,
    g_NoText := PySem.W.mg_of X G g_NoText,
    g_TooMany := PySem.W.mg_of X G g_TooMany,
    xc_Lacks := ⟨xg_Lacks, xk_Lacks, ex_Lacks, hx_Lacks, xa_Lacks, xn_Lacks, xt_Lacks, xm_Lacks⟩,
    xc_NoWalker := ⟨xg_NoWalker, xk_NoWalker, ex_NoWalker, hx_NoWalker, xa_NoWalker, xn_NoWalker, xt_NoWalker, xm_NoWalker⟩,
    xc_Twice := ⟨xg_Twice, xk_Twice, ex_Twice, hx_Twice, xa_Twice, xn_Twice, xt_Twice, xm_Twice⟩,
    xc_Wrong := ⟨xg_Wrong, xk_Wrong, ex_Wrong, hx_Wrong, xa_Wrong, xn_Wrong, xt_Wrong, xm_Wrong⟩,
    ki_Lacks_Lacks := kit_self,
    ki_Lacks_NoText := kit_ref cx_NoText ty_NoText ss_NoText sb_Lacks_NoText,
    ki_Lacks_NoWalker := kit_ref cx_NoWalker ty_NoWalker ss_NoWalker sb_Lacks_NoWalker,
    ki_Lacks_TooMany := kit_ref cx_TooMany ty_TooMany ss_TooMany sb_Lacks_TooMany,
    ki_Lacks_Twice := kit_ref cx_Twice ty_Twice ss_Twice sb_Lacks_Twice,
    ki_Lacks_ValueError := kit_ty (by decide) st_Lacks_ValueError,
    ki_Lacks_Wrong := kit_ref cx_Wrong ty_Wrong ss_Wrong sb_Lacks_Wrong,
    ki_NoWalker_Lacks := kit_ref cx_Lacks ty_Lacks ss_Lacks sb_NoWalker_Lacks,
    ki_NoWalker_NoText := kit_ref cx_NoText ty_NoText ss_NoText sb_NoWalker_NoText,
    ki_NoWalker_NoWalker := kit_self,
    ki_NoWalker_TooMany := kit_ref cx_TooMany ty_TooMany ss_TooMany sb_NoWalker_TooMany,
    ki_NoWalker_Twice := kit_ref cx_Twice ty_Twice ss_Twice sb_NoWalker_Twice,
    ki_NoWalker_ValueError := kit_ty (by decide) st_NoWalker_ValueError,
    ki_NoWalker_Wrong := kit_ref cx_Wrong ty_Wrong ss_Wrong sb_NoWalker_Wrong,
    ki_Twice_Lacks := kit_ref cx_Lacks ty_Lacks ss_Lacks sb_Twice_Lacks,
    ki_Twice_NoText := kit_ref cx_NoText ty_NoText ss_NoText sb_Twice_NoText,
    ki_Twice_NoWalker := kit_ref cx_NoWalker ty_NoWalker ss_NoWalker sb_Twice_NoWalker,
    ki_Twice_TooMany := kit_ref cx_TooMany ty_TooMany ss_TooMany sb_Twice_TooMany,
    ki_Twice_Twice := kit_self,
    ki_Twice_ValueError := kit_ty (by decide) st_Twice_ValueError,
    ki_Twice_Wrong := kit_ref cx_Wrong ty_Wrong ss_Wrong sb_Twice_Wrong,
    ki_Wrong_Lacks := kit_ref cx_Lacks ty_Lacks ss_Lacks sb_Wrong_Lacks,
    ki_Wrong_NoText := kit_ref cx_NoText ty_NoText ss_NoText sb_Wrong_NoText,
    ki_Wrong_NoWalker := kit_ref cx_NoWalker ty_NoWalker ss_NoWalker sb_Wrong_NoWalker,
    ki_Wrong_TooMany := kit_ref cx_TooMany ty_TooMany ss_TooMany sb_Wrong_TooMany,
    ki_Wrong_Twice := kit_ref cx_Twice ty_Twice ss_Twice sb_Wrong_Twice,
    ki_Wrong_ValueError := kit_ty (by decide) st_Wrong_ValueError,
    ki_Wrong_Wrong := kit_self,
    em_Lacks_AheadError := PySem.W.exm_ref ex_AheadError hx_AheadError ty_AheadError sb_Lacks_AheadError,
    em_NoWalker_AheadError := PySem.W.exm_ref ex_AheadError hx_AheadError ty_AheadError sb_NoWalker_AheadError,
    em_Twice_AheadError := PySem.W.exm_ref ex_AheadError hx_AheadError ty_AheadError sb_Twice_AheadError,
    em_Wrong_AheadError := PySem.W.exm_ref ex_AheadError hx_AheadError ty_AheadError sb_Wrong_AheadError,
    g_Ladder := PySem.W.mg_of X G g_Ladder,
    cl_Ladder := ⟨pg_Ladder, hd_Ladder, po_Ladder, sa_Ladder⟩,
    na_Ladder_low := na_Ladder_low,
    na_Ladder_middle := na_Ladder_middle,
    na_Ladder_high := na_Ladder_high,
    na_Ladder_begin := na_Ladder_begin,
    na_Ladder_low_sums := na_Ladder_low_sums,
    na_Ladder_middle_sums := na_Ladder_middle_sums,
    na_Ladder_high_sums := na_Ladder_high_sums,
    ic_Ladder := ⟨⟨pg_Ladder, hd_Ladder, po_Ladder, sa_Ladder⟩, ica_Ladder, icn_Ladder, ict_Ladder, icm_Ladder⟩,
    is_Ladder_Ladder := kit_self,
    g_Web := PySem.W.mg_of X G g_Web,
    cl_Web := ⟨pg_Web, hd_Web, po_Web, sa_Web⟩,
    na_Web_walkers := na_Web_walkers,
    na_Web_ladders := na_Web_ladders,
    na_Web_free := na_Web_free,
    ic_Web := ⟨⟨pg_Web, hd_Web, po_Web, sa_Web⟩, ica_Web, icn_Web, ict_Web, icm_Web⟩,
    ni_Web := kit_int ci_Web ty_Web,
    is_Web_Web := kit_self,
    d_w_bag := ⟨f_w_bag, _, PySem.W.mg_of X G a_w_bag, k_w_bag, B_w_bag, F_w_bag⟩,
    d_w_take := ⟨f_w_take, _, PySem.W.mg_of X G a_w_take, k_w_take, B_w_take, F_w_take⟩,
    d_w_names := ⟨f_w_names, _, PySem.W.mg_of X G a_w_names, k_w_names, B_w_names, F_w_names⟩,
    d_is_whole := ⟨f_is_whole, _, PySem.W.mg_of X G a_is_whole, k_is_whole, B_is_whole, F_is_whole⟩,
    d_is_between := ⟨f_is_between, _, PySem.W.mg_of X G a_is_between, k_is_between, B_is_between, F_is_between⟩,
    d_is_price := ⟨f_is_price, _, PySem.W.mg_of X G a_is_price, k_is_price, B_is_price, F_is_price⟩,
    d_are_prices := ⟨f_are_prices, _, PySem.W.mg_of X G a_are_prices, k_are_prices, B_are_prices, F_are_prices⟩,
    d_sums_of := ⟨f_sums_of, _, PySem.W.mg_of X G a_sums_of, k_sums_of, B_sums_of, F_sums_of⟩,
    d_Ladder_init := ⟨f_Ladder_init, _, ⟨mk_Ladder_, a_Ladder_init, i_Ladder_init, kc_Ladder⟩, F_Ladder_init⟩,
    d_plain := ⟨f_plain, _, PySem.W.mg_of X G a_plain, k_plain, B_plain, F_plain⟩,
    d_is_name := ⟨f_is_name, _, PySem.W.mg_of X G a_is_name, k_is_name, B_is_name, F_is_name⟩,
    d_is_pair := ⟨f_is_pair, _, PySem.W.mg_of X G a_is_pair, k_is_pair, B_is_pair, F_is_pair⟩,
    d_first_twice := ⟨f_first_twice, _, PySem.W.mg_of X G a_first_twice, k_first_twice, B_first_twice, F_first_twice⟩,
    d_Ladder_moved_to := ⟨f_Ladder_moved_to, _, ⟨a_Ladder_moved_to, i_Ladder_moved_to, k_Ladder_moved_to⟩, B_Ladder_moved_to, F_Ladder_moved_to⟩,
    d_Ladder_turned := ⟨f_Ladder_turned, _, ⟨a_Ladder_turned, i_Ladder_turned, k_Ladder_turned⟩, B_Ladder_turned, F_Ladder_turned⟩,
    d_Web_put := ⟨f_Web_put, _, ⟨a_Web_put, i_Web_put, k_Web_put⟩, B_Web_put, F_Web_put⟩,
    d_Web_init := ⟨f_Web_init, _, ⟨mk_Web_, a_Web_init, i_Web_init, kc_Web⟩, B_Web_init, F_Web_init⟩,
    d_w_rows := ⟨f_w_rows, _, PySem.W.mg_of X G a_w_rows, k_w_rows, B_w_rows, F_w_rows⟩,
    d_w_is_name := ⟨f_w_is_name, _, PySem.W.mg_of X G a_w_is_name, k_w_is_name, B_w_is_name, F_w_is_name⟩,
    d_w_within := ⟨f_w_within, _, PySem.W.mg_of X G a_w_within, k_w_within, B_w_within, F_w_within⟩,
    d_w_is_row := ⟨f_w_is_row, _, PySem.W.mg_of X G a_w_is_row, k_w_is_row, B_w_is_row, F_w_is_row⟩,
    d_w_signed := ⟨f_w_signed, _, PySem.W.mg_of X G a_w_signed, k_w_signed, B_w_signed, F_w_signed⟩,
    d_w_bent := ⟨f_w_bent, _, PySem.W.mg_of X G a_w_bent, k_w_bent, B_w_bent, F_w_bent⟩,
    d_w_due := ⟨f_w_due, _, PySem.W.mg_of X G a_w_due, k_w_due, B_w_due, F_w_due⟩,
    d_is_place := ⟨f_is_place, _, PySem.W.mg_of X G a_is_place, k_is_place, B_is_place, F_is_place⟩,
    d_are_coins := ⟨f_are_coins, _, PySem.W.mg_of X G a_are_coins, k_are_coins, B_are_coins, F_are_coins⟩,
    d_is_row := ⟨f_is_row, _, PySem.W.mg_of X G a_is_row, k_is_row, B_is_row, F_is_row⟩,
    d_Web_names := ⟨f_Web_names, _, ⟨a_Web_names, i_Web_names, k_Web_names⟩, B_Web_names, F_Web_names⟩,
    d_leveled := ⟨f_leveled, _, PySem.W.mg_of X G a_leveled, k_leveled, B_leveled, F_leveled⟩,
    d_standing_of := ⟨f_standing_of, _, PySem.W.mg_of X G a_standing_of, k_standing_of, B_standing_of, F_standing_of⟩,
    d_w_told := ⟨f_w_told, _, PySem.W.mg_of X G a_w_told, k_w_told, B_w_told, F_w_told⟩,
    d_coins_of := ⟨f_coins_of, _, PySem.W.mg_of X G a_coins_of, k_coins_of, B_coins_of, F_coins_of⟩,
    d_w_alike := ⟨f_w_alike, _, PySem.W.mg_of X G a_w_alike, k_w_alike, B_w_alike, F_w_alike⟩,
    d_places_of := ⟨f_places_of, _, PySem.W.mg_of X G a_places_of, k_places_of, B_places_of, F_places_of⟩,
    d_lead := ⟨f_lead, _, PySem.W.mg_of X G a_lead, k_lead, B_lead, F_lead⟩,
    d_w_asked_right := ⟨f_w_asked_right, _, PySem.W.mg_of X G a_w_asked_right, k_w_asked_right, B_w_asked_right, F_w_asked_right⟩ }
  exact (f_law T (fun_mk (st := t_law) l_law c_law k_law)).up fun _ => rfl
end Zk
open PySem PySem.W PyProof.Rows in
set_option maxRecDepth 100000 in
set_option maxHeartbeats 0 in
theorem PySem.Challenge.cw_aheadpays_k23_standings_made_refused_holds : PySem.Challenge.rw_aheadpays_k23_standings_made_refused.Holds := by
  w_on; o_law; k_head; (case hw => w_witness2)
  k_fill
  refine Zk.walk_G (l := PySem.Challenge.rw_aheadpays_k23_standings_made_refused) (n := 63) (k := 12) (x := "_law_script") (m := Zk.m_law) rfl (by decide) rfl ⟨rfl, by decide, by decide⟩ (fun w h Y => PySem.W.kIn_of Y) ?F Zk.law_true
  case F =>
    intro w mg fa h KX G hmg
    refine' Zk.all_mk KX G hmg ?z_ValueError ?z_abs ?z_all ?z_bool ?z_enumerate ?z_int ?z_isinstance ?z_len ?z_list ?z_min ?z_range ?z_repr ?z_reversed ?z_sorted ?z_str ?z_tuple ?m_FARTHEST_AT ?r_FARTHEST_AT ?m_LEAST_WALKERS ?r_LEAST_WALKERS ?m_LETTERS ?r_LETTERS ?m_MOST_COINS ?r_MOST_COINS ?m_MOST_PLACE ?r_MOST_PLACE ?m_MOST_PRICE ?r_MOST_PRICE ?m_MOST_REPEATED ?r_MOST_REPEATED ?m_MOST_ROW ?r_MOST_ROW ?m_MOST_SIGNS ?r_MOST_SIGNS ?m_MOST_WALKERS ?r_MOST_WALKERS ?g_AheadError ?rd_AheadError ?ga_AheadError ?at_AheadError ?g_Lacks ?xl_Lacks ?bm_Lacks ?sa_Lacks ?ex_Lacks ?ty_Lacks ?kc_Lacks ?xf_Lacks ?a_Lacks_init ?t_Lacks_init_ ?l_Lacks_init ?c_Lacks_init ?k_Lacks_init ?g_NoWalker ?xl_NoWalker ?bm_NoWalker ?sa_NoWalker ?ex_NoWalker ?ty_NoWalker ?kc_NoWalker ?xf_NoWalker ?a_NoWalker_init ?t_NoWalker_init_ ?l_NoWalker_init ?c_NoWalker_init ?k_NoWalker_init ?g_Twice ?xl_Twice ?bm_Twice ?sa_Twice ?ex_Twice ?ty_Twice ?kc_Twice ?xf_Twice ?a_Twice_init ?t_Twice_init_ ?l_Twice_init ?c_Twice_init ?k_Twice_init ?g_Wrong ?xl_Wrong ?bm_Wrong ?sa_Wrong ?ex_Wrong ?ty_Wrong ?kc_Wrong ?xf_Wrong ?a_Wrong_init ?t_Wrong_init_ ?l_Wrong_init ?c_Wrong_init ?k_Wrong_init ?g_NoText ?g_TooMany ?hx_AheadError ?hx_Lacks ?hx_NoWalker ?hx_Twice ?hx_Wrong ?ex_AheadError ?ty_AheadError ?xg_Lacks ?xk_Lacks ?xa_Lacks ?xn_Lacks ?xt_Lacks ?xm_Lacks ?xg_NoWalker ?xk_NoWalker ?xa_NoWalker ?xn_NoWalker ?xt_NoWalker ?xm_NoWalker ?xg_Twice ?xk_Twice ?xa_Twice ?xn_Twice ?xt_Twice ?xm_Twice ?xg_Wrong ?xk_Wrong ?xa_Wrong ?xn_Wrong ?xt_Wrong ?xm_Wrong ?cx_NoText ?ty_NoText ?ss_NoText ?sb_Lacks_NoText ?cx_NoWalker ?ss_NoWalker ?sb_Lacks_NoWalker ?cx_TooMany ?ty_TooMany ?ss_TooMany ?sb_Lacks_TooMany ?cx_Twice ?ss_Twice ?sb_Lacks_Twice ?st_Lacks_ValueError ?cx_Wrong ?ss_Wrong ?sb_Lacks_Wrong ?cx_Lacks ?ss_Lacks ?sb_NoWalker_Lacks ?sb_NoWalker_NoText ?sb_NoWalker_TooMany ?sb_NoWalker_Twice ?st_NoWalker_ValueError ?sb_NoWalker_Wrong ?sb_Twice_Lacks ?sb_Twice_NoText ?sb_Twice_NoWalker ?sb_Twice_TooMany ?st_Twice_ValueError ?sb_Twice_Wrong ?sb_Wrong_Lacks ?sb_Wrong_NoText ?sb_Wrong_NoWalker ?sb_Wrong_TooMany ?sb_Wrong_Twice ?st_Wrong_ValueError ?sb_Lacks_AheadError ?sb_NoWalker_AheadError ?sb_Twice_AheadError ?sb_Wrong_AheadError ?g_Ladder ?pg_Ladder ?hd_Ladder ?po_Ladder ?sa_Ladder ?mk_Ladder_ ?kc_Ladder ?na_Ladder_low ?na_Ladder_middle ?na_Ladder_high ?na_Ladder_begin ?na_Ladder_low_sums ?na_Ladder_middle_sums ?na_Ladder_high_sums ?ica_Ladder ?icn_Ladder ?ict_Ladder ?icm_Ladder ?g_Web ?pg_Web ?hd_Web ?po_Web ?sa_Web ?mk_Web_ ?kc_Web ?na_Web_walkers ?na_Web_ladders ?na_Web_free ?ica_Web ?icn_Web ?ict_Web ?icm_Web ?ci_Web ?ty_Web ?a_w_bag ?l_w_bag ?c_w_bag ?k_w_bag ?a_w_take ?l_w_take ?c_w_take ?k_w_take ?a_w_names ?l_w_names ?c_w_names ?k_w_names ?a_is_whole ?l_is_whole ?c_is_whole ?k_is_whole ?a_is_between ?l_is_between ?c_is_between ?k_is_between ?a_is_price ?l_is_price ?c_is_price ?k_is_price ?a_are_prices ?l_are_prices ?c_are_prices ?k_are_prices ?a_sums_of ?l_sums_of ?c_sums_of ?k_sums_of ?a_Ladder_init ?i_Ladder_init ?l_Ladder_init ?c_Ladder_init ?k_Ladder_init ?d_Ladder_init_at ?a_plain ?l_plain ?c_plain ?k_plain ?a_is_name ?l_is_name ?c_is_name ?k_is_name ?a_is_pair ?l_is_pair ?c_is_pair ?k_is_pair ?a_first_twice ?l_first_twice ?c_first_twice ?k_first_twice ?a_Ladder_moved_to ?i_Ladder_moved_to ?l_Ladder_moved_to ?c_Ladder_moved_to ?k_Ladder_moved_to ?a_Ladder_turned ?i_Ladder_turned ?l_Ladder_turned ?c_Ladder_turned ?k_Ladder_turned ?a_Web_put ?i_Web_put ?l_Web_put ?c_Web_put ?k_Web_put ?a_Web_init ?i_Web_init ?l_Web_init ?c_Web_init ?k_Web_init ?a_w_rows ?l_w_rows ?c_w_rows ?k_w_rows ?a_w_is_name ?l_w_is_name ?c_w_is_name ?k_w_is_name ?a_w_within ?l_w_within ?c_w_within ?k_w_within ?a_w_is_row ?l_w_is_row ?c_w_is_row ?k_w_is_row ?a_w_signed ?l_w_signed ?c_w_signed ?k_w_signed ?a_w_bent ?l_w_bent ?c_w_bent ?k_w_bent ?a_w_due ?l_w_due ?c_w_due ?k_w_due ?a_is_place ?l_is_place ?c_is_place ?k_is_place ?a_are_coins ?l_are_coins ?c_are_coins ?k_are_coins ?a_is_row ?l_is_row ?c_is_row ?k_is_row ?a_Web_names ?i_Web_names ?l_Web_names ?c_Web_names ?k_Web_names ?a_leveled ?l_leveled ?c_leveled ?k_leveled ?a_standing_of ?l_standing_of ?c_standing_of ?k_standing_of ?a_w_told ?l_w_told ?c_w_told ?k_w_told ?a_coins_of ?l_coins_of ?c_coins_of ?k_coins_of ?a_w_alike ?l_w_alike ?c_w_alike ?k_w_alike ?a_places_of ?l_places_of ?c_places_of ?k_places_of ?a_lead ?l_lead ?c_lead ?k_lead ?a_w_asked_right ?l_w_asked_right ?c_w_asked_right ?k_w_asked_right ?a_law ?l_law ?c_law ?k_law
    (case z_ValueError => k_is)
    (case z_abs => k_is)
    (case z_all => k_is)
    (case z_bool => k_is)
    (case z_enumerate => k_is)
    (case z_int => k_is)
    (case z_isinstance => k_is)
    (case z_len => k_is)
    (case z_list => k_is)
    (case z_min => k_is)
    (case z_range => k_is)
    (case z_repr => k_is)
    (case z_reversed => k_is)
    (case z_sorted => k_is)
    (case z_str => k_is)
    (case z_tuple => k_is)
    (case m_FARTHEST_AT => k_is)
    (case r_FARTHEST_AT => exact ⟨_, rfl⟩)
    (case m_LEAST_WALKERS => k_is)
    (case r_LEAST_WALKERS => exact ⟨_, rfl⟩)
    (case m_LETTERS => k_is)
    (case r_LETTERS => exact ⟨_, rfl⟩)
    (case m_MOST_COINS => k_is)
    (case r_MOST_COINS => exact ⟨_, rfl⟩)
    (case m_MOST_PLACE => k_is)
    (case r_MOST_PLACE => exact ⟨_, rfl⟩)
    (case m_MOST_PRICE => k_is)
    (case r_MOST_PRICE => exact ⟨_, rfl⟩)
    (case m_MOST_REPEATED => k_is)
    (case r_MOST_REPEATED => exact ⟨_, rfl⟩)
    (case m_MOST_ROW => k_is)
    (case r_MOST_ROW => exact ⟨_, rfl⟩)
    (case m_MOST_SIGNS => k_is)
    (case r_MOST_SIGNS => exact ⟨_, rfl⟩)
    (case m_MOST_WALKERS => k_is)
    (case r_MOST_WALKERS => exact ⟨_, rfl⟩)
    (case g_AheadError => k_is)
    (case rd_AheadError => k_is)
    (case ga_AheadError => k_is)
    (case at_AheadError => k_is)
    (case g_Lacks => k_is)
    (case xl_Lacks => k_is)
    (case bm_Lacks => decide +kernel)
    (case sa_Lacks => k_is)
    (case ex_Lacks => k_is)
    (case ty_Lacks => k_is)
    (case kc_Lacks => k_is)
    (case xf_Lacks => k_is)
    (case a_Lacks_init => k_is)
    (case t_Lacks_init_ => k_is)
    (case l_Lacks_init => k_is)
    (case c_Lacks_init => k_is)
    (case k_Lacks_init => k_is)
    (case g_NoWalker => k_is)
    (case xl_NoWalker => k_is)
    (case bm_NoWalker => decide +kernel)
    (case sa_NoWalker => k_is)
    (case ex_NoWalker => k_is)
    (case ty_NoWalker => k_is)
    (case kc_NoWalker => k_is)
    (case xf_NoWalker => k_is)
    (case a_NoWalker_init => k_is)
    (case t_NoWalker_init_ => k_is)
    (case l_NoWalker_init => k_is)
    (case c_NoWalker_init => k_is)
    (case k_NoWalker_init => k_is)
    (case g_Twice => k_is)
    (case xl_Twice => k_is)
    (case bm_Twice => decide +kernel)
    (case sa_Twice => k_is)
    (case ex_Twice => k_is)
    (case ty_Twice => k_is)
    (case kc_Twice => k_is)
    (case xf_Twice => k_is)
    (case a_Twice_init => k_is)
    (case t_Twice_init_ => k_is)
    (case l_Twice_init => k_is)
    (case c_Twice_init => k_is)
    (case k_Twice_init => k_is)
    (case g_Wrong => k_is)
    (case xl_Wrong => k_is)
    (case bm_Wrong => decide +kernel)
    (case sa_Wrong => k_is)
    (case ex_Wrong => k_is)
    (case ty_Wrong => k_is)
    (case kc_Wrong => k_is)
    (case xf_Wrong => k_is)
    (case a_Wrong_init => k_is)
    (case t_Wrong_init_ => k_is)
    (case l_Wrong_init => k_is)
    (case c_Wrong_init => k_is)
    (case k_Wrong_init => k_is)
    (case g_NoText => k_is)
    (case g_TooMany => k_is)
    (case hx_AheadError => k_is)
    (case hx_Lacks => k_is)
    (case hx_NoWalker => k_is)
    (case hx_Twice => k_is)
    (case hx_Wrong => k_is)
    (case ex_AheadError => k_is)
    (case ty_AheadError => k_is)
    (case xg_Lacks => k_is)
    (case xk_Lacks => k_is)
    (case xa_Lacks => k_is)
    (case xn_Lacks => k_is)
    (case xt_Lacks => k_is)
    (case xm_Lacks => k_is)
    (case xg_NoWalker => k_is)
    (case xk_NoWalker => k_is)
    (case xa_NoWalker => k_is)
    (case xn_NoWalker => k_is)
    (case xt_NoWalker => k_is)
    (case xm_NoWalker => k_is)
    (case xg_Twice => k_is)
    (case xk_Twice => k_is)
    (case xa_Twice => k_is)
    (case xn_Twice => k_is)
    (case xt_Twice => k_is)
    (case xm_Twice => k_is)
    (case xg_Wrong => k_is)
    (case xk_Wrong => k_is)
    (case xa_Wrong => k_is)
    (case xn_Wrong => k_is)
    (case xt_Wrong => k_is)
    (case xm_Wrong => k_is)
    (case cx_NoText => k_is)
    (case ty_NoText => k_is)
    (case ss_NoText => k_is)
    (case sb_Lacks_NoText => k_is)
    (case cx_NoWalker => k_is)
    (case ss_NoWalker => k_is)
    (case sb_Lacks_NoWalker => k_is)
    (case cx_TooMany => k_is)
    (case ty_TooMany => k_is)
    (case ss_TooMany => k_is)
    (case sb_Lacks_TooMany => k_is)
    (case cx_Twice => k_is)
    (case ss_Twice => k_is)
    (case sb_Lacks_Twice => k_is)
    (case st_Lacks_ValueError => k_is)
    (case cx_Wrong => k_is)
    (case ss_Wrong => k_is)
    (case sb_Lacks_Wrong => k_is)
    (case cx_Lacks => k_is)
    (case ss_Lacks => k_is)
    (case sb_NoWalker_Lacks => k_is)
    (case sb_NoWalker_NoText => k_is)
    (case sb_NoWalker_TooMany => k_is)
    (case sb_NoWalker_Twice => k_is)
    (case st_NoWalker_ValueError => k_is)
    (case sb_NoWalker_Wrong => k_is)
    (case sb_Twice_Lacks => k_is)
    (case sb_Twice_NoText => k_is)
    (case sb_Twice_NoWalker => k_is)
    (case sb_Twice_TooMany => k_is)
    (case st_Twice_ValueError => k_is)
    (case sb_Twice_Wrong => k_is)
    (case sb_Wrong_Lacks => k_is)
    (case sb_Wrong_NoText => k_is)
    (case sb_Wrong_NoWalker => k_is)
    (case sb_Wrong_TooMany => k_is)
    (case sb_Wrong_Twice => k_is)
    (case st_Wrong_ValueError => k_is)
    (case sb_Lacks_AheadError => k_is)
    (case sb_NoWalker_AheadError => k_is)
    (case sb_Twice_AheadError => k_is)
    (case sb_Wrong_AheadError => k_is)
    (case g_Ladder => k_is)
    (case pg_Ladder => k_is)
    (case hd_Ladder => k_is)
    (case po_Ladder => k_is)
    (case sa_Ladder => k_is)
    (case mk_Ladder_ => k_is)
    (case kc_Ladder => k_is)
    (case na_Ladder_low => k_is)
    (case na_Ladder_middle => k_is)
    (case na_Ladder_high => k_is)
    (case na_Ladder_begin => k_is)
    (case na_Ladder_low_sums => k_is)
    (case na_Ladder_middle_sums => k_is)
    (case na_Ladder_high_sums => k_is)
    (case ica_Ladder => k_is)
    (case icn_Ladder => k_is)
    (case ict_Ladder => k_is)
    (case icm_Ladder => k_is)
    (case g_Web => k_is)
    (case pg_Web => k_is)
    (case hd_Web => k_is)
    (case po_Web => k_is)
    (case sa_Web => k_is)
    (case mk_Web_ => k_is)
    (case kc_Web => k_is)
    (case na_Web_walkers => k_is)
    (case na_Web_ladders => k_is)
    (case na_Web_free => k_is)
    (case ica_Web => k_is)
    (case icn_Web => k_is)
    (case ict_Web => k_is)
    (case icm_Web => k_is)
    (case ci_Web => k_is)
    (case ty_Web => k_is)
    (case a_w_bag => k_is)
    (case l_w_bag => k_is)
    (case c_w_bag => k_is)
    (case k_w_bag => k_is)
    (case a_w_take => k_is)
    (case l_w_take => k_is)
    (case c_w_take => k_is)
    (case k_w_take => k_is)
    (case a_w_names => k_is)
    (case l_w_names => k_is)
    (case c_w_names => k_is)
    (case k_w_names => k_is)
    (case a_is_whole => k_is)
    (case l_is_whole => k_is)
    (case c_is_whole => k_is)
    (case k_is_whole => k_is)
    (case a_is_between => k_is)
    (case l_is_between => k_is)
    (case c_is_between => k_is)
    (case k_is_between => k_is)
    (case a_is_price => k_is)
    (case l_is_price => k_is)
    (case c_is_price => k_is)
    (case k_is_price => k_is)
    (case a_are_prices => k_is)
    (case l_are_prices => k_is)
    (case c_are_prices => k_is)
    (case k_are_prices => k_is)
    (case a_sums_of => k_is)
    (case l_sums_of => k_is)
    (case c_sums_of => k_is)
    (case k_sums_of => k_is)
    (case a_Ladder_init => k_is)
    (case i_Ladder_init => k_is)
    (case l_Ladder_init => k_is)
    (case c_Ladder_init => k_is)
    (case k_Ladder_init => k_is)
    (case d_Ladder_init_at => k_is)
    (case a_plain => k_is)
    (case l_plain => k_is)
    (case c_plain => k_is)
    (case k_plain => k_is)
    (case a_is_name => k_is)
    (case l_is_name => k_is)
    (case c_is_name => k_is)
    (case k_is_name => k_is)
    (case a_is_pair => k_is)
    (case l_is_pair => k_is)
    (case c_is_pair => k_is)
    (case k_is_pair => k_is)
    (case a_first_twice => k_is)
    (case l_first_twice => k_is)
    (case c_first_twice => k_is)
    (case k_first_twice => k_is)
    (case a_Ladder_moved_to => k_is)
    (case i_Ladder_moved_to => k_is)
    (case l_Ladder_moved_to => k_is)
    (case c_Ladder_moved_to => k_is)
    (case k_Ladder_moved_to => k_is)
    (case a_Ladder_turned => k_is)
    (case i_Ladder_turned => k_is)
    (case l_Ladder_turned => k_is)
    (case c_Ladder_turned => k_is)
    (case k_Ladder_turned => k_is)
    (case a_Web_put => k_is)
    (case i_Web_put => k_is)
    (case l_Web_put => k_is)
    (case c_Web_put => k_is)
    (case k_Web_put => k_is)
    (case a_Web_init => k_is)
    (case i_Web_init => k_is)
    (case l_Web_init => k_is)
    (case c_Web_init => k_is)
    (case k_Web_init => k_is)
    (case a_w_rows => k_is)
    (case l_w_rows => k_is)
    (case c_w_rows => k_is)
    (case k_w_rows => k_is)
    (case a_w_is_name => k_is)
    (case l_w_is_name => k_is)
    (case c_w_is_name => k_is)
    (case k_w_is_name => k_is)
    (case a_w_within => k_is)
    (case l_w_within => k_is)
    (case c_w_within => k_is)
    (case k_w_within => k_is)
    (case a_w_is_row => k_is)
    (case l_w_is_row => k_is)
    (case c_w_is_row => k_is)
    (case k_w_is_row => k_is)
    (case a_w_signed => k_is)
    (case l_w_signed => k_is)
    (case c_w_signed => k_is)
    (case k_w_signed => k_is)
    (case a_w_bent => k_is)
    (case l_w_bent => k_is)
    (case c_w_bent => k_is)
    (case k_w_bent => k_is)
    (case a_w_due => k_is)
    (case l_w_due => k_is)
    (case c_w_due => k_is)
    (case k_w_due => k_is)
    (case a_is_place => k_is)
    (case l_is_place => k_is)
    (case c_is_place => k_is)
    (case k_is_place => k_is)
    (case a_are_coins => k_is)
    (case l_are_coins => k_is)
    (case c_are_coins => k_is)
    (case k_are_coins => k_is)
    (case a_is_row => k_is)
    (case l_is_row => k_is)
    (case c_is_row => k_is)
    (case k_is_row => k_is)
    (case a_Web_names => k_is)
    (case i_Web_names => k_is)
    (case l_Web_names => k_is)
    (case c_Web_names => k_is)
    (case k_Web_names => k_is)
    (case a_leveled => k_is)
    (case l_leveled => k_is)
    (case c_leveled => k_is)
    (case k_leveled => k_is)
    (case a_standing_of => k_is)
    (case l_standing_of => k_is)
    (case c_standing_of => k_is)
    (case k_standing_of => k_is)
    (case a_w_told => k_is)
    (case l_w_told => k_is)
    (case c_w_told => k_is)
    (case k_w_told => k_is)
    (case a_coins_of => k_is)
    (case l_coins_of => k_is)
    (case c_coins_of => k_is)
    (case k_coins_of => k_is)
    (case a_w_alike => k_is)
    (case l_w_alike => k_is)
    (case c_w_alike => k_is)
    (case k_w_alike => k_is)
    (case a_places_of => k_is)
    (case l_places_of => k_is)
    (case c_places_of => k_is)
    (case k_places_of => k_is)
    (case a_lead => k_is)
    (case l_lead => k_is)
    (case c_lead => k_is)
    (case k_lead => k_is)
    (case a_w_asked_right => k_is)
    (case l_w_asked_right => k_is)
    (case c_w_asked_right => k_is)
    (case k_w_asked_right => k_is)
    (case a_law => k_is)
    (case l_law => k_is)
    (case c_law => k_is)
    (case k_law => k_is)
#print axioms PySem.Challenge.cw_aheadpays_k23_standings_made_refused_holds
