import PyProof.Rows.All
import Wide.All
import OpenK.AllK
import Wide.FinOn
import HandS.ForMost
import HandS.ForExc
import HandS.ExcInit
import HandS.CallSlots
import HandS.WordsExc
import HandS.Wide
import HandS.IsInst
import HandS.Defaults
import HandS.More
import HandS.ClsMeth
import HandS.MakeKwOnly
import PyProof.LongRange
import HandS.Style
import HandS.SortInts
import HandS.TupAny
import HandS.TryOnly
import PyProof.ReprRoads
import HandS.RaiseMore
import HandS.Words
import HandS.OwnEq
import HandS.Rev
import HandS.FStr
import HandS.SetFor
import HandS.RevTup
import HandS.Flow
import KE.SortData
import HandS.Codes
import PyProof.StrBlock2
import KE.KDictKeyed
import HandS.Dict
import HandS.Conv
import HandS.DictEq
import HandS.DictComp
import HandS.Zip
import HandS.SortKw
import KE.KDictDisplayH
import HandS.TupLen
import HandS.Strs
import HandS.Deep
import HandS.ExcField
import KE.KExcIs
import HandS.ExcIs
import KE.DataMinMax
import KE.SortKeyHeap
import HandS.Lambda
import HandS.EndTab
import KE.KNestM
import KE.KDictPairs
import KE.KDictCopyH
import HandS.List
import KE.KDictZip
import HandS.ExcValue
import KE.GoesMore
import HandS.Small
import KE.KEqDict
import KE.GoesComp
import KE.GoesRaise
import HandS.Text
import HandS.HotCalls
import PySem.Challenge.RW_aheadpays_k16_ladders_refused
set_option Elab.async false
set_option linter.all false
set_option maxRecDepth 100000
set_option maxHeartbeats 4000000
namespace Zk
open PySem L2

/-! ### what stands for what -/
structure Pr where
  p : Hp → V → Prop
  mono : ∀ {S S' : Hp} {v : V}, Same S S' → p S v → p S' v
/-- a thing of the def's own, at the addresses F, that may still change: S what is stable, H the heap -/
structure PrO where
  p : Hp → Hp → V → (Addr → Prop) → Prop
  mono : ∀ {S S' H H' : Hp} {v : V} {F : Addr → Prop}, Same S S' → (∀ a o, F a → H a = some o → H' a = some o) → p S H v F → p S' H' v F
structure Rel (α : Type) where
  is : α → Hp → V → Prop
  mono : ∀ {x : α} {S S' : Hp} {v : V}, Same S S' → is x S v → is x S' v
abbrev Rel.pr {α : Type} (R : Rel α) (x : α) : Pr := ⟨R.is x, R.mono⟩
def All2 {α β : Type} (r : α → β → Prop) : List α → List β → Prop
  | [], [] => True
  | x :: xs, y :: ys => r x y ∧ All2 r xs ys
  | _, _ => False
section
variable {α β : Type} {r q : α → β → Prop}
theorem All2.imp (h : ∀ x y, r x y → q x y) : ∀ {xs : List α} {ys : List β}, All2 r xs ys → All2 q xs ys
  | [], [], _ => trivial
  | _ :: _, _ :: _, ⟨a, b⟩ => ⟨h _ _ a, All2.imp h b⟩
  | [], _ :: _, h => h.elim
  | _ :: _, [], h => h.elim
theorem All2.length : ∀ {xs : List α} {ys : List β}, All2 r xs ys → xs.length = ys.length
  | [], [], _ => rfl
  | _ :: _, _ :: _, ⟨_, b⟩ => by simp [All2.length b]
  | [], _ :: _, h => h.elim
  | _ :: _, [], h => h.elim
theorem All2.append : ∀ {xs : List α} {ys : List β} {xs' : List α} {ys' : List β}, All2 r xs ys → All2 r xs' ys' → All2 r (xs ++ xs') (ys ++ ys')
  | [], [], _, _, _, h => h
  | _ :: _, _ :: _, _, _, ⟨a, b⟩, h => ⟨a, All2.append b h⟩
  | [], _ :: _, _, _, h, _ => h.elim
  | _ :: _, [], _, _, h, _ => h.elim
theorem All2.get : ∀ {xs : List α} {ys : List β} {i : Nat} {x : α}, All2 r xs ys → xs[i]? = some x → ∃ y, ys[i]? = some y ∧ r x y
  | [], [], _, _, _, h => by simp at h
  | _ :: _, _ :: _, 0, _, ⟨a, _⟩, h => by simp at h; subst h; exact ⟨_, rfl, a⟩
  | _ :: _, _ :: _, i + 1, _, ⟨_, b⟩, h => by
    obtain ⟨y, h1, h2⟩ := All2.get (i := i) b (by simpa using h)
    exact ⟨y, by simpa using h1, h2⟩
  | [], _ :: _, _, _, h, _ => h.elim
  | _ :: _, [], _, _, h, _ => h.elim
theorem All2.get' : ∀ {xs : List α} {ys : List β} {i : Nat} {y : β}, All2 r xs ys → ys[i]? = some y → ∃ x, xs[i]? = some x ∧ r x y
  | [], [], _, _, _, h => by simp at h
  | _ :: _, _ :: _, 0, _, ⟨a, _⟩, h => by simp at h; subst h; exact ⟨_, rfl, a⟩
  | _ :: _, _ :: _, i + 1, _, ⟨_, b⟩, h => by
    obtain ⟨y, h1, h2⟩ := All2.get' (i := i) b (by simpa using h)
    exact ⟨y, by simpa using h1, h2⟩
  | [], _ :: _, _, _, h, _ => h.elim
  | _ :: _, [], _, _, h, _ => h.elim
theorem All2.take : ∀ {xs : List α} {ys : List β} (n : Nat), All2 r xs ys → All2 r (xs.take n) (ys.take n)
  | _, _, 0, _ => by simp [All2]
  | [], [], n + 1, _ => by simp [All2]
  | _ :: _, _ :: _, n + 1, ⟨a, b⟩ => ⟨a, All2.take n b⟩
  | [], _ :: _, _, h => h.elim
  | _ :: _, [], _, h => h.elim
theorem All2.drop : ∀ {xs : List α} {ys : List β} (n : Nat), All2 r xs ys → All2 r (xs.drop n) (ys.drop n)
  | _, _, 0, h => h
  | [], [], n + 1, _ => by simp [All2]
  | _ :: _, _ :: _, n + 1, ⟨_, b⟩ => All2.drop n b
  | [], _ :: _, _, h => h.elim
  | _ :: _, [], _, h => h.elim
theorem All2.set {x : α} {y : β} (h : r x y) : ∀ {xs : List α} {ys : List β} (i : Nat), All2 r xs ys → All2 r (xs.set i x) (ys.set i y)
  | [], [], _, _ => by simp [All2]
  | _ :: _, _ :: _, 0, ⟨_, b⟩ => ⟨h, b⟩
  | _ :: _, _ :: _, i + 1, ⟨a, b⟩ => ⟨a, All2.set h i b⟩
  | [], _ :: _, _, h => h.elim
  | _ :: _, [], _, h => h.elim
theorem All2.rep : ∀ (k : Nat) {xs : List α} {ys : List β}, All2 r xs ys → All2 r (List.replicate k xs).flatten (List.replicate k ys).flatten
  | 0, _, _, _ => by simp [All2]
  | k + 1, _, _, h => by
    rw [List.replicate_succ, List.replicate_succ, List.flatten_cons, List.flatten_cons]
    exact All2.append h (All2.rep k h)
theorem All2.map {γ : Type} {f : γ → β} {g : γ → α} : ∀ (l : List γ), (∀ z ∈ l, r (g z) (f z)) → All2 r (l.map g) (l.map f)
  | [], _ => trivial
  | _ :: l, h => ⟨h _ (by simp), All2.map l fun z hz => h z (by simp [hz])⟩
end
theorem All2.ints : ∀ {xs : List Int} {vs : List V}, All2 (fun n v => v = V.int n) xs vs → vs = xs.map V.int
  | [], [], _ => rfl
  | _ :: _, _ :: _, ⟨a, b⟩ => by rw [a, All2.ints b]; rfl
  | [], _ :: _, h => h.elim
  | _ :: _, [], h => h.elim
theorem All2.of_ints : ∀ (xs : List Int), All2 (fun n v => v = V.int n) xs (xs.map V.int)
  | [] => trivial
  | _ :: xs => ⟨rfl, All2.of_ints xs⟩
theorem All2.bls : ∀ {xs : List Bool} {vs : List V}, All2 (fun n v => v = V.bl n) xs vs → vs = xs.map V.bl
  | [], [], _ => rfl
  | _ :: _, _ :: _, ⟨a, b⟩ => by rw [a, All2.bls b]; rfl
  | [], _ :: _, h => h.elim
  | _ :: _, [], h => h.elim
/-! ### the kinds -/
def rInt : Rel Int := ⟨fun x _ v => v = .int x, fun _ h => h⟩
def rBl : Rel Bool := ⟨fun x _ v => v = .bl x, fun _ h => h⟩
def rStr : Rel Str := ⟨fun x _ v => v = .str x, fun _ h => h⟩
def rNon : Rel Unit := ⟨fun _ _ v => v = .non, fun _ h => h⟩
def rRef (a : Addr) : Rel Unit := ⟨fun _ _ v => v = .ref a, fun _ h => h⟩
def rLst {α : Type} (R : Rel α) : Rel (List α) :=
  ⟨fun xs S v => ∃ a vs, v = .ref a ∧ S a = some (.lst vs) ∧ All2 (fun x v => R.is x S v) xs vs,
   fun s ⟨a, vs, e, h, q⟩ => ⟨a, vs, e, s _ _ h, q.imp fun _ _ h => R.mono s h⟩⟩
/-- a list that is only read: the script -/
def rSc {α : Type} (K : PySem.W.Frag) (R : Rel α) : Rel (List α) :=
  ⟨fun xs S v => ∃ a vs, v = .ref a ∧ SqL K S a vs ∧ All2 (fun x v => R.is x S v) xs vs,
   fun s ⟨a, vs, e, h, q⟩ => ⟨a, vs, e, h.elim (fun h => .inl (h.elim (fun h => .inl (s _ _ h)) fun ⟨o, h⟩ => .inr ⟨o, s _ _ h⟩)) .inr, q.imp fun _ _ h => R.mono s h⟩⟩
def rVT {α : Type} (R : Rel α) : Rel (List α) :=
  ⟨fun xs S v => ∃ a vs, v = .ref a ∧ S a = some (.tup vs) ∧ All2 (fun x v => R.is x S v) xs vs,
   fun s ⟨a, vs, e, h, q⟩ => ⟨a, vs, e, s _ _ h, q.imp fun _ _ h => R.mono s h⟩⟩
def rT2 {α β : Type} (R : Rel α) (R2 : Rel β) : Rel (α × β) :=
  ⟨fun x S v => ∃ a u w, v = .ref a ∧ S a = some (.tup [u, w]) ∧ R.is x.1 S u ∧ R2.is x.2 S w,
   fun s ⟨a, u, w, e, h, q, q2⟩ => ⟨a, u, w, e, s _ _ h, R.mono s q, R2.mono s q2⟩⟩
def rT3 {α β γ : Type} (R : Rel α) (R2 : Rel β) (R3 : Rel γ) : Rel (α × β × γ) :=
  ⟨fun x S v => ∃ a u w z, v = .ref a ∧ S a = some (.tup [u, w, z]) ∧ R.is x.1 S u ∧ R2.is x.2.1 S w ∧ R3.is x.2.2 S z,
   fun s ⟨a, u, w, z, e, h, q, q2, q3⟩ => ⟨a, u, w, z, e, s _ _ h, R.mono s q, R2.mono s q2, R3.mono s q3⟩⟩
def rT4 {α β γ δ : Type} (R : Rel α) (R2 : Rel β) (R3 : Rel γ) (R4 : Rel δ) : Rel (α × β × γ × δ) :=
  ⟨fun x S v => ∃ a u w z y, v = .ref a ∧ S a = some (.tup [u, w, z, y]) ∧ R.is x.1 S u ∧ R2.is x.2.1 S w ∧ R3.is x.2.2.1 S z ∧ R4.is x.2.2.2 S y,
   fun s ⟨a, u, w, z, y, e, h, q, q2, q3, q4⟩ => ⟨a, u, w, z, y, e, s _ _ h, R.mono s q, R2.mono s q2, R3.mono s q3, R4.mono s q4⟩⟩
def rOpt {α : Type} (R : Rel α) : Rel (Option α) :=
  ⟨fun x S v => match x with | none => v = .non | some y => R.is y S v, fun {x _ _ _} s h => by cases x with | none => exact h | some y => exact R.mono s h⟩

/-! ### the mirror's monad -/
structure Exc where
  cls : Str
  fs : List (Str × V)
inductive Out (τ α : Type) where
  | ok (a : α) (s : τ) | exc (e : Exc) (s : τ) | stuck
def M (τ α : Type) : Type := τ → Out τ α
section
variable {τ α β : Type}
def ret (a : α) : M τ α := fun s => .ok a s
def bnd (m : M τ α) (f : α → M τ β) : M τ β := fun s => match m s with | .ok a s' => f a s' | .exc e s' => .exc e s' | .stuck => .stuck
def stk : M τ α := fun _ => .stuck
def rse (e : Exc) : M τ α := fun s => .exc e s
def lft (m : M Unit α) : M τ α := fun s => match m () with | .ok a _ => .ok a s | .exc e _ => .exc e s | .stuck => .stuck
instance : Monad (M τ) where
  pure := ret
  bind := bnd
/-- only where c -/
def chk (c : Prop) [Decidable c] (m : M τ α) : M τ α := if c then m else stk
end

/-! ### the world, a def's names, slots -/
structure Gx where
  P : Program
  w : World
  K : PySem.W.Frag
  mg : Str → Option Value
  base : Heap
structure Sc where
  N : List Str
  sc : Scope
  k : Nat
  fn : Bool
  fx : Str → Bool
  gd : Bool
structure CtxOk (G : Gx) (c : Sc) (W : WX) (X : Cx) : Prop where
  prog : X.prog = G.P
  w : X.w = G.w
  K : X.K = G.K
  mg : X.mg = G.mg
  base : X.base = G.base
  N : X.N = c.N
  nd : c.N.Nodup
  sc : X.env.scope = c.sc
  calm : X.calm = true
  room : Room c.k X.A
  gds : c.gd = true → X.A.guards = some []
  takes : Takes X W
  owns : PassesOwn (model X.prog X.w) X.A X.env X.xe
  fx : X.fn = c.fx
  isfn : c.fn = true → X.stack = X.env :: X.outer ∧ X.env.frame = some X.env.locals
inductive Sl where
  | no | st (p : Pr) | ow (p : PrO) | gh (p : PrO)
abbrev Env := List Sl
structure Eff (τ : Type) where
  own : Addr → Prop
  is : τ → Hp → Hp → Prop
  mono : ∀ {β : τ} {S H S' H' : Hp}, Same S S' → (∀ a, own a → S a = none → S' a = none) → (∀ a o, own a → H a = some o → H' a = some o) → is β S H → is β S' H'
  th : ∀ {β : τ} {S H : Hp} {a : Addr}, is β S H → own a → S a = none ∧ ∃ o, H a = some o
structure Bs where
  S : Hp
  H : Hp
structure Keep (own : Addr → Prop) (B : Bs) (S H : Hp) : Prop where
  same : Same S H
  up : Same B.S S
  kp : ∀ a o, B.S a = none → B.H a = some o → ¬ own a → S a = none ∧ H a = some o
def slOk (S H : Hp) (v : Option V) (F : Addr → Prop) : Sl → Prop
  | .no => True
  | .st p => ∃ x, v = some x ∧ p.p S x
  | .ow p => ∃ x, v = some x ∧ p.p S H x F
  | .gh p => p.p S H .non F
structure Feet {τ : Type} (E : Eff τ) (B : Bs) (S H : Hp) (Fs : Nat → Addr → Prop) : Prop where
  at_ : ∀ i a, Fs i a → S a = none ∧ B.H a = none ∧ ¬ E.own a ∧ ∃ o, H a = some o
  ds : ∀ i j a, Fs i a → Fs j a → i = j
structure Hold {τ : Type} (E : Eff τ) (B : Bs) (Γ : Env) (β : τ) (σ : St) (S H : Hp) : Prop where
  kp : Keep E.own B S H
  ef : E.is β S H
  sl : ∃ Fs, Feet E B S H Fs ∧ ∀ (i : Nat) s, Γ[i]? = some s → slOk S H (σ[i]?.join) (Fs i) s
def XAt (G : Gx) (x : Exc) (H : Hp) (c : Value) (d : Option Addr) : Prop :=
  ∃ C, G.mg x.cls = some (.ref C) ∧ c = .ref C ∧ ((x.fs = [] ∧ d = none) ∨ ∃ dd, d = some dd ∧ H dd = some (.xd x.fs))

section
variable {τ α β κ ρ : Type}
def aft (G : Gx) (E : Eff τ) (W : WX) (B : Bs) (Γ : Env) (σ : St) (S : Hp) (R : Rel α) (Q : VK) : Out τ α → Prop
  | .ok a b' => ∀ v S' H', Same S S' → Hold E B Γ b' σ S' H' → R.is a S' v → Q v H'
  | .exc x b' => ∀ c d S' H', Same S S' → Hold E B Γ b' σ S' H' → XAt G x H' c d → W c d σ H'
  | .stuck => False
def aftT (G : Gx) (E : Eff τ) (W : WX) (B : Bs) (Γ : Env) (σ : St) (S : Hp) (Q : Bool → Hp → Prop) : Out τ Bool → Prop
  | .ok a b' => ∀ S' H', Same S S' → Hold E B Γ b' σ S' H' → Q a H'
  | .exc x b' => ∀ c d S' H', Same S S' → Hold E B Γ b' σ S' H' → XAt G x H' c d → W c d σ H'
  | .stuck => False
def aftA (G : Gx) (E : Eff τ) (W : WX) (B : Bs) (Γ : Env) (σ : St) (S : Hp) (A : α → List Pr) (Q : List V → Hp → Prop) : Out τ α → Prop
  | .ok a b' => ∀ vs S' H', Same S S' → Hold E B Γ b' σ S' H' → All2 (fun (p : Pr) v => p.p S' v) (A a) vs → Q vs H'
  | .exc x b' => ∀ c d S' H', Same S S' → Hold E B Γ b' σ S' H' → XAt G x H' c d → W c d σ H'
  | .stuck => False
def tzE (G : Gx) (E : Eff τ) (W : WX) (Γ : Env) (m : M τ α) (R : Rel α) : TE := fun σ H Q => ∃ B S b, Hold E B Γ b σ S H ∧ aft G E W B Γ σ S R Q (m b)
def tzT (G : Gx) (E : Eff τ) (W : WX) (Γ : Env) (m : M τ Bool) : TT := fun σ H Q => ∃ B S b, Hold E B Γ b σ S H ∧ aftT G E W B Γ σ S Q (m b)
def tzA (G : Gx) (E : Eff τ) (W : WX) (Γ : Env) (m : M τ α) (A : α → List Pr) : TA := fun σ H Q => ∃ B S b, Hold E B Γ b σ S H ∧ aftA G E W B Γ σ S A Q (m b)
inductive Fl (α κ ρ : Type) where
  | nx (a : α) | rt (r : ρ) | bk (k : κ) | ct (k : κ)
/-- what is wanted behind statements but the next one: of break and continue, of an exception, of what is handed back -/
structure Ls (κ ρ : Type) where
  k : κ → Env
  x : Env
  R : Rel ρ
  o : ρ → V → Env := fun _ _ => []
def aftS (G : Gx) (E : Eff τ) (W : WX) (L : Ls κ ρ) (B : Bs) (S : Hp) (Γn : α → Env) (D : Ends) : Out τ (Fl α κ ρ) → Prop
  | .ok (.nx a) b' => ∀ σ' S' H', Same S S' → Hold E B (Γn a) b' σ' S' H' → D.nx σ' H'
  | .ok (.rt r) b' => ∀ v σ' S' H', Hold E B (L.o r v) b' σ' S' H' → L.R.is r S' v → D.rt v H'
  | .ok (.bk a) b' => ∀ σ' S' H', Same S S' → Hold E B (L.k a) b' σ' S' H' → D.bk σ' H'
  | .ok (.ct a) b' => ∀ σ' S' H', Same S S' → Hold E B (L.k a) b' σ' S' H' → D.ct σ' H'
  | .exc x b' => ∀ c d σ' S' H', Hold E B L.x b' σ' S' H' → XAt G x H' c d → W c d σ' H'
  | .stuck => False
def tzS (G : Gx) (E : Eff τ) (W : WX) (L : Ls κ ρ) (Γ : Env) (m : M τ (Fl α κ ρ)) (Γn : α → Env) : TS := fun D σ H => ∃ B S b, Hold E B Γ b σ S H ∧ aftS G E W L B S Γn D (m b)
def ZE (G : Gx) (c : Sc) (E : Eff τ) (W : WX) (Γ : Env) (e : Expr) (m : M τ α) (R : Rel α) : Prop := ∀ X, CtxOk G c W X → PE X e (tzE G E W Γ m R)
def ZT (G : Gx) (c : Sc) (E : Eff τ) (W : WX) (Γ : Env) (e : Expr) (m : M τ Bool) : Prop := ∀ X, CtxOk G c W X → PT X e (tzT G E W Γ m)
def ZA (G : Gx) (c : Sc) (E : Eff τ) (W : WX) (Γ : Env) (es : List Expr) (m : M τ α) (A : α → List Pr) : Prop := ∀ X, CtxOk G c W X → PA X es (tzA G E W Γ m A)
def ZS (G : Gx) (c : Sc) (E : Eff τ) (W : WX) (L : Ls κ ρ) (Γ : Env) (st : Stmt) (m : M τ (Fl α κ ρ)) (Γn : α → Env) : Prop := ∀ X, CtxOk G c W X → PS X st (tzS G E W L Γ m Γn)
def ZB (G : Gx) (c : Sc) (E : Eff τ) (W : WX) (L : Ls κ ρ) (Γ : Env) (st : List Stmt) (m : M τ (Fl α κ ρ)) (Γn : α → Env) : Prop := ∀ X, CtxOk G c W X → PSs X st (tzS G E W L Γ m Γn)
end

/-! ### readings weakened -/
section
variable {X : Cx} {e : Expr} {st : Stmt} {sts : List Stmt}
theorem pe_wk {t t' : TE} (h : PE X e t) (w : ∀ σ H Q, σ.length = X.N.length → t' σ H Q → t σ H Q) : PE X e t' := ⟨fun pins s σ H Q I q => h.run pins s σ H Q I (w σ H Q I.len q)⟩
theorem pt_wk {t t' : TT} (h : PT X e t) (w : ∀ σ H Q, σ.length = X.N.length → t' σ H Q → t σ H Q) : PT X e t' := ⟨fun pins s σ H Q I q => h.run pins s σ H Q I (w σ H Q I.len q)⟩
theorem pa_wk {es : List Expr} {t t' : TA} (h : PA X es t) (w : ∀ σ H Q, σ.length = X.N.length → t' σ H Q → t σ H Q) : PA X es t' := ⟨fun pos pins s σ H Q I q => h.run pos pins s σ H Q I (w σ H Q I.len q)⟩
theorem ps_wk {t t' : TS} (h : PS X st t) (w : ∀ D σ H, σ.length = X.N.length → t' D σ H → t D σ H) : PS X st t' := ⟨fun pins s σ H D I q => h.run pins s σ H D I (w D σ H I.len q)⟩
theorem pss_wk {t t' : TS} (h : PSs X sts t) (w : ∀ D σ H, σ.length = X.N.length → t' D σ H → t D σ H) : PSs X sts t' := ⟨fun pins s σ H D I q => h.run pins s σ H D I (w D σ H I.len q)⟩
theorem pss_ex {ι : Type} {t : ι → TS} (h : ∀ i, PSs X sts (t i)) : PSs X sts (fun D σ H => ∃ i, t i D σ H) := ⟨fun pins s σ H D I ⟨i, q⟩ => (h i).run pins s σ H D I q⟩
theorem pe_ex {ι : Type} {t : ι → TE} (h : ∀ i, PE X e (t i)) : PE X e (fun σ H Q => ∃ i, t i σ H Q) := ⟨fun pins s σ H Q I ⟨i, q⟩ => (h i).run pins s σ H Q I q⟩
end

/-! ### the state goes on -/
section
variable {τ α β : Type} {E : Eff τ} {B : Bs} {Γ Γ' : Env} {b : τ} {σ : St} {S S' H H' : Hp}
theorem Hold.same (h : Hold E B Γ b σ S H) : Same S H := h.kp.same
theorem same_new {S : Hp} {p : Addr} {o : HO} (h : S p = none) : Same S (upd S p o) := fun a u e => by rw [upd_ne (ne_of_none e h)]; exact e
theorem same_upd2 {S H : Hp} {p : Addr} {o : HO} (h : Same S H) : Same (upd S p o) (upd H p o) := fun a u e => by
  unfold upd at *
  split
  · next q => rw [if_pos q] at e; exact e
  · next q => rw [if_neg q] at e; exact h _ _ e
/-- more is stable, nothing else has changed -/
theorem Hold.grow (h : Hold E B Γ b σ S H) (s1 : Same S S') (s2 : Same S' H') (k : ∀ a o, S a = none → H a = some o → S' a = none ∧ H' a = some o) (f : ∀ a, E.own a → S a = none → S' a = none) : Hold E B Γ b σ S' H' := by
  have kk : ∀ a o, H a = some o → H' a = some o := fun a o e => by
    cases q : S a with
    | none => exact (k a o q e).2
    | some u =>
      have := h.same _ _ q
      rw [e] at this; cases this
      exact s2 _ _ (s1 _ _ q)
  obtain ⟨Fs, hF, hs⟩ := h.sl
  refine ⟨⟨s2, h.kp.up.trans s1, fun a o h1 h2 h3 => ?_⟩, E.mono s1 f (fun a o _ e => kk a o e) h.ef, Fs, ⟨fun i a e => ?_, hF.ds⟩, fun i s e => ?_⟩
  · obtain ⟨q1, q2⟩ := h.kp.kp a o h1 h2 h3
    exact k a o q1 q2
  · obtain ⟨q1, q2, q3, o, q4⟩ := hF.at_ i a e
    exact ⟨(k a o q1 q4).1, q2, q3, o, (k a o q1 q4).2⟩
  · have q := hs i s e
    cases s with
    | no => trivial
    | st p => obtain ⟨x, e1, e2⟩ := q; exact ⟨x, e1, p.mono s1 e2⟩
    | ow p => obtain ⟨x, e1, e2⟩ := q; exact ⟨x, e1, p.mono s1 (fun a o _ e => kk a o e) e2⟩
    | gh p => exact p.mono s1 (fun a o _ e => kk a o e) q
/-- a new stable object -/
theorem Hold.fr {p : Addr} (h : Hold E B Γ b σ S H) (hp : H p = none) : ¬ E.own p := fun z => by
  obtain ⟨_, o, e⟩ := E.th h.ef z
  rw [hp] at e; cases e
theorem Hold.new {p : Addr} {o : HO} (h : Hold E B Γ b σ S H) (hp : H p = none) : Hold E B Γ b σ (upd S p o) (upd H p o) := by
  have hf := h.fr hp
  have hs : S p = none := h.same.free hp
  refine h.grow (same_new hs) (same_upd2 h.same) (fun a u e1 e2 => ?_) fun a ha e => ?_
  · have n : a ≠ p := ne_of_none e2 hp
    rw [upd_ne n, upd_ne n]; exact ⟨e1, e2⟩
  · have n : a ≠ p := fun z => hf (z ▸ ha)
    rw [upd_ne n]; exact e
/-- fewer slots are known -/
theorem Hold.wk (h : Hold E B Γ b σ S H) (w : ∀ (i : Nat) s, Γ'[i]? = some s → s = .no ∨ Γ[i]? = some s) : Hold E B Γ' b σ S H := by
  obtain ⟨Fs, hF, hs⟩ := h.sl
  refine ⟨h.kp, h.ef, Fs, hF, fun i s e => ?_⟩
  rcases w i s e with r | r
  · subst r; trivial
  · exact hs i s r
theorem set_get {α : Type} {l : List α} {i j : Nat} {x y : α} (h : (l.set i x)[j]? = some y) : (j = i ∧ y = x) ∨ (j ≠ i ∧ l[j]? = some y) := by
  by_cases hj : i = j
  · subst hj
    rw [List.getElem?_set] at h
    simp only [if_true] at h
    split at h
    · cases h; exact .inl ⟨rfl, rfl⟩
    · cases h
  · rw [List.getElem?_set_ne hj] at h
    exact .inr ⟨Ne.symm hj, h⟩
/-- a slot is stored -/
theorem Hold.set {i : Nat} {v : V} {p : Pr} (h : Hold E B Γ b σ S H) (hi : i < σ.length) (hp : p.p S v) : Hold E B (Γ.set i (.st p)) b (σ.set i (some v)) S H := by
  obtain ⟨Fs, hF, hs⟩ := h.sl
  refine ⟨h.kp, h.ef, Fs, hF, fun j s e => ?_⟩
  rcases set_get e with ⟨rfl, rfl⟩ | ⟨n, e⟩
  · rw [List.getElem?_set_self hi]; exact ⟨v, rfl, hp⟩
  · rw [List.getElem?_set_ne (Ne.symm n)]; exact hs j s e
/-- a slot is wiped -/
theorem Hold.unset {i : Nat} {v : Option V} (h : Hold E B Γ b σ S H) : Hold E B (Γ.set i .no) b (σ.set i v) S H := by
  obtain ⟨Fs, hF, hs⟩ := h.sl
  refine ⟨h.kp, h.ef, Fs, hF, fun j s e => ?_⟩
  rcases set_get e with ⟨rfl, rfl⟩ | ⟨n, e⟩
  · trivial
  · rw [List.getElem?_set_ne (Ne.symm n)]; exact hs j s e
/-- what the slot i owns has changed (or is new), nothing else -/
theorem Hold.mut {i : Nat} {v : V} {p : PrO} {F' : Addr → Prop} (h : Hold E B Γ b σ S H) (hi : i < σ.length) (kc : ∀ a, ¬ F' a → H' a = H a)
    (hF' : ∀ a, F' a → (∃ o, H' a = some o) ∧ (H a = none ∧ ¬ E.own a ∨ ∀ Fs : Nat → Addr → Prop, Feet E B S H Fs → (∀ (j : Nat) s, Γ[j]? = some s → slOk S H (σ[j]?.join) (Fs j) s) → Fs i a)) (hp : p.p S H' v F') : Hold E B (Γ.set i (.ow p)) b (σ.set i (some v)) S H' := by
  obtain ⟨Fs, hF, hs⟩ := h.sl
  have nS : ∀ a, F' a → S a = none := fun a ha => by
    rcases (hF' a ha).2 with ⟨q, _⟩ | q
    · exact h.same.free q
    · exact (hF.at_ i a (q Fs hF hs)).1
  have nE : ∀ a, F' a → ¬ E.own a := fun a ha => by
    rcases (hF' a ha).2 with ⟨_, q⟩ | q
    · exact q
    · exact (hF.at_ i a (q Fs hF hs)).2.2.1
  have nB : ∀ a o, B.S a = none → B.H a = some o → ¬ E.own a → ¬ F' a := fun a o h1 h2 h3 ha => by
    rcases (hF' a ha).2 with ⟨q, _⟩ | q
    · have := (h.kp.kp a o h1 h2 h3).2
      rw [q] at this; cases this
    · have := (hF.at_ i a (q Fs hF hs)).2.1
      rw [h2] at this; cases this
  have ap : ∀ j a, j ≠ i → Fs j a → ¬ F' a := fun j a hj e ha => by
    rcases (hF' a ha).2 with ⟨q, _⟩ | q
    · obtain ⟨_, _, _, o, e4⟩ := hF.at_ j a e
      rw [q] at e4; cases e4
    · exact hj (hF.ds _ _ a e (q Fs hF hs))
  refine ⟨⟨fun a o e => ?_, h.kp.up, fun a o h1 h2 h3 => ?_⟩, E.mono (Same.refl _) (fun _ _ z => z) (fun a o ha e => ?_) h.ef, fun j a => if j = i then F' a else Fs j a, ⟨fun j a e => ?_, fun j k a e1 e2 => ?_⟩, fun j s e => ?_⟩
  · rw [kc a fun z => by rw [nS a z] at e; cases e]; exact h.same _ _ e
  · rw [kc a (nB a o h1 h2 h3)]; exact h.kp.kp a o h1 h2 h3
  · rw [kc a fun z => nE a z ha]; exact e
  · by_cases hj : j = i
    · simp only [if_pos hj] at e
      refine ⟨nS a e, ?_, nE a e, (hF' a e).1⟩
      rcases (hF' a e).2 with ⟨q, q2⟩ | q
      · cases z : B.H a with
        | none => rfl
        | some o =>
          cases y : B.S a with
          | none => have := (h.kp.kp a o y z q2).2; rw [q] at this; cases this
          | some u => have := h.same _ _ (h.kp.up _ _ y); rw [q] at this; cases this
      · exact (hF.at_ i a (q Fs hF hs)).2.1
    · simp only [if_neg hj] at e
      obtain ⟨e1, e2, e3, o, e4⟩ := hF.at_ j a e
      exact ⟨e1, e2, e3, o, by rw [kc a (ap j a hj e)]; exact e4⟩
  · by_cases hj : j = i
    · by_cases hk : k = i
      · rw [hj, hk]
      · simp only [if_pos hj] at e1; simp only [if_neg hk] at e2
        exact absurd e1 (ap k a hk e2)
    · by_cases hk : k = i
      · simp only [if_neg hj] at e1; simp only [if_pos hk] at e2
        exact absurd e2 (ap j a hj e1)
      · simp only [if_neg hj] at e1; simp only [if_neg hk] at e2
        exact hF.ds _ _ a e1 e2
  · rcases set_get e with ⟨rfl, rfl⟩ | ⟨n, e⟩
    · rw [List.getElem?_set_self hi]
      simp only [if_true]
      exact ⟨v, rfl, hp⟩
    · rw [List.getElem?_set_ne (Ne.symm n)]
      simp only [if_neg n]
      have q := hs j s e
      cases s with
      | no => trivial
      | st p => exact q
      | ow p => obtain ⟨x, e1, e2⟩ := q; exact ⟨x, e1, p.mono (Same.refl _) (fun a o ha e => by rw [kc a (ap j a n ha)]; exact e) e2⟩
      | gh p => exact p.mono (Same.refl _) (fun a o ha e => by rw [kc a (ap j a n ha)]; exact e) q
theorem Hold.nil (h : Hold E B Γ b σ S H) : Hold E B [] b σ S H := h.wk fun i s e => by simp at e
end
end Zk

namespace Zk
open PySem L2

section
variable {τ α β γ δ : Type} {G : Gx} {c : Sc} {E : Eff τ} {W : WX} {Γ : Env} {B : Bs} {σ : St} {S S1 H : Hp} {b : τ}
theorem aft.same {R : Rel α} {Q : VK} (s : Same S S1) : ∀ {o : Out τ α}, aft G E W B Γ σ S R Q o → aft G E W B Γ σ S1 R Q o
  | .ok _ _, h => fun v S' H' s2 => h v S' H' (s.trans s2)
  | .exc _ _, h => fun c d S' H' s2 => h c d S' H' (s.trans s2)
  | .stuck, h => h
theorem aftT.same {Q : Bool → Hp → Prop} (s : Same S S1) : ∀ {o : Out τ Bool}, aftT G E W B Γ σ S Q o → aftT G E W B Γ σ S1 Q o
  | .ok _ _, h => fun S' H' s2 => h S' H' (s.trans s2)
  | .exc _ _, h => fun c d S' H' s2 => h c d S' H' (s.trans s2)
  | .stuck, h => h
theorem aftA.same {A : α → List Pr} {Q : List V → Hp → Prop} (s : Same S S1) : ∀ {o : Out τ α}, aftA G E W B Γ σ S A Q o → aftA G E W B Γ σ S1 A Q o
  | .ok _ _, h => fun v S' H' s2 => h v S' H' (s.trans s2)
  | .exc _ _, h => fun c d S' H' s2 => h c d S' H' (s.trans s2)
  | .stuck, h => h
/-- a part is reckoned, then what follows -/
theorem tz_bnd {m : M τ α} {f : α → M τ β} {R : Rel α} {Q : VK} {Q' : VK} {R' : Rel β} (hh : Hold E B Γ b σ S H) (h : aft G E W B Γ σ S R' Q (bnd m f b))
    (k : ∀ x b1 v S1 H1, Same S S1 → Hold E B Γ b1 σ S1 H1 → R.is x S1 v → aft G E W B Γ σ S1 R' Q (f x b1) → Q' v H1) : tzE G E W Γ m R σ H Q' := by
  refine ⟨B, S, b, hh, ?_⟩
  unfold bnd at h
  cases e : m b with
  | ok a b1 => rw [e] at h; exact fun v S1 H1 s h1 r => k a b1 v S1 H1 s h1 r (h.same s)
  | exc x b1 => rw [e] at h; exact h
  | stuck => rw [e] at h; exact h.elim
theorem tz_bndA {m : M τ α} {f : α → M τ β} {R : Rel α} {A : β → List Pr} {Q : List V → Hp → Prop} {Q' : VK} (hh : Hold E B Γ b σ S H) (h : aftA G E W B Γ σ S A Q (bnd m f b))
    (k : ∀ x b1 v S1 H1, Same S S1 → Hold E B Γ b1 σ S1 H1 → R.is x S1 v → aftA G E W B Γ σ S1 A Q (f x b1) → Q' v H1) : tzE G E W Γ m R σ H Q' := by
  refine ⟨B, S, b, hh, ?_⟩
  unfold bnd at h
  cases e : m b with
  | ok a b1 => rw [e] at h; exact fun v S1 H1 s h1 r => k a b1 v S1 H1 s h1 r (h.same s)
  | exc x b1 => rw [e] at h; exact h
  | stuck => rw [e] at h; exact h.elim
theorem tz_TbndT {m : M τ Bool} {f : Bool → M τ Bool} {Q : Bool → Hp → Prop} {Q' : Bool → Hp → Prop} (hh : Hold E B Γ b σ S H) (h : aftT G E W B Γ σ S Q (bnd m f b))
    (k : ∀ x b1 S1 H1, Same S S1 → Hold E B Γ b1 σ S1 H1 → aftT G E W B Γ σ S1 Q (f x b1) → Q' x H1) : tzT G E W Γ m σ H Q' := by
  refine ⟨B, S, b, hh, ?_⟩
  unfold bnd at h
  cases e : m b with
  | ok a b1 => rw [e] at h; exact fun S1 H1 s h1 => k a b1 S1 H1 s h1 (h.same s)
  | exc x b1 => rw [e] at h; exact h
  | stuck => rw [e] at h; exact h.elim
theorem tz_Abnd {m : M τ α} {f : α → M τ β} {A : α → List Pr} {R' : Rel β} {Q : VK} {Q' : List V → Hp → Prop} (hh : Hold E B Γ b σ S H) (h : aft G E W B Γ σ S R' Q (bnd m f b))
    (k : ∀ x b1 vs S1 H1, Same S S1 → Hold E B Γ b1 σ S1 H1 → All2 (fun (p : Pr) v => p.p S1 v) (A x) vs → aft G E W B Γ σ S1 R' Q (f x b1) → Q' vs H1) : tzA G E W Γ m A σ H Q' := by
  refine ⟨B, S, b, hh, ?_⟩
  unfold bnd at h
  cases e : m b with
  | ok a b1 => rw [e] at h; exact fun v S1 H1 s h1 r => k a b1 v S1 H1 s h1 r (h.same s)
  | exc x b1 => rw [e] at h; exact h
  | stuck => rw [e] at h; exact h.elim

/-! ### names and constants -/
structure Nm (c : Sc) (i : Nat) (x : Str) : Prop where
  n : c.N[i]? = some x
  v : Vis c.sc x
  d : (x == ("__debug__" : Str)) = false
  cd : (x == ("__classdict__" : Str)) = false
theorem z_var {i : Nat} {x : Str} {pos : Pos} {R : Rel α} {a : α} (n : Nm c i x) (h : Γ[i]? = some (.st (R.pr a)) := by rfl) : ZE G c E W Γ (.Name x pos) (ret a) R := fun X C =>
  pe_wk (pe_var (by rw [C.N]; exact n.n) (by rw [C.sc]; exact n.v) n.d n.cd) fun σ H Q _ ⟨B, S, b, hh, q⟩ => by
    obtain ⟨Fs, hF, hs⟩ := hh.sl
    obtain ⟨v, e1, e2⟩ := hs i _ h
    have e : σ[i]? = some (some v) := by
      cases z : σ[i]? with
      | none => rw [z] at e1; cases e1
      | some o => rw [z] at e1; cases o with
        | none => cases e1
        | some u => cases e1; rfl
    exact ⟨v, e, q v S H (Same.refl _) hh e2⟩
theorem z_int {i : Int} {j : Nat} {pos : Pos} : ZE G c E W Γ (.Constant (.int i) j pos) (ret i) rInt := fun X C => pe_wk pe_int fun σ H Q _ ⟨B, S, b, hh, q⟩ => q _ S H (Same.refl _) hh rfl
theorem z_bl {i : Bool} {j : Nat} {pos : Pos} : ZE G c E W Γ (.Constant (.bool i) j pos) (ret i) rBl := fun X C => pe_wk pe_bl fun σ H Q _ ⟨B, S, b, hh, q⟩ => q _ S H (Same.refl _) hh rfl
theorem z_str {i : Str} {j : Nat} {pos : Pos} : ZE G c E W Γ (.Constant (.str i) j pos) (ret i) rStr := fun X C => pe_wk pe_str fun σ H Q _ ⟨B, S, b, hh, q⟩ => q _ S H (Same.refl _) hh rfl
theorem z_non {j : Nat} {pos : Pos} : ZE G c E W Γ (.Constant .none j pos) (ret ()) rNon := fun X C => pe_wk pe_non fun σ H Q _ ⟨B, S, b, hh, q⟩ => q _ S H (Same.refl _) hh rfl
/-- a global constant -/
def Gb (c : Sc) (x : Str) : Prop := c.sc.names.lookup x = some .globalImplicit
theorem CtxOk.gl {X : Cx} {x : Str} (C : CtxOk G c W X) (h : Gb c x) : Gl X x := by
  show X.env.scope.names.lookup x = some .globalImplicit
  rw [C.sc]; exact h
theorem z_gint {x : Str} {i : Int} {pos : Pos} {u : Value} (g : Gb c x) (h : G.mg x = some u) (r : RelV (.int i) u) (hd : (x == ("__debug__" : Str)) = false := by decide) : ZE G c E W Γ (.Name x pos) (ret i) rInt := fun X C =>
  pe_wk (pe_glob (C.gl g) (by rw [C.mg]; exact h) r hd) fun σ H Q _ ⟨B, S, b, hh, q⟩ => q _ S H (Same.refl _) hh rfl
/-! ### what is done with values -/
def zop1 (f : α → M τ β) (m : M τ α) : M τ β := bnd m f
def zop2 (f : α → β → M τ γ) (m : M τ α) (n : M τ β) : M τ γ := bnd m fun x => bnd n fun y => f x y
/-- r, asked of what stands for x (x, y), answers as f does -/
def Op1 (G : Gx) (E : Eff τ) (W : WX) (Γ : Env) (r : V → Hp → VK → Prop) (Ra : Rel α) (f : α → M τ γ) (R : Rel γ) : Prop :=
  ∀ B σ S H b x v Q, Hold E B Γ b σ S H → Ra.is x S v → aft G E W B Γ σ S R Q (f x b) → r v H Q
def Op2 (G : Gx) (E : Eff τ) (W : WX) (Γ : Env) (r : R2) (Ra : Rel α) (Rb : Rel β) (f : α → β → M τ γ) (R : Rel γ) : Prop :=
  ∀ B σ S H b x y v w Q, Hold E B Γ b σ S H → Ra.is x S v → Rb.is y S w → aft G E W B Γ σ S R Q (f x y b) → r v w H Q
def OpA (G : Gx) (E : Eff τ) (W : WX) (Γ : Env) (r : List V → Hp → VK → Prop) (A : α → List Pr) (f : α → M τ γ) (R : Rel γ) : Prop :=
  ∀ B σ S H b x vs Q, Hold E B Γ b σ S H → All2 (fun (p : Pr) v => p.p S v) (A x) vs → aft G E W B Γ σ S R Q (f x b) → r vs H Q
theorem tz_op1 {e : TE → TE} {t : TE} {r : V → Hp → VK → Prop} {Ra : Rel α} {f : α → M τ γ} {R : Rel γ} {ma : M τ α} (h : Op1 G E W Γ r Ra f R) {σ : St} {H : Hp} {Q : VK} (q : tzE G E W Γ (zop1 f ma) R σ H Q) : tzE G E W Γ ma Ra σ H fun v H1 => r v H1 Q := by
  obtain ⟨B, S, b, hh, q⟩ := q
  exact tz_bnd hh q fun x b1 v S1 H1 s1 h1 r1 q1 => h B σ S1 H1 b1 x v Q h1 r1 q1
theorem tz_op2 {r : R2} {Ra : Rel α} {Rb : Rel β} {f : α → β → M τ γ} {R : Rel γ} {ma : M τ α} {mb : M τ β} (h : Op2 G E W Γ r Ra Rb f R) {σ : St} {H : Hp} {Q : VK} (q : tzE G E W Γ (zop2 f ma mb) R σ H Q) :
    tzE G E W Γ ma Ra σ H fun v H1 => tzE G E W Γ mb Rb σ H1 fun w H2 => r v w H2 Q := by
  obtain ⟨B, S, b, hh, q⟩ := q
  refine tz_bnd hh q fun x b1 v S1 H1 s1 h1 r1 q1 => ?_
  exact tz_bnd h1 q1 fun y b2 w S2 H2 s2 h2 r2 q2 => h B σ S2 H2 b2 x y v w Q h2 (Ra.mono s2 r1) r2 q2
theorem z_bin {op : Operator} {r : R2} {Ra : Rel α} {Rb : Rel β} {f : α → β → M τ γ} {R : Rel γ} {ma : M τ α} {mb : M τ β} {ea eb : Expr} {pos : Pos} (ho : ∀ X, CtxOk G c W X → OpR X (binaryOp op) r) (h : Op2 G E W Γ r Ra Rb f R)
    (ha : ZE G c E W Γ ea ma Ra) (hb : ZE G c E W Γ eb mb Rb) : ZE G c E W Γ (.BinOp ea op eb pos) (zop2 f ma mb) R := fun X C => pe_wk (pe_op (ho X C) (ha X C) (hb X C)) fun _ _ _ _ q => tz_op2 h q
theorem z_una {op : UnaryOp} {r : V → Hp → VK → Prop} {Ra : Rel α} {f : α → M τ γ} {R : Rel γ} {ma : M τ α} {ea : Expr} {pos : Pos} (ho : ∀ X, CtxOk G c W X → UnR X (unaryOp op) r) (h : Op1 G E W Γ r Ra f R)
    (ha : ZE G c E W Γ ea ma Ra) : ZE G c E W Γ (.UnaryOp op ea pos) (zop1 f ma) R := fun X C => pe_wk (pe_un (ho X C) (ha X C)) fun _ _ _ _ q => tz_op1 (e := id) (t := fun _ _ _ => True) h q
theorem z_cmp {op : CmpOp} {r : R2} {Ra : Rel α} {Rb : Rel β} {f : α → β → M τ Bool} {ma : M τ α} {mb : M τ β} {ea eb : Expr} {pos : Pos} (ho : ∀ X, CtxOk G c W X → OpR X (compareOp op) r) (h : Op2 G E W Γ r Ra Rb f rBl)
    (ha : ZE G c E W Γ ea ma Ra) (hb : ZE G c E W Γ eb mb Rb) (hm : behindInMarks op eb = false) : ZE G c E W Γ (.Compare ea [op] [eb] pos) (zop2 f ma mb) rBl := fun X C => pe_wk (pe_cmpR (ho X C) (ha X C) (hb X C) hm) fun _ _ _ _ q => tz_op2 h q
/-- a value's test: from what is wanted of a Bool to what is wanted of a value -/
theorem aft_T {B : Bs} {σ : St} {S : Hp} {Q : Bool → Hp → Prop} : ∀ {o : Out τ Bool}, aftT G E W B Γ σ S Q o → aft G E W B Γ σ S rBl (fun v H => ∃ k, v = .bl k ∧ Q k H) o
  | .ok a _, h => fun v S' H' s hh r => ⟨a, r, h S' H' s hh⟩
  | .exc _ _, h => h
  | .stuck, h => h
theorem zt_cmp {op : CmpOp} {r : R2} {Ra : Rel α} {Rb : Rel β} {f : α → β → M τ Bool} {ma : M τ α} {mb : M τ β} {ea eb : Expr} {pos : Pos} (ho : ∀ X, CtxOk G c W X → OpR X (compareOp op) r) (h : Op2 G E W Γ r Ra Rb f rBl)
    (ha : ZE G c E W Γ ea ma Ra) (hb : ZE G c E W Γ eb mb Rb) (hm : behindInMarks op eb = false) : ZT G c E W Γ (.Compare ea [op] [eb] pos) (zop2 f ma mb) := fun X C =>
  pt_wk (pt_cmpR (ho X C) (ha X C) (hb X C) hm) fun _ _ _ _ ⟨B, S, b, hh, q⟩ => tz_op2 h ⟨B, S, b, hh, aft_T q⟩
/-- an expression that gives a truth, as a test -/
theorem zt_val {e : Expr} {m : M τ Bool} (h : ZE G c E W Γ e m rBl) (he : ∀ (env : PySem.Env) whole, isTrue e env whole = (do let v ← whole; standAt e.pos; holding [v] (truthy v)) := by intro _ _; rfl) : ZT G c E W Γ e m := fun X C =>
  pt_wk (pt_val (h X C) (he X.env)) fun _ _ _ _ ⟨B, S, b, hh, q⟩ => ⟨B, S, b, hh, aft_T q⟩
def znot (m : M τ Bool) : M τ Bool := bnd m fun x => ret (!x)
def zand (m n : M τ Bool) : M τ Bool := bnd m fun x => if x = true then n else ret false
def zor (m n : M τ Bool) : M τ Bool := bnd m fun x => if x = true then ret true else n
theorem zt_not {e : Expr} {m : M τ Bool} {pos : Pos} (h : ZT G c E W Γ e m) : ZT G c E W Γ (.UnaryOp .Not e pos) (znot m) := fun X C => pt_wk (pt_not (h X C)) fun _ _ _ _ ⟨B, S, b, hh, q⟩ => by
  refine tz_TbndT hh q fun x b1 S1 H1 s1 h1 q1 => ?_
  exact q1 S1 H1 (Same.refl _) h1
theorem z_not {e : Expr} {m : M τ Bool} {pos : Pos} (h : ZE G c E W Γ e m rBl) : ZE G c E W Γ (.UnaryOp .Not e pos) (znot m) rBl := fun X C => pe_wk (pe_not (h X C)) fun _ _ _ _ ⟨B, S, b, hh, q⟩ => by
  refine tz_bnd hh q fun x b1 v S1 H1 s1 h1 r1 q1 => ?_
  exact ⟨x, r1, q1 _ S1 H1 (Same.refl _) h1 rfl⟩
/-- a test whatever its 'whole' is -/
def ZW (G : Gx) (c : Sc) (E : Eff τ) (W : WX) (Γ : Env) (e : Expr) (m : M τ Bool) : Prop := ∀ X, CtxOk G c W X → PW X e (tzT G E W Γ m)
theorem pw_wk {X : Cx} {e : Expr} {t t' : TT} (h : PW X e t) (w : ∀ σ H Q, t' σ H Q → t σ H Q) : PW X e t' := ⟨fun wh pins s σ H Q I q => h.run wh pins s σ H Q I (w σ H Q q)⟩
theorem zw_t {e : Expr} {m : M τ Bool} (h : ZW G c E W Γ e m) : ZT G c E W Γ e m := fun X C => (h X C).pt
theorem zw_and1 {e : Expr} {m : M τ Bool} {pos : Pos} (h : ZT G c E W Γ e m) : ZW G c E W Γ (.BoolOp .And [e] pos) m := fun X C => pw_and1 (h X C)
theorem zw_or1 {e : Expr} {m : M τ Bool} {pos : Pos} (h : ZT G c E W Γ e m) : ZW G c E W Γ (.BoolOp .Or [e] pos) m := fun X C => pw_or1 (h X C)
theorem zw_and {a d : Expr} {rest : List Expr} {m n : M τ Bool} {pos : Pos} (h : ZT G c E W Γ a m) (h2 : ZW G c E W Γ (.BoolOp .And (d :: rest) pos) n) : ZW G c E W Γ (.BoolOp .And (a :: d :: rest) pos) (zand m n) := fun X C =>
  pw_wk (pw_and (h X C) (h2 X C)) fun _ _ _ ⟨B, S, b, hh, q⟩ => by
    refine tz_TbndT hh q fun x b1 S1 H1 s1 h1 q1 => ?_
    cases x with
    | true => exact ⟨B, S1, b1, h1, q1⟩
    | false => exact q1 S1 H1 (Same.refl _) h1
theorem zw_or {a d : Expr} {rest : List Expr} {m n : M τ Bool} {pos : Pos} (h : ZT G c E W Γ a m) (h2 : ZW G c E W Γ (.BoolOp .Or (d :: rest) pos) n) : ZW G c E W Γ (.BoolOp .Or (a :: d :: rest) pos) (zor m n) := fun X C =>
  pw_wk (pw_or (h X C) (h2 X C)) fun _ _ _ ⟨B, S, b, hh, q⟩ => by
    refine tz_TbndT hh q fun x b1 S1 H1 s1 h1 q1 => ?_
    cases x with
    | true => exact q1 S1 H1 (Same.refl _) h1
    | false => exact ⟨B, S1, b1, h1, q1⟩
theorem z_one {op : BoolOp} {e : Expr} {m : M τ Bool} {pos : Pos} (h : ZE G c E W Γ e m rBl) : ZE G c E W Γ (.BoolOp op [e] pos) m rBl := fun X C => pe_one (h X C)
theorem z_and {a d : Expr} {rest : List Expr} {m n : M τ Bool} {pos : Pos} (h : ZE G c E W Γ a m rBl) (h2 : ZE G c E W Γ (.BoolOp .And (d :: rest) pos) n rBl) : ZE G c E W Γ (.BoolOp .And (a :: d :: rest) pos) (zand m n) rBl := fun X C =>
  pe_wk (pe_and (h X C) (h2 X C)) fun _ _ _ _ ⟨B, S, b, hh, q⟩ => by
    refine tz_bnd hh q fun x b1 v S1 H1 s1 h1 r1 q1 => ⟨x, r1, ?_⟩
    cases x with
    | true => exact ⟨B, S1, b1, h1, q1⟩
    | false => exact q1 _ S1 H1 (Same.refl _) h1 rfl
def zif (m : M τ Bool) (n o : M τ α) : M τ α := bnd m fun x => if x = true then n else o
/-! ### the operators on whole numbers -/
def iadd (x y : Int) : M τ Int := ret (x + y)
def isub (x y : Int) : M τ Int := ret (x - y)
def mulOk (x y : Int) : Prop := CMulW x y ∨ CMul x y
noncomputable instance {x y : Int} : Decidable (mulOk x y) := Classical.propDecidable _
noncomputable def imul (x y : Int) : M τ Int := chk (mulOk x y) (ret (x * y))
def divOk (x y : Int) : Prop := CDivW x y
noncomputable instance {x y : Int} : Decidable (divOk x y) := Classical.propDecidable _
noncomputable def idiv (x y : Int) : M τ Int := chk (divOk x y) (ret (x / y))
def imod (x y : Int) : M τ Int := chk (0 < y) (ret (x % y))
def powOk (x y : Int) : Prop := CPow x y
noncomputable instance {x y : Int} : Decidable (powOk x y) := Classical.propDecidable _
noncomputable def ipow (x y : Int) : M τ Int := chk (powOk x y) (ret (x ^ y.toNat))
def ineg (x : Int) : M τ Int := ret (-x)
def ilt (x y : Int) : M τ Bool := ret (decide (x < y))
def ile (x y : Int) : M τ Bool := ret (decide (x ≤ y))
def igt (x y : Int) : M τ Bool := ret (decide (y < x))
def ige (x y : Int) : M τ Bool := ret (decide (y ≤ x))
def feq [DecidableEq α] (x y : α) : M τ Bool := ret (decide (x = y))
def fne [DecidableEq α] (x y : α) : M τ Bool := ret (!decide (x = y))
theorem aft_ret {R : Rel α} {Q : VK} {a : α} (hh : Hold E B Γ b σ S H) (h : aft G E W B Γ σ S R Q (ret a b)) {v : V} (r : R.is a S v) : Q v H := h v S H (Same.refl _) hh r
theorem aft_chk {R : Rel α} {Q : VK} {p : Prop} [Decidable p] {m : M τ α} (h : aft G E W B Γ σ S R Q (chk p m b)) : p ∧ aft G E W B Γ σ S R Q (m b) := by
  unfold chk at h
  by_cases hp : p
  · rw [if_pos hp] at h; exact ⟨hp, h⟩
  · rw [if_neg hp] at h; exact h.elim
theorem opI2 {g : Int → Int → Int} : Op2 G E W Γ (rI0 fun i j => .int (g i j)) rInt rInt (fun x y => ret (g x y)) rInt := fun B σ S H b x y v w Q hh hx hy q => ⟨x, y, hx, hy, aft_ret hh q rfl⟩
theorem opB2 {g : Int → Int → Bool} : Op2 G E W Γ (rI0 fun i j => .bl (g i j)) rInt rInt (fun x y => ret (g x y)) rBl := fun B σ S H b x y v w Q hh hx hy q => ⟨x, y, hx, hy, aft_ret hh q rfl⟩
theorem opC2 {P : Int → Int → Prop} [∀ x y, Decidable (P x y)] {g : Int → Int → Int} : Op2 G E W Γ (rI P fun i j => .int (g i j)) rInt rInt (fun x y => chk (P x y) (ret (g x y))) rInt := fun B σ S H b x y v w Q hh hx hy q =>
  let ⟨p, q⟩ := aft_chk q
  ⟨x, y, hx, hy, p, aft_ret hh q rfl⟩
theorem op_mulA {X : Cx} : OpR X (binaryOp .Mult) (rI mulOk fun i j => .int (i * j)) := fun pins s σ H x y v u Q I rx ry ⟨i, j, e1, e2, hc, q⟩ => by
  rcases hc with hc | hc
  · exact op_mulW pins s σ H x y v u Q I rx ry ⟨i, j, e1, e2, hc, q⟩
  · exact op_mul pins s σ H x y v u Q I rx ry ⟨i, j, e1, e2, hc, q⟩
section
variable {ea eb : Expr} {pos : Pos} {ma mb : M τ Int}
theorem z_add (ha : ZE G c E W Γ ea ma rInt) (hb : ZE G c E W Γ eb mb rInt) : ZE G c E W Γ (.BinOp ea .Add eb pos) (zop2 iadd ma mb) rInt := z_bin (fun _ _ => op_add) opI2 ha hb
theorem z_sub (ha : ZE G c E W Γ ea ma rInt) (hb : ZE G c E W Γ eb mb rInt) : ZE G c E W Γ (.BinOp ea .Sub eb pos) (zop2 isub ma mb) rInt := z_bin (fun _ _ => op_sub) opI2 ha hb
theorem z_mul (ha : ZE G c E W Γ ea ma rInt) (hb : ZE G c E W Γ eb mb rInt) : ZE G c E W Γ (.BinOp ea .Mult eb pos) (zop2 imul ma mb) rInt := z_bin (fun _ _ => op_mulA) opC2 ha hb
theorem z_div (ha : ZE G c E W Γ ea ma rInt) (hb : ZE G c E W Γ eb mb rInt) : ZE G c E W Γ (.BinOp ea .FloorDiv eb pos) (zop2 idiv ma mb) rInt := z_bin (r := rI divOk fun i j => .int (i / j)) (fun _ _ => op_fdivW) opC2 ha hb
theorem z_mod (ha : ZE G c E W Γ ea ma rInt) (hb : ZE G c E W Γ eb mb rInt) : ZE G c E W Γ (.BinOp ea .Mod eb pos) (zop2 imod ma mb) rInt := z_bin (fun _ _ => op_mod) opC2 ha hb
theorem z_pow (ha : ZE G c E W Γ ea ma rInt) (hb : ZE G c E W Γ eb mb rInt) : ZE G c E W Γ (.BinOp ea .Pow eb pos) (zop2 ipow ma mb) rInt := z_bin (r := rI powOk fun i j => .int (i ^ j.toNat)) (fun _ _ => op_pow) opC2 ha hb
theorem z_neg (ha : ZE G c E W Γ ea ma rInt) : ZE G c E W Γ (.UnaryOp .USub ea pos) (zop1 ineg ma) rInt := z_una (fun _ _ => un_neg) (fun B σ S H b x v Q hh hx q => ⟨x, hx, aft_ret hh q rfl⟩) ha
theorem zt_lt (ha : ZE G c E W Γ ea ma rInt) (hb : ZE G c E W Γ eb mb rInt) : ZT G c E W Γ (.Compare ea [.Lt] [eb] pos) (zop2 ilt ma mb) := zt_cmp (fun _ _ => op_lt) opB2 ha hb (nomark _)
theorem zt_le (ha : ZE G c E W Γ ea ma rInt) (hb : ZE G c E W Γ eb mb rInt) : ZT G c E W Γ (.Compare ea [.LtE] [eb] pos) (zop2 ile ma mb) := zt_cmp (fun _ _ => op_le) opB2 ha hb (nomark _)
theorem zt_gt (ha : ZE G c E W Γ ea ma rInt) (hb : ZE G c E W Γ eb mb rInt) : ZT G c E W Γ (.Compare ea [.Gt] [eb] pos) (zop2 igt ma mb) := zt_cmp (fun _ _ => op_gt) opB2 ha hb (nomark _)
theorem zt_ge (ha : ZE G c E W Γ ea ma rInt) (hb : ZE G c E W Γ eb mb rInt) : ZT G c E W Γ (.Compare ea [.GtE] [eb] pos) (zop2 ige ma mb) := zt_cmp (fun _ _ => op_ge) opB2 ha hb (nomark _)
end
/-- a < b < c and its like -/
def zchain (f : α → β → M τ Bool) (g : β → γ → M τ Bool) (ma : M τ α) (mb : M τ β) (mc : M τ γ) : M τ Bool := bnd ma fun x => bnd mb fun y => bnd (f x y) fun k => if k = true then bnd mc fun z => g y z else ret false
theorem tz_chain {Ra : Rel α} {Rb : Rel β} {Rc : Rel γ} {f : α → β → M τ Bool} {g : β → γ → M τ Bool} {r r' : R2} {ma : M τ α} {mb : M τ β} {mc : M τ γ} (h : Op2 G E W Γ r Ra Rb f rBl) (h' : Op2 G E W Γ r' Rb Rc g rBl)
    {σ : St} {H : Hp} {Q : VK} (q : tzE G E W Γ (zchain f g ma mb mc) rBl σ H Q) : tChain r r' (tzE G E W Γ ma Ra) (tzE G E W Γ mb Rb) (tzE G E W Γ mc Rc) σ H Q := by
  obtain ⟨B, S, b, hh, q⟩ := q
  refine tz_bnd hh q fun x b1 v S1 H1 s1 h1 r1 q1 => ?_
  refine tz_bnd h1 q1 fun y b2 w S2 H2 s2 h2 r2 q2 => ?_
  refine h B σ S2 H2 b2 x y v w _ h2 (Ra.mono s2 r1) r2 ?_
  unfold bnd at q2
  cases e : f x y b2 with
  | stuck => rw [e] at q2; exact q2.elim
  | exc x b3 => rw [e] at q2; exact q2
  | ok k b3 =>
    rw [e] at q2
    intro v3 S3 H3 s3 h3 r3
    refine ⟨k, r3, ?_⟩
    cases k with
    | false => exact q2 _ S3 H3 s3 h3 rfl
    | true =>
      have q3 : aft G E W B Γ σ S2 rBl Q (bnd mc (fun z => g y z) b3) := q2
      exact tz_bnd h3 (q3.same s3) fun z b4 u S4 H4 s4 h4 r4 q4 => h' B σ S4 H4 b4 y z w u Q h4 (Rb.mono s4 (Rb.mono s3 r2)) r4 q4
theorem z_chain {op op' : CmpOp} {Ra : Rel α} {Rb : Rel β} {Rc : Rel γ} {f : α → β → M τ Bool} {g : β → γ → M τ Bool} {r r' : R2} {ma : M τ α} {mb : M τ β} {mc : M τ γ} {ea eb ec : Expr} {pos : Pos} (ho : ∀ X, CtxOk G c W X → OpR X (compareOp op) r) (ho' : ∀ X, CtxOk G c W X → OpR X (compareOp op') r')
    (h : Op2 G E W Γ r Ra Rb f rBl) (h' : Op2 G E W Γ r' Rb Rc g rBl) (ha : ZE G c E W Γ ea ma Ra) (hb : ZE G c E W Γ eb mb Rb) (hc : ZE G c E W Γ ec mc Rc) (hm : lastMarks [op, op'] [eb, ec] = false) :
    ZE G c E W Γ (.Compare ea [op, op'] [eb, ec] pos) (zchain f g ma mb mc) rBl := fun X C => pe_wk (pe_chain (ho X C) (ho' X C) (ha X C) (hb X C) (hc X C) hm) fun _ _ _ _ q => tz_chain h h' q
theorem zt_chain {op op' : CmpOp} {Ra : Rel α} {Rb : Rel β} {Rc : Rel γ} {f : α → β → M τ Bool} {g : β → γ → M τ Bool} {r r' : R2} {ma : M τ α} {mb : M τ β} {mc : M τ γ} {ea eb ec : Expr} {pos : Pos} (ho : ∀ X, CtxOk G c W X → OpR X (compareOp op) r) (ho' : ∀ X, CtxOk G c W X → OpR X (compareOp op') r')
    (h : Op2 G E W Γ r Ra Rb f rBl) (h' : Op2 G E W Γ r' Rb Rc g rBl) (ha : ZE G c E W Γ ea ma Ra) (hb : ZE G c E W Γ eb mb Rb) (hc : ZE G c E W Γ ec mc Rc) (hm : lastMarks [op, op'] [eb, ec] = false) :
    ZT G c E W Γ (.Compare ea [op, op'] [eb, ec] pos) (zchain f g ma mb mc) := fun X C => pt_wk (pt_chain (ho X C) (ho' X C) (ha X C) (hb X C) (hc X C) hm) fun _ _ _ _ ⟨B, S, b, hh, q⟩ => tz_chain h h' ⟨B, S, b, hh, aft_T q⟩
/-- the order of two whole numbers, for chains -/
structure CmpI (G : Gx) (E : Eff τ) (W : WX) (Γ : Env) (op : CmpOp) (f : Int → Int → M τ Bool) (r : R2) : Prop where
  o : ∀ X, OpR X (compareOp op) r
  h : Op2 G E W Γ r rInt rInt f rBl
theorem ci_le : CmpI G E W Γ .LtE ile (rI0 fun i j => .bl (decide (i ≤ j))) := ⟨fun _ => op_le, opB2⟩
theorem z_chI {op op' : CmpOp} {f g : Int → Int → M τ Bool} {r r' : R2} {ma mb mc : M τ Int} {ea eb ec : Expr} {pos : Pos} (h : CmpI G E W Γ op f r) (h' : CmpI G E W Γ op' g r') (ha : ZE G c E W Γ ea ma rInt) (hb : ZE G c E W Γ eb mb rInt) (hc : ZE G c E W Γ ec mc rInt) (hm : lastMarks [op, op'] [eb, ec] = false := by with_unfolding_all rfl) :
    ZE G c E W Γ (.Compare ea [op, op'] [eb, ec] pos) (zchain f g ma mb mc) rBl := z_chain (fun X _ => h.o X) (fun X _ => h'.o X) h.h h'.h ha hb hc hm
theorem zt_chI {op op' : CmpOp} {f g : Int → Int → M τ Bool} {r r' : R2} {ma mb mc : M τ Int} {ea eb ec : Expr} {pos : Pos} (h : CmpI G E W Γ op f r) (h' : CmpI G E W Γ op' g r') (ha : ZE G c E W Γ ea ma rInt) (hb : ZE G c E W Γ eb mb rInt) (hc : ZE G c E W Γ ec mc rInt) (hm : lastMarks [op, op'] [eb, ec] = false := by with_unfolding_all rfl) :
    ZT G c E W Γ (.Compare ea [op, op'] [eb, ec] pos) (zchain f g ma mb mc) := zt_chain (fun X _ => h.o X) (fun X _ => h'.o X) h.h h'.h ha hb hc hm

/-! ### argument lists, displays -/
def zpair (m : M τ α) (n : M τ β) : M τ (α × β) := bnd m fun x => bnd n fun y => ret (x, y)
abbrev Star (e : Expr) (es : List Expr) : Prop := ∀ env : PySem.Env, starEach (e :: es) env = (false, eval e env) :: starEach es env
theorem za_one {e : Expr} {m : M τ α} {R : Rel α} (h : ZE G c E W Γ e m R) (hs : Star e [] := by intro _; rfl) : ZA G c E W Γ [e] m (fun x => [R.pr x]) := fun X C =>
  pa_wk (pa_cons (h X C) pa_nil (hs X.env)) fun σ H Q _ ⟨B, S, b, hh, q⟩ => by
    refine ⟨B, S, b, hh, ?_⟩
    cases e : m b with
    | ok a b1 => rw [e] at q; exact fun v S1 H1 s h1 r => q [v] S1 H1 s h1 ⟨r, trivial⟩
    | exc x b1 => rw [e] at q; exact q
    | stuck => rw [e] at q; exact q.elim
theorem za_cons {e : Expr} {es : List Expr} {m : M τ α} {n : M τ β} {R : Rel α} {A : β → List Pr} (h : ZE G c E W Γ e m R) (h2 : ZA G c E W Γ es n A) (hs : Star e es := by intro _; rfl) : ZA G c E W Γ (e :: es) (zpair m n) (fun x => R.pr x.1 :: A x.2) := fun X C =>
  pa_wk (pa_cons (h X C) (h2 X C) (hs X.env)) fun σ H Q _ ⟨B, S, b, hh, q⟩ => by
    refine tz_bndA hh q fun x b1 v S1 H1 s1 h1 r1 q1 => ?_
    refine ⟨B, S1, b1, h1, ?_⟩
    unfold bnd at q1
    cases e : n b1 with
    | ok a b2 => rw [e] at q1; exact fun vs S2 H2 s h2 r => q1 (v :: vs) S2 H2 s h2 ⟨R.mono s r1, r⟩
    | exc x b1 => rw [e] at q1; exact q1
    | stuck => rw [e] at q1; exact q1.elim
/-- a list of things of one kind, one by one -/
def zcons (m : M τ α) (n : M τ (List α)) : M τ (List α) := bnd m fun x => bnd n fun y => ret (x :: y)
abbrev Rel.all (R : Rel α) (xs : List α) : List Pr := xs.map fun x => R.pr x
theorem zl_nil {R : Rel α} : ZA G c E W Γ [] (ret []) R.all := fun X C => pa_wk pa_nil fun _ H _ _ ⟨B, S, b, hh, q⟩ => q [] S H (Same.refl _) hh trivial
theorem zl_cons {e : Expr} {es : List Expr} {m : M τ α} {n : M τ (List α)} {R : Rel α} (h : ZE G c E W Γ e m R) (h2 : ZA G c E W Γ es n R.all) (hs : Star e es := by intro _; rfl) : ZA G c E W Γ (e :: es) (zcons m n) R.all := fun X C =>
  pa_wk (pa_cons (h X C) (h2 X C) (hs X.env)) fun σ H Q _ ⟨B, S, b, hh, q⟩ => by
    refine tz_bndA hh q fun x b1 v S1 H1 s1 h1 r1 q1 => ?_
    refine ⟨B, S1, b1, h1, ?_⟩
    unfold bnd at q1
    cases e : n b1 with
    | ok a b2 => rw [e] at q1; exact fun vs S2 H2 s h2 r => q1 (v :: vs) S2 H2 s h2 ⟨R.mono s r1, r⟩
    | exc x b1 => rw [e] at q1; exact q1
    | stuck => rw [e] at q1; exact q1.elim
theorem all_of {R : Rel α} {S : Hp} : ∀ {xs : List α} {vs : List V}, All2 (fun (p : Pr) v => p.p S v) (R.all xs) vs → All2 (fun x v => R.is x S v) xs vs
  | [], [], _ => trivial
  | _ :: _, _ :: _, ⟨a, b⟩ => ⟨a, all_of b⟩
  | [], _ :: _, h => h.elim
  | _ :: _, [], h => h.elim
/-- what a new stable object is -/
theorem aft_new {R : Rel α} {Q : VK} {a : α} {p : Addr} {o : HO} (hh : Hold E B Γ b σ S H) (h : aft G E W B Γ σ S R Q (ret a b)) (hp : H p = none) (r : R.is a (upd S p o) (.ref p)) : Q (.ref p) (upd H p o) :=
  h _ (upd S p o) _ (same_new (hh.same.free hp)) (hh.new hp) r
def zlist (m : M τ (List α)) : M τ (List α) := bnd m fun xs => chk (xs.length ≤ sizeLine) (ret xs)
theorem All2.rel {R : Rel α} {S S' : Hp} (s : Same S S') {xs : List α} {vs : List V} (h : All2 (fun x v => R.is x S v) xs vs) : All2 (fun x v => R.is x S' v) xs vs := h.imp fun _ _ h => R.mono s h
theorem rLst_new {R : Rel α} {p : Addr} {xs : List α} {vs : List V} (s : S p = none) (h : All2 (fun x v => R.is x S v) xs vs) : (rLst R).is xs (upd S p (.lst vs)) (.ref p) := ⟨p, vs, rfl, upd_same, All2.rel (same_new s) h⟩
theorem rVT_new {R : Rel α} {p : Addr} {xs : List α} {vs : List V} (s : S p = none) (h : All2 (fun x v => R.is x S v) xs vs) : (rVT R).is xs (upd S p (.tup vs)) (.ref p) := ⟨p, vs, rfl, upd_same, All2.rel (same_new s) h⟩
theorem z_list {es : List Expr} {m : M τ (List α)} {R : Rel α} {pos : Pos} (h : ZA G c E W Γ es m R.all) : ZE G c E W Γ (.List es pos) (zlist m) (rLst R) := fun X C => pe_wk (pe_lst (h X C)) fun σ H Q _ ⟨B, S, b, hh, q⟩ => by
  refine tz_Abnd hh q fun x b1 vs S1 H1 s1 h1 r1 q1 => ?_
  obtain ⟨hl, q2⟩ := aft_chk q1
  have r2 := all_of r1
  exact ⟨by rw [← r2.length]; exact hl, fun p hp => aft_new h1 q2 hp (rLst_new (h1.same.free hp) r2)⟩
theorem z_vtup {es : List Expr} {m : M τ (List α)} {R : Rel α} {k} {pos : Pos} (h : ZA G c E W Γ es m R.all) : ZE G c E W Γ (.Tuple es k pos) (zlist m) (rVT R) := fun X C => pe_wk (pe_tup (h X C)) fun σ H Q _ ⟨B, S, b, hh, q⟩ => by
  refine tz_Abnd hh q fun x b1 vs S1 H1 s1 h1 r1 q1 => ?_
  obtain ⟨hl, q2⟩ := aft_chk q1
  have r2 := all_of r1
  exact ⟨by rw [← r2.length]; exact hl, fun p hp => aft_new h1 q2 hp (rVT_new (h1.same.free hp) r2)⟩
theorem line4 {n : Nat} (h : n ≤ 4) : n ≤ sizeLine := Nat.le_trans h (by decide)
theorem z_tup2 {es : List Expr} {m : M τ (α × β)} {R : Rel α} {R2 : Rel β} {k} {pos : Pos} (h : ZA G c E W Γ es m (fun x => [R.pr x.1, R2.pr x.2])) : ZE G c E W Γ (.Tuple es k pos) m (rT2 R R2) := fun X C => pe_wk (pe_tup (h X C)) fun σ H Q _ ⟨B, S, b, hh, q⟩ => by
  refine ⟨B, S, b, hh, ?_⟩
  cases e : m b with
  | exc x b1 => rw [e] at q; exact q
  | stuck => rw [e] at q; exact q.elim
  | ok a b1 =>
    rw [e] at q
    intro vs S1 H1 s1 h1 r1
    match vs, r1 with
    | [u, w], ⟨r1, r2, _⟩ =>
      refine ⟨line4 (by simp), fun p hp => ?_⟩
      have s2 := same_new (o := HO.tup [u, w]) (h1.same.free hp)
      exact q _ (upd S1 p (.tup [u, w])) _ (s1.trans s2) (h1.new hp) ⟨p, u, w, rfl, upd_same, R.mono s2 r1, R2.mono s2 r2⟩
theorem z_tup3 {es : List Expr} {m : M τ (α × β × γ)} {R : Rel α} {R2 : Rel β} {R3 : Rel γ} {k} {pos : Pos} (h : ZA G c E W Γ es m (fun x => [R.pr x.1, R2.pr x.2.1, R3.pr x.2.2])) : ZE G c E W Γ (.Tuple es k pos) m (rT3 R R2 R3) := fun X C => pe_wk (pe_tup (h X C)) fun σ H Q _ ⟨B, S, b, hh, q⟩ => by
  refine ⟨B, S, b, hh, ?_⟩
  cases e : m b with
  | exc x b1 => rw [e] at q; exact q
  | stuck => rw [e] at q; exact q.elim
  | ok a b1 =>
    rw [e] at q
    intro vs S1 H1 s1 h1 r1
    match vs, r1 with
    | [u, w, z], ⟨r1, r2, r3, _⟩ =>
      refine ⟨line4 (by simp), fun p hp => ?_⟩
      have s2 := same_new (o := HO.tup [u, w, z]) (h1.same.free hp)
      exact q _ (upd S1 p (.tup [u, w, z])) _ (s1.trans s2) (h1.new hp) ⟨p, u, w, z, rfl, upd_same, R.mono s2 r1, R2.mono s2 r2, R3.mono s2 r3⟩
theorem z_tup4 {es : List Expr} {m : M τ (α × β × γ × δ)} {R : Rel α} {R2 : Rel β} {R3 : Rel γ} {R4 : Rel δ} {k} {pos : Pos} (h : ZA G c E W Γ es m (fun x => [R.pr x.1, R2.pr x.2.1, R3.pr x.2.2.1, R4.pr x.2.2.2])) : ZE G c E W Γ (.Tuple es k pos) m (rT4 R R2 R3 R4) := fun X C => pe_wk (pe_tup (h X C)) fun σ H Q _ ⟨B, S, b, hh, q⟩ => by
  refine ⟨B, S, b, hh, ?_⟩
  cases e : m b with
  | exc x b1 => rw [e] at q; exact q
  | stuck => rw [e] at q; exact q.elim
  | ok a b1 =>
    rw [e] at q
    intro vs S1 H1 s1 h1 r1
    match vs, r1 with
    | [u, w, z, y], ⟨r1, r2, r3, r4, _⟩ =>
      refine ⟨line4 (by simp), fun p hp => ?_⟩
      have s2 := same_new (o := HO.tup [u, w, z, y]) (h1.same.free hp)
      exact q _ (upd S1 p (.tup [u, w, z, y])) _ (s1.trans s2) (h1.new hp) ⟨p, u, w, z, y, rfl, upd_same, R.mono s2 r1, R2.mono s2 r2, R3.mono s2 r3, R4.mono s2 r4⟩

/-! ### calls of what is built in -/
def zapp (f : α → M τ γ) (m : M τ α) : M τ γ := bnd m f
structure Blt (G : Gx) (c : Sc) (x : Str) (u : Value) : Prop where
  g : Gb c x
  m : G.mg x = none
  v : bootBuiltins x = some u
  n : x ≠ "__name__"
  d : (x == ("__debug__" : Str)) = false
theorem z_callB {x : Str} {id : String} {e : Expr} {es : List Expr} {r : List V → Hp → VK → Prop} {A : α → List Pr} {f : α → M τ γ} {R : Rel γ} {m : M τ α} {p pos : Pos} (bl : Blt G c x (.builtin id)) (hc : ∀ X, CtxOk G c W X → CallR X (.builtin id) r) (h : OpA G E W Γ r A f R)
    (ha : ZA G c E W Γ (e :: es) m A) (he : Star e es := by intro _; rfl) (hpl : ∀ env : PySem.Env, (backTo pos (starEach es env)).any (·.1) = false := by intro _; rfl) : ZE G c E W Γ (.Call (.Name x p) (e :: es) [] pos) (zapp f m) R := fun X C =>
  pe_wk (pe_callB (hc X C) (C.gl bl.g) (by rw [C.mg]; exact bl.m) bl.v (ha X C) bl.n bl.d (he X.env) (hpl X.env)) fun σ H Q _ ⟨B, S, b, hh, q⟩ =>
    tz_Abnd hh q fun x b1 vs S1 H1 s1 h1 r1 q1 => h B σ S1 H1 b1 x vs Q h1 r1 q1
theorem z_callTy {x : Str} {T : String} {e : Expr} {es : List Expr} {r : List V → Hp → VK → Prop} {A : α → List Pr} {f : α → M τ γ} {R : Rel γ} {m : M τ α} {p pos : Pos} (bl : Blt G c x (.type T)) (hc : ∀ X, CtxOk G c W X → CallR X (.type T) r) (h : OpA G E W Γ r A f R)
    (ha : ZA G c E W Γ (e :: es) m A) (he : Star e es := by intro _; rfl) (hpl : ∀ env : PySem.Env, (backTo pos (starEach es env)).any (·.1) = false := by intro _; rfl) : ZE G c E W Γ (.Call (.Name x p) (e :: es) [] pos) (zapp f m) R := fun X C =>
  pe_wk (pe_callTy (hc X C) (C.gl bl.g) (by rw [C.mg]; exact bl.m) bl.v (ha X C) bl.n bl.d (he X.env) (hpl X.env)) fun σ H Q _ ⟨B, S, b, hh, q⟩ =>
    tz_Abnd hh q fun x b1 vs S1 H1 s1 h1 r1 q1 => h B σ S1 H1 b1 x vs Q h1 r1 q1
end
end Zk

namespace Zk
open PySem L2

section
variable {τ α β γ δ : Type} {G : Gx} {c : Sc} {E : Eff τ} {W : WX} {Γ : Env} {B : Bs} {σ : St} {S S1 H : Hp} {b : τ}
/-! ### data at any depth -/
structure DatR (R : Rel α) where
  d : α → PyData
  n : Nat
  dep : ∀ x, (d x).depth ≤ n
  dp : ∀ {K : PySem.W.Frag} {x : α} {S H : Hp} {v : V}, Same S H → R.is x S v → Dp K H v (d x)
  eq : ∀ x y, PyData.eqv (d x) (d y) = true ↔ x = y
def datI : DatR rInt := ⟨.int, 0, fun _ => by simp [PyData.depth], fun _ h => by cases h; exact .int _, fun x y => by simp [PyData.eqv]⟩
def datS : DatR rStr := ⟨.str, 0, fun _ => by simp [PyData.depth], fun _ h => by cases h; exact .str _, fun x y => by simp [PyData.eqv]⟩
def dat2 {R : Rel α} {R2 : Rel β} (D : DatR R) (D2 : DatR R2) : DatR (rT2 R R2) := ⟨fun x => .tuple [D.d x.1, D2.d x.2], max D.n D2.n + 1, fun x => by have := D.dep x.1; have := D2.dep x.2; simp only [PyData.depth, PyData.depthAll]; omega,
  fun s ⟨a, u, w, e, h, q, q2⟩ => by cases e; exact .tup (.of (s _ _ h)) (.cons (D.dp s q) (.cons (D2.dp s q2) .nil)), fun x y => by simp [PyData.eqv, PyData.eqvAll, D.eq, D2.eq, Prod.ext_iff]⟩
def deqOk {R : Rel α} (D : DatR R) (x y : α) : Prop := (D.d x).canLay0 = true ∧ (D.d y).canLay0 = true ∧ D.n ≤ 64
instance {R : Rel α} {D : DatR R} {x y : α} : Decidable (deqOk D x y) := inferInstanceAs (Decidable (_ ∧ _ ∧ _))
section
variable {ea eb : Expr} {pos : Pos}
/-! scalars: no condition -/
structure ScalR (R : Rel α) (f : α → V) : Prop where
  is : ∀ {x : α} {S : Hp} {v : V}, R.is x S v → v = f x
  sc : ∀ x y, scal (f x) (f y) = true
  inj : ∀ x y, f x = f y ↔ x = y
theorem scI : ScalR rInt V.int := ⟨fun h => h, fun _ _ => rfl, fun x y => by simp⟩
theorem scS : ScalR rStr V.str := ⟨fun h => h, fun _ _ => rfl, fun x y => by simp⟩
theorem op_seq {R : Rel α} {f : α → V} (D : ScalR R f) [DecidableEq α] : Op2 G E W Γ rEq R R feq rBl := fun B σ S H b x y v w Q hh hx hy q => by
  refine ⟨by rw [D.is hx, D.is hy]; exact D.sc x y, ?_⟩
  have e : decide (v = w) = decide (x = y) := by rw [D.is hx, D.is hy]; exact decide_eq_decide.mpr (D.inj x y)
  rw [e]; exact aft_ret hh q rfl
theorem op_sne {R : Rel α} {f : α → V} (D : ScalR R f) [DecidableEq α] : Op2 G E W Γ rNe R R fne rBl := fun B σ S H b x y v w Q hh hx hy q => by
  refine ⟨by rw [D.is hx, D.is hy]; exact D.sc x y, ?_⟩
  have e : decide (v = w) = decide (x = y) := by rw [D.is hx, D.is hy]; exact decide_eq_decide.mpr (D.inj x y)
  rw [e]; exact aft_ret hh q rfl
theorem zt_eq {R : Rel α} {f : α → V} (D : ScalR R f) [DecidableEq α] {ma mb : M τ α} (ha : ZE G c E W Γ ea ma R) (hb : ZE G c E W Γ eb mb R) : ZT G c E W Γ (.Compare ea [.Eq] [eb] pos) (zop2 feq ma mb) := zt_cmp (fun X C => op_eq) (op_seq D) ha hb (nomark _)
theorem zt_ne {R : Rel α} {f : α → V} (D : ScalR R f) [DecidableEq α] {ma mb : M τ α} (ha : ZE G c E W Γ ea ma R) (hb : ZE G c E W Γ eb mb R) : ZT G c E W Γ (.Compare ea [.NotEq] [eb] pos) (zop2 fne ma mb) := zt_cmp (fun X C => op_ne) (op_sne D) ha hb (nomark _)
end

/-! ### items -/
def ixat (xs : List α) (i : Int) : M τ α := match atI xs i with | some v => ret v | none => stk
theorem All2.atI {r : α → V → Prop} {xs : List α} {vs : List V} {i : Int} {x : α} (h : All2 r xs vs) (e : L2.atI xs i = some x) : ∃ v, L2.atI vs i = some v ∧ r x v := by
  unfold L2.atI at e ⊢
  rw [← h.length]
  cases q : ixN xs.length i with
  | none => rw [q] at e; cases e
  | some j => rw [q] at e; exact h.get e
theorem op_ixL {R : Rel α} : Op2 G E W Γ (rIxL G.K) (rLst R) rInt ixat R := fun B σ S H b xs i v w Q hh ⟨a, vs, e1, e2, e3⟩ e4 q => by
  unfold ixat at q
  cases z : atI xs i with
  | none => rw [z] at q; exact q.elim
  | some x =>
    rw [z] at q
    obtain ⟨u, h1, h2⟩ := e3.atI z
    exact ⟨a, vs, i, u, e1, e4, .of (hh.same _ _ e2), h1, aft_ret hh q h2⟩
theorem op_ixV {R : Rel α} : Op2 G E W Γ (rIxT G.K) (rVT R) rInt ixat R := fun B σ S H b xs i v w Q hh ⟨a, vs, e1, e2, e3⟩ e4 q => by
  unfold ixat at q
  cases z : atI xs i with
  | none => rw [z] at q; exact q.elim
  | some x =>
    rw [z] at q
    obtain ⟨u, h1, h2⟩ := e3.atI z
    exact ⟨a, vs, i, u, e1, e4, .of (hh.same _ _ e2), h1, aft_ret hh q h2⟩
abbrev PIx (e : Expr) : Prop := ∀ o i, subscripted e false o i = operate [o, i] (getItem o i)
theorem z_ixL {ea eb : Expr} {pos : Pos} {R : Rel α} {ma : M τ (List α)} {mb : M τ Int} (ha : ZE G c E W Γ ea ma (rLst R)) (hb : ZE G c E W Γ eb mb rInt) (hs : PIx eb := by intro _ _; rfl) : ZE G c E W Γ (.Subscript ea eb pos) (zop2 ixat ma mb) R := fun X C =>
  pe_wk (pe_ix ix_list (ha X C) (hb X C) hs) fun _ _ _ _ q => by rw [C.K]; exact tz_op2 op_ixL q
theorem z_ixV {ea eb : Expr} {pos : Pos} {R : Rel α} {ma : M τ (List α)} {mb : M τ Int} (ha : ZE G c E W Γ ea ma (rVT R)) (hb : ZE G c E W Γ eb mb rInt) (hs : PIx eb := by intro _ _; rfl) : ZE G c E W Γ (.Subscript ea eb pos) (zop2 ixat ma mb) R := fun X C =>
  pe_wk (pe_ix ix_tup (ha X C) (hb X C) hs) fun _ _ _ _ q => by rw [C.K]; exact tz_op2 op_ixV q
/-- a written place of a tuple of things of several kinds -/
structure TupAt (R : Rel α) (k : Int) (f : α → β) (R2 : Rel β) : Prop where
  h : ∀ {x : α} {S : Hp} {v : V}, R.is x S v → ∃ a vs u, v = .ref a ∧ S a = some (.tup vs) ∧ atI vs k = some u ∧ R2.is (f x) S u
theorem t4_0 {R : Rel α} {R2 : Rel β} {R3 : Rel γ} {R4 : Rel δ} : TupAt (rT4 R R2 R3 R4) 0 Prod.fst R := ⟨fun ⟨a, u, w, z, y, e, h, q, q2, q3, q4⟩ => ⟨a, _, u, e, h, rfl, q⟩⟩
theorem t4_1 {R : Rel α} {R2 : Rel β} {R3 : Rel γ} {R4 : Rel δ} : TupAt (rT4 R R2 R3 R4) 1 (fun x => x.2.1) R2 := ⟨fun ⟨a, u, w, z, y, e, h, q, q2, q3, q4⟩ => ⟨a, _, w, e, h, rfl, q2⟩⟩
theorem t4_2 {R : Rel α} {R2 : Rel β} {R3 : Rel γ} {R4 : Rel δ} : TupAt (rT4 R R2 R3 R4) 2 (fun x => x.2.2.1) R3 := ⟨fun ⟨a, u, w, z, y, e, h, q, q2, q3, q4⟩ => ⟨a, _, z, e, h, rfl, q3⟩⟩
theorem t4_3 {R : Rel α} {R2 : Rel β} {R3 : Rel γ} {R4 : Rel δ} : TupAt (rT4 R R2 R3 R4) 3 (fun x => x.2.2.2) R4 := ⟨fun ⟨a, u, w, z, y, e, h, q, q2, q3, q4⟩ => ⟨a, _, y, e, h, rfl, q4⟩⟩
def zget (f : α → β) (m : M τ α) : M τ β := bnd m fun x => ret (f x)
theorem z_at {ea : Expr} {j : Nat} {pos p2 : Pos} {R : Rel α} {R2 : Rel β} {k : Int} {f : α → β} {ma : M τ α} (t : TupAt R k f R2) (ha : ZE G c E W Γ ea ma R) (hs : PIx (.Constant (.int k) j p2) := by intro _ _; rfl) : ZE G c E W Γ (.Subscript ea (.Constant (.int k) j p2) pos) (zget f ma) R2 := fun X C =>
  pe_wk (pe_ix ix_tup (ha X C) pe_int hs) fun σ H Q _ ⟨B, S, b, hh, q⟩ => by
    refine tz_bnd hh q fun x b1 v S1 H1 s1 h1 r1 q1 => ?_
    obtain ⟨a, vs, u, e1, e2, e3, e4⟩ := t.h r1
    exact ⟨a, vs, k, u, e1, rfl, .of (h1.same _ _ e2), e3, aft_ret h1 q1 e4⟩

/-! ### built-in functions -/
theorem opA1 {r : List V → Hp → VK → Prop} {R : Rel α} {f : α → M τ γ} {R' : Rel γ} (h : Op1 G E W Γ (fun v H Q => r [v] H Q) R f R') : OpA G E W Γ r (fun x => [R.pr x]) f R' := fun B σ S H b x vs Q hh hv q => by
  match vs, hv with
  | [v], ⟨h1, _⟩ => exact h B σ S H b x v Q hh h1 q
theorem opA2 {r : List V → Hp → VK → Prop} {R : Rel α} {R2 : Rel β} {f : α → β → M τ γ} {R' : Rel γ} (h : Op2 G E W Γ (fun v w H Q => r [v, w] H Q) R R2 f R') : OpA G E W Γ r (fun x : α × β => [R.pr x.1, R2.pr x.2]) (fun x => f x.1 x.2) R' := fun B σ S H b x vs Q hh hv q => by
  match vs, hv with
  | [v, w], ⟨h1, h2, _⟩ => exact h B σ S H b x.1 x.2 v w Q hh h1 h2 q
section
variable {e e2 : Expr} {p pos : Pos} {x : Str}
abbrev Plain1 (es : List Expr) : Prop := ∀ (pos : Pos) (env : PySem.Env), (backTo pos (starEach es env)).any (·.1) = false
theorem z_b1 {id : String} {r : List V → Hp → VK → Prop} {R : Rel α} {f : α → M τ γ} {R' : Rel γ} {m : M τ α} (bl : Blt G c x (.builtin id)) (hc : ∀ X, CtxOk G c W X → CallR X (.builtin id) r) (h : Op1 G E W Γ (fun v H Q => r [v] H Q) R f R')
    (ha : ZE G c E W Γ e m R) (hs : Star e [] := by intro _; rfl) : ZE G c E W Γ (.Call (.Name x p) [e] [] pos) (zapp f m) R' := z_callB bl hc (opA1 h) (za_one ha hs) hs (fun _ => rfl)
theorem z_ty1 {T : String} {r : List V → Hp → VK → Prop} {R : Rel α} {f : α → M τ γ} {R' : Rel γ} {m : M τ α} (bl : Blt G c x (.type T)) (hc : ∀ X, CtxOk G c W X → CallR X (.type T) r) (h : Op1 G E W Γ (fun v H Q => r [v] H Q) R f R')
    (ha : ZE G c E W Γ e m R) (hs : Star e [] := by intro _; rfl) : ZE G c E W Γ (.Call (.Name x p) [e] [] pos) (zapp f m) R' := z_callTy bl hc (opA1 h) (za_one ha hs) hs (fun _ => rfl)
theorem z_b2 {id : String} {r : List V → Hp → VK → Prop} {R : Rel α} {R2 : Rel β} {f : α → β → M τ γ} {R' : Rel γ} {m : M τ α} {n : M τ β} (bl : Blt G c x (.builtin id)) (hc : ∀ X, CtxOk G c W X → CallR X (.builtin id) r) (h : Op2 G E W Γ (fun v w H Q => r [v, w] H Q) R R2 f R')
    (ha : ZE G c E W Γ e m R) (hb : ZE G c E W Γ e2 n R2) (hs : Star e [e2] := by intro _; rfl) (hs2 : Star e2 [] := by intro _; rfl) (hpl : Plain1 [e2] := by intro _ _; rfl) : ZE G c E W Γ (.Call (.Name x p) [e, e2] [] pos) (zapp (fun x : α × β => f x.1 x.2) (zpair m n)) R' := z_callB bl hc (opA2 h) (za_cons ha (za_one hb hs2) hs) hs (hpl pos)
def flen (xs : List α) : M τ Int := ret (xs.length : Int)
theorem z_lenL {R : Rel α} {m : M τ (List α)} (bl : Blt G c x (.builtin "len")) (ha : ZE G c E W Γ e m (rLst R)) (hs : Star e [] := by intro _; rfl) : ZE G c E W Γ (.Call (.Name x p) [e] [] pos) (zapp flen m) rInt :=
  z_b1 bl (R := rLst R) (r := fun xs H Q => ∃ p ys, xs = [.ref p] ∧ (SqL G.K H p ys ∨ SqT G.K H p ys) ∧ Q (.int ys.length) H) (fun X C => by rw [← C.K]; exact call_len_seq) (fun B σ S H b x v Q hh ⟨a, vs, e1, e2, e3⟩ q => ⟨a, vs, by rw [e1], .inl (.of (hh.same _ _ e2)), by rw [← e3.length]; exact aft_ret hh q rfl⟩) ha hs
theorem z_lenV {R : Rel α} {m : M τ (List α)} (bl : Blt G c x (.builtin "len")) (ha : ZE G c E W Γ e m (rVT R)) (hs : Star e [] := by intro _; rfl) : ZE G c E W Γ (.Call (.Name x p) [e] [] pos) (zapp flen m) rInt :=
  z_b1 bl (R := rVT R) (r := fun xs H Q => ∃ p ys, xs = [.ref p] ∧ (SqL G.K H p ys ∨ SqT G.K H p ys) ∧ Q (.int ys.length) H) (fun X C => by rw [← C.K]; exact call_len_seq) (fun B σ S H b x v Q hh ⟨a, vs, e1, e2, e3⟩ q => ⟨a, vs, by rw [e1], .inr (.of (hh.same _ _ e2)), by rw [← e3.length]; exact aft_ret hh q rfl⟩) ha hs
def fsum (xs : List Int) : M τ Int := ret xs.sum
def fabs (x : Int) : M τ Int := ret (if x < 0 then -x else x)
theorem z_abs {m : M τ Int} (bl : Blt G c x (.builtin "abs")) (ha : ZE G c E W Γ e m rInt) (hs : Star e [] := by intro _; rfl) : ZE G c E W Γ (.Call (.Name x p) [e] [] pos) (zapp fabs m) rInt :=
  z_b1 bl (fun X C => call_abs) (fun B σ S H b x v Q hh hx q => ⟨x, by rw [hx], aft_ret hh q rfl⟩) ha hs
def fall (xs : List Bool) : M τ Bool := ret (xs.all id)
def fany (xs : List Bool) : M τ Bool := ret (xs.any id)
theorem lst_bls {xs : List Bool} {S H : Hp} {v : V} {K : PySem.W.Frag} (s : Same S H) (h : (rLst rBl).is xs S v) : ∃ a, v = .ref a ∧ SqL K H a (xs.map V.bl) := by
  obtain ⟨a, vs, e1, e2, e3⟩ := h
  have := All2.bls e3
  subst this
  exact ⟨a, e1, .of (s _ _ e2)⟩
theorem z_all {m : M τ (List Bool)} (bl : Blt G c x (.builtin "all")) (ha : ZE G c E W Γ e m (rLst rBl)) (hs : Star e [] := by intro _; rfl) : ZE G c E W Γ (.Call (.Name x p) [e] [] pos) (zapp fall m) rBl :=
  z_b1 bl (r := rAll G.K) (fun X C => by rw [← C.K]; exact cr_all C.calm) (fun B σ S H b x v Q hh h q => by
    obtain ⟨a, e1, e2⟩ := lst_bls hh.same h
    exact ⟨a, x, by rw [e1], e2, aft_ret hh q rfl⟩) ha hs
theorem z_listL {R : Rel α} {m : M τ (List α)} (bl : Blt G c x (.type "list")) (ha : ZE G c E W Γ e m (rLst R)) (hs : Star e [] := by intro _; rfl) : ZE G c E W Γ (.Call (.Name x p) [e] [] pos) (zapp ret m) (rLst R) :=
  z_ty1 bl (R := rLst R) (r := fun xs H Q => ∃ p ys, xs = [.ref p] ∧ (SqL G.K H p ys ∨ SqT G.K H p ys) ∧ ∀ l, H l = none → Q (.ref l) (upd H l (.lst ys))) (fun X C => by rw [← C.K]; exact call_list_of) (fun B σ S H b x v Q hh ⟨a, vs, e1, e2, e3⟩ q => ⟨a, vs, by rw [e1], .inl (.of (hh.same _ _ e2)), fun l hl => aft_new hh q hl (rLst_new (hh.same.free hl) e3)⟩) ha hs
theorem z_tupL {R : Rel α} {m : M τ (List α)} (bl : Blt G c x (.type "tuple")) (ha : ZE G c E W Γ e m (rLst R)) (hs : Star e [] := by intro _; rfl) : ZE G c E W Γ (.Call (.Name x p) [e] [] pos) (zapp ret m) (rVT R) :=
  z_ty1 bl (R := rLst R) (r := fun xs H Q => ∃ p ys, xs = [.ref p] ∧ ((SqL G.K H p ys ∧ ∀ l, H l = none → Q (.ref l) (upd H l (.tup ys))) ∨ (SqT G.K H p ys ∧ Q (.ref p) H))) (fun X C => by rw [← C.K]; exact call_tuple_of) (fun B σ S H b x v Q hh ⟨a, vs, e1, e2, e3⟩ q => ⟨a, vs, by rw [e1], .inl ⟨.of (hh.same _ _ e2), fun l hl => aft_new hh q hl (rVT_new (hh.same.free hl) e3)⟩⟩) ha hs
def fdivmod (x y : Int) : M τ (Int × Int) := chk (0 < y ∧ y < 1073741824) (ret (x / y, x % y))
theorem z_divmod {m n : M τ Int} (bl : Blt G c x (.builtin "divmod")) (ha : ZE G c E W Γ e m rInt) (hb : ZE G c E W Γ e2 n rInt) (hs : Star e [e2] := by intro _; rfl) (hs2 : Star e2 [] := by intro _; rfl) (hpl : Plain1 [e2] := by intro _ _; rfl) :
    ZE G c E W Γ (.Call (.Name x p) [e, e2] [] pos) (zapp (fun x : Int × Int => fdivmod x.1 x.2) (zpair m n)) (rT2 rInt rInt) :=
  z_b2 bl (fun X C => call_divmod) (fun B σ S H b x y v w Q hh hx hy q => by
    obtain ⟨hl, q⟩ := aft_chk q
    exact ⟨x, y, by rw [hx, hy], hl, fun p hp => aft_new hh q hp ⟨p, _, _, rfl, upd_same, rfl, rfl⟩⟩) ha hb hs hs2 hpl
/-! isinstance, both answers known by the kind -/
structure IsT (G : Gx) (R : Rel α) (t : Value) : Prop where
  h : ∀ {x : α} {S H : Hp} {v : V}, Same S H → R.is x S v → TyX G.K H v t
theorem isI : IsT G rInt (.type "int") := ⟨fun _ h => by cases h; exact .base (.int _)⟩
theorem isL {R : Rel α} : IsT G (rLst R) (.type "list") := ⟨fun s ⟨a, vs, e, h, _⟩ => by cases e; exact .base (.lst (s _ _ h))⟩
def zis (k : Bool) (m : M τ α) : M τ Bool := bnd m fun _ => ret k
theorem z_isi {R : Rel α} {t : Value} {k : Bool} {y : Str} {p2 : Pos} {n : String} {m : M τ α} (bl : Blt G c x (.builtin "isinstance")) (ht : IsT G R t) (b2 : Blt G c y (.type n)) (hk : PySem.W.kitOne G.K t (.type n) = some k) (ha : ZE G c E W Γ e m R) (hs : Star e [.Name y p2] := by intro _; rfl) :
    ZE G c E W Γ (.Call (.Name x p) [e, .Name y p2] [] pos) (zis k m) rBl := fun X C =>
  pe_wk (pe_callB (call_isi) (C.gl bl.g) (by rw [C.mg]; exact bl.m) bl.v (pa_cons (ha X C) (pa_cons (pe_bltn (v := .ty n) (C.gl b2.g) (by rw [C.mg]; exact b2.m) b2.v rfl b2.n b2.d) pa_nil (by rfl)) (hs X.env)) bl.n bl.d (hs X.env) (by rfl)) fun σ H Q _ ⟨B, S, b, hh, q⟩ => by
    refine tz_bnd hh q fun x b1 v S1 H1 s1 h1 r1 q1 => ?_
    exact ⟨v, .ty n, t, .type n, k, rfl, .ty n, by rw [C.K]; exact ht.h h1.same r1, by rw [C.K]; exact hk, aft_ret h1 q1 rfl⟩
end

/-! ### lists and tuples put together, cut -/
section
variable {ea eb : Expr} {pos : Pos}
def lcat (xs ys : List α) : M τ (List α) := chk (xs.length + ys.length ≤ sizeLine) (ret (xs ++ ys))
theorem z_catL {R : Rel α} {ma mb : M τ (List α)} (ha : ZE G c E W Γ ea ma (rLst R)) (hb : ZE G c E W Γ eb mb (rLst R)) : ZE G c E W Γ (.BinOp ea .Add eb pos) (zop2 lcat ma mb) (rLst R) :=
  z_bin (Ra := rLst R) (Rb := rLst R) (fun _ _ => op_cat) (fun B σ S H b x y v w Q hh ⟨a, vs, e1, e2, e3⟩ ⟨a', vs', e1', e2', e3'⟩ q => by
    obtain ⟨hl, q⟩ := aft_chk q
    exact ⟨a, a', vs, vs', e1, e1', hh.same _ _ e2, hh.same _ _ e2', by rw [← e3.length, ← e3'.length]; exact hl, fun p hp => aft_new hh q hp (rLst_new (hh.same.free hp) (e3.append e3'))⟩) ha hb
def lrep (xs : List α) (k : Int) : M τ (List α) := chk (-(2 ^ 63) ≤ k ∧ k < 2 ^ 63 ∧ xs.length * k.toNat ≤ sizeLine) (ret (List.replicate k.toNat xs).flatten)
theorem z_repL {R : Rel α} {ma : M τ (List α)} {mb : M τ Int} (ha : ZE G c E W Γ ea ma (rLst R)) (hb : ZE G c E W Γ eb mb rInt) : ZE G c E W Γ (.BinOp ea .Mult eb pos) (zop2 lrep ma mb) (rLst R) :=
  z_bin (Ra := rLst R) (fun _ _ => op_rep) (fun B σ S H b x y v w Q hh ⟨a, vs, e1, e2, e3⟩ hy q => by
    obtain ⟨⟨h1, h2, h3⟩, q⟩ := aft_chk q
    exact ⟨a, y, vs, e1, hy, hh.same _ _ e2, h1, h2, by rw [← e3.length]; exact h3, fun p hp => aft_new hh q hp (rLst_new (hh.same.free hp) (e3.rep _))⟩) ha hb
end
end
end Zk

namespace Zk
open PySem L2

section
variable {τ α β γ δ κ ρ ι : Type} {G : Gx} {c : Sc} {E : Eff τ} {W : WX} {Γ Γ' : Env} {B : Bs} {σ : St} {S S1 H H' : Hp} {b : τ} {L : Ls κ ρ}
theorem aftS.same {Γn : α → Env} {D : Ends} (s : Same S S1) : ∀ {o : Out τ (Fl α κ ρ)}, aftS G E W L B S Γn D o → aftS G E W L B S1 Γn D o
  | .ok (.nx _) _, h => fun σ' S' H' s2 => h σ' S' H' (s.trans s2)
  | .ok (.rt _) _, h => h
  | .ok (.bk _) _, h => fun σ' S' H' s2 => h σ' S' H' (s.trans s2)
  | .ok (.ct _) _, h => fun σ' S' H' s2 => h σ' S' H' (s.trans s2)
  | .exc _ _, h => h
  | .stuck, h => h
/-! ### fewer slots; what was one's own becomes stable -/
/-- what Γ tells Γ' tells too (perhaps more has become stable) -/
def Sub (E : Eff τ) (Γ Γ' : Env) : Prop := ∀ {B : Bs} {b : τ} {σ : St} {S H : Hp}, Hold E B Γ b σ S H → ∃ S', Same S S' ∧ Hold E B Γ' b σ S' H
theorem sub_nil : Sub E Γ [] := fun h => ⟨_, Same.refl _, h.nil⟩
theorem sub_wk (w : ∀ (i : Nat) s, Γ'[i]? = some s → s = .no ∨ Γ[i]? = some s) : Sub E Γ Γ' := fun h => ⟨_, Same.refl _, h.wk w⟩
inductive SubL : Env → Env → Prop
  | nil : SubL [] []
  | keep {s : Sl} {l l' : Env} : SubL l l' → SubL (s :: l) (s :: l')
  | drop {s : Sl} {l l' : Env} : SubL l l' → SubL (s :: l) (.no :: l')
theorem SubL.wk : ∀ {l l' : Env}, SubL l l' → ∀ (i : Nat) s, l'[i]? = some s → s = .no ∨ l[i]? = some s
  | _, _, .nil, _, _, h => by simp at h
  | _, _, .keep h, 0, s, e => .inr e
  | _, _, .keep h, i + 1, s, e => by simpa using SubL.wk h i s (by simpa using e)
  | _, _, .drop h, 0, s, e => by simp at e; exact .inl e.symm
  | _, _, .drop h, i + 1, s, e => by simpa using SubL.wk h i s (by simpa using e)
theorem SubL.sub (h : SubL Γ Γ') : Sub E Γ Γ' := sub_wk h.wk
theorem Sub.trans {Γ'' : Env} (h : Sub E Γ Γ') (h2 : Sub E Γ' Γ'') : Sub E Γ Γ'' := fun x => by
  obtain ⟨S1, s1, h1⟩ := h x
  obtain ⟨S2, s2, h3⟩ := h2 h1
  exact ⟨S2, s1.trans s2, h3⟩

/-! ### blocks -/
def zseq (m : M τ (Fl α κ ρ)) (f : α → M τ (Fl β κ ρ)) : M τ (Fl β κ ρ) := fun s => match m s with
  | .ok (.nx a) s' => f a s'
  | .ok (.rt r) s' => .ok (.rt r) s'
  | .ok (.bk k) s' => .ok (.bk k) s'
  | .ok (.ct k) s' => .ok (.ct k) s'
  | .exc e s' => .exc e s'
  | .stuck => .stuck
def znx (a : α) : M τ (Fl α κ ρ) := ret (.nx a)
theorem zb_nil {Γn : α → Env} {a : α} (h : Sub E Γ (Γn a)) : ZB G c E W L Γ [] (znx a) Γn := fun X C => pss_wk pss_nil fun D σ H _ ⟨B, S, b, hh, q⟩ => by
  obtain ⟨S', s', h'⟩ := h hh
  exact q σ S' H s' h'
theorem zb_cons {st : Stmt} {sts : List Stmt} {m : M τ (Fl α κ ρ)} {f : α → M τ (Fl β κ ρ)} {Γ1 : α → Env} {Γn : β → Env} (h1 : ZS G c E W L Γ st m Γ1) (h2 : ∀ a, ZB G c E W L (Γ1 a) sts (f a) Γn) : ZB G c E W L Γ (st :: sts) (zseq m f) Γn := fun X C =>
  pss_wk (pss_cons (h1 X C) (pss_ex fun a => h2 a X C)) fun D σ H _ ⟨B, S, b, hh, q⟩ => by
    refine ⟨B, S, b, hh, ?_⟩
    unfold zseq at q
    cases e : m b with
    | stuck => rw [e] at q; exact q.elim
    | exc x b1 => rw [e] at q; exact q
    | ok r b1 =>
      rw [e] at q
      cases r with
      | nx a => exact fun σ' S' H' s h => ⟨a, B, S', b1, h, q.same s⟩
      | rt r => exact q
      | bk k => exact q
      | ct k => exact q
/-- the last statement, which hands back or raises on every way, or what it tells is what the block tells -/
theorem zb_one {st : Stmt} {m : M τ (Fl α κ ρ)} {Γn : α → Env} (h1 : ZS G c E W L Γ st m Γn) : ZB G c E W L Γ [st] m Γn := fun X C => pss_wk (pss_one (h1 X C)) fun D σ H _ q => q
theorem zb_wk {st : List Stmt} {m : M τ (Fl α κ ρ)} {Γn : α → Env} (s : Sub E Γ Γ') (h1 : ZB G c E W L Γ' st m Γn) : ZB G c E W L Γ st m Γn := fun X C => pss_wk (h1 X C) fun D σ H _ ⟨B, S, b, hh, q⟩ => by
  obtain ⟨S', s', h'⟩ := s hh
  exact ⟨B, S', b, h', q.same s'⟩
/-- from an expression's reading on into a statement's -/
theorem tzS_bnd {m : M τ α} {f : α → M τ (Fl β κ ρ)} {R : Rel α} {Γn : β → Env} {D : Ends} {Q' : VK} (sx : Sub E Γ L.x) (hh : Hold E B Γ b σ S H) (h : aftS G E W L B S Γn D (bnd m f b))
    (k : ∀ x b1 v S1 H1, Same S S1 → Hold E B Γ b1 σ S1 H1 → R.is x S1 v → aftS G E W L B S1 Γn D (f x b1) → Q' v H1) : tzE G E W Γ m R σ H Q' := by
  refine ⟨B, S, b, hh, ?_⟩
  unfold bnd at h
  cases e : m b with
  | ok a b1 => rw [e] at h; exact fun v S1 H1 s h1 r => k a b1 v S1 H1 s h1 r (h.same s)
  | exc x b1 => rw [e] at h; exact fun c d S1 H1 _ h1 xa => let ⟨S2, _, h2⟩ := sx h1; h c d σ S2 H1 h2 xa
  | stuck => rw [e] at h; exact h.elim
theorem tzS_bndT {m : M τ Bool} {f : Bool → M τ (Fl β κ ρ)} {Γn : β → Env} {D : Ends} {Q' : Bool → Hp → Prop} (sx : Sub E Γ L.x) (hh : Hold E B Γ b σ S H) (h : aftS G E W L B S Γn D (bnd m f b))
    (k : ∀ x b1 S1 H1, Same S S1 → Hold E B Γ b1 σ S1 H1 → aftS G E W L B S1 Γn D (f x b1) → Q' x H1) : tzT G E W Γ m σ H Q' := by
  refine ⟨B, S, b, hh, ?_⟩
  unfold bnd at h
  cases e : m b with
  | ok a b1 => rw [e] at h; exact fun S1 H1 s h1 => k a b1 S1 H1 s h1 (h.same s)
  | exc x b1 => rw [e] at h; exact fun c d S1 H1 _ h1 xa => let ⟨S2, _, h2⟩ := sx h1; h c d σ S2 H1 h2 xa
  | stuck => rw [e] at h; exact h.elim
theorem tzS_bndA {m : M τ α} {f : α → M τ (Fl β κ ρ)} {A : α → List Pr} {Γn : β → Env} {D : Ends} {Q' : List V → Hp → Prop} (sx : Sub E Γ L.x) (hh : Hold E B Γ b σ S H) (h : aftS G E W L B S Γn D (bnd m f b))
    (k : ∀ x b1 v S1 H1, Same S S1 → Hold E B Γ b1 σ S1 H1 → All2 (fun (p : Pr) v => p.p S1 v) (A x) v → aftS G E W L B S1 Γn D (f x b1) → Q' v H1) : tzA G E W Γ m A σ H Q' := by
  refine ⟨B, S, b, hh, ?_⟩
  unfold bnd at h
  cases e : m b with
  | ok a b1 => rw [e] at h; exact fun v S1 H1 s h1 r => k a b1 v S1 H1 s h1 r (h.same s)
  | exc x b1 => rw [e] at h; exact fun c d S1 H1 _ h1 xa => let ⟨S2, _, h2⟩ := sx h1; h c d σ S2 H1 h2 xa
  | stuck => rw [e] at h; exact h.elim

/-! ### small statements -/
structure Ns (c : Sc) (i : Nat) (x : Str) : Prop where
  n : c.N[i]? = some x
  l : Loc c.sc x
  f : c.fx x = true ∨ c.sc.names.lookup x = some .local
abbrev NoSwap (e : Expr) : Prop := ∀ (t : Option Expr) (l : Nat) (env : PySem.Env), swapsWith e t l env = pure false
def zset (m : M τ α) : M τ (Fl α κ ρ) := bnd m fun x => ret (.nx x)
theorem CtxOk.set_hN {X : Cx} (C : CtxOk G c W X) : X.N.Nodup := by rw [C.N]; exact C.nd
theorem CtxOk.lt {X : Cx} {i : Nat} {x : Str} (C : CtxOk G c W X) (n : c.N[i]? = some x) (h : σ.length = X.N.length) : i < σ.length := by
  rw [h, C.N]; exact (List.getElem?_eq_some_iff.mp n).1
theorem CtxOk.hi {X : Cx} {i : Nat} {x : Str} (C : CtxOk G c W X) (n : c.N[i]? = some x) : X.N[i]? = some x := by rw [C.N]; exact n
theorem CtxOk.hf {X : Cx} {i : Nat} {x : Str} (C : CtxOk G c W X) (n : Ns c i x) : X.fn x = true ∨ X.env.scope.names.lookup x = some .local := by rw [C.fx, C.sc]; exact n.f
theorem zs_set {i : Nat} {x : Str} {e : Expr} {m : M τ α} {R : Rel α} {p pos : Pos} (n : Ns c i x) (h : ZE G c E W Γ e m R) (sx : Sub E Γ L.x) (hs : NoSwap e := by intro _ _ _; rfl) : ZS G c E W L Γ (.Assign [.Name x p] e pos) (zset m) (fun a => Γ.set i (.st (R.pr a))) := fun X C =>
  ps_wk (ps_set C.set_hN (C.hi n.n) (by rw [C.sc]; exact n.l) (h X C) (hs _ _ _) (C.hf n)) fun D σ H hl ⟨B, S, b, hh, q⟩ => by
    refine tzS_bnd (R := R) sx hh q fun x b1 v S1 H1 s1 h1 r1 q1 => ?_
    exact q1 _ S1 H1 (Same.refl _) (h1.set (C.lt n.n hl) r1)
def zrt (m : M τ ρ) : M τ (Fl α κ ρ) := bnd m fun x => ret (.rt x)
theorem zs_ret {e : Expr} {m : M τ ρ} {pos : Pos} {Γn : α → Env} (h : ZE G c E W Γ e m L.R) (sx : Sub E Γ L.x) (ho : ∀ r v, L.o r v = [] := by intro _ _; rfl) : ZS G c E W L Γ (.Return (some e) pos) (zrt m) Γn := fun X C =>
  ps_wk (ps_ret (h X C)) fun D σ H hl ⟨B, S, b, hh, q⟩ => by
    refine tzS_bnd (R := L.R) sx hh q fun x b1 v S1 H1 s1 h1 r1 q1 => ?_
    exact q1 v σ S1 H1 (by rw [ho]; exact h1.nil) r1
def zdrop (m : M τ α) : M τ (Fl Unit κ ρ) := bnd m fun _ => ret (.nx ())
theorem zs_expr {e : Expr} {m : M τ α} {R : Rel α} {pos : Pos} (h : ZE G c E W Γ e m R) (sx : Sub E Γ L.x) (hs : NoSwap e := by intro _ _ _; rfl) : ZS G c E W L Γ (.Expr e pos) (zdrop m) (fun _ => Γ) := fun X C =>
  ps_wk (ps_expr (h X C) (hs _ _ _)) fun D σ H hl ⟨B, S, b, hh, q⟩ => by
    refine tzS_bnd (R := R) sx hh q fun x b1 v S1 H1 s1 h1 r1 q1 => ?_
    exact q1 σ S1 H1 (Same.refl _) h1
def zifS (m : M τ Bool) (n o : M τ (Fl α κ ρ)) : M τ (Fl α κ ρ) := bnd m fun x => if x = true then n else o
theorem zs_if {e : Expr} {a d : List Stmt} {m : M τ Bool} {n o : M τ (Fl α κ ρ)} {Γn : α → Env} {pos : Pos} (h : ZT G c E W Γ e m) (ha : ZB G c E W L Γ a n Γn) (hd : ZB G c E W L Γ d o Γn) (sx : Sub E Γ L.x) : ZS G c E W L Γ (.If e a d pos) (zifS m n o) Γn := fun X C =>
  ps_wk (ps_if (h X C) (ha X C) (hd X C)) fun D σ H hl ⟨B, S, b, hh, q⟩ => by
    refine tzS_bndT sx hh q fun x b1 S1 H1 s1 h1 q1 => ?_
    cases x with
    | true => exact ⟨B, S1, b1, h1, q1⟩
    | false => exact ⟨B, S1, b1, h1, q1⟩

/-! ### targets -/
/-- the target tg is given what stands for x: the slots vs may change, then Γ is f x -/
def tzG (E : Eff τ) (Γ : Env) (vs : List Nat) (f : α → Env) (R : Rel α) : TG := fun v σ H Q => ∃ B S b x, Hold E B Γ b σ S H ∧ R.is x S v ∧ ∀ σ', wipe σ' vs = wipe σ vs → Hold E B (f x) b σ' S H → Q σ' H
def ZG (G : Gx) (c : Sc) (E : Eff τ) (W : WX) (Γ : Env) (vs : List Nat) (tg : Expr) (f : α → Env) (R : Rel α) : Prop := (∀ X, CtxOk G c W X → PG X tg (tzG E Γ vs f R)) ∧ ∀ x (i : Nat), i ∉ vs → (f x)[i]? = Γ[i]?
theorem pg_wk {X : Cx} {tg : Expr} {t t' : TG} (h : PG X tg t) (w : ∀ v σ H Q, σ.length = X.N.length → t' v σ H Q → t v σ H Q) : PG X tg t' := ⟨fun pins s σ H v u Q I r q => h.run pins s σ H v u Q I r (w v σ H Q I.len q)⟩
theorem pgs_wk {X : Cx} {tg : List Expr} {t t' : TGs} (h : PGs X tg t) (w : ∀ v σ H Q, σ.length = X.N.length → t' v σ H Q → t v σ H Q) : PGs X tg t' := ⟨fun pins s σ H v u Q I r q => h.run pins s σ H v u Q I r (w v σ H Q I.len q)⟩
theorem pg_ex {ι : Type} {X : Cx} {tg : Expr} {t : ι → TG} (h : ∀ i, PG X tg (t i)) : PG X tg (fun v σ H Q => ∃ i, t i v σ H Q) := ⟨fun pins s σ H v u Q I r ⟨i, q⟩ => (h i).run pins s σ H v u Q I r q⟩
theorem wipe_set {i : Nat} {v : Option V} : ∀ {vs : List Nat} {σ : St}, i ∈ vs → wipe (σ.set i v) vs = wipe σ vs
  | j :: vs, σ, h => by
    unfold wipe
    by_cases hj : i ∈ vs
    · rw [wipe_set hj]
    · have e : i = j := by simpa [hj] using h
      subst e
      have : ∀ (vs : List Nat), i ∉ vs → wipe (σ.set i v) vs = (wipe σ vs).set i v := by
        intro vs
        induction vs with
        | nil => intro _; rfl
        | cons k vs ih => intro hk; unfold wipe; rw [ih (by simp at hk; exact hk.2), List.set_comm _ _ (by simp at hk; exact hk.1)]
      rw [this vs hj, List.set_set]
theorem zg_name {i : Nat} {x : Str} {p : Pos} {vs : List Nat} {R : Rel α} (n : Ns c i x) (hv : i ∈ vs) : ZG G c E W Γ vs (.Name x p) (fun a => Γ.set i (.st (R.pr a))) R := ⟨fun X C =>
  pg_wk (pg_name C.set_hN (C.hi n.n) (by rw [C.sc]; exact n.l) (C.hf n)) fun v σ H Q hl ⟨B, S, b, x, hh, r, q⟩ => q _ (wipe_set hv) (hh.set (C.lt n.n hl) r), fun a j hj => List.getElem?_set_ne fun e => hj (by rw [← e]; exact hv)⟩
/-- several targets, one after another -/
def tzGs (E : Eff τ) (Γ : Env) (vs : List Nat) (f : α → Env) (A : α → List Pr) : TGs := fun us σ H Q => ∃ B S b x, Hold E B Γ b σ S H ∧ All2 (fun (p : Pr) v => p.p S v) (A x) us ∧ ∀ σ', wipe σ' vs = wipe σ vs → Hold E B (f x) b σ' S H → Q σ' H
def ZGs (G : Gx) (c : Sc) (E : Eff τ) (W : WX) (Γ : Env) (vs : List Nat) (tgs : List Expr) (f : α → Env) (A : α → List Pr) : Prop := (∀ X, CtxOk G c W X → PGs X tgs (tzGs E Γ vs f A)) ∧ ∀ x (i : Nat), i ∉ vs → (f x)[i]? = Γ[i]?
abbrev AsgC (e : Expr) (es : List Expr) : Prop := ∀ env : PySem.Env, (assignEach (e :: es) env).map (·.2) = assign e env :: (assignEach es env).map (·.2)
theorem zgs_one {t : Expr} {vs : List Nat} {f : α → Env} {R : Rel α} (h : ZG G c E W Γ vs t f R) (hs : AsgC t [] := by intro _; rfl) : ZGs G c E W Γ vs [t] f (fun x => [R.pr x]) := ⟨fun X C =>
  pgs_wk (pgs_cons (h.1 X C) pgs_nil (hs X.env)) fun us σ H Q hl ⟨B, S, b, x, hh, r, q⟩ => by
    match us, r with
    | [u], ⟨r, _⟩ => exact ⟨u, [], rfl, B, S, b, x, hh, r, fun σ' w h' => ⟨rfl, q σ' w h'⟩⟩, h.2⟩
theorem pgs_ex {ι : Type} {X : Cx} {tg : List Expr} {t : ι → TGs} (h : ∀ i, PGs X tg (t i)) : PGs X tg (fun v σ H Q => ∃ i, t i v σ H Q) := ⟨fun pins s σ H v u Q I r ⟨i, q⟩ => (h i).run pins s σ H v u Q I r q⟩
theorem zgs_cons {t : Expr} {ts : List Expr} {vs : List Nat} {f1 : α → Env} {f2 : α → β → Env} {R : Rel α} {A : β → List Pr} (h1 : ZG G c E W Γ vs t f1 R) (h2 : ∀ a, ZGs G c E W (f1 a) vs ts (f2 a) A) (hs : AsgC t ts := by intro _; rfl) : ZGs G c E W Γ vs (t :: ts) (fun x : α × β => f2 x.1 x.2) (fun x : α × β => R.pr x.1 :: A x.2) := ⟨fun X C =>
  pgs_wk (pgs_cons (h1.1 X C) (pgs_ex fun a => (h2 a).1 X C) (hs X.env)) fun us σ H Q hl ⟨B, S, b, x, hh, r, q⟩ => by
    match us, r with
    | u :: us, ⟨r, r2⟩ => exact ⟨u, us, rfl, B, S, b, x.1, hh, r, fun σ' w h' => ⟨x.1, B, S, b, x.2, h', r2, fun σ'' w' h'' => q σ'' (w'.trans w) h''⟩⟩, fun x i hi => ((h2 x.1).2 x.2 i hi).trans (h1.2 x.1 i hi)⟩
/-- a tuple of things -/
structure TupOf (R : Rel α) (n : Nat) (A : α → List Pr) : Prop where
  h : ∀ {x : α} {S : Hp} {v : V}, R.is x S v → ∃ a us, v = .ref a ∧ S a = some (.tup us) ∧ us.length = n ∧ All2 (fun (p : Pr) v => p.p S v) (A x) us
theorem to2 {R : Rel α} {R2 : Rel β} : TupOf (rT2 R R2) 2 (fun x => [R.pr x.1, R2.pr x.2]) := ⟨fun ⟨a, u, w, e, h, q, q2⟩ => ⟨a, _, e, h, rfl, q, q2, trivial⟩⟩
theorem to3 {R : Rel α} {R2 : Rel β} {R3 : Rel γ} : TupOf (rT3 R R2 R3) 3 (fun x => [R.pr x.1, R2.pr x.2.1, R3.pr x.2.2]) := ⟨fun ⟨a, u, w, z, e, h, q, q2, q3⟩ => ⟨a, _, e, h, rfl, q, q2, q3, trivial⟩⟩
theorem to4 {R : Rel α} {R2 : Rel β} {R3 : Rel γ} {R4 : Rel δ} : TupOf (rT4 R R2 R3 R4) 4 (fun x => [R.pr x.1, R2.pr x.2.1, R3.pr x.2.2.1, R4.pr x.2.2.2]) := ⟨fun ⟨a, u, w, z, y, e, h, q, q2, q3, q4⟩ => ⟨a, _, e, h, rfl, q, q2, q3, q4, trivial⟩⟩
theorem zg_tup {es : List Expr} {k : Nat} {pos : Pos} {vs : List Nat} {n : Nat} {f : α → Env} {A : α → List Pr} {R : Rel α} (t : TupOf R n A) (h : ZGs G c E W Γ vs es f A) (hn : ∀ env : PySem.Env, (assignEach es env).length = n := by intro _; rfl) (hst : ∀ env : PySem.Env, (assignEach es env).findIdx? (·.1) = none := by intro _; rfl) :
    ZG G c E W Γ vs (.Tuple es k pos) f R := ⟨fun X C => pg_wk (pg_tup C.calm (h.1 X C) (hn X.env) (hst X.env)) fun v σ H Q hl ⟨B, S, b, x, hh, r, q⟩ => by
  obtain ⟨a, us, e1, e2, e3, e4⟩ := t.h r
  exact ⟨a, us, e1, .of (hh.same _ _ e2), e3, B, S, b, x, hh, e4, q⟩, h.2⟩
/-! ### what a for walks -/
/-- an iterator J gives, while I stands, what stands for xs, one by one -/
structure Src (P : Hp → Hp → Prop) (J : It) (xs : List β) (R : Rel β) (I : Hp → Prop) : Prop where
  mono : ∀ {S S' : Hp}, Same S S' → I S → I S'
  go : ∀ {i : Nat} {S H : Hp}, Same S H → P S H → I S → i < xs.length → J.go i H
  yl : ∀ {i : Nat} {S H H' : Hp} {x : V} {y : β}, Same S H → P S H → I S → xs[i]? = some y → J.yld i H x H' → (H' = H ∧ R.is y S x) ∨ ∃ p o, H p = none ∧ H' = upd H p o ∧ R.is y (upd S p o) x
  st : ∀ {S H : Hp}, Same S H → P S H → I S → J.stop xs.length H
def aftI (G : Gx) (E : Eff τ) (W : WX) (B : Bs) (Γ : Env) (σ : St) (S : Hp) (R : Rel β) (Q : It → Hp → Prop) : Out τ (List β) → Prop
  | .ok xs b' => ∀ J I S' H', Same S S' → Hold E B Γ b' σ S' H' → Src (fun S H => ∃ b, E.is b S H) J xs R I → I S' → Q J H'
  | .exc x b' => ∀ c d S' H', Same S S' → Hold E B Γ b' σ S' H' → XAt G x H' c d → W c d σ H'
  | .stuck => False
theorem aftI.same {R : Rel β} {Q : It → Hp → Prop} (s : Same S S1) : ∀ {o : Out τ (List β)}, aftI G E W B Γ σ S R Q o → aftI G E W B Γ σ S1 R Q o
  | .ok _ _, h => fun J I S' H' s2 => h J I S' H' (s.trans s2)
  | .exc _ _, h => fun c d S' H' s2 => h c d S' H' (s.trans s2)
  | .stuck, h => h
def tzI (G : Gx) (E : Eff τ) (W : WX) (Γ : Env) (m : M τ (List β)) (R : Rel β) : TI := fun σ H Q => ∃ B S b, Hold E B Γ b σ S H ∧ aftI G E W B Γ σ S R Q (m b)
def ZI (G : Gx) (c : Sc) (E : Eff τ) (W : WX) (Γ : Env) (tg iter : Expr) (m : M τ (List β)) (R : Rel β) : Prop := ∀ X, CtxOk G c W X → PI X tg iter (tzI G E W Γ m R)
theorem pi_wk {X : Cx} {tg e : Expr} {t t' : TI} (h : PI X tg e t) (w : ∀ σ H Q, t' σ H Q → t σ H Q) : PI X tg e t' := ⟨fun pins s σ H Q I q => h.run pins s σ H Q I (w σ H Q q)⟩
theorem src_list {P : Hp → Hp → Prop} {K : PySem.W.Frag} {R : Rel β} {xs : List β} {a : Addr} : Src P (Itl K a) xs R (fun S => ∃ vs, S a = some (.lst vs) ∧ All2 (fun x v => R.is x S v) xs vs) where
  mono := fun s ⟨vs, e, q⟩ => ⟨vs, s _ _ e, All2.rel s q⟩
  go := fun {i S H} s _ ⟨vs, e, q⟩ hi => ⟨vs, vs[i]'(by rw [← q.length]; exact hi), .of (s _ _ e), by rw [List.getElem?_eq_getElem]⟩
  yl := fun {i S H H' x y} s _ ⟨vs, e, q⟩ hy ⟨e1, e2⟩ => .inl ⟨e1, by
    obtain ⟨v, h1, h2⟩ := q.get hy
    have := e2 vs (.of (s _ _ e))
    rw [h1] at this; cases this; exact h2⟩
  st := fun s _ ⟨vs, e, q⟩ => ⟨vs, .of (s _ _ e), by rw [q.length]; exact Nat.le_refl _⟩
theorem zi_list {tg e : Expr} {m : M τ (List β)} {R : Rel β} (h : ZE G c E W Γ e m (rLst R)) : ZI G c E W Γ tg e m R := fun X C => pi_wk (pi_list (h X C)) fun σ H Q ⟨B, S, b, hh, q⟩ => by
  refine ⟨B, S, b, hh, ?_⟩
  cases e : m b with
  | stuck => rw [e] at q; exact q.elim
  | exc x b1 => rw [e] at q; exact q
  | ok xs b1 => rw [e] at q; exact fun v S' H' s h' ⟨a, vs, e1, e2, e3⟩ => ⟨a, e1, ⟨vs, .of (h'.same _ _ e2)⟩, q _ _ S' H' s h' src_list ⟨vs, e2, e3⟩⟩
def rng (lo : Int) (n : Nat) : List Int := (List.range n).map fun (i : Nat) => lo + (i : Int)
theorem rng_get {lo : Int} {n i : Nat} {y : Int} (h : (rng lo n)[i]? = some y) : y = lo + (i : Int) ∧ i < n := by
  unfold rng at h
  rw [List.getElem?_map] at h
  by_cases hi : i < n
  · rw [List.getElem?_range hi] at h; cases h; exact ⟨rfl, hi⟩
  · rw [List.getElem?_eq_none (by simpa using hi)] at h; cases h
theorem src_rng {P : Hp → Hp → Prop} {lo : Int} {n : Nat} : Src P (Itr lo n) (rng lo n) rInt (fun _ => True) where
  mono := fun _ _ => trivial
  go := fun {i S H} _ _ _ hi => by
    unfold rng at hi
    show i < n
    simpa using hi
  yl := fun _ _ _ hy ⟨e1, e2⟩ => .inl ⟨e1, by rw [(rng_get hy).1]; exact e2⟩
  st := fun _ _ _ => by unfold rng; simp [Itr]
theorem tzI_bndA {m : M τ α} {f : α → M τ (List β)} {A : α → List Pr} {R : Rel β} {Q : It → Hp → Prop} {Q' : List V → Hp → Prop} (hh : Hold E B Γ b σ S H) (h : aftI G E W B Γ σ S R Q (bnd m f b))
    (k : ∀ x b1 vs S1 H1, Same S S1 → Hold E B Γ b1 σ S1 H1 → All2 (fun (p : Pr) v => p.p S1 v) (A x) vs → aftI G E W B Γ σ S1 R Q (f x b1) → Q' vs H1) : tzA G E W Γ m A σ H Q' := by
  refine ⟨B, S, b, hh, ?_⟩
  unfold bnd at h
  cases e : m b with
  | ok a b1 => rw [e] at h; exact fun v S1 H1 s h1 r => k a b1 v S1 H1 s h1 r (h.same s)
  | exc x b1 => rw [e] at h; exact h
  | stuck => rw [e] at h; exact h.elim
def fenum (xs : List α) : List (Int × α) := xs.zipIdx.map fun p => ((p.2 : Int), p.1)
theorem enum_get {xs : List α} {i : Nat} {y : Int × α} (h : (fenum xs)[i]? = some y) : y.1 = (i : Int) ∧ xs[i]? = some y.2 := by
  unfold fenum at h
  rw [List.getElem?_map, List.getElem?_zipIdx] at h
  cases e : xs[i]? with
  | none => rw [e] at h; cases h
  | some x => rw [e] at h; cases h; exact ⟨by simp, rfl⟩
theorem src_enum {P : Hp → Hp → Prop} {K : PySem.W.Frag} {R : Rel β} {xs : List β} {a : Addr} : Src P (Ite K a) (fenum xs) (rT2 rInt R) (fun S => ∃ vs, S a = some (.lst vs) ∧ All2 (fun x v => R.is x S v) xs vs) where
  mono := fun s ⟨vs, e, q⟩ => ⟨vs, s _ _ e, All2.rel s q⟩
  go := fun {i S H} s _ ⟨vs, e, q⟩ hi => ⟨vs, vs[i]'(by rw [← q.length]; unfold fenum at hi; simpa using hi), .of (s _ _ e), by rw [List.getElem?_eq_getElem]⟩
  yl := fun {i S H H' x y} s _ ⟨vs, e, q⟩ hy ⟨T, z, e1, e2, e3, e4⟩ => .inr ⟨T, _, e2, e3, by
    obtain ⟨y1, y2⟩ := enum_get hy
    obtain ⟨v, h1, h2⟩ := q.get y2
    have := e4 vs (.of (s _ _ e))
    rw [h1] at this; cases this
    exact ⟨T, _, _, e1, upd_same, by rw [y1]; rfl, R.mono (same_new (s.free e2)) h2⟩⟩
  st := fun s _ ⟨vs, e, q⟩ => ⟨vs, .of (s _ _ e), by unfold fenum; rw [← q.length]; simp⟩
def zenum (m : M τ (List α)) : M τ (List (Int × α)) := bnd m fun xs => ret (fenum xs)
theorem zi_enum {e : Expr} {elts : List Expr} {kk : Nat} {tpos : Pos} {m : M τ (List β)} {R : Rel β} {p pos : Pos} (g : Gb c "enumerate") (hm : G.mg "enumerate" = none) (h : ZE G c E W Γ e m (rLst R)) (hs : ∀ env : PySem.Env, starEach [e] env = [(false, eval e env)] := by intro _; rfl) :
    ZI G c E W Γ (.Tuple elts kk tpos) (.Call (.Name "enumerate" p) [e] [] pos) (zenum m) (rT2 rInt R) := fun X C =>
  pi_wk (pi_enum (C.gl g) (by rw [C.mg]; exact hm) (za_one h (fun env => hs env) X C) (hs X.env)) fun σ H Q ⟨B, S, b, hh, q⟩ => by
    refine tzI_bndA (A := fun x => [(rLst R).pr x]) hh q fun x b1 vs S1 H1 s1 h1 r1 q1 => ?_
    match vs, r1 with
    | [v], ⟨⟨a, us, e1, e2, e3⟩, _⟩ => exact ⟨a, us, by rw [e1], .of (h1.same _ _ e2), q1 _ _ S1 H1 (Same.refl _) h1 src_enum ⟨us, e2, e3⟩⟩

/-! ### for -/
theorem for_src {P : Hp → Hp → Prop} {J : It} {xs : List β} {R : Rel β} {I : Hp → Prop} (src : Src P J xs R I) {g : TG} {tb : TS} {D : Ends} {σ : St} {H : Hp} (Pv : Nat → St → Hp → Prop) (h0 : Pv 0 σ H) (hl : ∀ i σ H, i ≤ xs.length → Pv i σ H → ∃ S, Same S H ∧ P S H ∧ I S)
    (hs : ∀ i y σ H, xs[i]? = some y → Pv i σ H → ∀ x H', J.yld i H x H' → g x σ H' fun σ2 H2 => tb { D with nx := Pv (i + 1), ct := Pv (i + 1), bk := D.nx } σ2 H2) (hd : ∀ σ H, Pv xs.length σ H → D.nx σ H) :
    ∃ W : Nat → Nat → St → Hp → Prop, (∃ m, W 0 m σ H) ∧ ∀ i m σ H, W i m σ H →
      (J.stop i H ∧ D.nx σ H) ∨ (J.go i H ∧ ∃ N : St → Hp → Prop, (∀ σ' H', N σ' H' → ∃ m', m' < m ∧ W (i + 1) m' σ' H') ∧ ∀ x H', J.yld i H x H' → g x σ H' fun σ2 H2 => tb { D with nx := N, ct := N, bk := D.nx } σ2 H2) := by
  refine ⟨fun i m σ H => m = xs.length - i ∧ i ≤ xs.length ∧ Pv i σ H, ⟨xs.length, by simp, Nat.zero_le _, h0⟩, ?_⟩
  rintro i m σ H ⟨rfl, hi, p⟩
  obtain ⟨S, s, hP, hI⟩ := hl i σ H hi p
  by_cases hlt : i < xs.length
  · exact .inr ⟨src.go s hP hI hlt, Pv (i + 1), fun σ' H' p' => ⟨xs.length - (i + 1), by omega, rfl, hlt, p'⟩, fun x H' y => hs i xs[i] σ H (by simp [hlt]) p x H' y⟩
  · have e : i = xs.length := by omega
    subst e
    exact .inl ⟨src.st s hP hI, hd σ H p⟩
def zfor (f : α → β → M τ (Fl α α ρ)) : α → List β → M τ (Fl α κ ρ)
  | a, [] => ret (.nx a)
  | a, x :: xs => fun s => match f a x s with
    | .ok (.nx a') s' => zfor f a' xs s'
    | .ok (.ct a') s' => zfor f a' xs s'
    | .ok (.bk a') s' => .ok (.nx a') s'
    | .ok (.rt r) s' => .ok (.rt r) s'
    | .exc e s' => .exc e s'
    | .stuck => .stuck
def zforI (m : M τ (List β)) (a : α) (f : α → β → M τ (Fl α α ρ)) : M τ (Fl α κ ρ) := bnd m fun xs => zfor f a xs
theorem zs_for {tg iter : Expr} {body : List Stmt} {pos : Pos} {m : M τ (List β)} {a0 : α} {f : α → β → M τ (Fl α α ρ)} {R : Rel β} {Γh : α → Env} {Γb : α → β → Env} {vs : List Nat} (hi : ZI G c E W Γ tg iter m R) (h0 : Sub E Γ (Γh a0)) (hg : ∀ a, ZG G c E W (Γh a) vs tg (Γb a) R)
    (hb : ∀ a x, ZB G c E W ⟨Γh, L.x, L.R, L.o⟩ (Γb a x) body (f a x) Γh) (sx : Sub E Γ L.x) (hs : ∀ (env : PySem.Env) x, foldedSetIterable iter env x = pure x := by intro _ _; rfl) : ZS G c E W L Γ (.For tg iter body [] pos) (zforI m a0 f) Γh := fun X C =>
  ps_wk (ps_for C.owns C.calm (hi X C) (pg_ex fun a => (hg a).1 X C) (pss_ex fun (p : α × β) => hb p.1 p.2 X C) (hs X.env)) fun D σ H hl ⟨B, S, b, hh, q⟩ => by
    refine ⟨B, S, b, hh, ?_⟩
    unfold zforI bnd at q
    cases e : m b with
    | stuck => rw [e] at q; exact q.elim
    | exc x b1 => rw [e] at q; exact fun c d S1 H1 _ h1 xa => let ⟨S2, _, h2⟩ := sx h1; q c d σ S2 H1 h2 xa
    | ok xs b1 =>
      rw [e] at q
      intro J I S1 H1 s1 h1 src hI
      obtain ⟨S2, s2, h2⟩ := h0 h1
      refine for_src (g := fun v σ H Q => ∃ i, tzG E (Γh i) vs (Γb i) R v σ H Q) (tb := fun D σ H => ∃ p : α × β, tzS G E W ⟨Γh, L.x, L.R, L.o⟩ (Γb p.1 p.2) (f p.1 p.2) Γh D σ H) (D := D) src (fun i σ H => ∃ S b a, Same S1 S ∧ Hold E B (Γh a) b σ S H ∧ aftS G E W L B S Γh D (zfor f a (xs.drop i) b)) ⟨S2, b1, a0, s2, h2, (q.same s1).same s2⟩ (fun i σ H _ ⟨S, b, a, s, h, _⟩ => ⟨S, h.same, ⟨b, h.ef⟩, src.mono s hI⟩) ?_ ?_
      · rintro i y σ H hy ⟨S, b, a, s, h, q⟩ x H' yl
        have hd : xs.drop i = y :: xs.drop (i + 1) := by
          obtain ⟨h1, h2⟩ := List.getElem?_eq_some_iff.mp hy
          rw [List.drop_eq_getElem_cons h1, h2]
        rw [hd] at q
        have go : ∀ S' H', Same S S' → Hold E B (Γh a) b σ S' H' → R.is y S' x → (fun v σ H Q => ∃ i, tzG E (Γh i) vs (Γb i) R v σ H Q) x σ H' fun σ2 H2 => (fun D σ H => ∃ p : α × β, tzS G E W ⟨Γh, L.x, L.R, L.o⟩ (Γb p.1 p.2) (f p.1 p.2) Γh D σ H) { D with nx := fun σ H => ∃ S b a, Same S1 S ∧ Hold E B (Γh a) b σ S H ∧ aftS G E W L B S Γh D (zfor f a (xs.drop (i + 1)) b), ct := fun σ H => ∃ S b a, Same S1 S ∧ Hold E B (Γh a) b σ S H ∧ aftS G E W L B S Γh D (zfor f a (xs.drop (i + 1)) b), bk := D.nx } σ2 H2 := by
          intro S' H' s' h' r'
          refine ⟨a, B, S', b, y, h', r', fun σ' _ h'' => ⟨(a, y), B, S', b, h'', ?_⟩⟩
          have q := q.same s'
          unfold zfor at q
          dsimp only at q ⊢
          cases e : f a y b with
          | stuck => rw [e] at q; exact q.elim
          | exc x b1 => rw [e] at q; exact q
          | ok r b2 =>
            rw [e] at q
            cases r with
            | nx a' => exact fun σ3 S3 H3 s3 h3 => ⟨S3, b2, a', (s.trans s').trans s3, h3, q.same s3⟩
            | ct a' => exact fun σ3 S3 H3 s3 h3 => ⟨S3, b2, a', (s.trans s').trans s3, h3, q.same s3⟩
            | bk a' => exact q
            | rt r => exact q
        rcases src.yl h.same ⟨_, h.ef⟩ (src.mono s hI) hy yl with ⟨e1, r⟩ | ⟨p, o, hp, e1, r⟩
        · subst e1; exact go S _ (Same.refl _) h r
        · subst e1; exact go (upd S p o) _ (same_new (h.same.free hp)) (h.new hp) r
      · rintro σ H ⟨S, b, a, s, h, q⟩
        rw [List.drop_length] at q
        exact q σ S H (Same.refl _) h
end
end Zk

namespace Zk
open PySem L2

/-! ### the promise of a def, with what is known of the guards (g) -/
structure FnG (g : Bool) (P : Program) (w : World) (K : PySem.W.Frag) (mg : Str → Option Value) (base : Heap) (k : Nat) (f : Addr) (fd : FuncData) (ps : List Str) (sp : Sp) : Prop where
  len : ∀ vs H Q XE, sp vs H Q XE → vs.length = ps.length
  go : ∀ (A : Around) (out : List PySem.Env) (s : Shared) (H : Hp) (args : Args) (us : List Value) (vs : List V) (Q : VK) (XE : XK), Room k A → (g = true → A.guards = some []) → Env0 P w K mg base A out s H → BindsTo s fd args (ps.zip us) → Vals vs us → sp vs H Q XE →
    codeAny (model P w) A (.call (.ref f) args) (CR (L2.CX P w) out P w H s Q XE) s
section
variable {P : Program} {w : World} {K : PySem.W.Frag} {mg : Str → Option Value} {base : Heap} {k : Nat} {f : Addr} {fd : FuncData} {ps : List Str} {sp : Sp} {g : Bool}
theorem FnG.ok (F : FnG false P w K mg base k f fd ps sp) : FnOk P w K mg base (L2.CX P w) k f fd ps sp := ⟨F.len, fun A out s H args us vs Q XE hr => F.go A out s H args us vs Q XE hr fun z => nomatch z⟩
theorem FnG.up (F : FnG g P w K mg base k f fd ps sp) {g' : Bool} (h : g = true → g' = true) : FnG g' P w K mg base k f fd ps sp := ⟨F.len, fun A out s H args us vs Q XE hr hg => F.go A out s H args us vs Q XE hr fun z => hg (h z)⟩
theorem FnG.mono (F : FnG g P w K mg base k f fd ps sp) {k' : Nat} (h : k ≤ k') : FnG g P w K mg base k' f fd ps sp := ⟨F.len, fun A out s H args us vs Q XE hr => F.go A out s H args us vs Q XE (hr.mono h)⟩
/-- a def by its body, where it stands in the written part -/
theorem fng_mk {nm qual : Str} {prm : Arguments} {body : List Stmt} {scp : Scope} {dV kV doc pm cdv ct oc : Value} {an od : Option Addr} {osl : Array (Option Value)} {N : List Str}
    (lk : K.lookup f = some ⟨oc, od, .func (PySem.W.fnOf nm qual prm body scp dV kV doc pm an cdv ct), osl⟩) (hcd : PySem.W.codeIn K cdv qual = true) (S : FnScope N ps scp) (len : ∀ vs H Q XE, sp vs H Q XE → vs.length = ps.length)
    (hb : ∀ (A : Around) (out : List PySem.Env) (s : Shared) (H : Hp) (vs : List V) (Q : VK) (XE : XK), Room k (A.deeper (PyProof.Rows.envOfC qual scp s.heap.objs.size f cdv)) → (g = true → A.guards = some []) → sp vs H Q XE →
      ∃ t, PSs (cxOf (L2.CX P w) P w K mg base N qual scp f cdv A out s H XE) body t ∧ t { nx := fun _ H' => Q .non H', rt := Q } (start N vs) H) :
    FnG g P w K mg base (k + 1) f (PySem.W.fnOf nm qual prm body scp dV kV doc pm an cdv ct) ps sp :=
  ⟨len, fun A out s H args us vs Q XE hr hg e0 bd rel hsp => by
    have kin : K.In s.heap := e0.mod.kin.keeps fun a o z => (e0.bs a o z).1
    have nol : s.heap.NoLimit := e0.mod.nolimit.keeps fun a o z => (e0.bs a o z).1
    have hl := len _ _ _ _ hsp
    have par : ∀ y ∈ ps.zip us, scp.names.lookup y.1 = some .local ∨ (scp.names.lookup y.1 = some .cell ∧ ((cellsFrom (s.heap.objs.size + 1) scp.names []).lookup y.1).isSome = true) := by
      intro y hy
      rcases S.par y.1 (List.of_mem_zip (a := y.1) (b := y.2) hy).1 with z | z
      · exact Or.inl z
      · exact Or.inr (And.intro z (PySem.W.cellsFrom_some _ _ _ (.inl z)))
    refine codeAny_call_function hr.depth (kin _ _ lk) rfl S.co S.gen rfl (PySem.W.codeRec_of kin hcd) (bd _ _ _ _ (wpAny_newFunctionEnv_cells S.kind par fun env he s1 nw => ?_))
    subst he
    refine ⟨nol.keeps nw.toInCall.keep, codeAny_func ?_⟩
    obtain ⟨t, ht, hq⟩ := hb A out s H vs Q XE (hr.deeper _) hg hsp
    have I := inv_start (CX := L2.CX P w) (mg := mg) (qual := qual) (f := f) (cd := cdv) (E := XE) S hr.hd e0 hl rel nw
    refine wpAny_mono (ht.run [] s1 (start N vs) H _ I hq) (fun fl s' hs => ?_) fun _ _ z => z
    cases fl with
    | ret u => obtain ⟨v, σ', H', J, rv, q⟩ := hs; exact ⟨v, H', J.os, J.bare, J.base, J.hok, rv, q⟩
    | next => obtain ⟨σ', H', J, q⟩ := hs; exact ⟨.non, H', J.os, J.bare, J.base, J.hok, rfl, q⟩
    | brk => obtain ⟨_, _, _, q⟩ := hs; exact q.elim
    | cont => obtain ⟨_, _, _, q⟩ := hs; exact q.elim⟩
theorem fng_D {x qual : Str} {prm : Arguments} {body : List Stmt} {scp : Scope} {dvs : List V} {kws : List (Str × V)} {N : List Str} (F : FunD K x qual prm body scp dvs kws f fd) (S : FnScope N ps scp) (len : ∀ vs H Q XE, sp vs H Q XE → vs.length = ps.length)
    (hb : ∀ (cdv : Value) (A : Around) (out : List PySem.Env) (s : Shared) (H : Hp) (vs : List V) (Q : VK) (XE : XK), Room k (A.deeper (PyProof.Rows.envOfC qual scp s.heap.objs.size f cdv)) → (g = true → A.guards = some []) → sp vs H Q XE →
      ∃ t, PSs (cxOf (L2.CX P w) P w K mg base N qual scp f cdv A out s H XE) body t ∧ t { nx := fun _ H' => Q .non H', rt := Q } (start N vs) H) : FnG g P w K mg base (k + 1) f fd ps sp := by
  obtain ⟨oc, od, dV, kV, doc, pm, an, cdv, ct, osl, rfl, lk, hcd, _⟩ := F.ex
  exact fng_mk lk hcd S len fun A out s H vs Q XE => hb cdv A out s H vs Q XE
theorem fng_F {x qual : Str} {st : Stmt} {N : List Str} (F : Fun K x qual st f fd) (S : FnScope N ps (defScope st)) (len : ∀ vs H Q XE, sp vs H Q XE → vs.length = ps.length)
    (hb : ∀ (cdv : Value) (A : Around) (out : List PySem.Env) (s : Shared) (H : Hp) (vs : List V) (Q : VK) (XE : XK), Room k (A.deeper (PyProof.Rows.envOfC qual (defScope st) s.heap.objs.size f cdv)) → (g = true → A.guards = some []) → sp vs H Q XE →
      ∃ t, PSs (cxOf (L2.CX P w) P w K mg base N qual (defScope st) f cdv A out s H XE) (defBody st) t ∧ t { nx := fun _ H' => Q .non H', rt := Q } (start N vs) H) : FnG g P w K mg base (k + 1) f fd ps sp := by
  obtain ⟨oc, od, kV, doc, pm, an, cdv, ct, osl, rfl, lk, hcd⟩ := F.ex
  exact fng_mk lk hcd S len fun A out s H vs Q XE => hb cdv A out s H vs Q XE
end
section
variable {X : Cx} {k : Nat} {f C : Addr} {fd : FuncData} {ps : List Str} {sp : Sp} {dvs : List V} {ds : List Value} {Ex : St → XK} {x m : Str} {pos apos p : Pos} {e o : Expr} {es : List Expr} {ta : TE} {t : TA} {g : Bool}
abbrev FnX (g : Bool) (X : Cx) := FnG g X.prog X.w X.K X.mg X.base
theorem FnG.run_ {pins : List (Addr × Obj)} {σ : St} {H : Hp} {s : Shared} {Q : VK} {us : List Value} {vs : List V} (F : FnX g X k f fd ps sp) (hr : Room k X.A) (hg : g = true → X.A.guards = some []) (hb : Binds X.K fd ps ds) (hd : Vals dvs ds) (hx : PassesAt (L2.CX X.prog X.w) X σ (Ex σ))
    (I : Inv X pins σ H s) (r : Vals vs us) (h : sp (vs ++ dvs) H Q (Ex σ)) : wpAny (model X.prog X.w) X.A (call (.ref f) us) (EP X pins σ Q) X.xe s := by
  have rr := r.append hd
  refine wpAny_call (codeAny_mono (F.go X.A X.stack s H ⟨us, []⟩ (us ++ ds) (vs ++ dvs) Q (Ex σ) hr hg I.env0 (hb s us I.kIn (rr.length.symm.trans (F.len _ _ _ _ h))) rr h) fun r s' hq => ?_)
  match r with
  | .error z => exact hx pins H s z s' I hq
  | .ok (.ret u) => exact I.after hq
  | .ok .next => exact hq.elim
  | .ok .brk => exact hq.elim
  | .ok .cont => exact hq.elim
theorem pe_callG (F : FnX g X k f fd ps sp) (hr : Room k X.A) (hg : g = true → X.A.guards = some []) (gl : Gl X x) (hm : X.mg x = some (.ref f)) (hk : PySem.W.keepIn X.K (.ref f) = true) (hb : Binds X.K fd ps ds) (hd : Vals dvs ds) (hx : ∀ σ, PassesAt (L2.CX X.prog X.w) X σ (Ex σ))
    (ha : PA X (e :: es) t) (hdb : (x == ("__debug__" : Str)) = false) (he : starEach (e :: es) X.env = (false, eval e X.env) :: starEach es X.env) (hpl : (backTo pos (starEach es X.env)).any (·.1) = false) :
    PE X (.Call (.Name x p) (e :: es) [] pos) (fun σ H Q => t σ H fun vs H1 => sp (vs ++ dvs) H1 Q (Ex σ)) :=
  ⟨fun pins s σ H Q I h => wpAny_Call_Name_kw (ld_glob I gl hm (PySem.W.callWith_K (h₀ := X.base) I.ok.mod.kin hk (thn (ha.run pos pins s σ H _ I h) fun us s1 ⟨vs, H1, I1, r, q⟩ => ⟨I1.kIn, F.run_ hr hg hb hd (hx σ) I1 r q⟩) he hpl) hdb)⟩
end

section
variable {τ α β γ δ κ ρ ι θ : Type} {G : Gx} {c : Sc} {E : Eff τ} {W : WX} {Γ Γ' : Env} {B : Bs} {σ : St} {S S1 S' H H' : Hp} {b b' : τ} {L : Ls κ ρ}
/-! ### defs: their promise, their call -/
def noE : Eff Unit := ⟨fun _ => False, fun _ _ _ => True, fun _ _ _ _ => trivial, fun _ h => h.elim⟩
/-- behind a call: what was one's own stands -/
theorem Hold.call (h : Hold E B Γ b σ S H) (k : Keep E.own ⟨S, H⟩ S' H') (e : E.is b' S' H') : Hold E B Γ b' σ S' H' := by
  obtain ⟨Fs, hF, hs⟩ := h.sl
  refine ⟨⟨k.same, h.kp.up.trans k.up, fun a o h1 h2 h3 => ?_⟩, e, Fs, ⟨fun i a e => ?_, hF.ds⟩, fun i s e => ?_⟩
  · obtain ⟨q1, q2⟩ := h.kp.kp a o h1 h2 h3
    exact k.kp a o q1 q2 h3
  · obtain ⟨q1, q2, q3, o, q4⟩ := hF.at_ i a e
    exact ⟨(k.kp a o q1 q4 q3).1, q2, q3, o, (k.kp a o q1 q4 q3).2⟩
  · have q := hs i s e
    cases s with
    | no => trivial
    | st p => obtain ⟨x, e1, e2⟩ := q; exact ⟨x, e1, p.mono k.up e2⟩
    | ow p => obtain ⟨x, e1, e2⟩ := q; exact ⟨x, e1, p.mono k.up (fun a o ha e => by
        obtain ⟨q1, _, q3, _⟩ := hF.at_ i a ha
        exact (k.kp a o q1 e q3).2) e2⟩
    | gh p => exact p.mono k.up (fun a o ha e => by
        obtain ⟨q1, _, q3, _⟩ := hF.at_ i a ha
        exact (k.kp a o q1 e q3).2) q
theorem Hold.callP (h : Hold E B Γ b σ S H) (k : Keep (fun _ => False) ⟨S, H⟩ S' H') : Hold E B Γ b σ S' H' := by
  refine h.grow k.up k.same (fun a o h1 h2 => k.kp a o h1 h2 id) fun a ha hs => ?_
  obtain ⟨_, o, ho⟩ := E.th h.ef ha
  exact (k.kp a o hs ho id).1
def finZ (G : Gx) (E : Eff τ) (S H : Hp) (R : Rel ρ) (Q : VK) (XE : XK) : Out τ ρ → Prop
  | .ok r b' => ∀ v S' H', Keep E.own ⟨S, H⟩ S' H' → E.is b' S' H' → R.is r S' v → Q v H'
  | .exc e b' => ∀ c d S' H', Keep E.own ⟨S, H⟩ S' H' → E.is b' S' H' → XAt G e H' c d → XE c d H'
  | .stuck => False
/-- the promise of a def: of what stands for x (the addresses q of what it may change are the caller's) it hands back what m x tells -/
def spZ (G : Gx) (E : θ → Eff τ) (A : θ → α → List Pr) (m : α → M τ ρ) (R : Rel ρ) : Sp := fun vs H Q XE => ∃ q x S b, All2 (fun (p : Pr) v => p.p S v) (A q x) vs ∧ Same S H ∧ (E q).is b S H ∧ finZ G (E q) S H R Q XE (m x b)
structure FnAt (g : Bool) (G : Gx) (x : Str) (k : Nat) (ps : List Str) (sp : Sp) : Prop where
  ex : ∃ f fd, G.mg x = some (.ref f) ∧ PySem.W.keepIn G.K (.ref f) = true ∧ Binds G.K fd ps [] ∧ FnG g G.P G.w G.K G.mg G.base k f fd ps sp
theorem tz_sp {E' : θ → Eff τ} {A : θ → α → List Pr} {m : α → M τ ρ} {R : Rel ρ} {q : θ} {x : α} {vs : List V} {Q : VK} (hE : E' q = E) (h : Hold E B Γ b σ S H) (r : All2 (fun (p : Pr) v => p.p S v) (A q x) vs) (a : aft G E W B Γ σ S R Q (m x b)) : spZ G E' A m R vs H Q (WE W σ) := by
  subst hE
  refine ⟨q, x, S, b, r, h.same, h.ef, ?_⟩
  cases e : m x b with
  | stuck => rw [e] at a; exact a.elim
  | exc e b' => rw [e] at a; exact fun c d S' H' k he xa => a c d S' H' k.up (h.call k he) xa
  | ok r b' => rw [e] at a; exact fun v S' H' k he rr => a v S' H' k.up (h.call k he) rr
theorem tz_spP {A : θ → α → List Pr} {m : α → M Unit ρ} {R : Rel ρ} {q : θ} {x : α} {vs : List V} {Q : VK} (h : Hold E B Γ b σ S H) (r : All2 (fun (p : Pr) v => p.p S v) (A q x) vs) (a : aft G E W B Γ σ S R Q (lft (m x) b)) : spZ G (fun _ => noE) A m R vs H Q (WE W σ) := by
  refine ⟨q, x, S, (), r, h.same, trivial, ?_⟩
  unfold lft at a
  cases e : m x () with
  | stuck => rw [e] at a; exact a.elim
  | exc e b' => rw [e] at a; exact fun c d S' H' k he xa => a c d S' H' k.up (h.callP k) xa
  | ok r b' => rw [e] at a; exact fun v S' H' k he rr => a v S' H' k.up (h.callP k) rr
theorem z_call {g : Bool} {x : Str} {k : Nat} {ps : List Str} {E' : θ → Eff τ} {A : θ → α → List Pr} {f : α → M τ ρ} {R : Rel ρ} {q : θ} {e : Expr} {es : List Expr} {m : M τ α} {p pos : Pos} (F : FnAt g G x k ps (spZ G E' A f R)) (hE : E' q = E) (hk : k ≤ c.k) (hg : g = true → c.gd = true) (gb : Gb c x) (ha : ZA G c E W Γ (e :: es) m (A q))
    (hd : (x == ("__debug__" : Str)) = false := by decide) (he : Star e es := by intro _; rfl) (hpl : ∀ env : PySem.Env, (backTo pos (starEach es env)).any (·.1) = false := by intro _; rfl) : ZE G c E W Γ (.Call (.Name x p) (e :: es) [] pos) (zapp f m) R := fun X C => by
  obtain ⟨f0, fd, h1, h2, h3, h4⟩ := F.ex
  rw [← C.prog, ← C.w, ← C.K, ← C.mg, ← C.base] at h4
  rw [← C.mg] at h1
  rw [← C.K] at h2 h3
  exact pe_wk (pe_callG (Ex := WE W) h4 (C.room.mono hk) (fun z => C.gds (hg z)) (C.gl gb) h1 h2 h3 .nil (passAt C.takes) (ha X C) hd (he _) (hpl _)) fun σ H Q _ ⟨B, S, b, hh, qq⟩ =>
    tz_Abnd hh qq fun x b1 vs S1 H1 s1 hh1 r1 q1 => by rw [List.append_nil]; exact tz_sp hE hh1 r1 q1
theorem z_callP {g : Bool} {x : Str} {k : Nat} {ps : List Str} {A : θ → α → List Pr} {f : α → M Unit ρ} {R : Rel ρ} {q : θ} {e : Expr} {es : List Expr} {m : M τ α} {p pos : Pos} (F : FnAt g G x k ps (spZ G (fun _ => noE) A f R)) (hk : k ≤ c.k) (hg : g = true → c.gd = true) (gb : Gb c x) (ha : ZA G c E W Γ (e :: es) m (A q))
    (hd : (x == ("__debug__" : Str)) = false := by decide) (he : Star e es := by intro _; rfl) (hpl : ∀ env : PySem.Env, (backTo pos (starEach es env)).any (·.1) = false := by intro _; rfl) : ZE G c E W Γ (.Call (.Name x p) (e :: es) [] pos) (zapp (fun x => lft (f x)) m) R := fun X C => by
  obtain ⟨f0, fd, h1, h2, h3, h4⟩ := F.ex
  rw [← C.prog, ← C.w, ← C.K, ← C.mg, ← C.base] at h4
  rw [← C.mg] at h1
  rw [← C.K] at h2 h3
  exact pe_wk (pe_callG (Ex := WE W) h4 (C.room.mono hk) (fun z => C.gds (hg z)) (C.gl gb) h1 h2 h3 .nil (passAt C.takes) (ha X C) hd (he _) (hpl _)) fun σ H Q _ ⟨B, S, b, hh, qq⟩ =>
    tz_Abnd hh qq fun x b1 vs S1 H1 s1 hh1 r1 q1 => by rw [List.append_nil]; exact tz_spP hh1 r1 q1
/-! ### a def's body -/
/-- behind a body that may go on to its end -/
def zfin (n : α → M τ ρ) (m : M τ (Fl α κ ρ)) : M τ ρ := fun s => match m s with
  | .ok (.nx a) s' => n a s'
  | .ok (.rt r) s' => .ok r s'
  | .ok _ _ => .stuck
  | .exc e s' => .exc e s'
  | .stuck => .stuck
/-- a def never ends but by return -/
def zbody (m : M τ (Fl α κ ρ)) : M τ ρ := zfin (fun _ => stk) m
def envOf (n : Nat) (ps : List Pr) : Env := ps.map .st ++ List.replicate (n - ps.length) .no
theorem hold_start {q : Eff τ} {S H : Hp} {ps : List Pr} {vs : List V} {N : List Str} (s : Same S H) (he : q.is b S H) (r : All2 (fun (p : Pr) v => p.p S v) ps vs) : Hold q ⟨S, H⟩ (envOf N.length ps) b (L2.start N vs) S H := by
  refine ⟨⟨s, Same.refl _, fun a o h1 h2 _ => ⟨h1, h2⟩⟩, he, fun _ _ => False, ⟨fun _ _ h => h.elim, fun _ _ _ h => h.elim⟩, fun i sl e => ?_⟩
  unfold envOf at e
  unfold L2.start
  by_cases hi : i < ps.length
  · rw [List.getElem?_append_left (by simpa using hi), List.getElem?_map] at e
    cases e2 : ps[i]? with
    | none => rw [e2] at e; cases e
    | some p =>
      rw [e2] at e; cases e
      obtain ⟨v, h1, h2⟩ := r.get e2
      rw [List.getElem?_append_left (by rw [List.length_map, ← r.length]; exact hi), List.getElem?_map, h1]
      exact ⟨v, rfl, h2⟩
  · rw [List.getElem?_append_right (by simpa using hi), List.getElem?_replicate] at e
    split at e
    · cases e; trivial
    · cases e
theorem All2.len {r : Pr → V → Prop} {ps : List Pr} {vs : List V} (h : All2 r ps vs) : vs.length = ps.length := h.length.symm
/-- THE RULE for a def: its body's mirror -/
theorem fn_ok {g : Bool} {x qual : Str} {st : Stmt} {f : Addr} {fd : FuncData} {N ps : List Str} {k : Nat} {E : θ → Eff τ} {A : θ → α → List Pr} {m : α → M τ ρ} {R : Rel ρ} {mb : α → M τ (Fl β Empty ρ)} {Γn : θ → α → β → Env} {n : α → β → M τ ρ} (F : Fun G.K x qual st f fd) (sc : FnScope N ps (defScope st))
    (hA : ∀ q x, (A q x).length = ps.length) (hm : ∀ x, m x = zfin (n x) (mb x)) (hn : (∀ x a, n x a = stk) ∨ (∀ x a, ∃ r, n x a = ret r ∧ ∀ S, R.is r S .non))
    (hb : ∀ q x (W : WX), ZB G ⟨N, defScope st, k, true, fun _ => true, g⟩ (E q) W ⟨fun e : Empty => e.elim, [], R, fun _ _ => []⟩ (envOf N.length (A q x)) (defBody st) (mb x) (Γn q x)) :
    FnG g G.P G.w G.K G.mg G.base (k + 1) f fd ps (spZ G E A m R) := by
  refine fng_F F sc (fun vs H Q XE h => ?_) (fun cdv A0 outer s H vs Q XE hr hgd h => ?_)
  · obtain ⟨q, x, S, b, r, _⟩ := h
    rw [← r.length, hA]
  · obtain ⟨q, x, S, b, r, hs, he, fz⟩ := h
    let W : WX := fun cls d _ H => XE cls d H
    have C : CtxOk G ⟨N, defScope st, k, true, fun _ => true, g⟩ W (cxOf (L2.CX G.P G.w) G.P G.w G.K G.mg G.base N qual (defScope st) f cdv A0 outer s H XE) :=
      ⟨rfl, rfl, rfl, rfl, rfl, rfl, sc.nd, rfl, rfl, hr, hgd, takes_of rfl rfl rfl rfl, passes_of rfl, rfl, fun _ => ⟨rfl, rfl⟩⟩
    refine ⟨_, hb q x W _ C, ⟨S, H⟩, S, b, hold_start hs he r, ?_⟩
    rw [hm] at fz
    unfold zfin at fz
    cases e : mb x b with
    | stuck => rw [e] at fz; exact fz.elim
    | exc e b' => rw [e] at fz; exact fun c d σ' S' H' h xa => fz c d S' H' h.kp h.ef xa
    | ok r b' =>
      rw [e] at fz
      cases r with
      | bk k => exact k.elim
      | ct k => exact k.elim
      | rt r => exact fun v σ' S' H' h rr => fz v S' H' h.kp h.ef rr
      | nx a =>
        intro σ' S' H' _ h
        rcases hn with hn | hn
        · have fz : finZ G (E q) S H R Q XE (n x a b') := fz
          rw [hn] at fz; exact fz.elim
        · obtain ⟨r, hr, hR⟩ := hn x a
          have fz : finZ G (E q) S H R Q XE (n x a b') := fz
          rw [hr] at fz
          exact fz .non S' H' h.kp h.ef (hR S')
end
end Zk

namespace Zk
open PySem L2

section
variable {τ α β γ δ κ ρ ι θ : Type} {G : Gx} {c : Sc} {E : Eff τ} {W : WX} {Γ Γ' : Env} {B : Bs} {σ : St} {S S1 S' H H' : Hp} {b b' : τ} {L : Ls κ ρ}
/-! ### what is one's own -/
def ownL (R : Rel α) (xs : List α) : PrO := ⟨fun S H v F => ∃ l vs, v = .ref l ∧ (∀ a, F a ↔ a = l) ∧ H l = some (.lst vs) ∧ All2 (fun x v => R.is x S v) xs vs,
  fun s k ⟨l, vs, e, f, h, q⟩ => ⟨l, vs, e, f, k _ _ ((f l).mpr rfl) h, All2.rel s q⟩⟩
/-- an instance of the class at C with (at least) these fields, the first told of a name counts -/
def ownO (q0 : Addr → Prop) (C : Addr) (fs : List (Str × Pr)) : PrO := ⟨fun S H v F => ∃ l dx vs, v = .ref l ∧ q0 l ∧ (∀ a, F a ↔ a = l) ∧ H l = some (.ins C dx vs) ∧ vs.length ≤ fs.length ∧ (∀ k, fs.lookup k = none → vs.lookup k = none) ∧ ∀ f p, fs.lookup f = some p → ∃ u, vs.lookup f = some u ∧ p.p S u,
  fun s k ⟨l, dx, vs, e, e0, f, h, hl, hn, q⟩ => ⟨l, dx, vs, e, e0, f, k _ _ ((f l).mpr rfl) h, hl, hn, fun f p e => let ⟨u, h1, h2⟩ := q f p e; ⟨u, h1, p.mono s h2⟩⟩⟩
/-- a thing of one's own, what it is where all of it is stable -/
structure One (p : PrO) (q : Pr) : Prop where
  at_ : ∀ {S H : Hp} {v : V} {F : Addr → Prop}, p.p S H v F → ∀ S', Same S S' → (∀ a o, F a → H a = some o → S' a = some o) → q.p S' v
theorem one_L {R : Rel α} {xs : List α} : One (ownL R xs) ((rLst R).pr xs) := ⟨fun ⟨l, vs, e, f, h, q⟩ S' s k => ⟨l, vs, e, k _ _ ((f l).mpr rfl) h, All2.rel s q⟩⟩
open Classical in
/-- becomes stable -/
theorem Hold.frz {i : Nat} {p : PrO} {q : Pr} (one : One p q) (h : Hold E B Γ b σ S H) (hi : Γ[i]? = some (.ow p)) : ∃ S', Same S S' ∧ Hold E B (Γ.set i (.st q)) b σ S' H := by
  obtain ⟨Fs, hF, hs⟩ := h.sl
  obtain ⟨v, e1, e2⟩ := hs i _ hi
  let T : Hp := fun a => if Fs i a then H a else S a
  have ti : ∀ a, Fs i a → T a = H a := fun a z => if_pos z
  have tn : ∀ a, ¬ Fs i a → T a = S a := fun a z => if_neg z
  have sm : Same S T := fun a o e => by
    rw [tn a fun z => by rw [(hF.at_ i a z).1] at e; cases e]; exact e
  refine ⟨T, sm, ⟨fun a o e => ?_, h.kp.up.trans sm, fun a o h1 h2 h3 => ?_⟩, E.mono sm (fun a ha hn => ?_) (fun _ _ _ e => e) h.ef, fun j a => j ≠ i ∧ Fs j a, ⟨fun j a ⟨n, e⟩ => ?_, fun j k a e1 e2 => hF.ds _ _ a e1.2 e2.2⟩, fun j s e => ?_⟩
  · by_cases ha : Fs i a
    · rw [ti a ha] at e; exact e
    · rw [tn a ha] at e; exact h.same _ _ e
  · obtain ⟨r1, r2⟩ := h.kp.kp a o h1 h2 h3
    rw [tn a fun z => by rw [(hF.at_ i a z).2.1] at h2; cases h2]; exact ⟨r1, r2⟩
  · rw [tn a fun z => (hF.at_ i a z).2.2.1 ha]; exact hn
  · obtain ⟨r1, r2, r3, r4⟩ := hF.at_ j a e
    rw [tn a fun z => n (hF.ds j i a e z)]; exact ⟨r1, r2, r3, r4⟩
  · rcases set_get e with ⟨rfl, rfl⟩ | ⟨n, e⟩
    · exact ⟨_, e1, one.at_ e2 T sm fun a o z e => by rw [ti a z]; exact e⟩
    · have q := hs j s e
      cases s with
      | no => trivial
      | st p => obtain ⟨x, e1, e2⟩ := q; exact ⟨x, e1, p.mono sm e2⟩
      | ow p =>
        obtain ⟨x, e1, e2⟩ := q
        refine ⟨x, e1, ?_⟩
        have ef : (fun a => j ≠ i ∧ Fs j a) = Fs j := funext fun a => propext ⟨fun z => z.2, fun z => ⟨n, z⟩⟩
        show p.p T H x (fun a => j ≠ i ∧ Fs j a)
        rw [ef]
        exact p.mono sm (fun _ _ _ e => e) e2
      | gh p =>
        have ef : (fun a => j ≠ i ∧ Fs j a) = Fs j := funext fun a => propext ⟨fun z => z.2, fun z => ⟨n, z⟩⟩
        show p.p T H .non (fun a => j ≠ i ∧ Fs j a)
        rw [ef]
        exact p.mono sm (fun _ _ _ e => e) q
theorem sub_frz {i : Nat} {p : PrO} {q : Pr} (one : One p q) (hi : Γ[i]? = some (.ow p) := by rfl) : Sub E Γ (Γ.set i (.st q)) := fun h => h.frz one hi
/-- kinds whose things have nothing in the heap -/
structure Flat (R : Rel α) : Prop where
  h : ∀ {x : α} {S S' : Hp} {v : V}, R.is x S v → R.is x S' v
theorem fl_int : Flat rInt := ⟨fun h => h⟩
theorem fl_str : Flat rStr := ⟨fun h => h⟩
/-- what may change hangs on nothing stable -/
structure Free (E : Eff τ) : Prop where
  h : ∀ {b : τ} {S S' H : Hp}, (∀ a, E.own a → S' a = none) → E.is b S H → E.is b S' H
theorem free_no : Free noE := ⟨fun _ h => h⟩
/-- all that is one's own, as if it were stable -/
inductive Frz : Env → Env → Prop
  | nil : Frz [] []
  | no {l l' : Env} : Frz l l' → Frz (.no :: l) (.no :: l')
  | st {p : Pr} {l l' : Env} : Frz l l' → Frz (.st p :: l) (.st p :: l')
  | ow {p : PrO} {q : Pr} {l l' : Env} : One p q → Frz l l' → Frz (.ow p :: l) (.st q :: l')
  | gh {p : PrO} {l l' : Env} : Frz l l' → Frz (.gh p :: l) (.no :: l')
theorem Frz.get : ∀ {l l' : Env}, Frz l l' → ∀ {i : Nat} {s : Sl}, l'[i]? = some s → s = .no ∨ (∃ p, s = .st p ∧ l[i]? = some (.st p)) ∨ ∃ p q, s = .st q ∧ One p q ∧ l[i]? = some (.ow p)
  | _, _, .nil, i, s, h => by simp at h
  | _, _, .no f, 0, s, h => by simp at h; exact .inl h.symm
  | _, _, .st f, 0, s, h => by simp at h; exact .inr (.inl ⟨_, h.symm, rfl⟩)
  | _, _, .ow one f, 0, s, h => by simp at h; exact .inr (.inr ⟨_, _, h.symm, one, rfl⟩)
  | _, _, .gh f, 0, s, h => by simp at h; exact .inl h.symm
  | _, _, .no f, i + 1, s, h => by simpa using f.get (i := i) (by simpa using h)
  | _, _, .st f, i + 1, s, h => by simpa using f.get (i := i) (by simpa using h)
  | _, _, .ow one f, i + 1, s, h => by simpa using f.get (i := i) (by simpa using h)
  | _, _, .gh f, i + 1, s, h => by simpa using f.get (i := i) (by simpa using h)
open Classical in
/-- read as if stable, then one's own again (what is in ghost slots is hidden) -/
theorem Hold.lend (fz : Frz Γ Γ') (fr : Free E) (h : Hold E B Γ b σ S H) : ∃ B1 Sp, Same S Sp ∧ Hold E B1 Γ' b σ Sp H ∧ ∀ b1 S2 H2, Same Sp S2 → Hold E B1 Γ' b1 σ S2 H2 → ∃ S3, Same S S3 ∧ Hold E B Γ b1 σ S3 H2 := by
  obtain ⟨Fs, hF, hs⟩ := h.sl
  let Ow : Addr → Prop := fun a => ∃ i p, Γ[i]? = some (.ow p) ∧ Fs i a
  let Gh : Addr → Prop := fun a => ∃ i p, Γ[i]? = some (.gh p) ∧ Fs i a
  have nS : ∀ a, Ow a → S a = none := fun a ⟨i, p, _, e⟩ => (hF.at_ i a e).1
  have nB : ∀ a, Ow a → B.H a = none := fun a ⟨i, p, _, e⟩ => (hF.at_ i a e).2.1
  have nE : ∀ a, Ow a → ¬ E.own a := fun a ⟨i, p, _, e⟩ => (hF.at_ i a e).2.2.1
  have gS : ∀ a, Gh a → S a = none := fun a ⟨i, p, _, e⟩ => (hF.at_ i a e).1
  have gB : ∀ a, Gh a → B.H a = none := fun a ⟨i, p, _, e⟩ => (hF.at_ i a e).2.1
  have gE : ∀ a, Gh a → ¬ E.own a := fun a ⟨i, p, _, e⟩ => (hF.at_ i a e).2.2.1
  have gO : ∀ a, Gh a → ¬ Ow a := fun a ⟨i, p, ep, e⟩ ⟨j, p', ep', e'⟩ => by
    have := hF.ds i j a e e'
    subst this
    rw [ep] at ep'; cases ep'
  have sm : Same S (fun a => if Ow a then H a else S a) := fun a o e => by
    have n : ¬ Ow a := fun z => by rw [nS a z] at e; cases e
    show (if Ow a then H a else S a) = some o
    rw [if_neg n]; exact e
  have bS : ∀ a, Gh a → B.S a = none := fun a ha => by
    cases e : B.S a with
    | none => rfl
    | some o => have := h.kp.up _ _ e; rw [gS a ha] at this; cases this
  have b1H : ∀ a, Gh a → (⟨B.S, fun a => if Gh a then H a else B.H a⟩ : Bs).H a = H a := fun a z => if_pos z
  have b2H : ∀ a, ¬ Gh a → (⟨B.S, fun a => if Gh a then H a else B.H a⟩ : Bs).H a = B.H a := fun a z => if_neg z
  refine ⟨⟨B.S, fun a => if Gh a then H a else B.H a⟩, fun a => if Ow a then H a else S a, sm, ⟨⟨fun a o e => ?_, h.kp.up.trans sm, fun a o h1 h2 h3 => ?_⟩, E.mono sm (fun a ha hn => ?_) (fun _ _ _ e => e) h.ef, fun _ _ => False, ⟨fun _ _ z => z.elim, fun _ _ _ z => z.elim⟩, fun i s e => ?_⟩, fun b1 S2 H2 s2 h2 => ?_⟩
  · have e : (if Ow a then H a else S a) = some o := e
    by_cases ha : Ow a
    · rw [if_pos ha] at e; exact e
    · rw [if_neg ha] at e; exact h.same _ _ e
  · by_cases hg : Gh a
    · rw [b1H a hg] at h2
      exact ⟨by show (if Ow a then H a else S a) = none; rw [if_neg (gO a hg)]; exact gS a hg, h2⟩
    · rw [b2H a hg] at h2
      have n : ¬ Ow a := fun z => by rw [nB a z] at h2; cases h2
      obtain ⟨r1, r2⟩ := h.kp.kp a o h1 h2 h3
      exact ⟨by show (if Ow a then H a else S a) = none; rw [if_neg n]; exact r1, r2⟩
  · show (if Ow a then H a else S a) = none
    rw [if_neg fun z => nE a z ha]; exact hn
  · rcases fz.get e with rfl | ⟨p, rfl, e'⟩ | ⟨p, q, rfl, one, e'⟩
    · trivial
    · obtain ⟨x, e1, e2⟩ := hs i _ e'; exact ⟨x, e1, p.mono sm e2⟩
    · obtain ⟨x, e1, e2⟩ := hs i _ e'
      refine ⟨_, e1, one.at_ e2 _ sm fun a o z e => ?_⟩
      show (if Ow a then H a else S a) = some o
      rw [if_pos ⟨i, p, e', z⟩]; exact e
  · have kk : ∀ a o, Ow a → H a = some o → H2 a = some o := fun a o ha e => h2.same _ _ (s2 _ _ (by show (if Ow a then H a else S a) = some o; rw [if_pos ha]; exact e))
    have kg : ∀ a o, Gh a → H a = some o → S2 a = none ∧ H2 a = some o := fun a o ha e => h2.kp.kp a o (bS a ha) (by rw [b1H a ha]; exact e) (gE a ha)
    have sm2 : Same S (fun a => if Ow a then none else S2 a) := fun a o e => by
      have n : ¬ Ow a := fun z => by rw [nS a z] at e; cases e
      show (if Ow a then none else S2 a) = some o
      rw [if_neg n]; exact s2 _ _ (sm _ _ e)
    have hOG : ∀ i p a, Γ[i]? = some (.ow p) → Fs i a → Ow a := fun i p a ep e => ⟨i, p, ep, e⟩
    refine ⟨fun a => if Ow a then none else S2 a, sm2, ⟨⟨fun a o e => ?_, h.kp.up.trans sm2, fun a o h1 h2' h3 => ?_⟩, fr.h (fun a ha => ?_) h2.ef, fun i a => ((∃ p, Γ[i]? = some (.ow p)) ∨ ∃ p, Γ[i]? = some (.gh p)) ∧ Fs i a, ⟨fun i a ⟨ep, e⟩ => ?_, fun i j a e1 e2 => hF.ds _ _ a e1.2 e2.2⟩, fun i s e => ?_⟩⟩
    · have e : (if Ow a then none else S2 a) = some o := e
      by_cases ha : Ow a
      · rw [if_pos ha] at e; cases e
      · rw [if_neg ha] at e; exact h2.same _ _ e
    · have n : ¬ Ow a := fun z => by rw [nB a z] at h2'; cases h2'
      have n2 : ¬ Gh a := fun z => by rw [gB a z] at h2'; cases h2'
      obtain ⟨r1, r2⟩ := h2.kp.kp a o h1 (by rw [b2H a n2]; exact h2') h3
      exact ⟨by show (if Ow a then none else S2 a) = none; rw [if_neg n]; exact r1, r2⟩
    · show (if Ow a then none else S2 a) = none
      rw [if_neg fun z => nE a z ha]; exact (E.th h2.ef ha).1
    · obtain ⟨r1, r2, r3, o, r4⟩ := hF.at_ i a e
      rcases ep with ⟨p, ep⟩ | ⟨p, ep⟩
      · refine ⟨?_, r2, r3, o, kk a o ⟨i, p, ep, e⟩ r4⟩
        show (if Ow a then none else S2 a) = none
        rw [if_pos ⟨i, p, ep, e⟩]
      · obtain ⟨z1, z2⟩ := kg a o ⟨i, p, ep, e⟩ r4
        refine ⟨?_, r2, r3, o, z2⟩
        show (if Ow a then none else S2 a) = none
        split
        · rfl
        · exact z1
    · have q := hs i s e
      cases s with
      | no => trivial
      | st p => obtain ⟨x, e1, e2⟩ := q; exact ⟨x, e1, p.mono sm2 e2⟩
      | ow p =>
        obtain ⟨x, e1, e2⟩ := q
        refine ⟨x, e1, ?_⟩
        have ef : (fun a => ((∃ p, Γ[i]? = some (.ow p)) ∨ ∃ p, Γ[i]? = some (.gh p)) ∧ Fs i a) = Fs i := funext fun a => propext ⟨fun z => z.2, fun z => ⟨.inl ⟨p, e⟩, z⟩⟩
        show p.p _ H2 x (fun a => ((∃ p, Γ[i]? = some (.ow p)) ∨ ∃ p, Γ[i]? = some (.gh p)) ∧ Fs i a)
        rw [ef]
        exact p.mono sm2 (fun a o ha e' => kk a o ⟨i, p, e, ha⟩ e') e2
      | gh p =>
        have ef : (fun a => ((∃ p, Γ[i]? = some (.ow p)) ∨ ∃ p, Γ[i]? = some (.gh p)) ∧ Fs i a) = Fs i := funext fun a => propext ⟨fun z => z.2, fun z => ⟨.inr ⟨p, e⟩, z⟩⟩
        show p.p _ H2 .non (fun a => ((∃ p, Γ[i]? = some (.ow p)) ∨ ∃ p, Γ[i]? = some (.gh p)) ∧ Fs i a)
        rw [ef]
        exact p.mono sm2 (fun a o ha e' => (kg a o ⟨i, p, e, ha⟩ e').2) q
theorem z_lend {e : Expr} {m : M τ α} {R : Rel α} (fz : Frz Γ Γ') (fr : Free E) (fl : Flat R) (h : ZE G c E W Γ' e m R) : ZE G c E W Γ e m R := fun X C => pe_wk (h X C) fun σ H Q _ ⟨B, S, b, hh, q⟩ => by
  obtain ⟨B1, Sp, s, hp, back⟩ := hh.lend fz fr
  refine ⟨B1, Sp, b, hp, ?_⟩
  cases e : m b with
  | stuck => rw [e] at q; exact q.elim
  | exc x b1 => rw [e] at q; exact fun c d S' H' s' h' xa => let ⟨S3, s3, h3⟩ := back b1 S' H' s' h'; q c d S3 H' s3 h3 xa
  | ok a b1 => rw [e] at q; exact fun v S' H' s' h' r => let ⟨S3, s3, h3⟩ := back b1 S' H' s' h'; q v S3 H' s3 h3 (fl.h r)
theorem zt_lend {e : Expr} {m : M τ Bool} (fz : Frz Γ Γ') (fr : Free E) (h : ZT G c E W Γ' e m) : ZT G c E W Γ e m := fun X C => pt_wk (h X C) fun σ H Q _ ⟨B, S, b, hh, q⟩ => by
  obtain ⟨B1, Sp, s, hp, back⟩ := hh.lend fz fr
  refine ⟨B1, Sp, b, hp, ?_⟩
  cases e : m b with
  | stuck => rw [e] at q; exact q.elim
  | exc x b1 => rw [e] at q; exact fun c d S' H' s' h' xa => let ⟨S3, s3, h3⟩ := back b1 S' H' s' h'; q c d S3 H' s3 h3 xa
  | ok a b1 => rw [e] at q; exact fun S' H' s' h' => let ⟨S3, s3, h3⟩ := back b1 S' H' s' h'; q S3 H' s3 h3
end
end Zk

namespace Zk
open PySem L2

section
variable {τ α β γ δ κ ρ ι θ : Type} {G : Gx} {c : Sc} {E : Eff τ} {W : WX} {Γ Γ' : Env} {B : Bs} {σ : St} {S S1 S' H H' : Hp} {b b' : τ} {L : Ls κ ρ}
/-! ### new things that are one's own -/
def aftF (G : Gx) (E : Eff τ) (W : WX) (B : Bs) (Γ : Env) (σ : St) (S : Hp) (P : α → PrO) (Q : VK) : Out τ α → Prop
  | .ok a b' => ∀ v S' H1 H' F, Same S S' → Hold E B Γ b' σ S' H1 → (∀ x, F x → H1 x = none ∧ ∃ o, H' x = some o) → (∀ x, ¬ F x → H' x = H1 x) → (P a).p S' H' v F → Q v H'
  | .exc x b' => ∀ c d S' H', Same S S' → Hold E B Γ b' σ S' H' → XAt G x H' c d → W c d σ H'
  | .stuck => False
theorem aftF.same {P : α → PrO} {Q : VK} (s : Same S S1) : ∀ {o : Out τ α}, aftF G E W B Γ σ S P Q o → aftF G E W B Γ σ S1 P Q o
  | .ok _ _, h => fun v S' H1 H' F s2 => h v S' H1 H' F (s.trans s2)
  | .exc _ _, h => fun c d S' H' s2 => h c d S' H' (s.trans s2)
  | .stuck, h => h
def tzF (G : Gx) (E : Eff τ) (W : WX) (Γ : Env) (m : M τ α) (P : α → PrO) : TE := fun σ H Q => ∃ B S b, Hold E B Γ b σ S H ∧ aftF G E W B Γ σ S P Q (m b)
def ZF (G : Gx) (c : Sc) (E : Eff τ) (W : WX) (Γ : Env) (e : Expr) (m : M τ α) (P : α → PrO) : Prop := ∀ X, CtxOk G c W X → PE X e (tzF G E W Γ m P)
theorem tz_bndF {m : M τ α} {f : α → M τ β} {R : Rel α} {Q : VK} {Q' : VK} {P : β → PrO} (hh : Hold E B Γ b σ S H) (h : aftF G E W B Γ σ S P Q (bnd m f b))
    (k : ∀ x b1 v S1 H1, Same S S1 → Hold E B Γ b1 σ S1 H1 → R.is x S1 v → aftF G E W B Γ σ S1 P Q (f x b1) → Q' v H1) : tzE G E W Γ m R σ H Q' := by
  refine ⟨B, S, b, hh, ?_⟩
  unfold bnd at h
  cases e : m b with
  | ok a b1 => rw [e] at h; exact fun v S1 H1 s h1 r => k a b1 v S1 H1 s h1 r (h.same s)
  | exc x b1 => rw [e] at h; exact h
  | stuck => rw [e] at h; exact h.elim
theorem tz_AbndF {m : M τ α} {f : α → M τ β} {A : α → List Pr} {P : β → PrO} {Q : VK} {Q' : List V → Hp → Prop} (hh : Hold E B Γ b σ S H) (h : aftF G E W B Γ σ S P Q (bnd m f b))
    (k : ∀ x b1 vs S1 H1, Same S S1 → Hold E B Γ b1 σ S1 H1 → All2 (fun (p : Pr) v => p.p S1 v) (A x) vs → aftF G E W B Γ σ S1 P Q (f x b1) → Q' vs H1) : tzA G E W Γ m A σ H Q' := by
  refine ⟨B, S, b, hh, ?_⟩
  unfold bnd at h
  cases e : m b with
  | ok a b1 => rw [e] at h; exact fun v S1 H1 s h1 r => k a b1 v S1 H1 s h1 r (h.same s)
  | exc x b1 => rw [e] at h; exact h
  | stuck => rw [e] at h; exact h.elim
theorem aftF_chk {P : α → PrO} {Q : VK} {p : Prop} [Decidable p] {m : M τ α} (h : aftF G E W B Γ σ S P Q (chk p m b)) : p ∧ aftF G E W B Γ σ S P Q (m b) := by
  unfold chk at h
  by_cases hp : p
  · rw [if_pos hp] at h; exact ⟨hp, h⟩
  · rw [if_neg hp] at h; exact h.elim
/-- one new object -/
theorem aftF_new {P : α → PrO} {Q : VK} {a : α} {p : Addr} {o : HO} (hh : Hold E B Γ b σ S H) (h : aftF G E W B Γ σ S P Q (ret a b)) (hp : H p = none) (r : (P a).p S (upd H p o) (.ref p) (fun x => x = p)) : Q (.ref p) (upd H p o) :=
  h _ S H _ (fun x => x = p) (Same.refl _) hh (fun x e => by subst e; exact ⟨hp, o, upd_same⟩) (fun x n => upd_ne n) r
theorem ownL_new {R : Rel α} {p : Addr} {xs : List α} {vs : List V} (h : All2 (fun x v => R.is x S v) xs vs) : (ownL R xs).p S (upd H p (.lst vs)) (.ref p) (fun x => x = p) := ⟨p, vs, rfl, fun _ => Iff.rfl, upd_same, h⟩
theorem zf_list {es : List Expr} {m : M τ (List α)} {R : Rel α} {pos : Pos} (h : ZA G c E W Γ es m R.all) : ZF G c E W Γ (.List es pos) (zlist m) (ownL R) := fun X C => pe_wk (pe_lst (h X C)) fun σ H Q _ ⟨B, S, b, hh, q⟩ => by
  refine tz_AbndF hh q fun x b1 vs S1 H1 s1 h1 r1 q1 => ?_
  obtain ⟨hl, q2⟩ := aftF_chk q1
  have r2 := all_of r1
  exact ⟨by rw [← r2.length]; exact hl, fun p hp => aftF_new h1 q2 hp (ownL_new r2)⟩
theorem zs_setF {i : Nat} {x : Str} {e : Expr} {m : M τ α} {P : α → PrO} {p pos : Pos} (n : Ns c i x) (h : ZF G c E W Γ e m P) (sx : Sub E Γ L.x) (hs : NoSwap e := by intro _ _ _; rfl) : ZS G c E W L Γ (.Assign [.Name x p] e pos) (zset m) (fun a => Γ.set i (.ow (P a))) := fun X C =>
  ps_wk (ps_set C.set_hN (C.hi n.n) (by rw [C.sc]; exact n.l) (h X C) (hs _ _ _) (C.hf n)) fun D σ H hl ⟨B, S, b, hh, q⟩ => by
    refine ⟨B, S, b, hh, ?_⟩
    unfold zset bnd at q
    cases e : m b with
    | stuck => rw [e] at q; exact q.elim
    | exc x b1 => rw [e] at q; exact fun c d S1 H1 _ h1 xa => let ⟨S2, _, h2⟩ := sx h1; q c d σ S2 H1 h2 xa
    | ok a b1 =>
      rw [e] at q
      intro v S1 H1 H2 F s1 h1 hF hk hp
      exact q _ S1 H2 s1 (h1.mut (C.lt n.n hl) hk (fun y hy => ⟨(hF y hy).2, .inl ⟨(hF y hy).1, h1.fr (hF y hy).1⟩⟩) hp)
/-- the value of a slot -/
theorem slot_get {i : Nat} {v : V} (e : σ[i]?.join = some v) : σ[i]? = some (some v) := by
  cases z : σ[i]? with
  | none => rw [z] at e; cases e
  | some o => rw [z] at e; cases o with
    | none => cases e
    | some u => cases e; rfl
theorem slot_set {i : Nat} {v : V} (e : σ[i]? = some (some v)) : σ.set i (some v) = σ := by
  obtain ⟨h, e⟩ := List.getElem?_eq_some_iff.mp e
  rw [← e]; exact List.set_getElem_self h
/-- what is owned at one address is changed -/
theorem Hold.chg {i : Nat} {l : Addr} {o : HO} {p p' : PrO} (h : Hold E B Γ b σ S H) (hi : Γ[i]? = some (.ow p)) (hp : ∀ {S H v F}, p.p S H v F → v = .ref l → ∀ a, F a ↔ a = l) (hv : σ[i]? = some (some (.ref l))) (hp' : p'.p S (upd H l o) (.ref l) (fun a => a = l)) : Hold E B (Γ.set i (.ow p')) b σ S (upd H l o) := by
  have hlt := (List.getElem?_eq_some_iff.mp hv).1
  rw [show σ = σ.set i (some (.ref l)) from (slot_set hv).symm]
  refine Hold.mut h hlt (F' := fun a => a = l) (fun a n => upd_ne n) (fun a e => ?_) hp'
  subst e
  refine ⟨⟨o, upd_same⟩, .inr fun Fs hF hs => ?_⟩
  obtain ⟨v, e1, e2⟩ := hs i _ hi
  rw [hv] at e1; cases e1
  exact (hp e2 rfl a).mpr rfl
theorem own_at {R : Rel α} {xs : List α} {i : Nat} (h : Hold E B Γ b σ S H) (hi : Γ[i]? = some (.ow (ownL R xs))) : ∃ l vs, σ[i]? = some (some (.ref l)) ∧ H l = some (.lst vs) ∧ All2 (fun x v => R.is x S v) xs vs := by
  obtain ⟨Fs, hF, hs⟩ := h.sl
  obtain ⟨v, e1, l, vs, rfl, hf, hu, hq⟩ := hs i _ hi
  exact ⟨l, vs, slot_get e1, hu, hq⟩
theorem ownL_feet {R : Rel α} {xs : List α} {l : Addr} {S H : Hp} {v : V} {F : Addr → Prop} (h : (ownL R xs).p S H v F) (e : v = .ref l) : ∀ a, F a ↔ a = l := by
  obtain ⟨l', vs, rfl, hf, _⟩ := h; cases e; exact hf
structure BmEnv (o : Expr) (name : Str) (es : List Expr) (apos cpos : Pos) : Prop where
  base : ∀ env : PySem.Env, attributeBase o name env (eval o env) = eval o env
  few : ∀ env : PySem.Env, ((backTo cpos (starEach es env)).all (fun x => !x.1) && (backToKw cpos (keywordEach [] env)).all (fun x => x.1.isSome)
      && decide (es.length + ([] : List Keyword).length + (if ([] : List Keyword).isEmpty then 0 else 1) < 30)) = true
  line : (apos.endLine == cpos.line) = true
  star : ∀ env : PySem.Env, ∀ e r, es = e :: r → starEach es env = (false, eval e env) :: starEach r env ∧ (backTo cpos (starEach r env)).any (·.1) = false
theorem zs_app {i : Nat} {x : Str} {e : Expr} {p1 apos cpos pos : Pos} {R : Rel α} {xs : List α} {m : M τ α} (n : Nm c i x) (hi : Γ[i]? = some (.ow (ownL R xs))) (h : ZE G c E W Γ e m R) (sx : Sub E Γ L.x)
    (hb : BmEnv (.Name x p1) "append" [e] apos cpos := by exact ⟨fun _ => rfl, fun _ => rfl, rfl, fun _ _ _ h => by cases h; exact ⟨rfl, rfl⟩⟩) (hs : Star e [] := by intro _; rfl) :
    ZS G c E W L Γ (.Expr (.Call (.Attribute (.Name x p1) "append" apos) [e] [] cpos) pos) (bnd m fun v => chk (xs.length < sizeLine) (ret (.nx v))) (fun v => Γ.set i (.ow (ownL R (xs ++ [v])))) := fun X C =>
  ps_wk (ps_expr (pe_bm PySem.F.plainAttrs_list PySem.F.slot_list_append PySem.F.type_list_append mt_append (pe_var (C.hi n.n) (by rw [C.sc]; exact n.v) n.d n.cd) (za_one h hs X C) (hb.base _) (hb.few _) hb.line (hb.star _ _ _ rfl).1 (hb.star _ _ _ rfl).2) rfl) fun D σ H hl ⟨B, S, b, hh, q⟩ => by
    obtain ⟨l, vs, e1, e2, e3⟩ := own_at hh hi
    refine ⟨.ref l, e1, .inl ⟨rfl, vs, .of e2⟩, ?_⟩
    refine tzS_bndA (A := fun x => [R.pr x]) sx hh q fun y b1 us S1 H1 s1 h1 r1 q1 => ?_
    match us, r1 with
    | [u], ⟨r, _⟩ =>
      obtain ⟨l', vs', e1', e2', e3'⟩ := own_at h1 hi
      rw [e1] at e1'; cases e1'
      unfold chk at q1
      by_cases hz : xs.length < sizeLine
      · rw [if_pos hz] at q1
        exact ⟨l, vs', u, rfl, rfl, e2', by rw [← e3'.length]; exact hz, q1 σ S1 _ (Same.refl _) (h1.chg hi ownL_feet e1 ⟨l, _, rfl, fun _ => Iff.rfl, upd_same, e3'.append ⟨r, trivial⟩⟩)⟩
      · rw [if_neg hz] at q1; exact q1.elim

/-! ### own classes -/
/-- an instance of the class at C whose fields are fs (no other name is a field) -/
def rObj (C : Addr) (fs : α → List (Str × Pr)) : Rel α :=
  ⟨fun x S v => ∃ a dx vs, v = .ref a ∧ S a = some (.ins C dx vs) ∧ (∀ k, (fs x).lookup k = none → vs.lookup k = none) ∧ ∀ f p, (fs x).lookup f = some p → ∃ u, vs.lookup f = some u ∧ p.p S u,
   fun s ⟨a, dx, vs, e, h, n, q⟩ => ⟨a, dx, vs, e, s _ _ h, n, fun f p e => let ⟨u, h1, h2⟩ := q f p e; ⟨u, h1, p.mono s h2⟩⟩⟩
theorem one_O {q0 : Addr → Prop} {C : Addr} {fs : α → List (Str × Pr)} {x : α} {gs : List (Str × Pr)} (h : ∀ k, (fs x).lookup k = gs.lookup k) : One (ownO q0 C gs) ((rObj C fs).pr x) :=
  ⟨fun ⟨l, dx, vs, e, _, f, hh, hl, hn, q⟩ S' s k => ⟨l, dx, vs, e, k _ _ ((f l).mpr rfl) hh, fun k hk => hn k (by rw [← h]; exact hk), fun f p e => by
    obtain ⟨u, h1, h2⟩ := q f p (by rw [← h]; exact e)
    exact ⟨u, h1, p.mono s h2⟩⟩⟩
/-- the field f of what R tells is what R2 tells of g -/
structure FldAt (R : Rel α) (C : Addr) (f : Str) (g : α → β) (R2 : Rel β) : Prop where
  h : ∀ {x : α} {S : Hp} {v : V}, R.is x S v → ∃ a dx vs u, v = .ref a ∧ S a = some (.ins C dx vs) ∧ vs.lookup f = some u ∧ R2.is (g x) S u
theorem fld_at {C : Addr} {fs : α → List (Str × Pr)} {f : Str} {g : α → β} {R2 : Rel β} (h : ∀ x, (fs x).lookup f = some (R2.pr (g x))) : FldAt (rObj C fs) C f g R2 :=
  ⟨fun {x S v} ⟨a, dx, vs, e, hh, n, q⟩ => let ⟨u, h1, h2⟩ := q f _ (h x); ⟨a, dx, vs, u, e, hh, h1, h2⟩⟩
theorem z_attr {e : Expr} {f : Str} {pos : Pos} {C : Addr} {R : Rel α} {g : α → β} {R2 : Rel β} {m : M τ α} (t : FldAt R C f g R2) (cl : Cls G.K C) (na : NoAttr G.K C f) (h : ZE G c E W Γ e m R) (hb : ∀ env : PySem.Env, attributeBase e f env (eval e env) = eval e env := by intro _; rfl) :
    ZE G c E W Γ (.Attribute e f pos) (zget g m) R2 := fun X C => pe_wk (pe_fld (h X C) (hb _)) fun σ H Q _ ⟨B, S, b, hh, q⟩ => by
  refine tz_bnd hh q fun x b1 v S1 H1 s1 h1 r1 q1 => ?_
  obtain ⟨a, dx, vs, u, e1, e2, e3, e4⟩ := t.h r1
  exact ⟨a, _, dx, vs, u, e1, h1.same _ _ e2, by rw [C.K]; exact cl, by rw [C.K]; exact na, e3, aft_ret h1 q1 e4⟩
/-- self.f = e -/
theorem zs_fld {i : Nat} {x f : Str} {e : Expr} {p1 apos pos : Pos} {q0 : Addr → Prop} {C0 : Addr} {fs : List (Str × Pr)} {R : Rel α} {m : M τ α} (n : Nm c i x) (hi : Γ[i]? = some (.ow (ownO q0 C0 fs))) (cl : Cls G.K C0) (na : NoAttr G.K C0 f) (hn : fs.length < 900) (h : ZE G c E W Γ e m R) (sx : Sub E Γ L.x) (hs : NoSwap e := by intro _ _ _; rfl) :
    ZS G c E W L Γ (.Assign [.Attribute (.Name x p1) f apos] e pos) (zset m) (fun v => Γ.set i (.ow (ownO q0 C0 ((f, R.pr v) :: fs)))) := fun X C =>
  ps_wk (ps_fld (pe_var (C.hi n.n) (by rw [C.sc]; exact n.v) n.d n.cd) (h X C) (hs _ _ _)) fun D σ H hl ⟨B, S, b, hh, q⟩ => by
    refine tzS_bnd (R := R) sx hh q fun y b1 v S1 H1 s1 h1 r1 q1 => ?_
    obtain ⟨Fs, hF, hs⟩ := id h1.sl
    obtain ⟨v0, e1, l, dx, vs, rfl, e0, hf, hu, hlen, hno, hq⟩ := hs i _ hi
    have e1 := slot_get e1
    refine ⟨.ref l, e1, l, C0, dx, vs, rfl, hu, by rw [C.K]; exact cl, by rw [C.K]; exact na, by omega, q1 σ S1 _ (Same.refl _) (h1.chg hi (fun {S H v F} h e => by obtain ⟨l', _, _, rfl, _, hf, _⟩ := h; cases e; exact hf) e1 ⟨l, dx, _, rfl, e0, fun _ => Iff.rfl, upd_same, ?_, fun k hk => ?_, fun k p hk => ?_⟩)⟩
    · have := length_putF f v vs; simp only [List.length_cons]; omega
    · rw [lookup_putF]
      rw [List.lookup_cons] at hk
      by_cases hkf : k = f
      · subst hkf; simp at hk
      · have : (k == f) = false := beq_eq_false_iff_ne.mpr hkf
        rw [this] at hk
        rw [if_neg hkf]; exact hno k hk
    · rw [lookup_putF]
      rw [List.lookup_cons] at hk
      by_cases hkf : k = f
      · subst hkf
        simp at hk
        subst hk
        exact ⟨v, by rw [if_pos rfl], r1⟩
      · have : (k == f) = false := beq_eq_false_iff_ne.mpr hkf
        rw [this] at hk
        rw [if_neg hkf]; exact hq k p hk
end
end Zk

namespace Zk
open PySem L2

section
variable {τ α β γ δ κ ρ ι θ : Type} {G : Gx} {c : Sc} {E : Eff τ} {W : WX} {Γ Γ' : Env} {B : Bs} {σ : St} {S S1 S' H H' : Hp} {b b' : τ} {L : Ls κ ρ}
/-! ### exceptions of own classes -/
/-- A.__init__(self, ..), A an own class over ValueError that has no __init__ of its own -/
structure AIn (K : PySem.W.Frag) (A : Addr) (mc : Value) : Prop where
  rd : ClX.CRead K A mc
  at_ : PySem.W.findCls K (.ref A) mc "__init__" = some (.val (.builtin "ValueError.__init__"))
theorem pe_ainit {X : Cx} {e : Expr} {es : List Expr} {ta : TA} {x : Str} {A : Addr} {mc : Value} {p1 p2 pos : Pos} {pl : Sem Bool} (T : AIn X.K A mc) (hg : Gl X x) (hm : X.mg x = some (.ref A)) (ha : PA X (e :: es) ta)
    (hc : eval (.Call (.Attribute (.Name x p1) "__init__" p2) (e :: es) [] pos) X.env = (do
      let ov ← eval (.Name x p1) X.env
      standAt p2.atName
      let (f, first) ← holding [ov] (getMethod ov "__init__" pl)
      callWith pos f first (backTo pos (starEach (e :: es) X.env)) (backToKw pos (keywordEach [] X.env))))
    (he : starEach (e :: es) X.env = (false, eval e X.env) :: starEach es X.env) (hpl : (backTo pos (starEach es X.env)).any (·.1) = false) (hd : (x == ("__debug__" : Str)) = false) :
    PE X (.Call (.Attribute (.Name x p1) "__init__" p2) (e :: es) [] pos) (tVeI X.K ta) := by
  refine ⟨fun pins s σ H Q I h => ?_⟩
  refine PySem.W.methodCall_KW (ld_glob I hg hm ?_ hd) hc
  refine PySem.W.method_cls I.kIn T.rd.ga (PySem.W.cls_value I.kIn T.rd.rd T.at_ rfl ?_)
  show wpAny _ _ (callWith pos (Value.builtin "ValueError.__init__") [] (backTo pos (starEach (e :: es) X.env)) []) _ _ _
  refine PyProof.Rows.callWith_method1 (thn (ha.run pos pins _ σ H _ (I.tok _) h) fun us s1 ⟨vs, H1, I1, r1, a, C, ws, ev, hl, T, ea, q⟩ => ?_) he hpl
  subst ev
  cases r1 with
  | @cons _ u0 _ ur ra rw' =>
    obtain rfl : u0 = Value.ref a := ra
    have hlen : ur.length ≤ sizeLine := by
      rw [← Paired.length rw', sizeLine_eq]
      omega
    exact oinit_ok T I1 ea hlen fun s' J => ⟨.non, H1, J, rfl, q⟩
/-- the promise of an __init__ that keeps its one argument as the field f -/
def spX1 (K : PySem.W.Frag) (f : Str) : Sp := fun vs H Q _ => ∃ a v C, vs = [.ref a, v] ∧ OexC K C ∧ PySem.W.findIn K (.ref C) f = some none ∧ H a = some (exo a C none) ∧ ∀ d, H d = none → d ≠ a → Q .non (upd (upd H d (exd d [(f, v)])) a (exo a C (some d)))
/-- what the written part says of a class of exceptions, and of its __init__ -/
structure XAtC (G : Gx) (x : Str) (k : Nat) (ps : List Str) (sp : Sp) (C : Addr) : Prop where
  mg : G.mg x = some (.ref C)
  ox : OexC G.K C
  ini : ∃ f fd, PySem.W.findIn G.K (.ref C) "__init__" = some (some (.ref f)) ∧ PySem.W.typeIn G.K (.ref f) = some (.type "function") ∧ Binds G.K fd ps [] ∧ FnOk G.P G.w G.K G.mg G.base (L2.CX G.P G.w) k f fd ps sp
theorem del_upd {H : Hp} {a d : Addr} {o o1 o2 o3 : HO} (ha : H a = none) (hda : d ≠ a) : upd (del (upd (upd (upd H a o) d o1) a o2) a) d o3 = upd H d o3 := by
  funext x
  by_cases hx : x = d
  · subst hx; rw [upd_same, upd_same]
  · rw [upd_ne hx, upd_ne hx]
    by_cases hxa : x = a
    · subst hxa; rw [del_same, ha]
    · rw [del_ne hxa, upd_ne hxa, upd_ne hx, upd_ne hxa]
def zraise (cl f : Str) (v : α → V) (m : M τ α) : M τ β := bnd m fun x => rse ⟨cl, [(f, v x)]⟩
/-- raise X(e), X with one field -/
theorem zs_raise1 {x f : Str} {k : Nat} {ps : List Str} {C0 : Addr} {e : Expr} {p pos pos' : Pos} {R : Rel α} {v : α → V} {m : M τ α} {Γn : β → Env} (XA : XAtC G x k ps (spX1 G.K f) C0) (hf : PySem.W.findIn G.K (.ref C0) f = some none) (hk : k + 1 ≤ c.k) (g : Gb c x) (sc : ScalR R v) (h : ZE G c E W Γ e m R) (sx : Sub E Γ L.x)
    (hd : (x == ("__debug__" : Str)) = false := by decide) (hs : Star e [] := by intro _; rfl) (hpl : Plain1 [] := by intro _ _; rfl) : ZS G c E W L Γ (.Raise (some (.Call (.Name x p) [e] [] pos')) none pos) (zraise x f v m) Γn := fun X C => by
  obtain ⟨fi, fd, i1, i2, i3, i4⟩ := XA.ini
  have i4' := i4
  rw [← C.prog, ← C.w, ← C.K, ← C.mg, ← C.base] at i4'
  have hm : X.mg x = some (.ref C0) := by rw [C.mg]; exact XA.mg
  have ox : OexC X.K C0 := by rw [C.K]; exact XA.ox
  rw [← C.K] at i1 i2 i3
  refine ps_wk (ps_raise C.calm C.takes (pmk_oex ox i1 i2 i4' (C.room.mono hk) i3 .nil passL (C.gl g) hm (za_one h hs X C) hd (hs _) (hpl _ _))) fun D σ H hl ⟨B, S, b, hh, q⟩ => ?_
  refine tzS_bndA (A := fun x => [R.pr x]) sx hh q fun y b1 us S1 H1 s1 h1 r1 q1 => ?_
  match us, r1 with
  | [u], ⟨r, _⟩ =>
    refine ⟨by simp, fun a ha => ⟨a, u, C0, rfl, ox, by rw [C.K]; exact hf, upd_same, fun d hd hda => ?_⟩⟩
    have hd1 : H1 d = none := by rw [upd_ne hda] at hd; exact hd
    refine ⟨rfl, d, [(f, u)], upd_same, by rw [upd_ne hda, upd_same], hd1, ?_⟩
    rw [del_upd ha hda]
    have sd := h1.same.free hd1
    have h2 : Hold E B Γ b1 σ S1 (upd H1 d (.xd [(f, u)])) := h1.grow (Same.refl _) (fun a o e => by rw [upd_ne (ne_of_none (h1.same _ _ e) hd1)]; exact h1.same _ _ e) (fun a o e1 e2 => ⟨e1, by rw [upd_ne (ne_of_none e2 hd1)]; exact e2⟩) fun a _ e => e
    obtain ⟨S3, _, h3⟩ := sx h2
    exact q1 _ _ σ S3 _ h3 ⟨C0, XA.mg, rfl, .inr ⟨d, rfl, by rw [upd_same, sc.is r]⟩⟩

/-! ### methods -/
section
variable {X : Cx} {CX : CXT} {k : Nat} {f C : Addr} {fd : FuncData} {ps : List Str} {sp : Sp} {dvs : List V} {ds : List Value} {Ex : St → XK} {m : Str} {pos apos : Pos} {e o : Expr} {es : List Expr} {ta : TE} {t : TA} {g : Bool}
def tMethS (C : Addr) (m : Str) (sp : Sp) (Ex : St → XK) (ta : TE) (t : TA) : TE := fun σ H Q => ta σ H fun x H1 => ∃ a dx fs, x = .ref a ∧ H1 a = some (.ins C dx fs) ∧ fs.lookup m = none ∧
  t σ H1 fun vs H2 => sp (x :: vs) H2 Q (Ex σ)
theorem pe_methS {pl : Sem Bool} (he : PE X o ta) (c : Cls X.K C) (hm : Meth X.K C m f) (F : FnX g X k f fd ps sp) (hr : Room k X.A) (hg : g = true → X.A.guards = some []) (hb : Binds X.K fd ps []) (hx : ∀ σ, PassesAt (L2.CX X.prog X.w) X σ (Ex σ)) (ha : PA X (e :: es) t)
    (hst : starEach (e :: es) X.env = (false, eval e X.env) :: starEach es X.env) (hpl : (backTo pos (starEach es X.env)).any (·.1) = false)
    (ht : eval (.Call (.Attribute o m apos) (e :: es) [] pos) X.env = (do
      let ov ← eval o X.env
      standAt apos.atName
      let (f, first) ← holding [ov] (getMethod ov m pl)
      callWith pos f first (backTo pos (starEach (e :: es) X.env)) (backToKw pos (keywordEach [] X.env)))) :
    PE X (.Call (.Attribute o m apos) (e :: es) [] pos) (tMethS C m sp Ex ta t) := by
  refine ⟨fun pins s σ H Q I h => ?_⟩
  refine PySem.W.methodCall_KW (pl := pl) (thn (he.run pins s σ H _ I h) fun u s1 ⟨x, H1, I1, rx, a, dx, fs, ex, ea, l, q⟩ => ?_) ht
  subst ex
  obtain rfl : u = Value.ref a := rx
  refine getmeth_ok I1 ea c hm l ?_
  refine PySem.W.callWith_K (first := [.ref a]) (h₀ := X.base) I.ok.mod.kin hm.kp (thn (ha.run pos pins s1 σ H1 _ I1 q) fun us s2 ⟨vs, H2, I2, r, q2⟩ => ⟨I2.kIn, ?_⟩) hst hpl
  exact F.run_ (us := .ref a :: us) (vs := .ref a :: vs) hr hg hb .nil (hx σ) I2 (.cons rfl r) (by rw [List.append_nil]; exact q2)
end
structure MethAt (g : Bool) (G : Gx) (C : Addr) (m : Str) (k : Nat) (ps : List Str) (sp : Sp) : Prop where
  ex : ∃ f fd, Meth G.K C m f ∧ Binds G.K fd ps [] ∧ FnG g G.P G.w G.K G.mg G.base k f fd ps sp
/-- R tells instances of the class at C, of which m is no field -/
structure InsAt (R : Rel α) (C : Addr) (m : Str) : Prop where
  h : ∀ {x : α} {S : Hp} {v : V}, R.is x S v → ∃ a dx vs, v = .ref a ∧ S a = some (.ins C dx vs) ∧ vs.lookup m = none
theorem ins_at {C : Addr} {fs : α → List (Str × Pr)} {m : Str} (h : ∀ x, (fs x).lookup m = none) : InsAt (rObj C fs) C m := ⟨fun {x S v} ⟨a, dx, vs, e, hh, n, _⟩ => ⟨a, dx, vs, e, hh, n m (h x)⟩⟩
abbrev EvM (o : Expr) (m : Str) (es : List Expr) (apos pos : Pos) (pl : PySem.Env → Sem Bool) : Prop := ∀ env : PySem.Env, eval (.Call (.Attribute o m apos) es [] pos) env = (do
      let ov ← eval o env
      standAt apos.atName
      let (f, first) ← holding [ov] (getMethod ov m (pl env))
      callWith pos f first (backTo pos (starEach es env)) (backToKw pos (keywordEach [] env)))
def zmeth (f : α × β → M τ γ) (m : M τ α) (n : M τ β) : M τ γ := bnd m fun x => bnd n fun y => f (x, y)
theorem z_methP {g : Bool} {C0 : Addr} {me : Str} {k : Nat} {ps : List Str} {Ro : Rel α} {A : β → List Pr} {f : α × β → M Unit ρ} {R : Rel ρ} {o e : Expr} {es : List Expr} {mo : M τ α} {m : M τ β} {pos apos : Pos} {pl : PySem.Env → Sem Bool} (F : MethAt g G C0 me k ps (spZ G (fun _ : Unit => noE) (fun _ (x : α × β) => Ro.pr x.1 :: A x.2) f R)) (cl : Cls G.K C0) (ia : InsAt Ro C0 me) (hk : k ≤ c.k) (hg : g = true → c.gd = true)
    (ho : ZE G c E W Γ o mo Ro) (ha : ZA G c E W Γ (e :: es) m A) (he : Star e es := by intro _; rfl) (hpl : Plain1 es := by intro _ _; rfl) (ht : EvM o me (e :: es) apos pos pl := by intro _; rfl) : ZE G c E W Γ (.Call (.Attribute o me apos) (e :: es) [] pos) (zmeth (fun x => lft (f x)) mo m) R := fun X C => by
  obtain ⟨f0, fd, h1, h2, h3⟩ := F.ex
  rw [← C.prog, ← C.w, ← C.K, ← C.mg, ← C.base] at h3
  rw [← C.K] at h1 h2 cl
  exact pe_wk (pe_methS (Ex := WE W) (ho X C) cl h1 h3 (C.room.mono hk) (fun z => C.gds (hg z)) h2 (passAt C.takes) (ha X C) (he _) (hpl _ _) (ht _)) fun σ H Q _ ⟨B, S, b, hh, qq⟩ =>
    tz_bnd hh qq fun x b1 v S1 H1 s1 hh1 r1 q1 => by
      obtain ⟨a, dx, vs, e1, e2, e3⟩ := ia.h r1
      exact ⟨a, dx, vs, e1, hh1.same _ _ e2, e3, tz_Abnd hh1 q1 fun y b2 us S2 H2 s2 hh2 r2 q2 => tz_spP (q := ()) (x := (x, y)) hh2 ⟨Ro.mono s2 r1, r2⟩ q2⟩
end
end Zk

namespace Zk
open PySem L2

section
variable {τ α β γ δ κ ρ ι θ : Type} {G : Gx} {c : Sc} {E : Eff τ} {W : WX} {Γ Γ' : Env} {B : Bs} {σ : St} {S S1 S' H H' : Hp} {b b' : τ} {L : Ls κ ρ}
/-! ### list comprehensions -/
def nox (m : M τ α) : M τ α := fun s => match m s with | .ok a s' => .ok a s' | .exc _ _ => .stuck | .stuck => .stuck
def zcomp (t : β → M τ Bool) (f : β → M τ γ) : List γ → List β → M τ (List γ)
  | acc, [] => ret acc
  | acc, x :: xs => bnd (nox (t x)) fun k => if k = true then bnd (nox (f x)) fun y => chk (acc.length < sizeLine) (zcomp t f (acc ++ [y]) xs) else zcomp t f acc xs
def zlc (t : β → M τ Bool) (f : β → M τ γ) (m : M τ (List β)) : M τ (List γ) := bnd m fun xs => zcomp t f [] xs
def Wf : WX := fun _ _ _ _ => False
def wipeE (Γ : Env) : List Nat → Env
  | [] => Γ
  | v :: vs => (wipeE Γ vs).set v .no
theorem Hold.wipe (h : Hold E B Γ b σ S H) : ∀ vs : List Nat, Hold E B (wipeE Γ vs) b (wipe σ vs) S H
  | [] => h
  | v :: vs => (h.wipe vs).unset
/-- the context of a comprehension's block -/
abbrev Sc.blk (c : Sc) (scope : Scope) : Sc := ⟨c.N, relS scope c.sc, c.k, false, fun x => scope.names.lookup x == some .cell, c.gd⟩
theorem CtxOk.blk {X : Cx} (C : CtxOk G c W X) (s : Shared) (H : Hp) (scope : Scope) (A : Addr) (cl : List (Str × Addr)) (fp : List Addr) : CtxOk G (c.blk scope) Wf (X.blk s H scope (compEnvC scope cl A X.env) fp) where
  prog := C.prog
  w := C.w
  K := C.K
  mg := C.mg
  base := C.base
  N := C.N
  nd := C.nd
  sc := by show relS scope X.env.scope = _; rw [C.sc]
  calm := C.calm
  room := C.room
  gds := C.gds
  takes := takes0
  owns := PassesOwn.never
  fx := rfl
  isfn := fun h => nomatch h
/-- a new list, filled, seen from outside -/
def Bd (B : Bs) (D : Addr) (o : HO) : Bs := ⟨B.S, upd B.H D o⟩
theorem Hold.cell0 {D : Addr} {o : HO} (h : Hold E B Γ b σ S H) (hD : H D = none) : Hold E (Bd B D o) Γ b σ S (upd H D o) := by
  have hS : S D = none := h.same.free hD
  obtain ⟨Fs, hF, hs⟩ := h.sl
  have ne : ∀ a o, H a = some o → a ≠ D := fun a o e => ne_of_none e hD
  refine ⟨⟨fun a u e => by rw [upd_ne (ne a u (h.same _ _ e))]; exact h.same _ _ e, h.kp.up, fun a u h1 h2 h3 => ?_⟩, E.mono (Same.refl _) (fun _ _ z => z) (fun a u _ e => by rw [upd_ne (ne a u e)]; exact e) h.ef, Fs, ⟨fun i a e => ?_, hF.ds⟩, fun i s e => ?_⟩
  · by_cases ha : a = D
    · subst ha
      have h2 : upd B.H a o a = some u := h2
      rw [upd_same] at h2 ⊢; exact ⟨hS, h2⟩
    · have h2 : upd B.H D o a = some u := h2
      rw [upd_ne ha] at h2 ⊢; exact h.kp.kp a u h1 h2 h3
  · obtain ⟨r1, r2, r3, u, r4⟩ := hF.at_ i a e
    exact ⟨r1, by show upd B.H D o a = none; rw [upd_ne (ne a u r4)]; exact r2, r3, u, by rw [upd_ne (ne a u r4)]; exact r4⟩
  · have q := hs i s e
    cases s with
    | no => trivial
    | st p => exact q
    | ow p => obtain ⟨x, e1, e2⟩ := q; exact ⟨x, e1, p.mono (Same.refl _) (fun a u _ e => by rw [upd_ne (ne a u e)]; exact e) e2⟩
    | gh p => exact p.mono (Same.refl _) (fun a u _ e => by rw [upd_ne (ne a u e)]; exact e) q
theorem Hold.cellAt {D : Addr} {o : HO} (h : Hold E (Bd B D o) Γ b σ S H) (hB : B.S D = none) (hE : ¬ E.own D) : S D = none ∧ H D = some o := h.kp.kp D o hB upd_same hE
theorem Hold.cellSet {D : Addr} {o o' : HO} (h : Hold E (Bd B D o) Γ b σ S H) (hB : B.S D = none) (hE : ¬ E.own D) : Hold E (Bd B D o') Γ b σ S (upd H D o') := by
  obtain ⟨hS, _⟩ := h.cellAt hB hE
  obtain ⟨Fs, hF, hs⟩ := h.sl
  have nF : ∀ i a, Fs i a → a ≠ D := fun i a e z => by
    have := (hF.at_ i a e).2.1
    rw [z] at this
    have this : upd B.H D o D = none := this
    rw [upd_same] at this; cases this
  refine ⟨⟨fun a u e => by rw [upd_ne (fun z => by rw [z, hS] at e; cases e)]; exact h.same _ _ e, h.kp.up, fun a u h1 h2 h3 => ?_⟩, E.mono (Same.refl _) (fun _ _ z => z) (fun a u ha e => by rw [upd_ne (fun z => hE (by rw [← z]; exact ha))]; exact e) h.ef, Fs, ⟨fun i a e => ?_, hF.ds⟩, fun i s e => ?_⟩
  · by_cases ha : a = D
    · subst ha
      have h2 : upd B.H a o' a = some u := h2
      rw [upd_same] at h2 ⊢; exact ⟨hS, h2⟩
    · have h2 : upd B.H D o' a = some u := h2
      rw [upd_ne ha] at h2 ⊢; exact h.kp.kp a u h1 (by show upd B.H D o a = some u; rw [upd_ne ha]; exact h2) h3
  · obtain ⟨r1, r2, r3, u, r4⟩ := hF.at_ i a e
    have n := nF i a e
    have r2 : upd B.H D o a = none := r2
    rw [upd_ne n] at r2
    exact ⟨r1, by show upd B.H D o' a = none; rw [upd_ne n]; exact r2, r3, u, by rw [upd_ne n]; exact r4⟩
  · have q := hs i s e
    cases s with
    | no => trivial
    | st p => exact q
    | ow p => obtain ⟨x, e1, e2⟩ := q; exact ⟨x, e1, p.mono (Same.refl _) (fun a u ha e => by rw [upd_ne (nF i a ha)]; exact e) e2⟩
    | gh p => exact p.mono (Same.refl _) (fun a u ha e => by rw [upd_ne (nF i a ha)]; exact e) q
/-- .. the list left out of the heap -/
theorem Hold.cellOff {D : Addr} {o : HO} (h : Hold E (Bd B D o) Γ b σ S H) (hB : B.S D = none) (hBH : B.H D = none) (hE : ¬ E.own D) : Hold E B Γ b σ S (del H D) := by
  obtain ⟨hS, _⟩ := h.cellAt hB hE
  obtain ⟨Fs, hF, hs⟩ := h.sl
  have nF : ∀ i a, Fs i a → a ≠ D := fun i a e z => by
    have := (hF.at_ i a e).2.1
    rw [z] at this
    have this : upd B.H D o D = none := this
    rw [upd_same] at this; cases this
  refine ⟨⟨fun a u e => by rw [del_ne (fun z => by rw [z, hS] at e; cases e)]; exact h.same _ _ e, h.kp.up, fun a u h1 h2 h3 => ?_⟩, E.mono (Same.refl _) (fun _ _ z => z) (fun a u ha e => by rw [del_ne (fun z => hE (by rw [← z]; exact ha))]; exact e) h.ef, Fs, ⟨fun i a e => ?_, hF.ds⟩, fun i s e => ?_⟩
  · have ha : a ≠ D := fun z => by rw [z, hBH] at h2; cases h2
    rw [del_ne ha]; exact h.kp.kp a u h1 (by show upd B.H D o a = some u; rw [upd_ne ha]; exact h2) h3
  · obtain ⟨r1, r2, r3, u, r4⟩ := hF.at_ i a e
    have n := nF i a e
    have r2 : upd B.H D o a = none := r2
    rw [upd_ne n] at r2
    exact ⟨r1, r2, r3, u, by rw [del_ne n]; exact r4⟩
  · have q := hs i s e
    cases s with
    | no => trivial
    | st p => exact q
    | ow p => obtain ⟨x, e1, e2⟩ := q; exact ⟨x, e1, p.mono (Same.refl _) (fun a u ha e => by rw [del_ne (nF i a ha)]; exact e) e2⟩
    | gh p => exact p.mono (Same.refl _) (fun a u ha e => by rw [del_ne (nF i a ha)]; exact e) q
theorem lc_src {P : Hp → Hp → Prop} {J : It} {xs : List β} {R : Rel β} {I : Hp → Prop} (src : Src P J xs R I) {g : TG} {tt : TT} {te : TE} {vs : List Nat} {σ : St} {H1 : Hp} {D : Addr} {Qd : Hp → Prop} (Pv : Nat → Hp → Prop) (h0 : Pv 0 (upd H1 D (.lst []))) (hl : ∀ i H, i ≤ xs.length → Pv i H → ∃ S, Same S H ∧ P S H ∧ I S)
    (hs : ∀ i y H, xs[i]? = some y → Pv i H → ∀ x H', J.yld i H x H' → g x (wipe σ vs) H' fun σ2 H2 => wipe σ2 vs = wipe σ vs ∧ tt σ2 H2 fun b H3 =>
      if b = true then te σ2 H3 fun y H4 => ∃ acc, H4 D = some (.lst acc) ∧ acc.length < sizeLine ∧ Pv (i + 1) (upd H4 D (.lst (acc ++ [y]))) else Pv (i + 1) H3) (hd : ∀ H, Pv xs.length H → Qd H) :
    ∃ W : Nat → Nat → Hp → Prop, (∃ m, W 0 m (upd H1 D (.lst []))) ∧ ∀ i m H, W i m H →
      (J.stop i H ∧ Qd H) ∨ (J.go i H ∧ ∃ Nx : Hp → Prop, (∀ H', Nx H' → ∃ m', m' < m ∧ W (i + 1) m' H') ∧ ∀ x H', J.yld i H x H' → g x (wipe σ vs) H' fun σ2 H2 => wipe σ2 vs = wipe σ vs ∧ tt σ2 H2 fun b H3 =>
        if b = true then te σ2 H3 fun y H4 => ∃ acc, H4 D = some (.lst acc) ∧ acc.length < sizeLine ∧ Nx (upd H4 D (.lst (acc ++ [y]))) else Nx H3) := by
  refine ⟨fun i m H => m = xs.length - i ∧ i ≤ xs.length ∧ Pv i H, ⟨xs.length, by simp, Nat.zero_le _, h0⟩, ?_⟩
  rintro i m H ⟨rfl, hi, p⟩
  obtain ⟨S, s, hP, hI⟩ := hl i H hi p
  by_cases hlt : i < xs.length
  · exact .inr ⟨src.go s hP hI hlt, Pv (i + 1), fun H' p' => ⟨xs.length - (i + 1), by omega, rfl, hlt, p'⟩, fun x H' y => hs i xs[i] H (by simp [hlt]) p x H' y⟩
  · have e : i = xs.length := by omega
    subst e
    exact .inl ⟨src.st s hP hI, hd H p⟩
/-- the tests of a comprehension's clause -/
def ZTs (G : Gx) (c : Sc) (E : Eff τ) (W : WX) (Γ : Env) (es : List Expr) (m : M τ Bool) : Prop := ∀ X, CtxOk G c W X → PTs X es (tzT G E W Γ m)
theorem pts_wk {X : Cx} {es : List Expr} {t t' : TT} (h : PTs X es t) (w : ∀ σ H Q, t' σ H Q → t σ H Q) : PTs X es t' := ⟨fun pins s σ H Q I q => h.run pins s σ H Q I (w σ H Q q)⟩
theorem pts_ex {ι : Type} {X : Cx} {e : List Expr} {t : ι → TT} (h : ∀ i, PTs X e (t i)) : PTs X e (fun σ H Q => ∃ i, t i σ H Q) := ⟨fun pins s σ H Q I ⟨i, q⟩ => (h i).run pins s σ H Q I q⟩
theorem zts_nil : ZTs G c E W Γ [] (ret true) := fun X C => pts_wk pts_nil fun σ H Q ⟨B, S, b, hh, q⟩ => q S H (Same.refl _) hh
theorem zts_one {e : Expr} {m : M τ Bool} (h : ZT G c E W Γ e m) : ZTs G c E W Γ [e] m := fun X C => pts_one (h X C)
def lcEnd (E : Eff τ) (B : Bs) (Γ : Env) (σ : St) (S : Hp) (R' : Rel γ) (Q : VK) : Out τ (List γ) → Prop
  | .ok ys b' => ∀ D S' H' us, Same S S' → Hold E (Bd B D (.lst us)) Γ b' σ S' H' → B.S D = none → B.H D = none → ¬ E.own D → All2 (fun x v => R'.is x S' v) ys us → Q (.ref D) H'
  | _ => False
theorem lcEnd.same {R' : Rel γ} {Q : VK} (s : Same S S1) : ∀ {o : Out τ (List γ)}, lcEnd E B Γ σ S R' Q o → lcEnd E B Γ σ S1 R' Q o
  | .ok _ _, h => fun D S' H' us s2 => h D S' H' us (s.trans s2)
  | .exc _ _, h => h
  | .stuck, h => h
theorem lcEnd_bnd {m : M τ α} {f : α → M τ (List γ)} {R' : Rel γ} {Q : VK} (h : lcEnd E B Γ σ S R' Q (bnd (nox m) f b)) : ∃ a b1, m b = .ok a b1 ∧ lcEnd E B Γ σ S R' Q (f a b1) := by
  unfold bnd nox at h
  cases e : m b with
  | ok a b1 => rw [e] at h; exact ⟨a, b1, rfl, h⟩
  | exc x b1 => rw [e] at h; exact h.elim
  | stuck => rw [e] at h; exact h.elim
theorem wipe_wipe {vs : List Nat} {σ : St} : ∀ {ws : List Nat}, (∀ w ∈ ws, w ∈ vs) → L2.wipe (L2.wipe σ ws) vs = L2.wipe σ vs
  | [], _ => rfl
  | w :: ws, h => by
    have e : L2.wipe σ (w :: ws) = (L2.wipe σ ws).set w none := rfl
    rw [e, wipe_set (h w (by simp))]
    exact wipe_wipe fun x hx => h x (by simp [hx])
theorem wipeE_in {i : Nat} {s : Sl} : ∀ {vs : List Nat}, i ∈ vs → (wipeE Γ vs)[i]? = some s → s = .no
  | v :: vs, h, e => by
    unfold wipeE at e
    rcases set_get e with ⟨_, r⟩ | ⟨n, e⟩
    · exact r
    · exact wipeE_in (by simpa [n] using h) e
theorem wipe_out' {i : Nat} {σ : St} : ∀ {vs : List Nat}, i ∉ vs → (L2.wipe σ vs)[i]? = σ[i]?
  | [], _ => rfl
  | v :: vs, h => by
    have e : L2.wipe σ (v :: vs) = (L2.wipe σ vs).set v none := rfl
    simp only [List.mem_cons, not_or] at h
    rw [e, List.getElem?_set_ne (Ne.symm h.1)]
    exact wipe_out' h.2
/-- a slot of the block, seen from the def -/
theorem Hold.unwipe {vs : List Nat} {σ σ2 : St} {Γ1 : Env} (hΓ : ∀ (i : Nat), i ∉ vs → Γ1[i]? = (wipeE Γ vs)[i]?) (hw : L2.wipe σ2 vs = L2.wipe σ vs) (h : Hold E B Γ1 b σ2 S H) : Hold E B (wipeE Γ vs) b (L2.wipe σ vs) S H := by
  obtain ⟨Fs, hF, hs⟩ := h.sl
  refine ⟨h.kp, h.ef, Fs, hF, fun i s e => ?_⟩
  by_cases hi : i ∈ vs
  · have := wipeE_in hi e
    subst this; trivial
  · have q := hs i s (by rw [hΓ i hi]; exact e)
    have e1 : (L2.wipe σ vs)[i]? = σ2[i]? := by rw [← hw]; exact wipe_out' hi
    rw [e1]; exact q
/-- the reading of a comprehension: the list D with ys is there -/
theorem lc_core {m : M τ (List β)} {t : β → M τ Bool} {f : β → M τ γ} {R : Rel β} {R' : Rel γ} {Γ1 : β → Env} {vs : List Nat} {σ : St} {H : Hp} {Q : VK} (hh : Hold E B Γ b σ S H) (hk : ∀ x (i : Nat), i ∉ vs → (Γ1 x)[i]? = (wipeE Γ vs)[i]?)
    (q : match m b with
      | .ok xs b1 => ∀ S1, Same S S1 → lcEnd E B (wipeE Γ vs) (L2.wipe σ vs) S1 R' Q (zcomp t f [] xs b1)
      | .exc x b' => ∀ c d S' H', Same S S' → Hold E B Γ b' σ S' H' → XAt G x H' c d → W c d σ H'
      | .stuck => False) :
    tLc (tzI G E W Γ m R) (tzG E (wipeE Γ vs) vs Γ1 R) (fun σ H Q => ∃ x, tzT G E Wf (Γ1 x) (t x) σ H Q) (fun σ H Q => ∃ x, tzE G E Wf (Γ1 x) (f x) R' σ H Q) vs σ H Q := by
  refine ⟨B, S, b, hh, ?_⟩
  cases e : m b with
  | stuck => rw [e] at q; exact q.elim
  | exc x b1 => rw [e] at q; exact q
  | ok xs b1 =>
    rw [e] at q
    intro J I S1 H1 s1 h1 src hI D hD
    have hE := h1.fr hD
    have hS1 : S1 D = none := h1.same.free hD
    have hBS : B.S D = none := h1.kp.up.free hS1
    have hBH : B.H D = none := by
      cases z : B.H D with
      | none => rfl
      | some o => have := (h1.kp.kp D o hBS z hE).2; rw [hD] at this; cases this
    have hw := (h1.cell0 (o := .lst []) hD).wipe vs
    refine lc_src (g := tzG E (wipeE Γ vs) vs Γ1 R) (tt := fun σ H Q => ∃ x, tzT G E Wf (Γ1 x) (t x) σ H Q) (te := fun σ H Q => ∃ x, tzE G E Wf (Γ1 x) (f x) R' σ H Q) (vs := vs) (σ := σ) (Qd := fun H => Q (.ref D) H) src
      (fun i H => ∃ S b us acc, Same S1 S ∧ Hold E (Bd B D (.lst us)) (wipeE Γ vs) b (L2.wipe σ vs) S H ∧ All2 (fun x v => R'.is x S v) acc us ∧ lcEnd E B (wipeE Γ vs) (L2.wipe σ vs) S R' Q (zcomp t f acc (xs.drop i) b))
      ⟨S1, b1, [], [], Same.refl _, hw, trivial, by rw [List.drop_zero]; exact q S1 s1⟩ (fun i H _ ⟨S, _, _, _, s, h, _⟩ => ⟨S, h.same, ⟨_, h.ef⟩, src.mono s hI⟩) ?_ ?_
    · rintro i y H hy ⟨S2, b2, us, acc, s2, h2, r2, q2⟩ x H' yl
      have hd : xs.drop i = y :: xs.drop (i + 1) := by
        obtain ⟨h1, h2⟩ := List.getElem?_eq_some_iff.mp hy
        rw [List.drop_eq_getElem_cons h1, h2]
      rw [hd] at q2
      obtain ⟨k, b3, ek, q3⟩ := lcEnd_bnd q2
      have go : ∀ S' H', Same S2 S' → Hold E (Bd B D (.lst us)) (wipeE Γ vs) b2 (L2.wipe σ vs) S' H' → R.is y S' x → tzG E (wipeE Γ vs) vs Γ1 R x (L2.wipe σ vs) H' fun σ2 H2 => L2.wipe σ2 vs = L2.wipe σ vs ∧ (∃ x, tzT G E Wf (Γ1 x) (t x) σ2 H2 fun b H3 =>
          if b = true then ∃ x, tzE G E Wf (Γ1 x) (f x) R' σ2 H3 fun y H4 => ∃ vacc, H4 D = some (.lst vacc) ∧ vacc.length < sizeLine ∧ (∃ S b us, ∃ acc : List γ, Same S1 S ∧ Hold E (Bd B D (.lst us)) (wipeE Γ vs) b (L2.wipe σ vs) S (upd H4 D (.lst (vacc ++ [y]))) ∧ All2 (fun x v => R'.is x S v) acc us ∧ lcEnd E B (wipeE Γ vs) (L2.wipe σ vs) S R' Q (zcomp t f acc (xs.drop (i + 1)) b))
          else (∃ S b us acc, Same S1 S ∧ Hold E (Bd B D (.lst us)) (wipeE Γ vs) b (L2.wipe σ vs) S H3 ∧ All2 (fun x v => R'.is x S v) acc us ∧ lcEnd E B (wipeE Γ vs) (L2.wipe σ vs) S R' Q (zcomp t f acc (xs.drop (i + 1)) b))) := by
        intro S' H' s' h' r'
        refine ⟨_, S', b2, y, h', r', fun σ' hwσ h'' => ?_⟩
        have hw' : L2.wipe σ' vs = L2.wipe σ vs := hwσ.trans (wipe_wipe fun _ h => h)
        refine ⟨hw', y, _, S', b2, h'', ?_⟩
        rw [ek]
        intro S3 H3 s3 h3
        have q3 := q3.same (s'.trans s3)
        cases k with
        | false =>
          rw [if_neg (by decide)] at q3 ⊢
          exact ⟨S3, b3, us, acc, (s2.trans s').trans s3, h3.unwipe (hk y) hw', All2.rel (s'.trans s3) r2, q3⟩
        | true =>
          rw [if_pos rfl] at q3 ⊢
          obtain ⟨z, b4, ez, q4⟩ := lcEnd_bnd q3
          refine ⟨y, _, S3, b3, h3, ?_⟩
          rw [ez]
          intro v S4 H4 s4 h4 rz
          obtain ⟨_, hD4⟩ := h4.cellAt hBS hE
          unfold chk at q4
          by_cases hz : acc.length < sizeLine
          · rw [if_pos hz] at q4
            exact ⟨us, hD4, by rw [← r2.length]; exact hz, S4, b4, us ++ [v], acc ++ [z], ((s2.trans s').trans s3).trans s4, (h4.unwipe (hk y) hw').cellSet hBS hE, (All2.rel ((s'.trans s3).trans s4) r2).append ⟨rz, trivial⟩, q4.same s4⟩
          · rw [if_neg hz] at q4; exact q4.elim
      rcases src.yl h2.same ⟨_, h2.ef⟩ (src.mono s2 hI) hy yl with ⟨e1, r⟩ | ⟨p, o, hp, e1, r⟩
      · subst e1; exact go S2 _ (Same.refl _) h2 r
      · subst e1; exact go (upd S2 p o) _ (same_new (h2.same.free hp)) (h2.new hp) r
    · rintro H ⟨S2, b2, us, acc, s2, h2, r2, q2⟩
      rw [List.drop_length] at q2
      exact q2 D S2 H us (Same.refl _) h2 hBS hBH hE r2
theorem wipe_back {vs : List Nat} (hΓ : ∀ (i : Nat) s, Γ[i]? = some s → s = .no ∨ i ∉ vs) (h : Hold E B (wipeE Γ vs) b (L2.wipe σ vs) S H) : Hold E B Γ b σ S H := by
  obtain ⟨Fs, hF, hs⟩ := h.sl
  refine ⟨h.kp, h.ef, Fs, hF, fun i s e => ?_⟩
  rcases hΓ i s e with r | r
  · subst r; trivial
  · have e2 : (wipeE Γ vs)[i]? = some s := by
      have : ∀ {vs : List Nat}, i ∉ vs → (wipeE Γ vs)[i]? = Γ[i]? := by
        intro vs
        induction vs with
        | nil => intro _; rfl
        | cons v vs ih => intro h; simp only [List.mem_cons, not_or] at h; unfold wipeE; rw [List.getElem?_set_ne (Ne.symm h.1)]; exact ih h.2
      rw [this r]; exact e
    have q := hs i s e2
    rw [wipe_out' r] at q; exact q
theorem bnd_noexc {m : M τ α} {f : α → M τ γ} {x : Exc} {b' : τ} (h : ∀ a b1, f a b1 ≠ .exc x b') : bnd (nox m) f b ≠ .exc x b' := by
  unfold bnd nox
  cases m b with
  | stuck => intro h; cases h
  | exc e b1 => intro h; cases h
  | ok k b1 => exact h k b1
theorem zcomp_noexc {t : β → M τ Bool} {f : β → M τ γ} : ∀ {xs : List β} {acc : List γ} {b : τ} {x : Exc} {b' : τ}, zcomp t f acc xs b ≠ .exc x b'
  | [], acc, b, x, b' => by unfold zcomp; intro h; cases h
  | y :: xs, acc, b, x, b' => by
    unfold zcomp
    refine bnd_noexc fun k b1 => ?_
    cases k with
    | false => exact zcomp_noexc
    | true =>
      refine bnd_noexc (f := fun z => chk (acc.length < sizeLine) (zcomp t f (acc ++ [z]) xs)) fun z b2 => ?_
      unfold chk
      split
      · exact zcomp_noexc
      · intro h; cases h
theorem del_back {D : Addr} {o : HO} {H : Hp} (h : H D = some o) : upd (del H D) D o = H := by
  funext a
  by_cases ha : a = D
  · subst ha; rw [upd_same, h]
  · rw [upd_ne ha, del_ne ha]
theorem lc_stable {m : M τ (List β)} {t : β → M τ Bool} {f : β → M τ γ} {R' : Rel γ} {vs : List Nat} {Q : VK} (hΓ : ∀ (i : Nat) s, Γ[i]? = some s → s = .no ∨ i ∉ vs) (q : aft G E W B Γ σ S (rLst R') Q (zlc t f m b)) :
    match m b with
      | .ok xs b1 => ∀ S1, Same S S1 → lcEnd E B (wipeE Γ vs) (L2.wipe σ vs) S1 R' Q (zcomp t f [] xs b1)
      | .exc x b' => ∀ c d S' H', Same S S' → Hold E B Γ b' σ S' H' → XAt G x H' c d → W c d σ H'
      | .stuck => False := by
  unfold zlc bnd at q
  cases e : m b with
  | stuck => rw [e] at q; exact q
  | exc x b1 => rw [e] at q; exact q
  | ok xs b1 =>
    rw [e] at q
    intro S1 s1
    dsimp only at q
    cases e2 : zcomp t f [] xs b1 with
    | stuck => rw [e2] at q; exact q
    | exc x b2 => exact absurd e2 zcomp_noexc
    | ok ys b2 =>
      rw [e2] at q
      intro D S' H' us s' h hBS hBH hE r
      obtain ⟨hS, hD⟩ := h.cellAt hBS hE
      have h2 := h.cellOff hBS hBH hE
      have h3 := h2.new (o := .lst us) (p := D) del_same
      rw [del_back hD] at h3
      exact q _ (upd S' D (.lst us)) H' ((s1.trans s').trans (same_new hS)) (wipe_back hΓ h3) (rLst_new hS r)
theorem lc_own {m : M τ (List β)} {t : β → M τ Bool} {f : β → M τ γ} {R' : Rel γ} {vs : List Nat} {Q : VK} (hΓ : ∀ (i : Nat) s, Γ[i]? = some s → s = .no ∨ i ∉ vs) (q : aftF G E W B Γ σ S (ownL R') Q (zlc t f m b)) :
    match m b with
      | .ok xs b1 => ∀ S1, Same S S1 → lcEnd E B (wipeE Γ vs) (L2.wipe σ vs) S1 R' Q (zcomp t f [] xs b1)
      | .exc x b' => ∀ c d S' H', Same S S' → Hold E B Γ b' σ S' H' → XAt G x H' c d → W c d σ H'
      | .stuck => False := by
  unfold zlc bnd at q
  cases e : m b with
  | stuck => rw [e] at q; exact q
  | exc x b1 => rw [e] at q; exact q
  | ok xs b1 =>
    rw [e] at q
    intro S1 s1
    dsimp only at q
    cases e2 : zcomp t f [] xs b1 with
    | stuck => rw [e2] at q; exact q
    | exc x b2 => exact absurd e2 zcomp_noexc
    | ok ys b2 =>
      rw [e2] at q
      intro D S' H' us s' h hBS hBH hE r
      obtain ⟨hS, hD⟩ := h.cellAt hBS hE
      have h2 := h.cellOff hBS hBH hE
      exact q _ S' (del H' D) H' (fun x => x = D) (s1.trans s') (wipe_back hΓ h2) (fun x e => by subst e; exact ⟨del_same, _, hD⟩) (fun x n => (del_ne n).symm) ⟨D, us, rfl, fun _ => Iff.rfl, hD, r⟩
/-- a comprehension's parts: its scope, its own names' slots -/
structure Lc (G : Gx) (c : Sc) (E : Eff τ) (W : WX) (Γ : Env) (elt tg iter : Expr) (ifs : List Expr) (scope : Scope) (own : List (Str × Nat)) (m : M τ (List β)) (t : β → M τ Bool) (f : β → M τ γ) (R : Rel β) (R' : Rel γ) (Γ1 : β → Env) : Prop where
  ok : BlkOk c.N c.sc scope own
  hi : ZI G c E W Γ tg iter m R
  hg : ZG G (c.blk scope) E Wf (wipeE Γ (own.map (·.2))) (own.map (·.2)) tg Γ1 R
  ht : ∀ x, ZTs G (c.blk scope) E Wf (Γ1 x) ifs (t x)
  he : ∀ x, ZE G (c.blk scope) E Wf (Γ1 x) elt (f x) R'
  no : ∀ (i : Nat) s, Γ[i]? = some s → s = .no ∨ i ∉ own.map (·.2)
  fs : ∀ (env : PySem.Env) x, foldedSetIterable iter env x = pure x
theorem Lc.pe {elt tg iter : Expr} {ifs : List Expr} {scope : Scope} {own : List (Str × Nat)} {pos : Pos} {m : M τ (List β)} {t : β → M τ Bool} {f : β → M τ γ} {R : Rel β} {R' : Rel γ} {Γ1 : β → Env} (l : Lc G c E W Γ elt tg iter ifs scope own m t f R R' Γ1) {X : Cx} (C : CtxOk G c W X) :
    PE X (.ListComp elt [⟨tg, iter, ifs, 0⟩] scope pos) (tLc (tzI G E W Γ m R) (tzG E (wipeE Γ (own.map (·.2))) (own.map (·.2)) Γ1 R) (fun σ H Q => ∃ x, tzT G E Wf (Γ1 x) (t x) σ H Q) (fun σ H Q => ∃ x, tzE G E Wf (Γ1 x) (f x) R' σ H Q) (own.map (·.2))) :=
  pe_lc C.calm C.set_hN (l.hi X C) (by rw [C.N, C.sc]; exact l.ok) (fun s H A cl fp => l.hg.1 _ (C.blk s H scope A cl fp)) (fun s H A cl fp => pts_ex fun x => l.ht x _ (C.blk s H scope A cl fp)) (fun s H A cl fp => pe_ex fun x => l.he x _ (C.blk s H scope A cl fp)) (l.fs _)
theorem z_lc {elt tg iter : Expr} {ifs : List Expr} {scope : Scope} {own : List (Str × Nat)} {pos : Pos} {m : M τ (List β)} {t : β → M τ Bool} {f : β → M τ γ} {R : Rel β} {R' : Rel γ} {Γ1 : β → Env} (l : Lc G c E W Γ elt tg iter ifs scope own m t f R R' Γ1) : ZE G c E W Γ (.ListComp elt [⟨tg, iter, ifs, 0⟩] scope pos) (zlc t f m) (rLst R') := fun X C =>
  pe_wk (l.pe C) fun σ H Q _ ⟨B, S, b, hh, q⟩ => lc_core hh l.hg.2 (lc_stable l.no q)
theorem zf_lc {elt tg iter : Expr} {ifs : List Expr} {scope : Scope} {own : List (Str × Nat)} {pos : Pos} {m : M τ (List β)} {t : β → M τ Bool} {f : β → M τ γ} {R : Rel β} {R' : Rel γ} {Γ1 : β → Env} (l : Lc G c E W Γ elt tg iter ifs scope own m t f R R' Γ1) : ZF G c E W Γ (.ListComp elt [⟨tg, iter, ifs, 0⟩] scope pos) (zlc t f m) (ownL R') := fun X C =>
  pe_wk (l.pe C) fun σ H Q _ ⟨B, S, b, hh, q⟩ => lc_core hh l.hg.2 (lc_own l.no q)
theorem Lc.ps {i : Nat} {y : Str} {py spos : Pos} {elt tg iter : Expr} {ifs : List Expr} {scope : Scope} {own : List (Str × Nat)} {pos : Pos} {m : M τ (List β)} {t : β → M τ Bool} {f : β → M τ γ} {R : Rel β} {R' : Rel γ} {Γ1 : β → Env} (l : Lc G c E W Γ elt tg iter ifs scope own m t f R R' Γ1) (n : c.N[i]? = some y) (hy : c.sc.names.lookup y = some .local) (hk : c.sc.kind = .function)
    (hl : (py.line == pos.line) = true) (ha : (scope.names.any fun (n, k) => n == y && (k == .local || k == .cell)) = false) {X : Cx} (C : CtxOk G c W X) :
    PS X (.Assign [.Name y py] (.ListComp elt [⟨tg, iter, ifs, 0⟩] scope pos) spos) (tAsg (tLc (tzI G E W Γ m R) (tzG E (wipeE Γ (own.map (·.2))) (own.map (·.2)) Γ1 R) (fun σ H Q => ∃ x, tzT G E Wf (Γ1 x) (t x) σ H Q) (fun σ H Q => ∃ x, tzE G E Wf (Γ1 x) (f x) R' σ H Q) (own.map (·.2))) (gName i)) :=
  ps_setLc C.calm C.set_hN (C.hi n) (by rw [C.sc]; exact hy) (sw_true (by rw [C.sc]; exact hk) (by rw [C.sc]; exact hy) hl ha) (l.hi X C) (by rw [C.N, C.sc]; exact l.ok) (fun s H A cl fp => l.hg.1 _ (C.blk s H scope A cl fp)) (fun s H A cl fp => pts_ex fun x => l.ht x _ (C.blk s H scope A cl fp)) (fun s H A cl fp => pe_ex fun x => l.he x _ (C.blk s H scope A cl fp)) (l.fs _)
theorem zs_setLc {i : Nat} {y : Str} {py spos : Pos} {elt tg iter : Expr} {ifs : List Expr} {scope : Scope} {own : List (Str × Nat)} {pos : Pos} {m : M τ (List β)} {t : β → M τ Bool} {f : β → M τ γ} {R : Rel β} {R' : Rel γ} {Γ1 : β → Env} (l : Lc G c E W Γ elt tg iter ifs scope own m t f R R' Γ1) (n : c.N[i]? = some y) (hy : c.sc.names.lookup y = some .local) (hk : c.sc.kind = .function) (sx : Sub E Γ L.x)
    (hl : (py.line == pos.line) = true) (ha : (scope.names.any fun (n, k) => n == y && (k == .local || k == .cell)) = false) : ZS G c E W L Γ (.Assign [.Name y py] (.ListComp elt [⟨tg, iter, ifs, 0⟩] scope pos) spos) (zset (zlc t f m)) (fun v => Γ.set i (.st ((rLst R').pr v))) := fun X C =>
  ps_wk (l.ps n hy hk hl ha C) fun D σ H hlen ⟨B, S, b, hh, q⟩ => lc_core hh l.hg.2 (lc_stable l.no (by
    show aft G E W B Γ σ S (rLst R') (fun x H1 => gName i x σ H1 D.nx) (zlc t f m b)
    unfold zset bnd at q
    cases e : zlc t f m b with
    | stuck => rw [e] at q; exact q
    | exc x b1 => rw [e] at q; exact fun c d S1 H1 _ h1 xa => let ⟨S2, _, h2⟩ := sx h1; q c d σ S2 H1 h2 xa
    | ok ys b1 => rw [e] at q; exact fun v S1 H1 s1 h1 r => q _ S1 H1 s1 (h1.set (C.lt n hlen) r)))
end
end Zk

namespace Zk
open PySem L2

section
variable {X : Cx} {CX : CXT} {k n : Nat} {f C : Addr} {fd : FuncData} {ps ks : List Str} {sp : Sp} {dvs : List V} {ds : List Value} {Ex : St → XK} {x : Str} {p pos : Pos} {e : Expr} {es : List Expr} {kws : List Keyword} {t tk : TA} {g : List Value → List Value → List Value} {gV : List V → List V → List V} {gd : Bool}
theorem mk_gd {A : Around} {C : Addr} {us : List Value} {kw : List (Str × Value)} (h : gd = true → A.guards = some []) : gd = true → (A.under (.builtin "type.__call__" ⟨.ref C :: us, kw⟩)).guards = some [] := fun z => by
  simp [Around.under, Code.guards, Code.isGuard, guardIds, pushGuards, h z]
theorem run_makeKS {pins : List (Addr × Obj)} {σ : St} {H : Hp} {s : Shared} {Q : VK} {us ws : List Value} {vs zs : List V} (M : Mk X.K C f) (F : FnX gd X k f fd ps sp) (hr : Room (k + 1) X.A) (hgd : gd = true → X.A.guards = some []) (hb : KBn X.K fd ps (n + 1) ks g gV) (hx : PassesAt (L2.CX X.prog X.w) X σ (Ex σ))
    (I : Inv X pins σ H s) (r : Vals vs us) (rz : Vals zs ws) (l1 : vs.length = n) (l2 : zs.length = ks.length)
    (h : ∀ x dx, H x = none → H dx = none → dx ≠ x → sp (gV (.ref x :: vs) zs) (upd (upd H dx (.own x)) x (.ins C dx [])) (fun v H2 => v = .non ∧ Q (.ref x) H2) (Ex σ)) :
    wpAny (model X.prog X.w) X.A (call (.ref C) us (ks.zip ws)) (EP X pins σ Q) X.xe s := by
  have hq := h (s.heap.objs.size + 1) s.heap.objs.size (I.hok.fresh (Nat.le_succ _)) (I.hok.fresh (Nat.le_refl _)) (Nat.ne_of_lt (Nat.lt_succ_self _))
  have I2 := Inv.made (C := C) I
  have r1 : Vals (V.ref (s.heap.objs.size + 1) :: vs) (Value.ref (s.heap.objs.size + 1) :: us) := .cons rfl r
  have r2 := hb.rel r1 rz
  have n1 : (Value.ref (s.heap.objs.size + 1) :: us).length = n + 1 := by
    rw [List.length_cons, ← r.length, l1]
  refine wpAny_call (make_map (f := f) I.kIn M.makes M.init (beq_iff_eq.mp M.fn) (codeAny_mono (F.go _ X.stack _ _ ⟨Value.ref (s.heap.objs.size + 1) :: us, ks.zip ws⟩ (g (Value.ref (s.heap.objs.size + 1) :: us) ws) _ _ (Ex σ) (hr.make C us (ks.zip ws)) (mk_gd hgd)
    (I2.env0.make C us (ks.zip ws)) (hb.to _ (Value.ref (s.heap.objs.size + 1) :: us) ws I2.kIn n1 (rz.length.symm.trans l2)) r2 hq) fun r s' hq' => ?_))
  cases r with
  | error e => exact hx pins _ _ e s' I2 hq'
  | ok fl =>
    cases fl with
    | ret u =>
      obtain ⟨v, H', I3, rv, ev, q3⟩ := I2.after hq'
      subst ev
      exact ⟨rv, ⟨V.ref (s.heap.objs.size + 1), H', I3, rfl, q3⟩⟩
    | next => exact False.elim hq'
    | brk => exact False.elim hq'
    | cont => exact False.elim hq'
def tMakeKS (C : Addr) (n m : Nat) (sp : Sp) (gV : List V → List V → List V) (Ex : St → XK) (t tk : TA) : TE := fun σ H Q => t σ H fun vs H1 => tk σ H1 fun zs H2 => vs.length = n ∧ zs.length = m ∧ ∀ x dx, H2 x = none → H2 dx = none → dx ≠ x →
  sp (gV (.ref x :: vs) zs) (upd (upd H2 dx (.own x)) x (.ins C dx [])) (fun v H3 => v = .non ∧ Q (.ref x) H3) (Ex σ)
theorem pe_makeKS (M : Mk X.K C f) (F : FnX gd X k f fd ps sp) (hr : Room (k + 1) X.A) (hgd : gd = true → X.A.guards = some []) (hg : Gl X x) (hm : X.mg x = some (.ref C)) (hb : KBn X.K fd ps (n + 1) ks g gV) (hx : ∀ σ, PassesAt (L2.CX X.prog X.w) X σ (Ex σ)) (ha : PA X (e :: es) t) (hkw : PK X kws tk)
    (hall : (backToKw pos (keywordEach kws X.env)).all (·.1.isSome) = true) (hks : (backToKw pos (keywordEach kws X.env)).filterMap (·.1) = ks) (hdb : (x == ("__debug__" : Str)) = false)
    (he : starEach (e :: es) X.env = (false, eval e X.env) :: starEach es X.env) (hpl : ((backTo pos (starEach (e :: es) X.env)).any (·.1) || (backToKw pos (keywordEach kws X.env)).any (·.1.isNone)) = false) :
    PE X (.Call (.Name x p) (e :: es) kws pos) (tMakeKS C n ks.length sp gV Ex t tk) := by
  refine ⟨fun pins s σ H Q I h => ?_⟩
  refine wpAny_Call_Name_kw (ld_glob I hg hm ?_ hdb)
  refine PySem.W.callWith_KW (h₀ := X.base) I.ok.mod.kin M.kp hall (thn (ha.run pos pins s σ H _ I h) fun us s1 ⟨vs, H1, I1, r, q⟩ => ?_) hpl he
  refine thn (hkw.run pos pins s1 σ H1 _ I1 q) fun ws s2 ⟨zs, H2, I2, rz, l1, l2, q2⟩ => ⟨I2.kIn, ?_⟩
  rw [hks]
  exact run_makeKS M F hr hgd hb (hx σ) I2 r rz l1 l2 q2
end

section
variable {τ α β γ δ κ ρ ι θ : Type} {G : Gx} {c : Sc} {E : Eff τ} {W : WX} {Γ Γ' : Env} {B : Bs} {σ : St} {S S1 S' H H' : Hp} {b b' : τ} {L : Ls κ ρ}
def zini (n : α → ρ) (m : M τ (Fl α Empty Empty)) : M τ ρ := fun s => match m s with
  | .ok (.nx y) s' => .ok (n y) s'
  | .ok _ _ => .stuck
  | .exc e s' => .exc e s'
  | .stuck => .stuck
def finI (G : Gx) (C : Addr) (S H : Hp) (l : Addr) (fs : ρ → List (Str × Pr)) (Q : VK) (XE : XK) : Out Unit ρ → Prop
  | .ok r _ => ∀ S' H', Keep (fun _ => False) ⟨S, del H l⟩ S' H' → S' l = none → (ownO (fun _ => True) C (fs r)).p S' H' (.ref l) (fun x => x = l) → Q .non H'
  | .exc e _ => ∀ c d S' H', Keep (fun _ => False) ⟨S, del H l⟩ S' H' → XAt G e H' c d → XE c d H'
  | .stuck => False
/-- the promise of an __init__: the new instance at l has then the fields fs r -/
def spI (G : Gx) (C : Addr) (A : α → List Pr) (m : α → M Unit ρ) (fs : ρ → List (Str × Pr)) : Sp := fun vs H Q XE => ∃ a l dx S us, vs = .ref l :: us ∧ All2 (fun (p : Pr) v => p.p S v) (A a) us ∧ Same S H ∧ S l = none ∧ H l = some (.ins C dx []) ∧ finI G C S H l fs Q XE (m a ())
theorem init_ok {g : Bool} {x qual : Str} {st : Stmt} {f : Addr} {fd : FuncData} {N ps : List Str} {k : Nat} {C : Addr} {A : α → List Pr} {fs : ρ → List (Str × Pr)} {mb : α → M Unit (Fl β Empty Empty)} {Γn : Addr → α → β → Env} {n : α → β → ρ} {kws : List (Str × V)} (F : FunD G.K x qual (defArgs st) (defBody st) (defScope st) [] kws f fd) (sc : FnScope N ps (defScope st))
    (hA : ∀ a, (A a).length + 1 = ps.length) (hn : ∀ l a y, (Γn l a y)[0]? = some (.ow (ownO (fun x => x = l) C (fs (n a y)))))
    (hb : ∀ l a (W : WX), ZB G ⟨N, defScope st, k, true, fun _ => true, g⟩ noE W ⟨fun e : Empty => e.elim, [], (⟨fun e => e.elim, fun {e} => e.elim⟩ : Rel Empty), fun e => e.elim⟩ (.ow (ownO (fun x => x = l) C []) :: ((A a).map .st ++ List.replicate (N.length - ((A a).length + 1)) .no)) (defBody st) (mb a) (Γn l a)) :
    FnG g G.P G.w G.K G.mg G.base (k + 1) f fd ps (spI G C A (fun a => zini (n a) (mb a)) fs) := by
  refine fng_D F sc (fun vs H Q XE h => ?_) (fun cdv A0 outer s H vs Q XE hr hgd h => ?_)
  · obtain ⟨a, l, dx, S, us, rfl, r, _⟩ := h
    rw [List.length_cons, ← r.length, hA]
  · obtain ⟨a, l, dx, S, us, rfl, r, hs, hl, hH, fz⟩ := h
    let W : WX := fun cls d _ H => XE cls d H
    have Cc : CtxOk G ⟨N, defScope st, k, true, fun _ => true, g⟩ W (cxOf (L2.CX G.P G.w) G.P G.w G.K G.mg G.base N qual (defScope st) f cdv A0 outer s H XE) :=
      ⟨rfl, rfl, rfl, rfl, rfl, rfl, sc.nd, rfl, rfl, hr, hgd, takes_of rfl rfl rfl rfl, passes_of rfl, rfl, fun _ => ⟨rfl, rfl⟩⟩
    have hh : Hold noE ⟨S, del H l⟩ (.ow (ownO (fun x => x = l) C []) :: ((A a).map .st ++ List.replicate (N.length - ((A a).length + 1)) .no)) () (L2.start N (.ref l :: us)) S H := by
      refine ⟨⟨hs, Same.refl _, fun x o h1 h2 _ => ⟨h1, ?_⟩⟩, trivial, fun i x => i = 0 ∧ x = l, ⟨fun i x ⟨e1, e2⟩ => ?_, fun i j x e1 e2 => e1.1.trans e2.1.symm⟩, fun i sl e => ?_⟩
      · have hx : x ≠ l := fun z => by rw [z] at h2; have h2 : del H l l = some o := h2; rw [del_same] at h2; cases h2
        have h2 : del H l x = some o := h2
        rw [del_ne hx] at h2; exact h2
      · subst e1 e2
        exact ⟨hl, del_same, fun z => z, _, hH⟩
      · unfold L2.start
        cases i with
        | zero =>
          cases e
          exact ⟨.ref l, rfl, l, dx, [], rfl, rfl, fun x => ⟨fun z => z.2, fun z => ⟨rfl, z⟩⟩, hH, Nat.le_refl _, fun _ _ => rfl, fun f p z => nomatch z⟩
        | succ i =>
          simp only [List.getElem?_cons_succ] at e
          simp only [List.map_cons, List.cons_append, List.getElem?_cons_succ]
          by_cases hi : i < (A a).length
          · rw [List.getElem?_append_left (by simpa using hi), List.getElem?_map] at e
            cases e2 : (A a)[i]? with
            | none => rw [e2] at e; cases e
            | some p =>
              rw [e2] at e; cases e
              obtain ⟨v, h1, h2⟩ := r.get e2
              rw [List.getElem?_append_left (by rw [List.length_map, ← r.length]; exact hi), List.getElem?_map, h1]
              exact ⟨v, rfl, h2⟩
          · rw [List.getElem?_append_right (by simpa using hi), List.getElem?_replicate] at e
            split at e
            · cases e; trivial
            · cases e
    refine ⟨_, hb l a W _ Cc, ⟨S, del H l⟩, S, (), hh, ?_⟩
    have fz : finI G C S H l fs Q XE (zini (n a) (mb a) ()) := fz
    unfold zini at fz
    cases e : mb a () with
    | stuck => rw [e] at fz; exact fz.elim
    | exc e b' => rw [e] at fz; exact fun c d σ' S' H' h xa => fz c d S' H' h.kp xa
    | ok r b' =>
      rw [e] at fz
      cases r with
      | bk k => exact k.elim
      | ct k => exact k.elim
      | rt r => exact r.elim
      | nx y =>
        intro σ' S' H' _ h
        obtain ⟨Fs, hF, hsl⟩ := id h.sl
        obtain ⟨v, e1, l', dx', vs', rfl, e0, hf, hu, h2, h3, h4⟩ := hsl 0 _ (hn l a y)
        have e0 : l' = l := e0
        subst e0
        obtain ⟨q1, _, _, _⟩ := hF.at_ 0 l' ((hf l').mpr rfl)
        exact fz S' H' h.kp q1 ⟨l', dx', vs', rfl, trivial, fun _ => Iff.rfl, hu, h2, h3, h4⟩
structure MkAt (g : Bool) (G : Gx) (C : Addr) (k : Nat) (ps : List Str) (sp : Sp) (dvs : List V) : Prop where
  ex : ∃ f fd ds, Mk G.K C f ∧ Binds G.K fd ps ds ∧ Vals dvs ds ∧ FnG g G.P G.w G.K G.mg G.base k f fd ps sp
/-- what is one's own at the end is handed on as stable -/
theorem zf_e {e : Expr} {m : M τ α} {P : α → PrO} {R : Rel α} (one : ∀ a, One (P a) (R.pr a)) (h : ZF G c E W Γ e m P) : ZE G c E W Γ e m R := fun X C => pe_wk (h X C) fun σ H Q _ ⟨B, S, b, hh, q⟩ => by
  refine ⟨B, S, b, hh, ?_⟩
  cases e : m b with
  | stuck => rw [e] at q; exact q.elim
  | exc x b1 => rw [e] at q; exact q
  | ok a b1 =>
    rw [e] at q
    intro v S1 H1 H2 F s1 h1 hF hk hp
    classical
    let T : Hp := fun a => if F a then H2 a else S1 a
    have ti : ∀ a, F a → T a = H2 a := fun a z => if_pos z
    have tn : ∀ a, ¬ F a → T a = S1 a := fun a z => if_neg z
    have fr : ∀ a o, H1 a = some o → ¬ F a := fun a o e z => by rw [(hF a z).1] at e; cases e
    have sm : Same S1 T := fun a o e => by rw [tn a (fr a o (h1.same _ _ e))]; exact e
    have h2 : Hold E B Γ b1 σ T H2 := h1.grow sm (fun a o e => by
      by_cases z : F a
      · rw [ti a z] at e; exact e
      · rw [tn a z] at e; rw [hk a z]; exact h1.same _ _ e) (fun a o e1 e2 => ⟨by rw [tn a (fr a o e2)]; exact e1, by rw [hk a (fr a o e2)]; exact e2⟩) fun a ha hn => by
        rw [tn a fun z => h1.fr (hF a z).1 ha]; exact hn
    exact q v T H2 (s1.trans sm) h2 ((one a).at_ hp T sm fun a o z e => by rw [ti a z]; exact e)
end
end Zk

namespace Zk
open PySem L2

/-! ### ranges of any size -/
theorem turn_long {P : Program} {w : World} {K : PySem.W.Frag} {tg : Expr} (it : Addr) (lo : Int) (n : Nat) : Turn P w K tg (Itr lo n) [it] it (fun i h => IsLongIter h it (lo + (i : Nat) * 1) ((n : Int) - (i : Nat)) 1) where
  mem := by simp
  obj := fun i h st b hb => by
    have e : b = it := by simpa using hb
    subst e
    exact ⟨_, st, fun v z => by cases z⟩
  keep := fun i h h' st k => k it (by simp) _ st
  item := by
    intro X hP hw hK hc i pins s σ H E I hf st hg
    subst hP hw hK
    obtain ⟨f0, f1, f2, f3, f4, f5⟩ := hf it (by simp)
    have hg' : i < n := hg
    refine wpAny_pyNext_long_item st (by omega) fun h' st' sb => ?_
    have I1 : Inv X pins σ H { s with heap := h', toks := s.toks + 1 } := I.turned (fun b o hb e => sb.extBut b o (by simpa using hb) e) f0 f1 f3 f4 f5
    have e1 : lo + ((i + 1 : Nat) : Int) * 1 = lo + (i : Int) * 1 + 1 := by push_cast; omega
    have e2 : (n : Int) - ((i + 1 : Nat) : Int) = (n : Int) - (i : Int) - 1 := by push_cast; omega
    have st2 : IsLongIter h' it (lo + ((i + 1 : Nat) : Int) * 1) ((n : Int) - ((i + 1 : Nat) : Int)) 1 := by rw [e1, e2]; exact st'
    refine ⟨_, rfl, go_of (s := { s with heap := h', toks := s.toks + 1 }) (n := "longrange_iterator") st' rfl rfl (by decide) ⟨.int (lo + i), H, I1, ⟨s.toks, ?_⟩, ⟨rfl, rfl⟩, st2, fun b hb => (hf b hb).1⟩⟩
    rw [Int.mul_one]
  done := by
    intro X hP hw hK hc i pins s σ H E I hf st hg
    subst hP hw hK
    obtain ⟨f0, f1, f2, f3, f4, f5⟩ := hf it (by simp)
    have hg' : n ≤ i := hg
    exact wpAny_pyNext_long_end (I.ok.hd hc) st (by omega) fun h' eb => ⟨rfl, I.turned (t' := s.toks) (fun b o hb e => eb b o (by simpa using hb) e) f0 f1 f3 f4 f5⟩
  self := fun _ _ _ _ _ st h => wpAny_pyIter_longiter st h
theorem range_itA {X : Cx} {tg : Expr} {pins : List (Addr × Obj)} {σ : St} {H : Hp} {s : Shared} {R : It → Hp → Prop} {E : Value → Shared → Prop} {lo hi : Int} {t u v : Tok} {tk : Nat} (I : Inv X pins σ H s)
    (q : R (Itr lo (hi - lo).toNat) H) : wpAny (model X.prog X.w) X.A (pyIter (.ref s.heap.objs.size)) (PIE X pins σ tg R) E { s with heap := s.heap.push { cls := .type "range", data := .fields #[.int lo t, .int hi u, .int 1 v] }, toks := tk } := by
  have I1 : Inv X pins σ H { s with heap := s.heap.push { cls := .type "range", data := .fields #[.int lo t, .int hi u, .int 1 v] }, toks := tk } := I.kept fun b o e => Heap.get?_push_of_some _ e
  have e1 : lo + ((0 : Nat) : Int) * 1 = lo := by simp
  have e2 : (((hi - lo).toNat : Nat) : Int) - ((0 : Nat) : Int) = Builtin.Range.rangeSize lo hi 1 := by rw [rangeSize_one]; split <;> omega
  cases hs : Builtin.Range.small lo hi 1 with
  | true =>
    refine wpAny_pyIter_range (IsRange.new ..) hs ?_
    refine ⟨(s.heap.push { cls := .type "range", data := .fields #[.int lo t, .int hi u, .int 1 v] }).objs.size, [(s.heap.push { cls := .type "range", data := .fields #[.int lo t, .int hi u, .int 1 v] }).objs.size], _, _, H, rfl,
      I1.kept (t' := tk) fun b o e => Heap.get?_push_of_some _ e, turn_range _ lo (hi - lo).toNat, ?_, fun b hb => ?_, q⟩
    · show IsRangeIter _ _ (lo + ((0 : Nat) : Int) * 1) ((((hi - lo).toNat : Nat) : Int) - ((0 : Nat) : Int)) 1
      rw [e1, e2]
      exact Heap.get?_push_size _ rfl
    · have e : b = (s.heap.push { cls := .type "range", data := .fields #[.int lo t, .int hi u, .int 1 v] }).objs.size := by simpa using hb
      subst e
      exact I1.fpOk (Nat.le_refl _) (I1.hok.fresh (Nat.le_refl _))
  | false =>
    refine wpAny_pyIter_longrange (IsRange.new ..) hs ?_
    refine ⟨(s.heap.push { cls := .type "range", data := .fields #[.int lo t, .int hi u, .int 1 v] }).objs.size, [(s.heap.push { cls := .type "range", data := .fields #[.int lo t, .int hi u, .int 1 v] }).objs.size], _, _, H, rfl,
      I1.kept (t' := tk) fun b o e => Heap.get?_push_of_some _ e, turn_long _ lo (hi - lo).toNat, ?_, fun b hb => ?_, q⟩
    · show IsLongIter _ _ (lo + ((0 : Nat) : Int) * 1) ((((hi - lo).toNat : Nat) : Int) - ((0 : Nat) : Int)) 1
      rw [e1, e2]
      exact Heap.get?_push_size _ rfl
    · have e : b = (s.heap.push { cls := .type "range", data := .fields #[.int lo t, .int hi u, .int 1 v] }).objs.size := by simpa using hb
      subst e
      exact I1.fpOk (Nat.le_refl _) (I1.hok.fresh (Nat.le_refl _))
def iRng1A (ta : TA) : TI := fun σ H R => ta σ H fun vs H1 => ∃ j : Int, vs = [.int j] ∧ R (Itr 0 j.toNat) H1
theorem pi_range1A {X : Cx} {tg a : Expr} {ta : TA} {p pos : Pos} (hg : Gl X "range") (hm : X.mg "range" = none) (ha : PA X [a] ta) (hs : starEach [a] X.env = [(false, eval a X.env)]) : PI X tg (.Call (.Name "range" p) [a] [] pos) (iRng1A ta) := by
  refine ⟨fun pins s σ H R I h => ?_⟩
  refine PyProof.Rows.Call_ (ld_blt I hg hm PyProof.Rows.boot_range (PyProof.Rows.callWith_type1 (thn (ha.run pos pins s σ H _ I h) fun us s1 ⟨vs, H1, I1, r1, q1⟩ => ?_) hs rfl))
  obtain ⟨j, e, q⟩ := q1
  subst e
  cases r1 with
  | cons r rr =>
    cases rr
    obtain ⟨t, rfl⟩ := r
    exact call_range_1 (range_itA I1 (by simpa using q))
section
variable {τ α β γ δ κ ρ ι θ : Type} {G : Gx} {c : Sc} {E : Eff τ} {W : WX} {Γ Γ' : Env} {B : Bs} {σ : St} {S S1 S' H H' : Hp} {b b' : τ} {L : Ls κ ρ}
def frA1 (j : Int) : M τ (List Int) := ret (rng 0 j.toNat)
def frA2 (x : Int × Int) : M τ (List Int) := ret (rng x.1 (x.2 - x.1).toNat)
theorem zi_r1 {tg e : Expr} {m : M τ Int} {p pos : Pos} (bl : Blt G c "range" (.type "range")) (h : ZE G c E W Γ e m rInt) (hs : ∀ env : PySem.Env, starEach [e] env = [(false, eval e env)] := by intro _; rfl) : ZI G c E W Γ tg (.Call (.Name "range" p) [e] [] pos) (zapp frA1 m) rInt := fun X C =>
  pi_wk (pi_range1A (C.gl bl.g) (by rw [C.mg]; exact bl.m) (za_one h (fun env => hs env) X C) (hs X.env)) fun σ H Q ⟨B, S, b, hh, q⟩ => by
    refine tzI_bndA (A := fun x => [rInt.pr x]) hh q fun x b1 vs S1 H1 s1 h1 r1 q1 => ?_
    match vs, r1 with
    | [v], ⟨r, _⟩ => exact ⟨x, by rw [show v = V.int x from r], q1 _ _ S1 H1 (Same.refl _) h1 src_rng trivial⟩
/-! ### while -/
open Classical in
end
end Zk

namespace Zk
open PySem L2

theorem get_list {X : Cx} : PGet X (rIxL X.K) := by
  intro pins s σ H x y v u Q I rx ry h
  obtain ⟨p, xs, i, z, rfl, rfl, hq, he, q⟩ := h
  cases rx
  obtain ⟨t, rfl⟩ := ry
  obtain ⟨its, r, pl, hz⟩ := I.list hq
  obtain ⟨j, h1, h2, h3, h4, h5⟩ := atI_get he
  obtain ⟨w, ew, rw'⟩ := r.get h2
  have hl := r.length
  have hn := line63
  have fin : EP X pins σ Q w s := ⟨z, H, I, rw', q⟩
  by_cases h0 : 0 ≤ i
  · have hj : i.toNat = j := by
      rw [seqIndex_of h0 h5] at h1
      exact Option.some.inj h1
    exact wpAny_getItem_list pl.isList h0 (by omega) (by rw [hj]; simpa using ew) fin
  · have hj : (i + (its.toArray.size : Int)).toNat = j := by
      rw [seqIndex_neg (by omega) h4] at h1
      rw [List.size_toArray, ← hl]
      exact Option.some.inj h1
    exact wpAny_getItem_list_neg pl.isList (by omega) (by rw [List.size_toArray] <;> omega) (by omega) (by rw [hj]; simpa using ew) fin

/-! ### the bag of a law -/
structure Bag where
  big : Int
  mix : Int
  pos : Int
  cells : List Int
def Bag.row (s : Bag) (c : Addr) : List V := [.int s.big, .int s.mix, .int s.pos, .ref c]
def bagE (b c : Addr) : Eff Bag where
  own a := a = b ∨ a = c
  is s S H := b ≠ c ∧ S b = none ∧ S c = none ∧ H b = some (.lst (s.row c)) ∧ H c = some (.lst (s.cells.map V.int))
  mono := fun s f k ⟨h0, h1, h2, h3, h4⟩ => ⟨h0, f _ (.inl rfl) h1, f _ (.inr rfl) h2, k _ _ (.inl rfl) h3, k _ _ (.inr rfl) h4⟩
  th := fun ⟨h0, h1, h2, h3, h4⟩ h => by
    rcases h with h | h
    · subst h; exact ⟨h1, _, h3⟩
    · subst h; exact ⟨h2, _, h4⟩
theorem free_bag {b c : Addr} : Free (bagE b c) := ⟨fun k ⟨h0, h1, h2, h3, h4⟩ => ⟨h0, k _ (.inl rfl), k _ (.inr rfl), h3, h4⟩⟩
section
variable {α β γ δ κ ρ : Type} {G : Gx} {c : Sc} {W : WX} {Γ Γ' : Env} {B : Bs} {σ : St} {S S1 S' H H' : Hp} {s s' : Bag} {b d : Addr} {L : Ls κ ρ}
/-- the bag's row is written -/
theorem Hold.bag (h : Hold (bagE b d) B Γ s σ S H) (e : s'.cells = s.cells) : Hold (bagE b d) B Γ s' σ S (upd H b (.lst (s'.row d))) := by
  obtain ⟨Fs, hF, hs⟩ := h.sl
  obtain ⟨h0, h1, h2, h3, h4⟩ := h.ef
  refine ⟨⟨fun a o e => ?_, h.kp.up, fun a o e1 e2 e3 => ?_⟩, ⟨h0, h1, h2, upd_same, by rw [upd_ne (Ne.symm h0), e]; exact h4⟩, Fs, ⟨fun i a e => ?_, hF.ds⟩, fun i t e => ?_⟩
  · have n : a ≠ b := fun z => by rw [z, h1] at e; cases e
    rw [upd_ne n]; exact h.same _ _ e
  · have n : a ≠ b := fun z => e3 (.inl z)
    rw [upd_ne n]; exact h.kp.kp a o e1 e2 e3
  · obtain ⟨q1, q2, q3, o, q4⟩ := hF.at_ i a e
    have n : a ≠ b := fun z => q3 (.inl z)
    exact ⟨q1, q2, q3, o, by rw [upd_ne n]; exact q4⟩
  · have q := hs i t e
    cases t with
    | no => trivial
    | st p => exact q
    | ow p => obtain ⟨x, e1, e2⟩ := q; exact ⟨x, e1, p.mono (Same.refl _) (fun a o ha e => by
        have n : a ≠ b := fun z => (hF.at_ i a ha).2.2.1 (.inl z)
        rw [upd_ne n]; exact e) e2⟩
    | gh p => exact p.mono (Same.refl _) (fun a o ha e => by
        have n : a ≠ b := fun z => (hF.at_ i a ha).2.2.1 (.inl z)
        rw [upd_ne n]; exact e) q
def bget (f : Bag → α) : M Bag α := fun s => .ok (f s) s
variable {i : Nat} {x : Str} {p1 p2 p3 p4 p5 p6 pos : Pos} {j j2 j3 : Nat}
theorem ref_slot {E : Eff δ} {t : δ} {p : Addr} (h : Hold E B Γ t σ S H) (hi : Γ[i]? = some (.st ((rRef p).pr ()))) : σ[i]? = some (some (.ref p)) := by
  obtain ⟨Fs, hF, hs⟩ := h.sl
  obtain ⟨v, e1, e2⟩ := hs i _ hi
  have : v = .ref p := e2
  subst this
  exact slot_get e1
theorem z_bag {k : Int} {f : Bag → Int} (n : Nm c i x) (hi : Γ[i]? = some (.st ((rRef b).pr ()))) (hf : ∀ s : Bag, atI (s.row d) k = some (.int (f s))) (hs : PIx (.Constant (.int k) j p2) := by intro _ _; rfl) :
    ZE G c (bagE b d) W Γ (.Subscript (.Name x p1) (.Constant (.int k) j p2) pos) (bget f) rInt := fun X C =>
  pe_wk (pe_ix ix_list (pe_var (C.hi n.n) (by rw [C.sc]; exact n.v) n.d n.cd) pe_int hs) fun σ H Q _ ⟨B, S, s, hh, q⟩ =>
    ⟨.ref b, ref_slot hh hi, b, s.row d, k, _, rfl, rfl, .of hh.ef.2.2.2.1, hf s, q _ S H (Same.refl _) hh rfl⟩
theorem z_bag3 (n : Nm c i x) (hi : Γ[i]? = some (.st ((rRef b).pr ()))) (hs : PIx (.Constant (.int 3) j p2) := by intro _ _; rfl) :
    ZE G c (bagE b d) W Γ (.Subscript (.Name x p1) (.Constant (.int 3) j p2) pos) (ret ()) (rRef d) := fun X C =>
  pe_wk (pe_ix ix_list (pe_var (C.hi n.n) (by rw [C.sc]; exact n.v) n.d n.cd) pe_int hs) fun σ H Q _ ⟨B, S, s, hh, q⟩ =>
    ⟨.ref b, ref_slot hh hi, b, s.row d, 3, .ref d, rfl, rfl, .of hh.ef.2.2.2.1, rfl, q _ S H (Same.refl _) hh rfl⟩
def bcell (m : M Bag Unit) (n : M Bag Int) : M Bag Int := bnd m fun _ => bnd n fun i => fun s => match atI s.cells i with | some x => .ok x s | none => .stuck
theorem atI_map {xs : List Int} {i : Int} {x : Int} (h : atI xs i = some x) : atI (xs.map V.int) i = some (.int x) := by
  unfold atI at *
  rw [List.length_map]
  cases e : ixN xs.length i with
  | none => rw [e] at h; cases h
  | some j =>
    rw [e] at h
    have h : xs[j]? = some x := h
    show (xs.map V.int)[j]? = _
    rw [List.getElem?_map, h]; rfl
theorem z_bcell {ea eb : Expr} {m : M Bag Unit} {n : M Bag Int} (ha : ZE G c (bagE b d) W Γ ea m (rRef d)) (hb : ZE G c (bagE b d) W Γ eb n rInt) (hs : PIx eb := by intro _ _; rfl) : ZE G c (bagE b d) W Γ (.Subscript ea eb pos) (bcell m n) rInt := fun X C =>
  pe_wk (pe_ix ix_list (ha X C) (hb X C) hs) fun σ H Q _ ⟨B, S, s, hh, q⟩ => by
    refine tz_bnd hh q fun _ s1 v S1 H1 m1 h1 r1 q1 => ?_
    refine tz_bnd h1 q1 fun y s2 w S2 H2 m2 h2 r2 q2 => ?_
    cases e : atI s2.cells y with
    | none => rw [e] at q2; exact q2.elim
    | some z => rw [e] at q2; exact ⟨d, _, y, _, r1, r2, .of h2.ef.2.2.2.2, atI_map e, q2 _ S2 H2 (Same.refl _) h2 rfl⟩
def blen (_ : Unit) : M Bag Int := fun s => .ok (s.cells.length : Int) s
theorem z_blen {e : Expr} {y : Str} {m : M Bag Unit} (bl : Blt G c y (.builtin "len")) (ha : ZE G c (bagE b d) W Γ e m (rRef d)) (hs : Star e [] := by intro _; rfl) : ZE G c (bagE b d) W Γ (.Call (.Name y p1) [e] [] pos) (zapp blen m) rInt :=
  z_b1 bl (R := rRef d) (r := fun xs H Q => ∃ p ys, xs = [.ref p] ∧ (SqL G.K H p ys ∨ SqT G.K H p ys) ∧ Q (.int ys.length) H) (fun X C => by rw [← C.K]; exact call_len_seq) (fun B σ S H t x v Q hh e q => ⟨d, _, by rw [show v = .ref d from e], .inl (.of hh.ef.2.2.2.2), by rw [List.length_map]; exact q _ S H (Same.refl _) hh rfl⟩) ha hs
/-- bag[k] = e -/
def bput (f : Bag → Int → Bag) (m : M Bag Int) : M Bag (Fl Unit κ ρ) := bnd m fun v s => .ok (.nx ()) (f s v)
theorem zs_bput {k : Int} {kj : Nat} {f : Bag → Int → Bag} {e : Expr} {m : M Bag Int} (n : Nm c i x) (hi : Γ[i]? = some (.st ((rRef b).pr ()))) (hk : ixN 4 k = some kj) (hf : ∀ s v, (s.row d).set kj (.int v) = (f s v).row d) (hc : ∀ s v, (f s v).cells = s.cells) (h : ZE G c (bagE b d) W Γ e m rInt) (sx : Sub (bagE b d) Γ L.x)
    (hs : ∀ (l : Nat) (env : PySem.Env), swapsWithSole [.Subscript (.Name x p1) (.Constant (.int k) j p2) p3] e l env = pure false := by intro _ _; rfl)
    (hw : ∀ env : PySem.Env, swappedStores [.Subscript (.Name x p1) (.Constant (.int k) j p2) p3] e env = pure none := by intro _; rfl) :
    ZS G c (bagE b d) W L Γ (.Assign [.Subscript (.Name x p1) (.Constant (.int k) j p2) p3] e pos) (bput f m) (fun _ => Γ) := fun X C =>
  ps_wk (ps_asg (h X C) (pg_sub (pe_var (C.hi n.n) (by rw [C.sc]; exact n.v) n.d n.cd) pe_int set_list) (hs _ _) (hw _)) fun D σ H hl ⟨B, S, s, hh, q⟩ => by
    refine tzS_bnd (R := rInt) sx hh q fun y s1 v S1 H1 m1 h1 r1 q1 => ?_
    have r1 : v = .int y := r1
    subst r1
    exact ⟨.ref b, ref_slot h1 hi, b, s1.row d, k, kj, rfl, rfl, h1.ef.2.2.2.1, hk, by rw [hf]; exact q1 σ S1 _ (Same.refl _) (h1.bag (hc _ _))⟩
/-- bag[k] += e -/
theorem zs_binc {k : Int} {kj : Nat} {g : Bag → Int} {f : Bag → Int → Bag} {e : Expr} {m : M Bag Int} (n : Nm c i x) (hi : Γ[i]? = some (.st ((rRef b).pr ()))) (hg : ∀ s : Bag, atI (s.row d) k = some (.int (g s))) (hk : ixN 4 k = some kj) (hf : ∀ s v, (s.row d).set kj (.int v) = (f s v).row d) (hc : ∀ s v, (f s v).cells = s.cells) (h : ZE G c (bagE b d) W Γ e m rInt) (sx : Sub (bagE b d) Γ L.x)
    (ha : ∀ ov iv new, augStore (.Constant (.int k) j p2) ov iv new = (do holding [new, ov, iv] (setItem ov iv new); release [new, ov, iv] []; pure .next) := by intros; rfl) :
    ZS G c (bagE b d) W L Γ (.AugAssign (.Subscript (.Name x p1) (.Constant (.int k) j p2) p3) .Add e pos) (bput f (zop2 iadd (bget g) m)) (fun _ => Γ) := fun X C =>
  ps_wk (ps_augS (pe_var (C.hi n.n) (by rw [C.sc]; exact n.v) n.d n.cd) pe_int get_list (h X C) ip_add set_list ha) fun D σ H hl ⟨B, S, s, hh, q⟩ => by
    refine ⟨.ref b, ref_slot hh hi, b, s.row d, k, _, rfl, rfl, .of hh.ef.2.2.2.1, hg s, ?_⟩
    have q : aftS G (bagE b d) W L B S (fun _ => Γ) D ((bnd m fun v s2 => .ok (.nx ()) (f s2 (g s + v)) : M Bag (Fl Unit κ ρ)) s) := by
      have : (bput f (zop2 iadd (bget g) m) : M Bag (Fl Unit κ ρ)) s = (bnd m fun v s2 => .ok (.nx ()) (f s2 (g s + v)) : M Bag (Fl Unit κ ρ)) s := by
        simp only [bput, zop2, bget, bnd, iadd, ret]
        cases m s <;> rfl
      rw [← this]; exact q
    refine tzS_bnd (R := rInt) sx hh q fun y s1 v S1 H1 m1 h1 r1 q1 => ?_
    have r1 : v = .int y := r1
    subst r1
    exact ⟨g s, y, rfl, rfl, b, s1.row d, k, kj, rfl, rfl, h1.ef.2.2.2.1, hk, by rw [hf]; exact q1 σ S1 _ (Same.refl _) (h1.bag (hc _ _))⟩
end
end Zk

namespace Zk
open PySem L2

section
variable {τ α β γ δ κ ρ ι θ : Type} {G : Gx} {c : Sc} {E : Eff τ} {W : WX} {Γ Γ' : Env} {B : Bs} {σ : St} {S S1 S' H H' : Hp} {b b' : τ} {L : Ls κ ρ}

/-! ### several targets at once -/
theorem zs_asgS {tg e : Expr} {m : M τ α} {R : Rel α} {f : α → Env} {vs : List Nat} {pos : Pos} (h : ZE G c E W Γ e m R) (g : ZG G c E W Γ vs tg f R) (sx : Sub E Γ L.x) (hs : ∀ (l : Nat) (env : PySem.Env), swapsWithSole [tg] e l env = pure false := by intro _ _; rfl)
    (hw : ∀ env : PySem.Env, env.scope = c.sc → swappedStores [tg] e env = pure none := by intro env h; cases env; cases h; rfl) (h1 : ∀ env : PySem.Env, (assignEach [tg] env).map (·.2) = [assign tg env] := by intro _; rfl) : ZS G c E W L Γ (.Assign [tg] e pos) (zset m) f := fun X C =>
  ps_wk (ps_asg (h X C) (g.1 X C) (hs _ _) (hw _ C.sc) (h1 _)) fun D σ H hl ⟨B, S, b, hh, q⟩ => by
    refine tzS_bnd (R := R) sx hh q fun x b1 v S1 H1 s1 h1 r1 q1 => ?_
    exact ⟨B, S1, b1, x, h1, r1, fun σ' w h' => q1 σ' S1 H1 (Same.refl _) h'⟩
theorem zs_par2 {i j : Nat} {x y : Str} {ea eb : Expr} {m : M τ (α × β)} {R : Rel α} {R2 : Rel β} {px py pt pos : Pos} {kt k2 pt2} (nx : c.N[i]? = some x) (ny : c.N[j]? = some y) (lx : c.sc.names.lookup x = some .local) (ly : c.sc.names.lookup y = some .local) (hij : i ≠ j)
    (h : ZA G c E W Γ [ea, eb] m (fun p => [R.pr p.1, R2.pr p.2])) (sx : Sub E Γ L.x) (hw : ∀ env : PySem.Env, env.scope = c.sc → swappedStores [.Tuple [.Name x px, .Name y py] kt pt] (.Tuple [ea, eb] k2 pt2) env = pure (some [x, y]) := by intro env h; cases env; cases h; rfl)
    (hs : ∀ (l : Nat) (env : PySem.Env), swapsWithSole [.Tuple [.Name x px, .Name y py] kt pt] (.Tuple [ea, eb] k2 pt2) l env = pure false := by intro _ _; rfl) :
    ZS G c E W L Γ (.Assign [.Tuple [.Name x px, .Name y py] kt pt] (.Tuple [ea, eb] k2 pt2) pos) (zset m) (fun p => (Γ.set i (.st (R.pr p.1))).set j (.st (R2.pr p.2))) := fun X C =>
  ps_wk (ps_par C.calm C.set_hN (C.hi nx) (C.hi ny) hij (by rw [C.sc]; exact lx) (by rw [C.sc]; exact ly) (h X C) (hw _ C.sc) (hs _ _)) fun D σ H hl ⟨B, S, b, hh, q⟩ => by
    refine tzS_bndA (A := fun p => [R.pr p.1, R2.pr p.2]) sx hh q fun y b1 us S1 H1 s1 h1 r1 q1 => ?_
    match us, r1 with
    | [u, w], ⟨r, r2, _⟩ => exact ⟨u, w, rfl, q1 _ S1 H1 (Same.refl _) ((h1.set (C.lt nx hl) r).set (by rw [List.length_set]; exact C.lt ny hl) r2)⟩
/-- (a, b, ..) = a list of that length -/
structure LstOf (R : Rel α) (n : Nat) (A : α → List Pr) : Prop where
  h : ∀ {x : α} {S : Hp} {v : V}, R.is x S v → ∃ a us, v = .ref a ∧ S a = some (.lst us) ∧ us.length = n ∧ All2 (fun (p : Pr) v => p.p S v) (A x) us
/-! ### self.f, self.g = .. -/
def gAttr (K : PySem.W.Frag) (to : TE) (f : Str) : TG := fun v σ H Q => to σ H fun x H1 => ∃ a C dx fs, x = .ref a ∧ H1 a = some (.ins C dx fs) ∧ Cls K C ∧ NoAttr K C f ∧ fs.length < 1000 ∧ Q σ (upd H1 a (.ins C dx (putF f v fs)))
theorem pg_attr {X : Cx} {o : Expr} {f : Str} {to : TE} {pos : Pos} (ho : PE X o to) : PG X (.Attribute o f pos) (gAttr X.K to f) := by
  refine ⟨fun pins s σ H v u Q I r h => ?_⟩
  rw [assign_Attribute]
  refine wpAny_bind (wpAny_holding (thn (ho.run pins s σ H _ I h) fun ov s1 ⟨x, H1, I1, r1, a, C, dx, fs, e, ea, c, n, l, q⟩ => ?_))
  subst e
  obtain rfl : ov = Value.ref a := r1
  refine wpAny_bind (wpAny_standAt (wpAny_bind (wpAny_holding ?_)))
  exact setattr_ok I1 ea c n l r fun s2 I2 => wpAny_release ⟨σ, _, I2, q⟩
def putFs : List Str → List Pr → List (Str × Pr) → List (Str × Pr)
  | f :: fs, p :: ps, acc => putFs fs ps ((f, p) :: acc)
  | _, _, acc => acc
def tgs (x : Str) (l : List (Str × Pos × Pos)) : List Expr := l.map fun t => .Attribute (.Name x t.2.1) t.1 t.2.2
theorem set_set {l : Env} {i : Nat} {a b : Sl} : (l.set i a).set i b = l.set i b := by rw [List.set_set]
theorem get_set {l : Env} {i : Nat} {a : Sl} (h : i < l.length) : (l.set i a)[i]? = some a := List.getElem?_set_self h
theorem zs_fld_step {i : Nat} {q0 : Addr → Prop} {C0 : Addr} {fs : List (Str × Pr)} {f : Str} {p : Pr} {v : V} (hi : Γ[i]? = some (.ow (ownO q0 C0 fs))) (hn : fs.length < 900) (h1 : Hold E B Γ b σ S H) (r1 : p.p S v) :
    ∃ l dx vs, σ[i]? = some (some (.ref l)) ∧ H l = some (.ins C0 dx vs) ∧ vs.length < 1000 ∧ Hold E B (Γ.set i (.ow (ownO q0 C0 ((f, p) :: fs)))) b σ S (upd H l (.ins C0 dx (putF f v vs))) := by
  obtain ⟨Fs, hF, hs⟩ := id h1.sl
  obtain ⟨v0, e1, l, dx, vs, rfl, e0, hf, hu, hlen, hno, hq⟩ := hs i _ hi
  have e1 := slot_get e1
  refine ⟨l, dx, vs, e1, hu, by omega, h1.chg hi (fun {S H v F} h e => by obtain ⟨l', _, _, rfl, _, hf, _⟩ := h; cases e; exact hf) e1 ⟨l, dx, _, rfl, e0, fun _ => Iff.rfl, upd_same, ?_, fun k hk => ?_, fun k p hk => ?_⟩⟩
  · have := length_putF f v vs; simp only [List.length_cons]; omega
  · rw [lookup_putF]
    rw [List.lookup_cons] at hk
    by_cases hkf : k = f
    · subst hkf; simp at hk
    · have : (k == f) = false := beq_eq_false_iff_ne.mpr hkf
      rw [this] at hk
      rw [if_neg hkf]; exact hno k hk
  · rw [lookup_putF]
    rw [List.lookup_cons] at hk
    by_cases hkf : k = f
    · subst hkf
      simp at hk
      subst hk
      exact ⟨v, by rw [if_pos rfl], r1⟩
    · have : (k == f) = false := beq_eq_false_iff_ne.mpr hkf
      rw [this] at hk
      rw [if_neg hkf]; exact hq k p hk
def tFlds (E : Eff τ) (Γ : Env) (i : Nat) (q0 : Addr → Prop) (C0 : Addr) (n : Nat) (fns : List Str) : TGs := fun us σ H Q => ∃ B S b ps fs, Γ[i]? = some (.ow (ownO q0 C0 fs)) ∧ Hold E B Γ b σ S H ∧ All2 (fun (p : Pr) v => p.p S v) ps us ∧ ps.length = fns.length ∧ fs.length + fns.length < n ∧ ∀ H', Hold E B (Γ.set i (.ow (ownO q0 C0 (putFs fns ps fs)))) b σ S H' → Q σ H'
theorem set_same {l : Env} {i : Nat} {a : Sl} (h : l[i]? = some a) : l.set i a = l := by
  obtain ⟨h1, h2⟩ := List.getElem?_eq_some_iff.mp h
  rw [← h2]; exact List.set_getElem_self h1
theorem pgs_flds {i : Nat} {x : Str} {q0 : Addr → Prop} {C0 : Addr} (n : Nm c i x) (cl : Cls G.K C0) {X : Cx} (C : CtxOk G c W X) : ∀ (l : List (Str × Pos × Pos)) (Γ : Env), (∀ t ∈ l, NoAttr G.K C0 t.1) → PGs X (tgs x l) (tFlds E Γ i q0 C0 900 (l.map (·.1)))
  | [], Γ, _ => pgs_wk pgs_nil fun us σ H Q hl ⟨B, S, b, ps, fs, hi, hh, r, e, _, q⟩ => by
    have e : ps = [] := List.length_eq_zero_iff.mp e
    subst e
    match us, r with
    | [], _ => exact ⟨rfl, q H (by rw [show Γ.set i (.ow (ownO q0 C0 (putFs (([] : List (Str × Pos × Pos)).map (·.1)) [] fs))) = Γ from set_same hi]; exact hh)⟩
  | t :: l, Γ, ha => pgs_wk (pgs_cons (pg_attr (pe_var (C.hi n.n) (by rw [C.sc]; exact n.v) n.d n.cd)) (pgs_ex fun p : Pr × List (Str × Pr) => pgs_flds (q0 := q0) (C0 := C0) n cl C l (Γ.set i (.ow (ownO q0 C0 ((t.1, p.1) :: p.2)))) fun t ht => ha t (by simp [ht])) rfl) fun us σ H Q hl ⟨B, S, b, ps, fs, hi, hh, r, e, hn, q⟩ => by
    cases ps with
    | nil => simp at e
    | cons p ps =>
    cases us with
    | nil => exact r.elim
    | cons u us =>
      obtain ⟨r1, r2⟩ := r
      have hlt : i < Γ.length := (List.getElem?_eq_some_iff.mp hi).1
      simp only [List.map_cons, List.length_cons] at hn e
      obtain ⟨l0, dx, vs, e1, e2, e3, h2⟩ := zs_fld_step (f := t.1) hi (by omega) hh r1
      refine ⟨u, us, rfl, .ref l0, e1, l0, C0, dx, vs, rfl, e2, by rw [C.K]; exact cl, by rw [C.K]; exact ha t (by simp), e3, (p, fs), B, S, b, ps, _, get_set hlt, h2, r2, by simpa using e, ?_, fun H' h' => q H' ?_⟩
      · simp only [List.length_cons]; omega
      · rw [set_set] at h'; exact h'
theorem zs_flds {i : Nat} {x : Str} {es : List Expr} {l : List (Str × Pos × Pos)} {q0 : Addr → Prop} {C0 : Addr} {fs : List (Str × Pr)} {m : M τ α} {A : α → List Pr} {kt k2 pt pt2 pos} {n : Nat} (nm : Nm c i x) (hi : Γ[i]? = some (.ow (ownO q0 C0 fs))) (cl : Cls G.K C0) (na : ∀ t ∈ l, NoAttr G.K C0 t.1) (hn : fs.length + n < 900) (hl : l.length = n) (hA : ∀ a, (A a).length = n) (hz : n ≤ sizeLine) (h : ZA G c E W Γ es m A) (sx : Sub E Γ L.x)
    (hs : ∀ (n : Nat) (env : PySem.Env), swapsWithSole [.Tuple (tgs x l) kt pt] (.Tuple es k2 pt2) n env = pure false := by intro _ _; rfl) (hw : ∀ env : PySem.Env, env.scope = c.sc → swappedStores [.Tuple (tgs x l) kt pt] (.Tuple es k2 pt2) env = pure none := by intro env h; cases env; cases h; rfl)
    (hn' : ∀ env : PySem.Env, (assignEach (tgs x l) env).length = n := by intro _; rfl) (hst : ∀ env : PySem.Env, (assignEach (tgs x l) env).findIdx? (·.1) = none := by intro _; rfl) :
    ZS G c E W L Γ (.Assign [.Tuple (tgs x l) kt pt] (.Tuple es k2 pt2) pos) (zset m) (fun a => Γ.set i (.ow (ownO q0 C0 (putFs (l.map (·.1)) (A a) fs)))) := fun X C =>
  ps_wk (ps_asg (pe_tup (h X C)) (pg_tup C.calm (pgs_flds (E := E) (q0 := q0) (C0 := C0) nm cl C l Γ na) (hn' X.env) (hst X.env)) (hs _ _) (hw _ C.sc)) fun D σ H hlen ⟨B, S, b, hh, q⟩ => by
    refine tzS_bndA (A := A) sx hh q fun y b1 us S1 H1 s1 h1 r1 q1 => ?_
    have e := r1.length
    rw [hA] at e
    refine ⟨by omega, fun p hp => ⟨p, us, rfl, .of upd_same, by omega, B, upd S1 p (.tup us), b1, A y, fs, hi, h1.new hp, r1.imp (fun p v z => p.mono (same_new (h1.same.free hp)) z), by rw [hA, List.length_map, hl], by rw [List.length_map, hl]; exact hn, fun H' h' => q1 _ _ H' (same_new (h1.same.free hp)) h'⟩⟩
inductive Tgs (x : Str) : List Expr → List (Str × Pos × Pos) → Prop
  | nil : Tgs x [] []
  | cons {f : Str} {p1 p2 : Pos} {es : List Expr} {l : List (Str × Pos × Pos)} : Tgs x es l → Tgs x (.Attribute (.Name x p1) f p2 :: es) ((f, p1, p2) :: l)
theorem Tgs.eq {x : Str} : ∀ {es : List Expr} {l : List (Str × Pos × Pos)}, Tgs x es l → es = tgs x l
  | _, _, .nil => rfl
  | _, _, .cons h => by rw [h.eq]; rfl
theorem zs_fldT {i : Nat} {x : Str} {tg es : List Expr} {l : List (Str × Pos × Pos)} {q0 : Addr → Prop} {C0 : Addr} {fs : List (Str × Pr)} {m : M τ α} {A : α → List Pr} {kt k2 pt pt2 pos} {n : Nat} (t : Tgs x tg l) (nm : Nm c i x) (hi : Γ[i]? = some (.ow (ownO q0 C0 fs))) (cl : Cls G.K C0) (na : ∀ t ∈ l, NoAttr G.K C0 t.1) (hn : fs.length + n < 900) (hl : l.length = n) (hA : ∀ a, (A a).length = n) (hz : n ≤ sizeLine) (h : ZA G c E W Γ es m A) (sx : Sub E Γ L.x)
    (hs : ∀ (n : Nat) (env : PySem.Env), swapsWithSole [.Tuple tg kt pt] (.Tuple es k2 pt2) n env = pure false := by intro _ _; rfl) (hw : ∀ env : PySem.Env, env.scope = c.sc → swappedStores [.Tuple tg kt pt] (.Tuple es k2 pt2) env = pure none := by intro env h; cases env; cases h; rfl)
    (hn' : ∀ env : PySem.Env, (assignEach tg env).length = n := by intro _; rfl) (hst : ∀ env : PySem.Env, (assignEach tg env).findIdx? (·.1) = none := by intro _; rfl) :
    ZS G c E W L Γ (.Assign [.Tuple tg kt pt] (.Tuple es k2 pt2) pos) (zset m) (fun a => Γ.set i (.ow (ownO q0 C0 (putFs (l.map (·.1)) (A a) fs)))) := by
  have e := t.eq
  subst e
  exact zs_flds nm hi cl na hn hl hA hz h sx hs hw hn' hst
/-! ### name += e -/
/-! ### slices -/
def cut (xs : List α) (lo hi : Option Int) : List α := (xs.drop (HT.sIx xs.length 0 lo)).take (HT.sIx xs.length xs.length hi - HT.sIx xs.length 0 lo)
theorem All2.cut {r : α → V → Prop} {xs : List α} {vs : List V} (h : All2 r xs vs) (lo hi : Option Int) : All2 r (Zk.cut xs lo hi) (cutV vs lo hi) := by
  unfold Zk.cut cutV
  rw [← h.length]
  exact (h.drop _).take _
/-- a written bound of a slice -/
def ZP (G : Gx) (c : Sc) (E : Eff τ) (W : WX) (Γ : Env) (e : Option Expr) (m : M τ (Option Int)) : Prop := ∀ X, CtxOk G c W X → PO X e fun σ H Q => ∃ B S b, Hold E B Γ b σ S H ∧ (match m b with | .ok a b' => ∀ S' H', Same S S' → Hold E B Γ b' σ S' H' → Q a H' | .exc x b' => ∀ c d S' H', Same S S' → Hold E B Γ b' σ S' H' → XAt G x H' c d → W c d σ H' | .stuck => False)
theorem po_wk {X : Cx} {e : Option Expr} {t t' : TO} (h : PO X e t) (w : ∀ σ H Q, t' σ H Q → t σ H Q) : PO X e t' := ⟨fun pins s σ H Q I q => h.run pins s σ H Q I (w σ H Q q)⟩
theorem zp_no : ZP G c E W Γ none (ret none) := fun X C => po_wk po_none fun σ H Q ⟨B, S, b, hh, q⟩ => q S H (Same.refl _) hh
def zsome (m : M τ Int) : M τ (Option Int) := bnd m fun i => ret (some i)
theorem zp_so {e : Expr} {m : M τ Int} (h : ZE G c E W Γ e m rInt) : ZP G c E W Γ (some e) (zsome m) := fun X C => po_wk (po_some (h X C)) fun σ H Q ⟨B, S, b, hh, q⟩ => by
  refine ⟨B, S, b, hh, ?_⟩
  unfold zsome bnd at q
  cases e : m b with
  | stuck => rw [e] at q; exact q.elim
  | exc x b1 => rw [e] at q; exact q
  | ok a b1 => rw [e] at q; exact fun v S1 H1 s1 h1 r1 => ⟨a, r1, q S1 H1 s1 h1⟩
def zsl (m : M τ (List α)) (l h : M τ (Option Int)) : M τ (List α) := bnd m fun xs => bnd l fun lo => bnd h fun hi => ret (cut xs lo hi)
theorem tz_sl {r : V → Option Int → Option Int → Hp → VK → Prop} {R R' : Rel (List α)} {m : M τ (List α)} {l h : M τ (Option Int)} {e : Expr} {lo hi : Option Expr} {p2 pos : Pos} (hr : ∀ X, CtxOk G c W X → SlR X r) (he : ZE G c E W Γ e m R) (hl : ZP G c E W Γ lo l) (hh : ZP G c E W Γ hi h)
    (hq : ∀ {xs : List α} {v : V} {lo hi : Option Int} {B : Bs} {S H : Hp} {b : τ} {σ : St} {Q : VK}, Hold E B Γ b σ S H → R.is xs S v → aft G E W B Γ σ S R' Q (ret (cut xs lo hi) b) → r v lo hi H Q) : ZE G c E W Γ (.Subscript e (.Slice lo hi none p2) pos) (zsl m l h) R' := fun X C =>
  pe_wk (pe_slice (hr X C) (he X C) (hl X C) (hh X C)) fun σ H Q _ ⟨B, S, b, hh, q⟩ => by
    refine tz_bnd hh q fun xs b1 v S1 H1 s1 h1 r1 q1 => ?_
    refine ⟨B, S1, b1, h1, ?_⟩
    unfold bnd at q1
    cases e : l b1 with
    | stuck => rw [e] at q1; exact q1.elim
    | exc x b1 => rw [e] at q1; exact q1
    | ok lo b2 =>
      rw [e] at q1
      intro S2 H2 s2 h2
      refine ⟨B, S2, b2, h2, ?_⟩
      dsimp only at q1
      cases e : h b2 with
      | stuck => rw [e] at q1; exact q1.elim
      | exc x b1 => rw [e] at q1; exact fun c d S' H' s' h' xa => q1 c d S' H' (s2.trans s') h' xa
      | ok hi b3 =>
        rw [e] at q1
        exact fun S3 H3 s3 h3 => hq h3 (R.mono (s2.trans s3) r1) (aft.same (s2.trans s3) q1)
theorem z_slL {R : Rel α} {m : M τ (List α)} {l h : M τ (Option Int)} {e : Expr} {lo hi : Option Expr} {p2 pos : Pos} (he : ZE G c E W Γ e m (rLst R)) (hl : ZP G c E W Γ lo l) (hh : ZP G c E W Γ hi h) : ZE G c E W Γ (.Subscript e (.Slice lo hi none p2) pos) (zsl m l h) (rLst R) :=
  tz_sl (r := rSlL G.K) (fun X C => by rw [← C.K]; exact sl_list) he hl hh fun hh ⟨a, vs, e1, e2, e3⟩ q => ⟨a, vs, e1, .of (hh.same _ _ e2), fun p hp => aft_new hh q hp (rLst_new (hh.same.free hp) (e3.cut _ _))⟩
theorem z_slSc {R : Rel α} {m : M τ (List α)} {l h : M τ (Option Int)} {e : Expr} {lo hi : Option Expr} {p2 pos : Pos} (he : ZE G c E W Γ e m (rSc G.K R)) (hl : ZP G c E W Γ lo l) (hh : ZP G c E W Γ hi h) : ZE G c E W Γ (.Subscript e (.Slice lo hi none p2) pos) (zsl m l h) (rLst R) :=
  tz_sl (r := rSlL G.K) (fun X C => by rw [← C.K]; exact sl_list) he hl hh fun hh ⟨a, vs, e1, e2, e3⟩ q => ⟨a, vs, e1, e2.elim (fun z => .inl (z.elim (fun z => .inl (hh.same _ _ z)) fun ⟨o, z⟩ => .inr ⟨o, hh.same _ _ z⟩)) .inr, fun p hp => aft_new hh q hp (rLst_new (hh.same.free hp) (e3.cut _ _))⟩
/-! ### tuples added -/
/-! ### sorted -/
end
end Zk

namespace Zk
open PySem L2

section
variable {τ α β γ δ κ ρ ι θ : Type} {G : Gx} {c : Sc} {E : Eff τ} {W : WX} {Γ Γ' : Env} {B : Bs} {σ : St} {S S1 S' H H' : Hp} {b b' : τ} {L : Ls κ ρ}

/-! ### an __init__ of an own exception -/
theorem xini1 {qual fld pn bn : Str} {st : Stmt} {f A0 : Addr} {fd : FuncData} {mc : Value} {z : Str} {jz : Nat} {p1 p2 p3 p4 p5 p6 p7 p8 p9 p10 : Pos} {pl : PySem.Env → Sem Bool} (F : Fun G.K "__init__" qual st f fd) (sc : FnScope ["self", pn] ["self", pn] (defScope st))
    (hb : defBody st = [.Expr (.Call (.Attribute (.Name bn p1) "__init__" p2) [.Name "self" p3, .Constant (.str z) jz p4] [] p5) p6, .Assign [.Attribute (.Name "self" p7) fld p8] (.Name pn p9) p10]) (T : AIn G.K A0 mc) (hm : G.mg bn = some (.ref A0))
    (gb : (defScope st).names.lookup bn = some .globalImplicit) (v0 : Vis (defScope st) "self") (v1 : Vis (defScope st) pn) (hd : (bn == ("__debug__" : Str)) = false := by decide) (hd1 : (pn == ("__debug__" : Str)) = false := by decide) (hd2 : (pn == ("__classdict__" : Str)) = false := by decide)
    (ht : EvM (.Name bn p1) "__init__" [.Name "self" p3, .Constant (.str z) jz p4] p2 p5 pl := by intro _; rfl)
    (hsw : ∀ env : PySem.Env, swapsWith (.Name pn p9) (some (.Attribute (.Name "self" p7) fld p8)) p10.line env = pure false := by intro _; rfl) :
    FnOk G.P G.w G.K G.mg G.base (L2.CX G.P G.w) 1 f fd ["self", pn] (spX1 G.K fld) := by
  refine F.okX sc (fun vs H Q XE ⟨a, v, C, e, _⟩ => by rw [e]; rfl) (fun cdv A outer s H vs Q XE hr h => ?_)
  obtain ⟨a, v, C, rfl, ox, hn, ha, q⟩ := h
  rw [hb]
  refine ⟨_, pss_cons (ps_expr (pe_ainit T gb hm (pa_cons (pe_var (i := 0) rfl v0 (by decide) (by decide)) (pa_cons pe_str pa_nil)) (ht _) rfl rfl hd)) (pss_one (ps_ost (pe_var (i := 0) rfl v0 (by decide) (by decide)) (pe_var (i := 1) rfl v1 hd1 hd2) (hsw _))), ?_⟩
  exact ⟨_, rfl, a, C, _, rfl, by simp, ox, ha, _, rfl, _, rfl, a, C, rfl, ox, hn, .inl ⟨ha, fun d hd hne => q d hd hne⟩⟩

/-! ### repr of data -/
def frepr {R : Rel α} (D : DatR R) (x : α) : M τ Str := chk ((D.d x).showable = true ∧ (D.d x).canLay0 = true ∧ D.n ≤ 60 ∧ (D.d x).shown.length ≤ sizeLine) (ret (D.d x).shown)
structure RefR (R : Rel α) : Prop where
  h : ∀ {x : α} {S : Hp} {v : V}, R.is x S v → ∃ a, v = .ref a
theorem rf2 {R : Rel α} {R2 : Rel β} : RefR (rT2 R R2) := ⟨fun ⟨a, _, _, e, _⟩ => ⟨a, e⟩⟩
def rReprD (K : PySem.W.Frag) : List V → Hp → VK → Prop := fun xs H Q => ∃ a d, xs = [.ref a] ∧ Dp K H (.ref a) d ∧ d.showable = true ∧ d.hasDict = false ∧ d.depth ≤ 60 ∧ d.shown.length ≤ sizeLine ∧ Q (.str d.shown) H
theorem cr_reprD {X : Cx} (hg : X.A.guards = some []) (hu : X.A.units + 64 < cLine) : CallR X (.builtin "repr") (rReprD X.K) := by
  intro pins s σ H vs us Q I r h
  obtain ⟨a, d, rfl, hd, h1, h2, h3, h4, q⟩ := h
  rw [Vals.ref1 r]
  obtain ⟨as, rd⟩ := Dp.reads I d _ (.ref a) hd rfl
  exact repr_of_reads' rd h1 (PyData.noDict_hsm h2) hg (by omega) (fun _ _ z => z) (fun h' u tk k => ⟨.str _, H, I.kept (t' := tk) k, ⟨_, rfl⟩, q⟩) h4
theorem z_repr {R : Rel α} (D : DatR R) (rf : RefR R) {x : Str} {p pos : Pos} {e : Expr} {m : M τ α} (hgd : c.gd = true) (bl : Blt G c x (.builtin "repr")) (ha : ZE G c E W Γ e m R) (hs : Star e [] := by intro _; rfl) : ZE G c E W Γ (.Call (.Name x p) [e] [] pos) (zapp (frepr D) m) rStr :=
  z_b1 bl (R := R) (r := rReprD G.K) (fun X C => by rw [← C.K]; exact cr_reprD (C.gds hgd) C.room.units) (fun B σ S H b x v Q hh hx q => by
    obtain ⟨⟨h1, h2, h3, h4⟩, q⟩ := aft_chk q
    obtain ⟨a, rfl⟩ := rf.h hx
    exact ⟨a, _, rfl, D.dp hh.same hx, h1, PyData.hasDict_of_canLay _ h2, Nat.le_trans (D.dep x) h3, h4, aft_ret hh q rfl⟩) ha hs
/-! ### C(e, .., k = e) -/
structure MkAtK (g : Bool) (G : Gx) (C : Addr) (k n : Nat) (ps ks : List Str) (sp : Sp) (gV : List V → List V → List V) : Prop where
  ex : ∃ f fd gg, Mk G.K C f ∧ KBn G.K fd ps (n + 1) ks gg gV ∧ FnG g G.P G.w G.K G.mg G.base k f fd ps sp
theorem zf_makeK {gd : Bool} {x kw : Str} {C0 : Addr} {k n : Nat} {ps : List Str} {A : α → List Pr} {f : α → M Unit ρ} {fs : ρ → List (Str × Pr)} {Ad : β → List Pr} {Rk : Rel γ} {gV : List V → List V → List V} {g : β × γ → α} {e ek : Expr} {es : List Expr} {m : M τ β} {mk : M τ γ} {p pos kp : Pos} (F : MkAtK gd G C0 k n ps [kw] (spI G C0 A f fs) gV) (hm : G.mg x = some (.ref C0)) (hk : k + 1 ≤ c.k) (hg : gd = true → c.gd = true) (gb : Gb c x)
    (hA : ∀ y, (Ad y).length = n) (hd : ∀ y (z : γ) S l us w, All2 (fun (p : Pr) v => p.p S v) (Ad y) us → Rk.is z S w → ∃ ws, gV (.ref l :: us) [w] = .ref l :: ws ∧ All2 (fun (p : Pr) v => p.p S v) (A (g (y, z))) ws) (ha : ZA G c E W Γ (e :: es) m Ad) (hkw : ZE G c E W Γ ek mk Rk)
    (hdb : (x == ("__debug__" : Str)) = false := by decide) (he : Star e es := by intro _; rfl)
    (hall : ∀ env : PySem.Env, (backToKw pos (keywordEach [⟨some kw, ek, kp⟩] env)).all (·.1.isSome) = true := by intro _; rfl) (hks : ∀ env : PySem.Env, (backToKw pos (keywordEach [⟨some kw, ek, kp⟩] env)).filterMap (·.1) = [kw] := by intro _; rfl)
    (hpl : ∀ env : PySem.Env, ((backTo pos (starEach (e :: es) env)).any (·.1) || (backToKw pos (keywordEach [⟨some kw, ek, kp⟩] env)).any (·.1.isNone)) = false := by intro _; rfl) :
    ZF G c E W Γ (.Call (.Name x p) (e :: es) [⟨some kw, ek, kp⟩] pos) (bnd m fun y => bnd mk fun z => lft (f (g (y, z)))) (fun r => ownO (fun _ => True) C0 (fs r)) := fun X C => by
  obtain ⟨f0, fd, gg, h1, h2, h4⟩ := F.ex
  rw [← C.prog, ← C.w, ← C.K, ← C.mg, ← C.base] at h4
  rw [← C.K] at h1 h2
  rw [← C.mg] at hm
  refine pe_wk (pe_makeKS (Ex := WE W) h1 h4 (C.room.mono hk) (fun z => C.gds (hg z)) (C.gl gb) hm h2 (passAt C.takes) (ha X C) (pk_cons (hkw X C) pk_nil) (hall _) (hks _) hdb (he _) (hpl _)) fun σ H Q _ ⟨B, S, b, hh, qq⟩ => ?_
  refine tz_AbndF hh qq fun y b1 us S1 H1 s1 hh1 r1 q1 => ?_
  refine tz_bndF hh1 q1 fun z b2 w S2 H2 s2 hh2 r2 q2 => ?_
  refine ⟨by rw [← r1.length]; exact hA y, rfl, fun l dx hl hdx hne => ?_⟩
  obtain ⟨ws, e0, rw'⟩ := hd y z S2 l us w (r1.imp fun p v z => p.mono s2 z) r2
  rw [e0]
  refine ⟨g (y, z), l, dx, S2, ws, rfl, rw', fun a o e => ?_, hh2.same.free hl, upd_same, ?_⟩
  · have e := hh2.same _ _ e
    rw [upd_ne (ne_of_none e hl), upd_ne (ne_of_none e hdx)]; exact e
  have old : ∀ a o, H2 a = some o → del (upd (upd H2 dx (.own l)) l (.ins C0 dx [])) l a = some o := fun a o e => by
    rw [del_ne (ne_of_none e hl), upd_ne (ne_of_none e hl), upd_ne (ne_of_none e hdx)]; exact e
  unfold lft at q2
  cases e : f (g (y, z)) () with
  | stuck => rw [e] at q2; exact q2.elim
  | exc e b' =>
    rw [e] at q2
    exact fun c d S' H' k xa => q2 c d S' H' k.up (hh2.grow k.up k.same (fun a o e1 e2 => k.kp a o e1 (old a o e2) id) fun a ha hn => by
      obtain ⟨_, o, ho⟩ := E.th hh2.ef ha
      exact (k.kp a o hn (old a o ho) id).1) xa
  | ok r b' =>
    rw [e] at q2
    intro S' H' k hS' hO
    refine ⟨rfl, q2 (.ref l) S' (del H' l) H' (fun x => x = l) k.up (hh2.grow k.up (fun a o e => ?_) (fun a o e1 e2 => ?_) fun a ha hn => ?_) (fun x e => ?_) (fun x n => (del_ne n).symm) hO⟩
    · rw [del_ne (fun z => by rw [z, hS'] at e; cases e)]; exact k.same _ _ e
    · rw [del_ne (ne_of_none e2 hl)]; exact k.kp a o e1 (old a o e2) id
    · obtain ⟨_, o, ho⟩ := E.th hh2.ef ha
      exact (k.kp a o hn (old a o ho) id).1
    · subst e
      obtain ⟨l', dx', vs', e', _, _, hu, _⟩ := hO
      cases e'
      exact ⟨del_same, _, hu⟩

/-! ### the bag's making -/
def spBag (K : PySem.W.Frag) (mk : List Int → M Unit (List Int)) : Sp := fun vs H Q _ => ∃ xs v S, vs = [v] ∧ (rSc K rInt).is xs S v ∧ Same S H ∧ match mk xs () with
  | .ok cs _ => ∀ p l S' H', Keep (fun _ => False) ⟨S, H⟩ S' H' → S' p = none → S' l = none → H p = none → H l = none → p ≠ l → H' p = some (.lst (Bag.row ⟨0, 1234567891, 0, cs⟩ l)) → H' l = some (.lst (cs.map V.int)) → Q (.ref p) H'
  | _ => False
theorem bag_ok {g : Bool} {x qual pn : Str} {st : Stmt} {f : Addr} {fd : FuncData} {N : List Str} {e : Expr} {j1 j2 j3 : Nat} {p1 p2 p3 p4 p5 : Pos} {mk : List Int → M Unit (List Int)} (F : Fun G.K x qual st f fd) (sc : FnScope N [pn] (defScope st))
    (hb : defBody st = [.Return (some (.List [.Constant (.int 0) j1 p1, .Constant (.int 1234567891) j2 p2, .Constant (.int 0) j3 p3, e] p4)) p5])
    (h : ∀ xs W, ZF G ⟨N, defScope st, 0, true, fun _ => true, g⟩ noE W (envOf N.length [(rSc G.K rInt).pr xs]) e (mk xs) (ownL rInt))
    (hs : ∀ env : PySem.Env, swapsWith (.List [.Constant (.int 0) j1 p1, .Constant (.int 1234567891) j2 p2, .Constant (.int 0) j3 p3, e] p4) none p5.line env = pure false := by intro _; rfl)
    (h1 : Star (.Constant (.int 0) j1 p1) [.Constant (.int 1234567891) j2 p2, .Constant (.int 0) j3 p3, e] := by intro _; rfl) (h2 : Star (.Constant (.int 1234567891) j2 p2) [.Constant (.int 0) j3 p3, e] := by intro _; rfl) (h3 : Star (.Constant (.int 0) j3 p3) [e] := by intro _; rfl) (h4 : Star e [] := by intro _; rfl) :
    FnG g G.P G.w G.K G.mg G.base 1 f fd [pn] (spBag G.K mk) := by
  refine fng_F F sc (fun vs H Q XE h => ?_) (fun cdv A0 outer s H vs Q XE hr hgd hq => ?_)
  · obtain ⟨xs, v, S, rfl, _⟩ := h; rfl
  · obtain ⟨xs, v, S, rfl, hv, sm, q⟩ := hq
    let W : WX := fun cls d _ H => XE cls d H
    have C : CtxOk G ⟨N, defScope st, 0, true, fun _ => true, g⟩ W (cxOf (L2.CX G.P G.w) G.P G.w G.K G.mg G.base N qual (defScope st) f cdv A0 outer s H XE) :=
      ⟨rfl, rfl, rfl, rfl, rfl, rfl, sc.nd, rfl, rfl, hr, hgd, takes_of rfl rfl rfl rfl, passes_of rfl, rfl, fun _ => ⟨rfl, rfl⟩⟩
    rw [hb]
    refine ⟨_, pss_one (ps_ret (pe_lst (pa_cons pe_int (pa_cons pe_int (pa_cons pe_int (pa_cons (h xs W _ C) pa_nil (h4 _)) (h3 _)) (h2 _)) (h1 _)))), ?_⟩
    have hh : Hold noE ⟨S, H⟩ (envOf N.length [(rSc G.K rInt).pr xs]) () (start N [v]) S H := hold_start sm trivial ⟨hv, trivial⟩
    refine ⟨⟨S, H⟩, S, (), hh, ?_⟩
    cases e : mk xs () with
    | stuck => rw [e] at q; exact q.elim
    | exc x b => rw [e] at q; exact q.elim
    | ok cs u =>
      rw [e] at q
      intro w S1 H1 H2 F s1 hh1 hF hk ⟨l, ws, ew, hf, hl, hw⟩
      subst ew
      obtain ⟨n1, _⟩ := hF l ((hf l).mpr rfl)
      refine ⟨by show 4 ≤ _; decide, fun p hp => ?_⟩
      have npl : p ≠ l := fun z => by rw [z, hl] at hp; cases hp
      have hp1 : H1 p = none := by rw [← hk p fun z => npl ((hf p).mp z)]; exact hp
      have oldH : ∀ a o, S a = none → H a = some o → a ≠ p ∧ a ≠ l := fun a o e1 e2 => by
        have := (hh1.kp.kp a o e1 e2 id).2
        exact ⟨ne_of_none this hp1, ne_of_none this n1⟩
      have fr : ∀ a, H1 a = none → H a = none := fun a z => by
        cases y : H a with
        | none => rfl
        | some o =>
          cases t : S a with
          | none => have := (hh1.kp.kp a o t y id).2; rw [z] at this; cases this
          | some o' => have := hh1.same _ _ (hh1.kp.up _ _ t); rw [z] at this; cases this
      refine q p l S1 _ ⟨fun a o e => ?_, hh1.kp.up, fun a o e1 e2 _ => ?_⟩ (hh1.same.free hp1) (hh1.same.free n1) (fr p hp1) (fr l n1) npl upd_same ?_
      · have e := hh1.same _ _ e
        rw [upd_ne (ne_of_none e hp1), hk a fun z => ne_of_none e n1 ((hf a).mp z)]; exact e
      · obtain ⟨y1, y2⟩ := oldH a o e1 e2
        obtain ⟨z1, z2⟩ := hh1.kp.kp a o e1 e2 id
        exact ⟨z1, by rw [upd_ne y1, hk a fun z => y2 ((hf a).mp z)]; exact z2⟩
      · rw [upd_ne (Ne.symm npl), hl, All2.ints hw]
theorem Hold.unbag {Γ : Env} {B : Bs} {σ : St} {S H : Hp} {s : Bag} {p l : Addr} (h : Hold (bagE p l) B Γ s σ S H) (f : ∀ a o, B.S a = none → B.H a = some o → a ≠ p ∧ a ≠ l) : Hold noE B Γ () σ S H := by
  obtain ⟨Fs, hF, hs⟩ := h.sl
  exact ⟨⟨h.kp.same, h.kp.up, fun a o e1 e2 _ => h.kp.kp a o e1 e2 fun z => z.elim (f a o e1 e2).1 (f a o e1 e2).2⟩, trivial, Fs, ⟨fun i a e => let ⟨q1, q2, _, q4⟩ := hF.at_ i a e; ⟨q1, q2, id, q4⟩, hF.ds⟩, hs⟩
theorem Hold.inbag {Γ : Env} {B : Bs} {σ : St} {S H S' H' : Hp} {s : Bag} {p l : Addr} (h : Hold noE B Γ () σ S H) (k : Keep (fun _ => False) ⟨S, H⟩ S' H') (e : (bagE p l).is s S' H') (hp : H p = none) (hl : H l = none) : Hold (bagE p l) B Γ s σ S' H' := by
  obtain ⟨Fs, hF, hs⟩ := h.sl
  refine ⟨⟨k.same, h.kp.up.trans k.up, fun a o h1 h2 _ => ?_⟩, e, Fs, ⟨fun i a e => ?_, hF.ds⟩, fun i t e => ?_⟩
  · obtain ⟨q1, q2⟩ := h.kp.kp a o h1 h2 id
    exact k.kp a o q1 q2 id
  · obtain ⟨q1, q2, q3, o, q4⟩ := hF.at_ i a e
    exact ⟨(k.kp a o q1 q4 id).1, q2, fun z => z.elim (ne_of_none q4 hp) (ne_of_none q4 hl), o, (k.kp a o q1 q4 id).2⟩
  · have q := hs i t e
    cases t with
    | no => trivial
    | st p => obtain ⟨x, e1, e2⟩ := q; exact ⟨x, e1, p.mono k.up e2⟩
    | ow p => obtain ⟨x, e1, e2⟩ := q; exact ⟨x, e1, p.mono k.up (fun a o ha e => (k.kp a o (hF.at_ i a ha).1 e id).2) e2⟩
    | gh p => exact p.mono k.up (fun a o ha e => (k.kp a o (hF.at_ i a ha).1 e id).2) q
def unb (o : Out Bag α) : Out Unit α := match o with | .ok a _ => .ok a () | .exc e _ => .exc e () | .stuck => .stuck
def zbag (mk : List Int → M Unit (List Int)) (xs : List Int) (m : M Bag α) : M Unit α := fun _ => match mk xs () with
  | .ok cs _ => unb (m ⟨0, 1234567891, 0, cs⟩)
  | _ => .stuck
/-- bag = _law_bag(script), then the rest -/
theorem zb_bag {g : Bool} {i j k : Nat} {x y fn : Str} {ps : List Str} {rest : List Stmt} {p p2 p3 pos pos2 : Pos} {mk : List Int → M Unit (List Int)} {xs : List Int} {m : M Bag (Fl α κ ρ)} {Γn : α → Env} (F : FnAt g G fn k ps (spBag G.K mk)) (hk : k ≤ c.k) (hg : g = true → c.gd = true) (gb : Gb c fn)
    (nx : Nm c i x) (hi : Γ[i]? = some (.st ((rSc G.K rInt).pr xs))) (ny : Ns c j y) (h : ∀ p l, ZB G c (bagE p l) W L (Γ.set j (.st ((rRef p).pr ()))) rest m Γn)
    (hd : (fn == ("__debug__" : Str)) = false := by decide) (hs : NoSwap (.Call (.Name fn p2) [.Name x p3] [] pos2) := by intro _ _ _; rfl) :
    ZB G c noE W L Γ (.Assign [.Name y p] (.Call (.Name fn p2) [.Name x p3] [] pos2) pos :: rest) (zbag mk xs m) Γn := fun X C => by
  obtain ⟨f0, fd, h1, h2, h3, h4⟩ := F.ex
  rw [← C.prog, ← C.w, ← C.K, ← C.mg, ← C.base] at h4
  rw [← C.mg] at h1
  rw [← C.K] at h2 h3
  refine pss_wk (pss_cons (ps_set C.set_hN (C.hi ny.n) (by rw [C.sc]; exact ny.l) (pe_callG (Ex := WE W) h4 (C.room.mono hk) (fun z => C.gds (hg z)) (C.gl gb) h1 h2 h3 .nil (passAt C.takes) (pa_cons (pe_var (C.hi nx.n) (by rw [C.sc]; exact nx.v) nx.d nx.cd) pa_nil rfl) hd rfl rfl) (hs _ _ _) (C.hf ny)) (pss_ex fun p : Addr × Addr => h p.1 p.2 X C)) fun D σ H hl ⟨B, S, b, hh, q⟩ => ?_
  obtain ⟨Fs, hF, hsl⟩ := id hh.sl
  obtain ⟨v, e1, e2⟩ := hsl i _ hi
  refine ⟨v, slot_get e1, xs, v, S, rfl, by rw [C.K]; exact e2, hh.same, ?_⟩
  unfold zbag at q
  cases e : mk xs () with
  | stuck => rw [e] at q; exact q.elim
  | exc x b => rw [e] at q; exact q.elim
  | ok cs u =>
    rw [e] at q
    intro p l S' H' k s1 s2 f1 f2 hne e3 e4
    have h' : Hold (bagE p l) B (Γ.set j (.st ((rRef p).pr ()))) ⟨0, 1234567891, 0, cs⟩ (σ.set j (some (.ref p))) S' H' := (hh.inbag (s := ⟨0, 1234567891, 0, cs⟩) k ⟨hne, s1, s2, e3, e4⟩ f1 f2).set (C.lt ny.n hl) rfl
    refine ⟨(p, l), B, S', _, h', ?_⟩
    have ff : ∀ a o, B.S a = none → B.H a = some o → a ≠ p ∧ a ≠ l := fun a o e1 e2 => by
      have := (hh.kp.kp a o e1 e2 id).2
      exact ⟨ne_of_none this f1, ne_of_none this f2⟩
    dsimp only at q
    cases e : m ⟨0, 1234567891, 0, cs⟩ with
    | stuck => rw [e] at q; exact q.elim
    | exc x b => rw [e] at q; exact fun c d σ' S1 H1 h1 xa => q c d σ' S1 H1 (h1.unbag ff) xa
    | ok r b =>
      rw [e] at q
      cases r with
      | nx a => exact fun σ' S1 H1 s h1 => q σ' S1 H1 (k.up.trans s) (h1.unbag ff)
      | rt r => exact fun v σ' S1 H1 h1 rr => q v σ' S1 H1 (h1.unbag ff) rr
      | bk r => exact fun σ' S1 H1 s h1 => q σ' S1 H1 (k.up.trans s) (h1.unbag ff)
      | ct r => exact fun σ' S1 H1 s h1 => q σ' S1 H1 (k.up.trans s) (h1.unbag ff)
end
end Zk

namespace Zk
open PySem L2
/-! ### small checks, for printed walks -/
def visB (k : Option NameKind) : Bool := match k with | some .local => true | some .cell => true | some .free => true | _ => false
def nmB (c : Sc) (i : Nat) (x : Str) : Bool := (c.N[i]? == some x) && visB (c.sc.names.lookup x) && !(x == ("__debug__" : Str)) && !(x == ("__classdict__" : Str))
theorem nm_of {c : Sc} {i : Nat} {x : Str} (h : nmB c i x = true) : Nm c i x := by
  unfold nmB at h
  simp only [Bool.and_eq_true, Bool.not_eq_true', beq_iff_eq] at h
  obtain ⟨⟨⟨h1, h2⟩, h3⟩, h4⟩ := h
  refine ⟨h1, ?_, h3, h4⟩
  cases e : c.sc.names.lookup x with
  | none => rw [e] at h2; cases h2
  | some k =>
    rw [e] at h2
    cases k with
    | «local» => exact .inl e
    | cell => exact .inr (.inl e)
    | free => exact .inr (.inr e)
    | _ => cases h2
def nsB (c : Sc) (i : Nat) (x : Str) : Bool := (c.N[i]? == some x) && (match c.sc.names.lookup x with | some .local => true | some .cell => c.fx x | _ => false)
theorem ns_of {c : Sc} {i : Nat} {x : Str} (h : nsB c i x = true) : Ns c i x := by
  unfold nsB at h
  simp only [Bool.and_eq_true, beq_iff_eq] at h
  obtain ⟨h1, h2⟩ := h
  cases e : c.sc.names.lookup x with
  | none => rw [e] at h2; cases h2
  | some k =>
    rw [e] at h2
    cases k with
    | «local» => exact ⟨h1, .inl e, .inr e⟩
    | cell => exact ⟨h1, .inr e, .inl h2⟩
    | _ => cases h2
theorem blt_of {G : Gx} {c : Sc} {x : Str} {u : Value} (m : G.mg x = none) (h : (c.sc.names.lookup x = some .globalImplicit ∧ bootBuiltins x = some u) ∧ x ≠ "__name__" ∧ (x == ("__debug__" : Str)) = false) : Blt G c x u := ⟨h.1.1, m, h.1.2, h.2.1, h.2.2⟩
theorem blk_of {N : List Str} {sc scope : Scope} {own : List (Str × Nat)} (k : scope.kind = .function) (h : (∀ y ∈ scope.names, scope.names.lookup y.1 = some y.2) ∧ (∀ p ∈ own, N[p.2]? = some p.1) ∧ (∀ y ∈ scope.names, y.2 = .free → sc.names.lookup y.1 = some .cell ∨ sc.names.lookup y.1 = some .free) ∧ ∀ y ∈ scope.names, y.2 = .local ∨ y.2 = .cell → y.1 ∈ own.map (·.1) ∨ y.1 ∉ N) : BlkOk N sc scope own := ⟨k, h.1, h.2.1, h.2.2.1, h.2.2.2⟩
theorem z_obj {τ ρ : Type} {G : Gx} {c : Sc} {E : Eff τ} {W : WX} {Γ : Env} {e : Expr} {m : M τ ρ} {C : Addr} (fs : ρ → List (Str × Pr)) (h : ZF G c E W Γ e m (fun r => ownO (fun _ => True) C (fs r))) : ZE G c E W Γ e m (rObj C fs) := zf_e (fun _ => one_O fun _ => rfl) h
def NoAt (Γ : Env) : List Nat → Prop
  | [] => True
  | v :: vs => Γ[v]? = some .no ∧ NoAt Γ vs
theorem lc_no {Γ : Env} : ∀ {vs : List Nat}, NoAt Γ vs → ∀ (i : Nat) s, Γ[i]? = some s → s = .no ∨ i ∉ vs
  | [], _, _, _, _ => .inr (by simp)
  | v :: vs, ⟨h1, h2⟩, i, s, h => by
    by_cases e : i = v
    · subst e; rw [h1] at h; cases h; exact .inl rfl
    · rcases lc_no h2 i s h with z | z
      · exact .inl z
      · exact .inr (by simp [e, z])
theorem z_gintE {τ : Type} {G : Gx} {c : Sc} {E : Eff τ} {W : WX} {Γ : Env} {x : Str} {i : Int} {pos : Pos} (g : Gb c x) (h : ∃ u, G.mg x = some u ∧ RelV (.int i) u) (hd : (x == ("__debug__" : Str)) = false := by decide) : ZE G c E W Γ (.Name x pos) (ret i) rInt := let ⟨_, h1, h2⟩ := h; z_gint g h1 h2 hd
theorem nas_nil {K : PySem.W.Frag} {C : Addr} : ∀ t ∈ ([] : List (Str × Pos × Pos)), NoAttr K C t.1 := fun t h => by cases h
theorem nas_cons {K : PySem.W.Frag} {C : Addr} {f : Str} {p : Pos × Pos} {l : List (Str × Pos × Pos)} (h : NoAttr K C f) (h2 : ∀ t ∈ l, NoAttr K C t.1) : ∀ t ∈ (f, p) :: l, NoAttr K C t.1 := fun t ht => by
  rcases List.mem_cons.mp ht with e | e
  · rw [e]; exact h
  · exact h2 t e
section
variable {α β γ δ ε : Type} {R1 : Rel α} {R2 : Rel β} {R3 : Rel γ} {R4 : Rel δ}
theorem gv3 : ∀ (y : α × β × γ) (z : δ) (S : Hp) (l : Addr) (us : List V) (w : V), All2 (fun (p : Pr) v => p.p S v) [R1.pr y.1, R2.pr y.2.1, R3.pr y.2.2] us → R4.is z S w → ∃ ws, (V.ref l :: us) ++ [w] = .ref l :: ws ∧ All2 (fun (p : Pr) v => p.p S v) [R1.pr y.1, R2.pr y.2.1, R3.pr y.2.2, R4.pr z] ws
  | y, z, S, l, [a, b, c], w, ⟨h1, h2, h3, _⟩, h4 => ⟨[a, b, c, w], rfl, h1, h2, h3, h4, trivial⟩
end
end Zk

namespace Zk
open PySem L2 PySem.Spec PyProof.Rows
/-! ### the end: a law whose def is known with the guards -/
section
variable {P : Program} {w : World} {K : PySem.W.Frag} {mg mb : Str → Option Value} {k : Nat} {fa a : Addr} {fd : FuncData} {x : Str} {sp : Sp} {s : Shared} {vs : List Value} {ns : List Int} {H : Hp}
/-- the call, where nothing but the script may be tracked -/
theorem enter_law (KX : K.In s.heap) (hns : s.heap.Ns mainGlobals mg) (hb : s.heap.Ns builtinsNs mb) (hbb : ∀ x : Str, x ≠ "__name__" → mb x = bootBuiltins x) (hlim : s.heap.NoLimit) (hg : s.gens = #[])
    (ha : s.heap.get? a = some { cls := .type "list", data := .seq vs.toArray }) (hr : Room k callerA) (F : ∀ base : Heap, K.In base → base.Ns mainGlobals mg → FnG true P w K mg base k fa fd [x] sp) (hbind : ∀ (s : Shared) (u : Value), BindsTo s fd ⟨[u], []⟩ [(x, u)])
    (hO : Only H) (hok : HOk P w H s.heap) (hA : ∀ b u, H b = some u → b = a ∧ K.lookup a = none) (hsp : sp [.ref a] H (fun v _ => v = .bl true) fun _ _ _ => False) :
    codeAny (model P w) callerA (.call (.ref fa) ⟨[.ref a], []⟩) (fun r s' => r = .ok (.ret (.bool true)) ∧ OldK s.heap s'.heap ∧ s'.os = s.os ∧ AllBare s'.gens) s := by
  have keepNs : ∀ b (m : Str → Option Value), s.heap.Ns b m → (hidT s.heap H).Ns b m := by
    rintro b m ⟨o, es, ep, e, d, r⟩
    have hn : H b = none := by
      cases q : H b with
      | none => rfl
      | some u =>
        obtain ⟨rfl, _⟩ := hA b u q
        rw [ha] at e
        cases e
        exact nomatch d
    exact ⟨o, es, ep, hidT_get e hn, d, r⟩
  have kin : K.In (hidT s.heap H) := by
    intro b o e
    cases q : H b with
    | none => exact hidT_get (KX b o e) q
    | some u =>
      obtain ⟨rfl, z⟩ := hA b u q
      rw [z] at e
      exact nomatch e
  obtain ⟨ml, l1, l2⟩ := hlim
  have md : Mod K mg (hidT s.heap H) := ⟨kin, keepNs _ _ hns, ⟨mb, keepNs _ _ hb, hbb⟩, ⟨ml, keepNs _ _ l1, l2⟩⟩
  have noMem : ∀ b : Addr, b ∉ ([] : List Addr) := by simp
  refine codeAny_mono ((F _ kin (keepNs _ _ hns)).go callerA [] s H ⟨[.ref a], []⟩ [.ref a] [.ref a] _ _ hr (fun _ => rfl) ⟨rfl, md, fun b o e => of_hidT e, Nat.le_of_eq (hidT_size _ _), trivial, fun b hb => absurd hb (noMem b), hok, .of_eq hg⟩ (hbind s (.ref a)) (.cons rfl .nil) hsp) fun r s' h => ?_
  match r, h with
  | .error e, h =>
    obtain ⟨_, _, _, _, _, _, _, _, _, _, _, _, z⟩ := h
    exact z.elim
  | .ok .next, h => exact False.elim h
  | .ok .brk, h => exact False.elim h
  | .ok .cont, h => exact False.elim h
  | .ok (.ret u), h =>
    obtain ⟨v, H', os, bare, un, hok', rv, q⟩ := h
    have q : v = .bl true := q
    subst q
    have rv : u = Value.bool true := rv
    subst rv
    refine ⟨rfl, OldK.of_keep fun b o e => ?_, os, bare⟩
    rcases hO b with z | ⟨ob, xs, z⟩
    · exact un.keep b o e z (fun y => absurd y (noMem b)) (by simp)
    · obtain ⟨e1, _⟩ := hok b _ z
      obtain ⟨e2, _⟩ := hok' b _ (un.frzs b ob _ z)
      rw [e1] at e
      cases e
      exact e2
open Classical in
theorem enter_lawS (KX : K.In s.heap) (hns : s.heap.Ns mainGlobals mg) (hb : s.heap.Ns builtinsNs mb) (hbb : ∀ x : Str, x ≠ "__name__" → mb x = bootBuiltins x) (hlim : s.heap.NoLimit) (hg : s.gens = #[])
    (ha : s.heap.get? a = some { cls := .type "list", data := .seq vs.toArray }) (hi : IntsAre vs ns) (hl : ns.length ≤ sizeLine) (hr : Room k callerA) (F : ∀ base : Heap, K.In base → base.Ns mainGlobals mg → FnG true P w K mg base k fa fd [x] sp) (hbind : ∀ (s : Shared) (u : Value), BindsTo s fd ⟨[u], []⟩ [(x, u)])
    (hsp : ∀ H, SqL K H a (ns.map V.int) → sp [.ref a] H (fun v _ => v = .bl true) fun _ _ _ => False) :
    codeAny (model P w) callerA (.call (.ref fa) ⟨[.ref a], []⟩) (fun r s' => r = .ok (.ret (.bool true)) ∧ OldK s.heap s'.heap ∧ s'.os = s.os ∧ AllBare s'.gens) s := by
  have rv : Vals (ns.map V.int) vs := vals_ints hi
  have lv : vs.length = ns.length := hi.length
  by_cases hk : K.lookup a = none
  · let u : HO := .frz { cls := .type "list", data := .seq vs.toArray } (.lst (ns.map V.int))
    have at_ : ∀ b z, (fun b => if b = a then some u else none : Hp) b = some z → b = a ∧ z = u := fun b z e => by
      by_cases hba : b = a
      · simp only [hba, if_true] at e; cases e; exact ⟨hba, rfl⟩
      · simp only [if_neg hba] at e; cases e
    refine enter_law (H := fun b => if b = a then some u else none) KX hns hb hbb hlim hg ha hr F hbind (fun b => ?_) (fun b z e => ?_) (fun b z e => ⟨(at_ b z e).1, hk⟩) (hsp _ (.inl (.inr ⟨_, if_pos rfl⟩)))
    · by_cases hba : b = a
      · exact .inr ⟨_, _, if_pos hba⟩
      · exact .inl (if_neg hba)
    · obtain ⟨rfl, rfl⟩ := at_ b z e
      exact ⟨ha, by rw [List.length_map]; exact hl, vs, _, rv, ha⟩
  · obtain ⟨o, e⟩ : ∃ o, K.lookup a = some o := Option.ne_none_iff_exists'.mp hk
    have e2 := KX a o e
    rw [ha] at e2
    cases e2
    exact enter_law (H := fun _ => none) KX hns hb hbb hlim hg ha hr F hbind (fun _ => .inl rfl) (fun b z e => nomatch e) (fun b z e => nomatch e) (hsp _ (.inr ⟨_, vs.toArray, _, e, rfl, rfl, rfl, by rw [List.size_toArray, lv]; exact hl, by simpa using rv⟩))
end
theorem walk_G {l : PySem.W.OpenLaw} {n k : Nat} {q : Program} {loose : List Str} {XP : (Str → Option Value) → Heap → Prop} {YP : World → Heap → Prop} {d : DefRec} {K : Params → PySem.W.Frag} {x : Str} {m : List Int → M Unit Bool}
    (hn : l.most = some n) (hn2 : n ≤ sizeLine) (hdf : d.params.defaults = []) (hr : Room k callerA) (hY : ∀ (w : World) (h : Heap), YP w h → (K w.params).In h)
    (F : ∀ (w : World) (mg : Str → Option Value) (fa : Addr) (h : Heap), (K w.params).In h → h.Ns mainGlobals mg → mg d.name = some (.ref fa) →
      ∃ fd : FuncData, (∀ (s : Shared) (u : Value), BindsTo s fd ⟨[u], []⟩ [(x, u)]) ∧ ∀ base : Heap, (K w.params).In base → base.Ns mainGlobals mg →
        FnG true l.prog w (K w.params) mg base k fa fd [x] (spZ ⟨l.prog, w, K w.params, mg, base⟩ (fun _ : Unit => noE) (fun (_ : Unit) (p : List Int) => [(rSc (K w.params) rInt).pr p]) m rBl))
    (hm : ∀ ns : List Int, ns.length ≤ n → m ns () = .ok true ()) : PySem.W.WalkO q loose XP YP l.row.toRowW d [] (fun f vs => PySem.call f vs) := by
  refine Att.attach_call hn hdf fun w s₀ s₁ mg mb fa o pm cd doc a vs ns G Y ho hd hcd hmg hobj hints hlen hg => ?_
  obtain ⟨fd, hb, hF⟩ := F w mg fa _ (hY w _ Y) G.T.g hmg
  refine enter_lawS (sp := spZ ⟨l.prog, w, K w.params, mg, s₁.heap⟩ (fun _ : Unit => noE) (fun (_ : Unit) (p : List Int) => [(rSc (K w.params) rInt).pr p]) m rBl) (hY w _ Y) G.T.g G.T.b G.T.builtins G.T.nolimit hg hobj hints (Nat.le_trans hlen hn2) hr (fun base k1 k2 => hF base k1 k2) hb fun H hS => ?_
  refine ⟨(), ns, H, (), ⟨⟨a, _, rfl, hS, All2.of_ints ns⟩, trivial⟩, Same.refl _, trivial, ?_⟩
  rw [hm ns hlen]
  exact fun v S' H' _ _ r => r
end Zk

namespace Zk
open PySem L2 PySem.Spec PyProof.Rows
/-! ### mirrors reckoned -/
section
variable {τ α β γ δ κ ρ : Type}
@[simp] theorem bnd_ret {a : α} {f : α → M τ β} : bnd (ret a) f = f a := rfl
@[simp] theorem ret_at {a : α} {s : τ} : (ret a : M τ α) s = .ok a s := rfl
@[simp] theorem zop1_ret {f : α → M τ β} {a : α} : zop1 f (ret a) = f a := rfl
@[simp] theorem zop2_ret {f : α → β → M τ γ} {a : α} {b : β} : zop2 f (ret a) (ret b) = f a b := rfl
@[simp] theorem zapp_ret {f : α → M τ β} {a : α} : zapp f (ret a) = f a := rfl
@[simp] theorem zpair_ret {a : α} {b : β} : zpair (ret a) (ret b) = (ret (a, b) : M τ _) := rfl
@[simp] theorem zcons_ret {a : α} {b : List α} : zcons (ret a) (ret b) = (ret (a :: b) : M τ _) := rfl
@[simp] theorem zget_ret {f : α → β} {a : α} : zget f (ret a) = (ret (f a) : M τ _) := rfl
@[simp] theorem zis_ret {k : Bool} {a : α} : zis k (ret a) = (ret k : M τ _) := rfl
@[simp] theorem zset_ret {a : α} : zset (ret a) = (ret (.nx a) : M τ (Fl α κ ρ)) := rfl
@[simp] theorem zrt_ret {a : ρ} : zrt (ret a) = (ret (.rt a) : M τ (Fl α κ ρ)) := rfl
@[simp] theorem znx_ret {a : α} : znx a = (ret (.nx a) : M τ (Fl α κ ρ)) := rfl
@[simp] theorem zseq_nx {a : α} {f : α → M τ (Fl β κ ρ)} : zseq (ret (.nx a)) f = f a := rfl
@[simp] theorem zseq_rt {r : ρ} {f : α → M τ (Fl β κ ρ)} : zseq (ret (.rt r)) f = ret (.rt r) := rfl
@[simp] theorem zseq_bk {r : κ} {f : α → M τ (Fl β κ ρ)} : zseq (ret (.bk r)) f = ret (.bk r) := rfl
@[simp] theorem zseq_ct {r : κ} {f : α → M τ (Fl β κ ρ)} : zseq (ret (.ct r)) f = ret (.ct r) := rfl
@[simp] theorem zseq_rse {e : Exc} {f : α → M τ (Fl β κ ρ)} : zseq (rse e) f = rse e := rfl
@[simp] theorem zifS_ret {b : Bool} {n o : M τ (Fl α κ ρ)} : zifS (ret b) n o = if b = true then n else o := rfl
@[simp] theorem zif_ret {b : Bool} {n o : M τ α} : zif (ret b) n o = if b = true then n else o := rfl
@[simp] theorem zbody_rt {r : ρ} : zbody (ret (.rt r) : M τ (Fl α κ ρ)) = ret r := rfl
@[simp] theorem zbody_rse {e : Exc} : zbody (rse e : M τ (Fl α κ ρ)) = rse e := rfl
@[simp] theorem zfin_rt {r : ρ} {n : α → M τ ρ} : zfin n (ret (.rt r) : M τ (Fl α κ ρ)) = ret r := rfl
@[simp] theorem zfin_nx {a : α} {n : α → M τ ρ} : zfin n (ret (.nx a) : M τ (Fl α κ ρ)) = n a := rfl
@[simp] theorem zini_nx {y : α} {n : α → ρ} : zini n (ret (.nx y) : M τ (Fl α Empty Empty)) = ret (n y) := rfl
@[simp] theorem lft_ret {a : α} : lft (ret a) = (ret a : M τ α) := rfl
@[simp] theorem lft_rse {e : Exc} : lft (rse e) = (rse e : M τ α) := rfl
@[simp] theorem znot_ret {b : Bool} : znot (ret b) = (ret (!b) : M τ _) := rfl
@[simp] theorem zand_rr {b c : Bool} : zand (ret b) (ret c) = (ret (b && c) : M τ _) := by cases b <;> rfl
@[simp] theorem zor_rr {b c : Bool} : zor (ret b) (ret c) = (ret (b || c) : M τ _) := by cases b <;> rfl
@[simp] theorem zand_t {n : M τ Bool} : zand (ret true) n = n := rfl
@[simp] theorem zand_f {n : M τ Bool} : zand (ret false) n = ret false := rfl
@[simp] theorem zor_t {n : M τ Bool} : zor (ret true) n = ret true := rfl
@[simp] theorem zor_f {n : M τ Bool} : zor (ret false) n = n := rfl
@[simp] theorem iadd_eq {x y : Int} : (iadd x y : M τ Int) = ret (x + y) := rfl
@[simp] theorem isub_eq {x y : Int} : (isub x y : M τ Int) = ret (x - y) := rfl
@[simp] theorem ineg_eq {x : Int} : (ineg x : M τ Int) = ret (-x) := rfl
@[simp] theorem ilt_eq {x y : Int} : (ilt x y : M τ Bool) = ret (decide (x < y)) := rfl
@[simp] theorem ile_eq {x y : Int} : (ile x y : M τ Bool) = ret (decide (x ≤ y)) := rfl
@[simp] theorem igt_eq {x y : Int} : (igt x y : M τ Bool) = ret (decide (x > y)) := rfl
@[simp] theorem ige_eq {x y : Int} : (ige x y : M τ Bool) = ret (decide (x ≥ y)) := rfl
@[simp] theorem feq_eq [DecidableEq α] {x y : α} : (feq x y : M τ Bool) = ret (decide (x = y)) := rfl
@[simp] theorem fne_eq [DecidableEq α] {x y : α} : (fne x y : M τ Bool) = ret (!decide (x = y)) := rfl
@[simp] theorem flen_eq {xs : List α} : (flen xs : M τ Int) = ret (xs.length : Int) := rfl
@[simp] theorem fsum_eq {xs : List Int} : (fsum xs : M τ Int) = ret xs.sum := rfl
@[simp] theorem fabs_eq {x : Int} : (fabs x : M τ Int) = ret (if x < 0 then -x else x) := rfl
@[simp] theorem fall_eq {xs : List Bool} : (fall xs : M τ Bool) = ret (xs.all id) := rfl
@[simp] theorem fany_eq {xs : List Bool} : (fany xs : M τ Bool) = ret (xs.any id) := rfl
@[simp] theorem frA1_eq {j : Int} : (frA1 j : M τ (List Int)) = ret (rng 0 j.toNat) := rfl
@[simp] theorem frA2_eq {x : Int × Int} : (frA2 x : M τ (List Int)) = ret (rng x.1 (x.2 - x.1).toNat) := rfl
@[simp] theorem zenum_ret {xs : List α} : zenum (ret xs) = (ret (fenum xs) : M τ _) := rfl
@[simp] theorem zsome_ret {i : Int} : zsome (ret i) = (ret (some i) : M τ _) := rfl
@[simp] theorem zsl_ret {xs : List α} {l h : Option Int} : zsl (ret xs) (ret l) (ret h) = (ret (cut xs l h) : M τ _) := rfl
theorem chk_pos {c : Prop} [Decidable c] {m : M τ α} (h : c) : chk c m = m := if_pos h
theorem zchain_ret {f : α → β → M τ Bool} {g : β → γ → M τ Bool} {a : α} {b : β} {c : γ} : zchain f g (ret a) (ret b) (ret c) = zand (f a b) (g b c) := rfl
@[simp] theorem zchain_ll {x y z : Int} : zchain ile ile (ret x) (ret y) (ret z) = (ret (decide (x ≤ y) && decide (y ≤ z)) : M τ _) := by rw [zchain_ret]; simp
@[simp] theorem zmeth_ret {f : α × β → M τ γ} {a : α} {b : β} : zmeth f (ret a) (ret b) = f (a, b) := rfl
theorem zlist_ret {xs : List α} (h : xs.length ≤ sizeLine) : zlist (ret xs) = (ret xs : M τ _) := by unfold zlist; rw [bnd_ret, chk_pos h]
theorem imod_eq {x y : Int} (h : 0 < y) : (imod x y : M τ Int) = ret (x % y) := chk_pos h
theorem imul_eq {x y : Int} (h : mulOk x y) : (imul x y : M τ Int) = ret (x * y) := chk_pos h
theorem idiv_eq {x y : Int} (h : divOk x y) : (idiv x y : M τ Int) = ret (x / y) := chk_pos h
theorem mul_small {x y : Int} (h : -(2 ^ 64) < y ∧ y < 2 ^ 64) : mulOk x y := .inr (.inr h)
theorem mul_smallL {x y : Int} (h : -(2 ^ 64) < x ∧ x < 2 ^ 64) : mulOk x y := .inr (.inl h)
theorem mul_wide {x y : Int} (hx : x.natAbs < 2 ^ 500000) (hy : y.natAbs < 2 ^ 499999) : mulOk x y := .inl (wide_mul hx hy (by omega) (by omega) (by omega))
theorem div_ok {x y : Int} (h : 0 < y) (hy : y < 2 ^ 9000) : divOk x y := wide_div (b := 9000) h (by omega) (by omega) (by omega)
theorem fdivmod_eq {x y : Int} (h : 0 < y ∧ y < 1073741824) : (fdivmod x y : M τ _) = ret (x / y, x % y) := chk_pos h
theorem ixat_eq {xs : List α} {i : Int} {x : α} (h : atI xs i = some x) : (ixat xs i : M τ α) = ret x := by unfold ixat; rw [h]
theorem atI_nat {xs : List α} {i : Int} (h0 : 0 ≤ i) (h : i.toNat < xs.length) : atI xs i = some (xs[i.toNat]'h) := by
  unfold atI ixN
  have : i < xs.length := by omega
  simp [h0, this, h]
theorem ixat_nat {xs : List α} {i : Int} (h0 : 0 ≤ i) (h : i.toNat < xs.length) : (ixat xs i : M τ α) = ret (xs[i.toNat]'h) := ixat_eq (atI_nat h0 h)
theorem atI_last {xs : List α} (h : xs ≠ []) : atI xs (-1) = some (xs.getLast h) := by
  have hl : 0 < xs.length := List.length_pos_iff.mpr h
  unfold atI ixN
  rw [if_neg (by omega), if_pos (by omega)]
  show xs[(-1 + (xs.length : Int)).toNat]? = _
  rw [show (-1 + (xs.length : Int)).toNat = xs.length - 1 by omega, List.getLast_eq_getElem, List.getElem?_eq_getElem (by omega)]
theorem ixat_last {xs : List α} (h : xs ≠ []) : (ixat xs (-1) : M τ α) = ret (xs.getLast h) := ixat_eq (atI_last h)
theorem zforI_ret {xs : List β} {a : α} {f : α → β → M τ (Fl α α ρ)} : zforI (ret xs) a f = (zfor f a xs : M τ (Fl α κ ρ)) := rfl
theorem zfor_nil {a : α} {f : α → β → M τ (Fl α α ρ)} : zfor f a [] = (ret (.nx a) : M τ (Fl α κ ρ)) := rfl
theorem zfor_cons_nx {a a' : α} {x : β} {xs : List β} {f : α → β → M τ (Fl α α ρ)} (h : f a x = ret (.nx a')) : zfor f a (x :: xs) = (zfor f a' xs : M τ (Fl α κ ρ)) := by
  funext s; conv => lhs; unfold zfor
  rw [h]; rfl
/-- a comprehension of pure parts -/
theorem zcomp_map {f : β → M τ γ} {g : β → γ} : ∀ (xs : List β) (acc : List γ), (∀ x ∈ xs, f x = ret (g x)) → acc.length + xs.length ≤ sizeLine → zcomp (fun _ => ret true) f acc xs = (ret (acc ++ xs.map g) : M τ _)
  | [], acc, _, _ => by simp [zcomp]
  | x :: xs, acc, h, hl => by
    unfold zcomp
    rw [show nox (ret true : M τ Bool) = ret true from rfl, bnd_ret, if_pos rfl, h x (by simp), show nox (ret (g x) : M τ γ) = ret (g x) from rfl, bnd_ret, chk_pos (by simp at hl; omega), zcomp_map xs (acc ++ [g x]) (fun y hy => h y (by simp [hy])) (by simp at hl ⊢; omega)]
    simp
theorem zlc_map {f : β → M τ γ} {g : β → γ} {xs : List β} (h : ∀ x ∈ xs, f x = ret (g x)) (hl : xs.length ≤ sizeLine) : zlc (fun _ => ret true) f (ret xs) = (ret (xs.map g) : M τ _) := by
  unfold zlc
  rw [bnd_ret, zcomp_map xs [] h (by simpa using hl)]; rfl
/-! ### what a mirror with draws answers -/
def Ok (I : τ → Prop) (m : M τ α) (Q : α → Prop) : Prop := ∀ s, I s → ∃ a s', m s = .ok a s' ∧ I s' ∧ Q a
def OkS (I : τ → Prop) (m : M τ (Fl α κ ρ)) (N : α → Prop) (R : ρ → Prop) (Kb Kc : κ → Prop) : Prop := ∀ s, I s → ∃ o s', m s = .ok o s' ∧ I s' ∧ (match o with | .nx a => N a | .rt r => R r | .bk k => Kb k | .ct k => Kc k)
variable {I : τ → Prop}
theorem ok_ret {a : α} {Q : α → Prop} (h : Q a) : Ok I (ret a) Q := fun s hs => ⟨a, s, rfl, hs, h⟩
theorem Ok.mono {m : M τ α} {P Q : α → Prop} (h : Ok I m P) (k : ∀ a, P a → Q a) : Ok I m Q := fun s hs => let ⟨a, s', e, i, p⟩ := h s hs; ⟨a, s', e, i, k a p⟩
theorem ok_bnd {m : M τ α} {f : α → M τ β} {P : α → Prop} {Q : β → Prop} (h : Ok I m P) (k : ∀ a, P a → Ok I (f a) Q) : Ok I (bnd m f) Q := fun s hs => by
  obtain ⟨a, s', e, i, p⟩ := h s hs
  unfold bnd; rw [e]; exact k a p s' i
theorem ok_op2 {m : M τ α} {n : M τ β} {f : α → β → M τ γ} {P1 : α → Prop} {P2 : β → Prop} {Q : γ → Prop} (h : Ok I m P1) (h2 : Ok I n P2) (k : ∀ a b, P1 a → P2 b → Ok I (f a b) Q) : Ok I (zop2 f m n) Q := ok_bnd h fun a pa => ok_bnd h2 fun b pb => k a b pa pb
theorem ok_app {m : M τ α} {f : α → M τ β} {P : α → Prop} {Q : β → Prop} (h : Ok I m P) (k : ∀ a, P a → Ok I (f a) Q) : Ok I (zapp f m) Q := ok_bnd h k
theorem ok_pair {m : M τ α} {n : M τ β} {P1 : α → Prop} {P2 : β → Prop} (h : Ok I m P1) (h2 : Ok I n P2) : Ok I (zpair m n) (fun p => P1 p.1 ∧ P2 p.2) := ok_bnd h fun a pa => ok_bnd h2 fun b pb => ok_ret ⟨pa, pb⟩
/-- a list of k things that all keep Q -/
def LOf (k : Nat) (Q : α → Prop) (xs : List α) : Prop := xs.length = k ∧ ∀ x ∈ xs, Q x
theorem ok_nil {Q : α → Prop} : Ok I (ret ([] : List α)) (LOf 0 Q) := ok_ret ⟨rfl, by simp⟩
theorem ok_cons {m : M τ α} {n : M τ (List α)} {k : Nat} {Q : α → Prop} (h : Ok I m Q) (h2 : Ok I n (LOf k Q)) : Ok I (zcons m n) (LOf (k + 1) Q) := ok_bnd h fun a pa => ok_bnd h2 fun b pb => ok_ret ⟨by simp [pb.1], fun x hx => by
  rcases List.mem_cons.mp hx with e | e
  · rw [e]; exact pa
  · exact pb.2 x e⟩
theorem ok_list {m : M τ (List α)} {P : List α → Prop} (h : Ok I m P) (k : ∀ xs, P xs → xs.length ≤ sizeLine) : Ok I (zlist m) P := ok_bnd h fun a pa => by rw [chk_pos (k a pa)]; exact ok_ret pa
theorem ok_listN {m : M τ (List α)} {k : Nat} {Q : α → Prop} (h : Ok I m (LOf k Q)) (hk : k ≤ 1000) : Ok I (zlist m) (LOf k Q) := ok_list h fun xs p => by rw [p.1]; exact Nat.le_trans hk (by decide)
theorem ok_ix {m : M τ (List α)} {n : M τ Int} {k : Nat} {Q : α → Prop} (h : Ok I m (LOf k Q)) (h2 : Ok I n (fun i => 0 ≤ i ∧ i < (k : Int))) : Ok I (zop2 ixat m n) Q := ok_op2 h h2 fun xs i p q => by
  have hi : i.toNat < xs.length := by rw [p.1]; omega
  rw [ixat_nat q.1 hi]
  exact ok_ret (p.2 _ (List.getElem_mem hi))
section
variable {N N' : α → Prop} {N2 : β → Prop} {R : ρ → Prop} {Kb Kc : κ → Prop}
theorem oks_seq {m : M τ (Fl α κ ρ)} {f : α → M τ (Fl β κ ρ)} (h : OkS I m N R Kb Kc) (k : ∀ a, N a → OkS I (f a) N2 R Kb Kc) : OkS I (zseq m f) N2 R Kb Kc := fun s hs => by
  obtain ⟨o, s', e, i, p⟩ := h s hs
  unfold zseq; rw [e]
  cases o with
  | nx a => exact k a p s' i
  | rt r => exact ⟨_, _, rfl, i, p⟩
  | bk r => exact ⟨_, _, rfl, i, p⟩
  | ct r => exact ⟨_, _, rfl, i, p⟩
theorem oks_set {m : M τ α} (h : Ok I m N) : OkS I (zset m) N R Kb Kc := fun s hs => by
  obtain ⟨o, s', e, i, p⟩ := h s hs
  exact ⟨.nx o, s', by unfold zset bnd; rw [e]; rfl, i, p⟩
theorem oks_rt {m : M τ ρ} (h : Ok I m R) : OkS I (zrt m : M τ (Fl α κ ρ)) N R Kb Kc := fun s hs => by
  obtain ⟨o, s', e, i, p⟩ := h s hs
  exact ⟨.rt o, s', by unfold zrt bnd; rw [e]; rfl, i, p⟩
theorem oks_nx {a : α} (h : N a) : OkS I (znx a : M τ (Fl α κ ρ)) N R Kb Kc := fun s hs => ⟨.nx a, s, rfl, hs, h⟩
theorem oks_if {m : M τ Bool} {n o : M τ (Fl α κ ρ)} {P : Bool → Prop} (h : Ok I m P) (ht : P true → OkS I n N R Kb Kc) (hf : P false → OkS I o N R Kb Kc) : OkS I (zifS m n o) N R Kb Kc := fun s hs => by
  obtain ⟨b, s', e, i, p⟩ := h s hs
  unfold zifS bnd; rw [e]
  cases b with
  | true => exact ht p s' i
  | false => exact hf p s' i
theorem oks_app {xs : List β} {m : M τ β} {P : β → Prop} {N : β → Prop} (h : Ok I m P) (hl : xs.length < sizeLine) (k : ∀ a, P a → N a) : OkS I (bnd m fun v => chk (List.length xs < sizeLine) (ret (.nx v)) : M τ (Fl β κ ρ)) N R Kb Kc := fun s hs => by
  obtain ⟨o, s', e, i, p⟩ := h s hs
  exact ⟨.nx o, s', by unfold bnd; rw [e]; simp only; rw [chk_pos hl]; rfl, i, k o p⟩
theorem oks_zfor {f : α → β → M τ (Fl α α ρ)} {J : List β → α → Prop} (step : ∀ x xs a, J (x :: xs) a → OkS I (f a x) (fun a' => J xs a') R N (fun a' => J xs a')) (fin : ∀ a, J [] a → N a) : ∀ (xs : List β) (a : α), J xs a → OkS I (zfor f a xs : M τ (Fl α κ ρ)) N R Kb Kc
  | [], a, h => fun s hs => ⟨.nx a, s, rfl, hs, fin a h⟩
  | x :: xs, a, h => fun s hs => by
    obtain ⟨o, s', e, i, p⟩ := step x xs a h s hs
    unfold zfor; rw [e]
    cases o with
    | nx a' => exact oks_zfor step fin xs a' p s' i
    | ct a' => exact oks_zfor step fin xs a' p s' i
    | bk a' => exact ⟨_, _, rfl, i, p⟩
    | rt r => exact ⟨_, _, rfl, i, p⟩
theorem oks_for {f : α → β → M τ (Fl α α ρ)} {xs : List β} {a0 : α} {J : List β → α → Prop} (h0 : J xs a0) (step : ∀ x xs a, J (x :: xs) a → OkS I (f a x) (fun a' => J xs a') R N (fun a' => J xs a')) (fin : ∀ a, J [] a → N a) : OkS I (zforI (ret xs) a0 f : M τ (Fl α κ ρ)) N R Kb Kc := oks_zfor step fin xs a0 h0
theorem ok_body {m : M τ (Fl α κ ρ)} (h : OkS I m (fun _ => False) R (fun _ => False) (fun _ => False)) : Ok I (zbody m) R := fun s hs => by
  obtain ⟨o, s', e, i, p⟩ := h s hs
  unfold zbody zfin; rw [e]
  cases o with
  | rt r => exact ⟨r, s', rfl, i, p⟩
  | nx a => exact p.elim
  | bk a => exact p.elim
  | ct a => exact p.elim
end
/-! ### repr of lists of ints -/
theorem int_small {i : Int} (h : i.natAbs < 2 ^ 1900) : i.natAbs.log2 < 1920 := by
  by_cases z : i.natAbs = 0
  · rw [z]; decide
  · exact Nat.lt_trans ((Nat.log2_lt z).mpr h) (by omega)
theorem show_int {i : Int} (h : i.natAbs < 2 ^ 1900) : (PyData.shown (.int i)).length ≤ 1921 := by
  simp only [PyData.shown]
  exact PyProof.Rows.int_text_len_1921 (int_small h)
/-! ### the bag -/
def Bok (s : Bag) : Prop := 0 ≤ s.big ∧ 0 ≤ s.mix ∧ 0 ≤ s.pos ∧ ∀ x ∈ s.cells, 0 ≤ x
theorem ok_bget {I : Bag → Prop} {f : Bag → α} {P : α → Prop} (h : ∀ s, I s → P (f s)) : Ok I (bget f) P := fun s hs => ⟨f s, s, rfl, hs, h s hs⟩
theorem oks_bput {I : Bag → Prop} {f : Bag → Int → Bag} {m : M Bag Int} {P : Int → Prop} {R : ρ → Prop} {Kb Kc : κ → Prop} (h : Ok I m P) (k : ∀ s v, I s → P v → I (f s v)) : OkS I (bput f m : M Bag (Fl Unit κ ρ)) (fun _ => True) R Kb Kc := fun s hs => by
  obtain ⟨v, s', e, i, p⟩ := h s hs
  exact ⟨.nx (), f s' v, by unfold bput bnd; rw [e], k s' v i p, trivial⟩
/-- the law's end: from the bag's beginning -/
theorem law_end {mk : List Int → M Unit (List Int)} {xs cs : List Int} {m : M Bag (Fl Unit Empty Bool)} {I : Bag → Prop} (h1 : mk xs = ret cs) (h2 : I ⟨0, 1234567891, 0, cs⟩) (h : OkS I m (fun _ => False) (fun b => b = true) (fun _ => False) (fun _ => False)) : zbody (zbag mk xs m) () = .ok true () := by
  obtain ⟨o, s', e, i, p⟩ := h _ h2
  unfold zbody zfin zbag
  rw [h1]
  simp only [ret_at]
  rw [e]
  cases o with
  | rt r => have p : r = true := p; rw [p]; rfl
  | nx a => exact p.elim
  | bk a => exact p.elim
  | ct a => exact p.elim
end
end Zk

namespace Zk
open PySem L2 PySem.W PyProof.Rows
/-! ### == and != of own classes, by values -/
section
variable {prog : Program} {w : World} {A : Around} {E : Value → Shared → Prop} {s : Shared} {K : PySem.W.Frag} {x C L f : Addr} {h₀ : Heap} {m : Str → Option Value} {ox : Obj} {od : Option Obj} {tb b : Value}
end
section
variable {X : Cx} {k : Nat} {f C : Addr} {fd : FuncData} {ps : List Str} {sp : Sp} {g : Bool}
end
end Zk

namespace Zk
open PySem L2
section
variable {τ α β γ δ κ ρ ι θ : Type} {G : Gx} {c : Sc} {E : Eff τ} {W : WX} {Γ Γ' : Env} {B : Bs} {σ : St} {S S1 S' H H' : Hp} {b b' : τ} {L : Ls κ ρ}
/-- what the written part says of an own class that has __eq__ -/
structure EqAt (g : Bool) (G : Gx) (C : Addr) (k : Nat) (ps : List Str) (sp : Sp) : Prop where
  ex : ∃ f fd, PySem.W.findIn G.K (.ref C) "__eq__" = some (some (.ref f)) ∧ PySem.W.isFn G.K (.ref f) = true ∧ Binds G.K fd ps [] ∧ FnG g G.P G.w G.K G.mg G.base k f fd ps sp
section
variable {C0 : Addr} {k : Nat} {g : Bool} {ps : List Str} {fs : α → List (Str × Pr)} {m : α × α → M Unit Bool} {ea eb : Expr} {ma mb : M τ α} {pos : Pos}
end
/-! ### own __repr__ -/
structure RpAt (g : Bool) (G : Gx) (C : Addr) (k : Nat) (ps : List Str) (sp : Sp) : Prop where
  ex : ∃ f fd, PySem.W.findIn G.K (.ref C) "__repr__" = some (some (.ref f)) ∧ PySem.W.isFn G.K (.ref f) = true ∧ Binds G.K fd ps [] ∧ FnG g G.P G.w G.K G.mg G.base k f fd ps sp
end
end Zk

namespace Zk
open PySem L2
section
variable {τ α β γ δ κ ρ ι θ : Type} {G : Gx} {c : Sc} {E : Eff τ} {W : WX} {Γ Γ' : Env} {B : Bs} {σ : St} {S S1 S' H H' : Hp} {b b' : τ} {L : Ls κ ρ}
/-! ### f-strings -/
/-! ### C(e, ..), what lacks has a default -/
theorem zf_makeK0 {gd : Bool} {x : Str} {C0 : Addr} {k n : Nat} {ps : List Str} {A : α → List Pr} {f : α → M Unit ρ} {fs : ρ → List (Str × Pr)} {Ad : β → List Pr} {gV : List V → List V → List V} {g : β → α} {e : Expr} {es : List Expr} {m : M τ β} {p pos : Pos} (F : MkAtK gd G C0 k n ps [] (spI G C0 A f fs) gV) (hm : G.mg x = some (.ref C0)) (hk : k + 1 ≤ c.k) (hg : gd = true → c.gd = true) (gb : Gb c x)
    (hA : ∀ y, (Ad y).length = n) (hd : ∀ y S l us, All2 (fun (p : Pr) v => p.p S v) (Ad y) us → ∃ ws, gV (.ref l :: us) [] = .ref l :: ws ∧ All2 (fun (p : Pr) v => p.p S v) (A (g y)) ws) (ha : ZA G c E W Γ (e :: es) m Ad)
    (hdb : (x == ("__debug__" : Str)) = false := by decide) (he : Star e es := by intro _; rfl)
    (hpl : ∀ env : PySem.Env, ((backTo pos (starEach (e :: es) env)).any (·.1) || (backToKw pos (keywordEach [] env)).any (·.1.isNone)) = false := by intro _; rfl) :
    ZF G c E W Γ (.Call (.Name x p) (e :: es) [] pos) (bnd m fun y => lft (f (g y))) (fun r => ownO (fun _ => True) C0 (fs r)) := fun X C => by
  obtain ⟨f0, fd, gg, h1, h2, h4⟩ := F.ex
  rw [← C.prog, ← C.w, ← C.K, ← C.mg, ← C.base] at h4
  rw [← C.K] at h1 h2
  rw [← C.mg] at hm
  refine pe_wk (pe_makeKS (Ex := WE W) h1 h4 (C.room.mono hk) (fun z => C.gds (hg z)) (C.gl gb) hm h2 (passAt C.takes) (ha X C) pk_nil rfl rfl hdb (he _) (hpl _)) fun σ H Q _ ⟨B, S, b, hh, qq⟩ => ?_
  refine tz_AbndF hh qq fun y b2 us S2 H2 s2 hh2 r1 q2 => ?_
  refine ⟨by rw [← r1.length]; exact hA y, rfl, fun l dx hl hdx hne => ?_⟩
  obtain ⟨ws, e0, rw'⟩ := hd y S2 l us r1
  rw [e0]
  refine ⟨g y, l, dx, S2, ws, rfl, rw', fun a o e => ?_, hh2.same.free hl, upd_same, ?_⟩
  · have e := hh2.same _ _ e
    rw [upd_ne (ne_of_none e hl), upd_ne (ne_of_none e hdx)]; exact e
  have old : ∀ a o, H2 a = some o → del (upd (upd H2 dx (.own l)) l (.ins C0 dx [])) l a = some o := fun a o e => by
    rw [del_ne (ne_of_none e hl), upd_ne (ne_of_none e hl), upd_ne (ne_of_none e hdx)]; exact e
  unfold lft at q2
  cases e : f (g y) () with
  | stuck => rw [e] at q2; exact q2.elim
  | exc e b' =>
    rw [e] at q2
    exact fun c d S' H' k xa => q2 c d S' H' k.up (hh2.grow k.up k.same (fun a o e1 e2 => k.kp a o e1 (old a o e2) id) fun a ha hn => by
      obtain ⟨_, o, ho⟩ := E.th hh2.ef ha
      exact (k.kp a o hn (old a o ho) id).1) xa
  | ok r b' =>
    rw [e] at q2
    intro S' H' k hS' hO
    refine ⟨rfl, q2 (.ref l) S' (del H' l) H' (fun x => x = l) k.up (hh2.grow k.up (fun a o e => ?_) (fun a o e1 e2 => ?_) fun a ha hn => ?_) (fun x e => ?_) (fun x n => (del_ne n).symm) hO⟩
    · rw [del_ne (fun z => by rw [z, hS'] at e; cases e)]; exact k.same _ _ e
    · rw [del_ne (ne_of_none e2 hl)]; exact k.kp a o e1 (old a o e2) id
    · obtain ⟨_, o, ho⟩ := E.th hh2.ef ha
      exact (k.kp a o hn (old a o ho) id).1
    · subst e
      obtain ⟨l', dx', vs', e', _, _, hu, _⟩ := hO
      cases e'
      exact ⟨del_same, _, hu⟩

/-! ### an instance of one's own in a slot: a field stored again -/
end
end Zk

namespace Zk
open PySem L2
section
variable {α β γ δ ε : Type} {R1 : Rel α} {R2 : Rel β} {R3 : Rel γ} {i : Int}
theorem gw3 : ∀ (y : α × β × γ) (S : Hp) (l : Addr) (us : List V), All2 (fun (p : Pr) v => p.p S v) [R1.pr y.1, R2.pr y.2.1, R3.pr y.2.2] us → ∃ ws, (V.ref l :: us) ++ [V.int i] = .ref l :: ws ∧ All2 (fun (p : Pr) v => p.p S v) [R1.pr y.1, R2.pr y.2.1, R3.pr y.2.2, rInt.pr i] ws
  | y, S, l, [a, b, c], ⟨h1, h2, h3, _⟩ => ⟨[a, b, c, .int i], rfl, h1, h2, h3, rfl, trivial⟩
structure Ic (K : PySem.W.Frag) (C : Addr) : Prop where
  cl : Cls K C
  a : PySem.W.findIn K (.ref C) "__class__" = some (some (.builtin "object.__class__"))
  n : PySem.W.specialIn K (.builtin "object.__class__") "__get__" = some (some (.builtin "getset_descriptor.__get__"))
  t : PySem.W.takesIn K (.builtin "object.__class__") = some true
  m : PySem.W.mroIn K C (.type "object") = some true
end
end Zk

namespace Zk
open PySem L2 PySem.Spec PyProof.Rows
/-! ### how many things are apart -/
section
variable {τ : Type} {G : Gx} {c : Sc} {E : Eff τ} {W : WX} {Γ : Env}
end
end Zk

namespace Zk
open PySem L2
/-! ### lists of things of several kinds -/
section
variable {τ α β : Type} {G : Gx} {c : Sc} {E : Eff τ} {W : WX} {Γ : Env}
structure DH (A : α → List Pr) where
  d : α → List PyData
  n : Nat
  dep : ∀ x, PyData.depthAll (d x) ≤ n
  dp : ∀ {K : PySem.W.Frag} {x : α} {S H : Hp} {vs : List V}, Same S H → All2 (fun (p : Pr) v => p.p S v) (A x) vs → DpAll K H vs (d x)
  eq : ∀ x y, PyData.eqvAll (d x) (d y) = true ↔ x = y
end
end Zk

namespace Zk
open PySem L2 PySem.Spec PyProof.Rows RT
/-! ### list(reversed(a tuple)) -/
section
variable {prog : Program} {w : World} {A : Around} {E : Value → Shared → Prop} {s : Shared}
end
end Zk

namespace Zk
open PySem L2
section
variable {τ α : Type} {G : Gx} {c : Sc} {E : Eff τ} {W : WX} {Γ : Env}
end
end Zk

namespace Zk
open PySem L2

section
variable {τ α β γ δ κ ρ ι θ : Type} {G : Gx} {c : Sc} {E : Eff τ} {W : WX} {Γ Γ' : Env} {B : Bs} {σ : St} {S S1 S' H H' : Hp} {b b' : τ} {L : Ls κ ρ}
/-! ### own lists of own lists -/
/-- the lists at rs are what xss tells -/
def Rows (R : Rel α) (S H : Hp) (rs : List Addr) (xss : List (List α)) : Prop := All2 (fun xs r => ∃ vs, H r = some (.lst vs) ∧ All2 (fun x v => R.is x S v) xs vs) xss rs
theorem ne_mem {a p : Addr} {rs : List Addr} (h : p ∉ rs) (ha : a ∈ rs) : a ≠ p := fun z => h (by rw [← z]; exact ha)
theorem Rows.mono {R : Rel α} {rs : List Addr} (s : Same S S') (k : ∀ a o, a ∈ rs → H a = some o → H' a = some o) : ∀ {rs' : List Addr} {xss : List (List α)}, (∀ a, a ∈ rs' → a ∈ rs) → Rows R S H rs' xss → Rows R S' H' rs' xss
  | [], [], _, _ => trivial
  | r :: rs', xs :: xss, hm, ⟨⟨vs, e, q⟩, h⟩ => ⟨⟨vs, k _ _ (hm r (by simp)) e, All2.rel s q⟩, Rows.mono s k (fun a ha => hm a (by simp [ha])) h⟩
  | [], _ :: _, _, h => h.elim
  | _ :: _, [], _, h => h.elim
def ownLL (R : Rel α) (rs : List Addr) (xss : List (List α)) : PrO := ⟨fun S H v F => ∃ l, v = .ref l ∧ l ∉ rs ∧ rs.Nodup ∧ (∀ a, F a ↔ a = l ∨ a ∈ rs) ∧ H l = some (.lst (rs.map V.ref)) ∧ Rows R S H rs xss,
  fun s k ⟨l, e, n, d, f, h, q⟩ => ⟨l, e, n, d, f, k _ _ ((f l).mpr (.inl rfl)) h, Rows.mono s (fun a o ha e => k a o ((f a).mpr (.inr ha)) e) (fun _ z => z) q⟩⟩
/-! making: a display of new lists -/
def aftAL (G : Gx) (E : Eff τ) (W : WX) (B : Bs) (Γ : Env) (σ : St) (S : Hp) (R : Rel α) (Q : List V → Hp → Prop) : Out τ (List (List α)) → Prop
  | .ok xss b' => ∀ rs S' H1 H', Same S S' → Hold E B Γ b' σ S' H1 → rs.Nodup → (∀ r ∈ rs, H1 r = none) → (∀ x, x ∉ rs → H' x = H1 x) → Rows R S' H' rs xss → Q (rs.map V.ref) H'
  | .exc x b' => ∀ c d S' H', Same S S' → Hold E B Γ b' σ S' H' → XAt G x H' c d → W c d σ H'
  | .stuck => False
theorem aftAL.same {R : Rel α} {Q : List V → Hp → Prop} (s : Same S S1) : ∀ {o : Out τ (List (List α))}, aftAL G E W B Γ σ S R Q o → aftAL G E W B Γ σ S1 R Q o
  | .ok _ _, h => fun v S' H1 H' s2 => h v S' H1 H' (s.trans s2)
  | .exc _ _, h => fun c d S' H' s2 => h c d S' H' (s.trans s2)
  | .stuck, h => h
theorem Hold.unBd {D : Addr} {o : HO} (h : Hold E (Bd B D o) Γ b σ S H) (hBH : B.H D = none) : Hold E B Γ b σ S H := by
  obtain ⟨Fs, hF, hs⟩ := h.sl
  refine ⟨⟨h.kp.same, h.kp.up, fun a u h1 h2 h3 => ?_⟩, h.ef, Fs, ⟨fun i a e => ?_, hF.ds⟩, hs⟩
  · have ha : a ≠ D := fun z => by rw [z, hBH] at h2; cases h2
    exact h.kp.kp a u h1 (by show upd B.H D o a = some u; rw [upd_ne ha]; exact h2) h3
  · obtain ⟨r1, r2, r3, r4⟩ := hF.at_ i a e
    have r2 : upd B.H D o a = none := r2
    have ha : a ≠ D := fun z => by rw [z, upd_same] at r2; cases r2
    rw [upd_ne ha] at r2
    exact ⟨r1, r2, r3, r4⟩
/-- what a slot owns -/
theorem ll_at {R : Rel α} {rs : List Addr} {xss : List (List α)} {i : Nat} (h : Hold E B Γ b σ S H) (hi : Γ[i]? = some (.ow (ownLL R rs xss))) : ∃ l, σ[i]? = some (some (.ref l)) ∧ l ∉ rs ∧ rs.Nodup ∧ H l = some (.lst (rs.map V.ref)) ∧ Rows R S H rs xss := by
  obtain ⟨Fs, hF, hs⟩ := h.sl
  obtain ⟨v, e1, l, rfl, n, d, f, hl, q⟩ := hs i _ hi
  exact ⟨l, slot_get e1, n, d, hl, q⟩
theorem Rows.at_ {R : Rel α} : ∀ {rs : List Addr} {xss : List (List α)} {j : Nat} {xs : List α}, Rows R S H rs xss → xss[j]? = some xs → ∃ r vs, rs[j]? = some r ∧ H r = some (.lst vs) ∧ All2 (fun x v => R.is x S v) xs vs := fun {rs xss j xs} h e => by
  obtain ⟨r, e2, vs, e3, e4⟩ := All2.get (β := Addr) h e
  exact ⟨r, vs, e2, e3, e4⟩
/-- one of the own lists is written -/
theorem Hold.row {R : Rel α} {rs : List Addr} {xss : List (List α)} {i j : Nat} {r : Addr} {ys : List α} {vs : List V} (h : Hold E B Γ b σ S H) (hi : Γ[i]? = some (.ow (ownLL R rs xss))) (hr : rs[j]? = some r) (hv : All2 (fun x v => R.is x S v) ys vs) :
    Hold E B (Γ.set i (.ow (ownLL R rs (xss.set j ys)))) b σ S (upd H r (.lst vs)) := by
  obtain ⟨l, e1, n, d, hl, q⟩ := ll_at h hi
  have hlt := (List.getElem?_eq_some_iff.mp e1).1
  have hm : r ∈ rs := by obtain ⟨hj, e⟩ := List.getElem?_eq_some_iff.mp hr; rw [← e]; exact List.getElem_mem hj
  rw [show σ = σ.set i (some (.ref l)) from (slot_set e1).symm]
  refine Hold.mut h hlt (F' := fun a => a = l ∨ a ∈ rs) (fun a hn => upd_ne fun z => hn (.inr (z ▸ hm))) (fun a ha => ?_) ⟨l, rfl, n, d, fun _ => Iff.rfl, ?_, ?_⟩
  · constructor
    · by_cases z : a = r
      · subst z; exact ⟨_, upd_same⟩
      · rw [upd_ne z]
        rcases ha with rfl | ha
        · exact ⟨_, hl⟩
        · obtain ⟨k, hk, rfl⟩ := List.mem_iff_getElem.mp ha
          obtain ⟨_, _, vs, e, _⟩ := All2.get' (β := Addr) q (List.getElem?_eq_getElem hk)
          exact ⟨_, e⟩
    · refine .inr fun Fs hF hs => ?_
      obtain ⟨v, z1, l', rfl, n', d', f', hl', q'⟩ := hs i _ hi
      rw [e1] at z1; cases z1
      exact (f' a).mpr ha
  · rw [upd_ne fun z => n (by rw [z]; exact hm)]; exact hl
  · have : ∀ (rs : List Addr) (xss : List (List α)) (j : Nat), rs.Nodup → rs[j]? = some r → Rows R S H rs xss → Rows R S (upd H r (.lst vs)) rs (xss.set j ys) := by
      intro rs
      induction rs with
      | nil => intro xss j _ e; simp at e
      | cons r0 rs ih =>
        intro xss j nd e q
        match xss, q with
        | xs :: xss, ⟨⟨us, e1, e2⟩, q⟩ =>
          obtain ⟨n0, nd⟩ := List.nodup_cons.mp nd
          cases j with
          | zero =>
            simp at e
            subst e
            exact ⟨⟨vs, upd_same, hv⟩, Rows.mono (rs := rs) (Same.refl _) (fun a o ha e => by rw [upd_ne (ne_mem n0 ha)]; exact e) (fun _ z => z) q⟩
          | succ j =>
            simp at e
            have hm : r ∈ rs := by obtain ⟨hj, e⟩ := List.getElem?_eq_some_iff.mp e; rw [← e]; exact List.getElem_mem hj
            exact ⟨⟨us, by rw [upd_ne (Ne.symm (ne_mem n0 hm))]; exact e1, e2⟩, ih xss j nd e q⟩
    exact this rs xss j d hr q
/-! one of the lists, by its place -/
/-- xs with v at the place k -/
def putI (xs : List α) (k : Int) (v : α) : Option (List α) := (ixN xs.length k).map fun j => xs.set j v
abbrev AsgSub (o i : Expr) (pos : Pos) : Prop := ∀ (env : PySem.Env) (v : Value), assign (.Subscript o i pos) env v = (do
      let ov ← holding [v] (eval o env)
      let iv ← holding [v, ov] (eval i env)
      standAt pos
      holding [v, ov, iv] (setItem ov iv v)
      release [v, ov, iv] [])
/-- an own list's item is written -/
def putM (xs : List α) (m : M τ α) (mk : M τ Int) : M τ (Fl (List α) κ ρ) := bnd m fun v => bnd mk fun k => match putI xs k v with | some ys => ret (.nx ys) | none => stk
theorem zs_put {R : Rel α} {xs : List α} {i : Nat} {x : Str} {ek e : Expr} {m : M τ α} {mk : M τ Int} {p1 p3 pos : Pos} (n : Nm c i x) (hi : Γ[i]? = some (.ow (ownL R xs))) (hk : ZE G c E W Γ ek mk rInt) (h : ZE G c E W Γ e m R) (sx : Sub E Γ L.x)
    (hasg : AsgSub (.Name x p1) ek p3 := by intro _ _; rfl)
    (hs : ∀ (l : Nat) (env : PySem.Env), swapsWithSole [.Subscript (.Name x p1) ek p3] e l env = pure false := by intro _ _; rfl)
    (hw : ∀ env : PySem.Env, swappedStores [.Subscript (.Name x p1) ek p3] e env = pure none := by intro _; rfl) :
    ZS G c E W L Γ (.Assign [.Subscript (.Name x p1) ek p3] e pos) (putM xs m mk) (fun ys => Γ.set i (.ow (ownL R ys))) := fun X C =>
  ps_wk (ps_asg (h X C) (pg_sub (pe_var (C.hi n.n) (by rw [C.sc]; exact n.v) n.d n.cd) (hk X C) set_list (hasg _)) (hs _ _) (hw _)) fun D σ H hl ⟨B, S, b, hh, q⟩ => by
    refine tzS_bnd (R := R) sx hh q fun v b1 u S1 H1 s1 h1 r1 q1 => ?_
    obtain ⟨l, vs, e1, e2, e3⟩ := own_at h1 hi
    refine ⟨.ref l, e1, ?_⟩
    refine tzS_bnd (R := rInt) sx h1 q1 fun k b3 y S3 H3 s3 h3 r3 q3 => ?_
    obtain ⟨l', vs', e1', e2', e3'⟩ := own_at h3 hi
    rw [e1] at e1'; cases e1'
    unfold putI at q3
    cases e4 : ixN xs.length k with
    | none => simp [e4] at q3; exact q3.elim
    | some t =>
      simp [e4] at q3
      exact ⟨l, vs', k, t, rfl, r3, e2', by rw [← e3'.length]; exact e4, q3 σ S3 _ (Same.refl _) (h3.chg hi ownL_feet e1 ⟨l, _, rfl, fun _ => Iff.rfl, upd_same, All2.set (r := fun x v => R.is x S3 v) (R.mono s3 r1) t e3'⟩)⟩
end
end Zk

namespace Zk
open PySem L2

section
variable {τ α β γ δ κ ρ ι θ : Type} {G : Gx} {c : Sc} {E : Eff τ} {W : WX} {Γ Γ' : Env} {B : Bs} {σ : St} {S S1 S' H H' : Hp} {b b' : τ} {L : Ls κ ρ}
/-! ### among -/
structure ScalIn (R : Rel α) (f : α → V) : Prop where
  s : ScalR R f
  fl : ∀ x, flatV (f x) = true
  eq : ∀ x y, eqV (f x) (f y) = true ↔ x = y
theorem inI : ScalIn rInt V.int := ⟨scI, fun _ => rfl, fun x y => by simp [eqV]⟩
theorem ScalIn.map {R : Rel α} {f : α → V} (D : ScalIn R f) : ∀ {xs : List α} {vs : List V}, All2 (fun x v => R.is x S v) xs vs → vs = xs.map f
  | [], [], _ => rfl
  | _ :: _, _ :: _, ⟨a, b⟩ => by rw [D.s.is a, D.map b]; rfl
  | [], _ :: _, h => h.elim
  | _ :: _, [], h => h.elim
theorem ScalIn.all {R : Rel α} {f : α → V} (D : ScalIn R f) (xs : List α) : (xs.map f).all flatV = true := by
  rw [List.all_map, List.all_eq_true]; exact fun x _ => D.fl x
section
variable {ea eb : Expr} {pos : Pos}
end
/-! ### int(..) -/
section
variable {e : Expr} {p pos : Pos} {x : Str}
def fint (k : Bool) : M τ Int := ret (if k = true then 1 else 0)
theorem z_intB {m : M τ Bool} (bl : Blt G c x (.type "int")) (ha : ZE G c E W Γ e m rBl) (hs : Star e [] := by intro _; rfl) : ZE G c E W Γ (.Call (.Name x p) [e] [] pos) (zapp fint m) rInt :=
  z_ty1 bl (fun X C => call_int1) (fun B σ S H b k v Q hh hx q => .inr ⟨k, by rw [hx], aft_ret hh q rfl⟩) ha hs
end
end
end Zk

namespace Zk
open PySem L2
/-! ### plain facts: texts, places -/
end Zk

namespace Zk
open PySem L2

section
variable {τ α β γ δ κ ρ ι θ : Type} {G : Gx} {c : Sc} {E : Eff τ} {W : WX} {Γ Γ' : Env} {B : Bs} {σ : St} {S S1 S' H H' : Hp} {b b' : τ} {L : Ls κ ρ}
/-! ### things of any kind -/
def datN : DatR rNon := ⟨fun _ => .none, 0, fun _ => by simp [PyData.depth], fun _ h => by cases h; exact .non, fun x y => by simp [PyData.eqv]⟩
/-- its type -/
def tyD : PyData → String
  | .none => "NoneType" | .bool _ => "bool" | .int _ => "int" | .str _ => "str" | .list _ => "list" | .tuple _ => "tuple" | .dict _ => "dict"
def isD (n : String) (d : PyData) : Bool := tyD d == n || (n == "int" && tyD d == "bool")
section
variable {e : Expr} {p pos : Pos} {x : Str}
end
/-! own == and != with a thing of any kind -/
section
variable {X : Cx} {k : Nat} {f C : Addr} {fd : FuncData} {ps : List Str} {sp : Sp} {g : Bool}
open PySem.W in
open PySem.W in
open PySem.W in
open PySem.W in
end
section
variable {C0 : Addr} {k : Nat} {g : Bool} {ps : List Str} {fs : α → List (Str × Pr)} {m : α × PyData → M Unit Bool} {ea eb : Expr} {pos : Pos} {ma : M τ α} {mb : M τ PyData}
end
theorem kit_self {K : PySem.W.Frag} {C : Addr} : PySem.W.kitOne K (.ref C) (.ref C) = some true := by
  unfold PySem.W.kitOne
  rw [if_pos (by simp)]
end
end Zk

namespace Zk
open PySem L2
/-! ### plain facts: the greatest, the least, parts of lists, comprehensions with a test -/
section
variable {α β γ τ κ ρ : Type}
theorem cut_hi {xs : List α} (k : Nat) : cut xs none (some (k : Int)) = xs.take k := by
  unfold cut
  rw [HT.sIx_none, HT.sIx_nat, List.drop_zero, Nat.sub_zero]
  by_cases h : k ≤ xs.length
  · rw [Nat.min_eq_left h]
  · rw [Nat.min_eq_right (by omega), List.take_of_length_le (Nat.le_refl _), List.take_of_length_le (by omega)]
theorem cut_lo {xs : List α} (k : Nat) : cut xs (some (k : Int)) none = xs.drop k := by
  unfold cut
  rw [HT.sIx_none, HT.sIx_nat]
  by_cases h : k ≤ xs.length
  · rw [Nat.min_eq_left h, List.take_of_length_le (by rw [List.length_drop]; exact Nat.le_refl _)]
  · rw [Nat.min_eq_right (by omega), List.drop_of_length_le (Nat.le_refl _), List.drop_of_length_le (by omega)]; simp
theorem cut_hi' {xs : List α} {k : Int} (h : 0 ≤ k) : cut xs none (some k) = xs.take k.toNat := by
  obtain ⟨n, rfl⟩ := Int.eq_ofNat_of_zero_le h
  exact cut_hi n
theorem cut_lo' {xs : List α} {k : Int} (h : 0 ≤ k) : cut xs (some k) none = xs.drop k.toNat := by
  obtain ⟨n, rfl⟩ := Int.eq_ofNat_of_zero_le h
  exact cut_lo n
/-- a comprehension with a test, of pure parts -/
theorem zcomp_filter {t : β → M τ Bool} {f : β → M τ γ} {p : β → Bool} {g : β → γ} : ∀ (xs : List β) (acc : List γ), (∀ x ∈ xs, t x = ret (p x)) → (∀ x ∈ xs, f x = ret (g x)) → acc.length + xs.length ≤ sizeLine → zcomp t f acc xs = (ret (acc ++ (xs.filter p).map g) : M τ _)
  | [], acc, _, _, _ => by simp [zcomp]
  | x :: xs, acc, ht, h, hl => by
    simp only [List.length_cons] at hl
    unfold zcomp
    rw [ht x (by simp), show nox (ret (p x) : M τ Bool) = ret (p x) from rfl, bnd_ret]
    by_cases hp : p x = true
    · rw [if_pos hp, h x (by simp), show nox (ret (g x) : M τ γ) = ret (g x) from rfl, bnd_ret, chk_pos (by omega), zcomp_filter xs (acc ++ [g x]) (fun y hy => ht y (by simp [hy])) (fun y hy => h y (by simp [hy])) (by simp; omega), List.filter_cons_of_pos hp]
      simp
    · rw [if_neg hp, zcomp_filter xs acc (fun y hy => ht y (by simp [hy])) (fun y hy => h y (by simp [hy])) (by omega), List.filter_cons_of_neg hp]
theorem zlc_filter {t : β → M τ Bool} {f : β → M τ γ} {p : β → Bool} {g : β → γ} {xs : List β} (ht : ∀ x ∈ xs, t x = ret (p x)) (h : ∀ x ∈ xs, f x = ret (g x)) (hl : xs.length ≤ sizeLine) : zlc t f (ret xs) = (ret ((xs.filter p).map g) : M τ _) := by
  unfold zlc
  rw [bnd_ret, zcomp_filter xs [] ht h (by simpa using hl)]; rfl
variable {I : τ → Prop}
theorem ok_eqk {m : M τ Int} {k : Int} (h : Ok I m fun _ => True) : Ok I (zop2 feq m (ret k)) fun _ => True := ok_op2 h (ok_ret trivial) (P2 := fun _ => True) fun _ _ _ _ => ok_ret trivial
theorem ok_any {m : M τ α} {P : α → Prop} (h : Ok I m P) : Ok I m fun _ => True := h.mono fun _ _ => trivial
theorem lcat_eq {xs ys : List α} (h : xs.length + ys.length ≤ 16777216) : (lcat xs ys : M τ _) = ret (xs ++ ys) := chk_pos (by rw [show sizeLine = 16777216 by decide]; exact h)
theorem zlist_eq {xs : List α} (h : xs.length ≤ 16777216) : zlist (ret xs) = (ret xs : M τ _) := zlist_ret (by rw [show sizeLine = 16777216 by decide]; exact h)
theorem oks_forB {f : α → β → M τ (Fl α α ρ)} {m : M τ (List β)} {a : α} {P : List β → Prop} {N : α → Prop} {R : ρ → Prop} {Kb Kc : κ → Prop} (h : Ok I m P) (k : ∀ xs, P xs → OkS I (zfor f a xs : M τ (Fl α κ ρ)) N R Kb Kc) : OkS I (zforI m a f : M τ (Fl α κ ρ)) N R Kb Kc := fun s hs => by
  obtain ⟨xs, s', e, i, p⟩ := h s hs
  unfold zforI bnd; rw [e]
  exact k xs p s' i
end
end Zk

namespace Zk
open PySem L2

/-! ### what is lent: read, never changed -/
def Eff.lent {τ : Type} (E : Eff τ) (L : Hp) : Eff τ where
  own a := E.own a ∨ ∃ o, L a = some o
  is b S H := E.is b S H ∧ (∀ a o, L a = some o → S a = none ∧ H a = some o) ∧ ∀ a o, L a = some o → ¬ E.own a
  mono := fun s f k ⟨h1, h2, h3⟩ => ⟨E.mono s (fun a ha => f a (.inl ha)) (fun a o ha => k a o (.inl ha)) h1, fun a o e => ⟨f a (.inr ⟨o, e⟩) (h2 a o e).1, k a o (.inr ⟨o, e⟩) (h2 a o e).2⟩, h3⟩
  th := fun ⟨h1, h2, h3⟩ ha => ha.elim (fun ha => E.th h1 ha) fun ⟨o, e⟩ => ⟨(h2 _ o e).1, o, (h2 _ o e).2⟩
structure HasL {τ : Type} (E : Eff τ) (L : Hp) : Prop where
  h : ∀ {b : τ} {S H : Hp}, E.is b S H → ∀ a o, L a = some o → H a = some o
theorem hasL {τ : Type} {E : Eff τ} {L : Hp} : HasL (E.lent L) L := ⟨fun h a o e => (h.2.1 a o e).2⟩

section
variable {τ α β γ δ κ ρ ι θ : Type} {G : Gx} {c : Sc} {E : Eff τ} {W : WX} {Γ : Env} {B : Bs} {σ : St} {S S1 S' H H' : Hp} {b b' : τ} {Ls : Ls κ ρ} {L : Hp}
/-- a thing of one's own, as it is seen while it is lent -/
structure View (p : PrO) (q : Hp → Pr) : Prop where
  v : ∀ {S H : Hp} {v : V} {F : Addr → Prop}, p.p S H v F → ∀ L : Hp, (∀ a o, F a → H a = some o → L a = some o) → (q L).p S v
def rLF (L : Hp) (R : Rel α) : Rel (List α) :=
  ⟨fun xs S v => ∃ a vs, v = .ref a ∧ L a = some (.lst vs) ∧ All2 (fun x v => R.is x S v) xs vs, fun s ⟨a, vs, e, h, q⟩ => ⟨a, vs, e, h, All2.rel s q⟩⟩
theorem view_L {R : Rel α} {xs : List α} : View (ownL R xs) (fun L => (rLF L R).pr xs) := ⟨fun ⟨l, vs, e, f, h, q⟩ L k => ⟨l, vs, e, k _ _ ((f l).mpr rfl) h, q⟩⟩
inductive FrzX : Env → (Hp → Env) → Prop
  | nil : FrzX [] (fun _ => [])
  | no {l : Env} {l' : Hp → Env} : FrzX l l' → FrzX (.no :: l) (fun L => .no :: l' L)
  | st {p : Pr} {l : Env} {l' : Hp → Env} : FrzX l l' → FrzX (.st p :: l) (fun L => .st p :: l' L)
  | ow {p : PrO} {q : Hp → Pr} {l : Env} {l' : Hp → Env} : View p q → FrzX l l' → FrzX (.ow p :: l) (fun L => .st (q L) :: l' L)
  | gh {p : PrO} {l : Env} {l' : Hp → Env} : FrzX l l' → FrzX (.gh p :: l) (fun L => .no :: l' L)
theorem FrzX.get {L : Hp} : ∀ {l : Env} {l' : Hp → Env}, FrzX l l' → ∀ {i : Nat} {s : Sl}, (l' L)[i]? = some s → s = .no ∨ (∃ p, s = .st p ∧ l[i]? = some (.st p)) ∨ ∃ p q, s = .st (q L) ∧ View p q ∧ l[i]? = some (.ow p)
  | _, _, .nil, i, s, h => by simp at h
  | _, _, .no f, 0, s, h => by simp at h; exact .inl h.symm
  | _, _, .st f, 0, s, h => by simp at h; exact .inr (.inl ⟨_, h.symm, rfl⟩)
  | _, _, .ow v f, 0, s, h => by simp at h; exact .inr (.inr ⟨_, _, h.symm, v, rfl⟩)
  | _, _, .gh f, 0, s, h => by simp at h; exact .inl h.symm
  | _, _, .no f, i + 1, s, h => by simpa using f.get (i := i) (by simpa using h)
  | _, _, .st f, i + 1, s, h => by simpa using f.get (i := i) (by simpa using h)
  | _, _, .ow v f, i + 1, s, h => by simpa using f.get (i := i) (by simpa using h)
  | _, _, .gh f, i + 1, s, h => by simpa using f.get (i := i) (by simpa using h)
open Classical in
/-- all that is one's own is lent, then back -/
theorem Hold.lendX {Γ' : Hp → Env} (fz : FrzX Γ Γ') (h : Hold E B Γ b σ S H) : ∃ L, Hold (E.lent L) B (Γ' L) b σ S H ∧ ∀ b1 S2 H2, Same S S2 → Hold (E.lent L) B (Γ' L) b1 σ S2 H2 → Hold E B Γ b1 σ S2 H2 := by
  obtain ⟨Fs, hF, hs⟩ := h.sl
  let Ow : Addr → Prop := fun a => ∃ i, (∃ p, Γ[i]? = some (.ow p) ∨ Γ[i]? = some (.gh p)) ∧ Fs i a
  have lOw : ∀ a o, (if Ow a then H a else none) = some o → Ow a ∧ H a = some o := fun a o e => by
    by_cases z : Ow a
    · rw [if_pos z] at e; exact ⟨z, e⟩
    · rw [if_neg z] at e; cases e
  refine ⟨fun a => if Ow a then H a else none, ⟨⟨h.same, h.kp.up, fun a o h1 h2 h3 => h.kp.kp a o h1 h2 fun z => h3 (.inl z)⟩, ⟨h.ef, fun a o e => ?_, fun a o e => ?_⟩, fun _ _ => False, ⟨fun _ _ z => z.elim, fun _ _ _ z => z.elim⟩, fun i s e => ?_⟩, fun b1 S2 H2 s2 h2 => ?_⟩
  · obtain ⟨⟨i, _, z⟩, e⟩ := lOw a o e
    exact ⟨(hF.at_ i a z).1, e⟩
  · obtain ⟨⟨i, _, z⟩, e⟩ := lOw a o e
    exact (hF.at_ i a z).2.2.1
  · rcases fz.get e with rfl | ⟨p, rfl, e'⟩ | ⟨p, q, rfl, vw, e'⟩
    · trivial
    · obtain ⟨x, e1, e2⟩ := hs i _ e'; exact ⟨x, e1, e2⟩
    · obtain ⟨x, e1, e2⟩ := hs i _ e'
      exact ⟨x, e1, vw.v e2 _ fun a o z e => by show (if Ow a then H a else none) = some o; rw [if_pos ⟨i, ⟨p, .inl e'⟩, z⟩]; exact e⟩
  · have kk : ∀ a o, Ow a → H a = some o → S2 a = none ∧ H2 a = some o := fun a o z e => h2.ef.2.1 a o (by show (if Ow a then H a else none) = some o; rw [if_pos z]; exact e)
    refine ⟨⟨h2.same, h2.kp.up, fun a o e1 e2 e3 => h2.kp.kp a o e1 e2 fun z => z.elim e3 fun ⟨o', z⟩ => ?_⟩, h2.ef.1, fun i a => (∃ p, Γ[i]? = some (.ow p) ∨ Γ[i]? = some (.gh p)) ∧ Fs i a, ⟨fun i a ⟨ep, e⟩ => ?_, fun i j a e1 e2 => hF.ds _ _ a e1.2 e2.2⟩, fun i s e => ?_⟩
    · obtain ⟨⟨i, _, z⟩, _⟩ := lOw a o' z
      rw [(hF.at_ i a z).2.1] at e2; cases e2
    · obtain ⟨r1, r2, r3, o, r4⟩ := hF.at_ i a e
      have := kk a o ⟨i, ep, e⟩ r4
      exact ⟨this.1, r2, r3, o, this.2⟩
    · have q := hs i s e
      cases s with
      | no => trivial
      | st p => obtain ⟨x, e1, e2⟩ := q; exact ⟨x, e1, p.mono s2 e2⟩
      | ow p =>
        obtain ⟨x, e1, e2⟩ := q
        refine ⟨x, e1, ?_⟩
        have ef : (fun a => (∃ p, Γ[i]? = some (.ow p) ∨ Γ[i]? = some (.gh p)) ∧ Fs i a) = Fs i := funext fun a => propext ⟨fun z => z.2, fun z => ⟨⟨p, .inl e⟩, z⟩⟩
        show p.p S2 H2 x (fun a => (∃ p, Γ[i]? = some (.ow p) ∨ Γ[i]? = some (.gh p)) ∧ Fs i a)
        rw [ef]
        exact p.mono s2 (fun a o ha e' => (kk a o ⟨i, ⟨p, .inl e⟩, ha⟩ e').2) e2
      | gh p =>
        have ef : (fun a => (∃ p, Γ[i]? = some (.ow p) ∨ Γ[i]? = some (.gh p)) ∧ Fs i a) = Fs i := funext fun a => propext ⟨fun z => z.2, fun z => ⟨⟨p, .inr e⟩, z⟩⟩
        show p.p S2 H2 .non (fun a => (∃ p, Γ[i]? = some (.ow p) ∨ Γ[i]? = some (.gh p)) ∧ Fs i a)
        rw [ef]
        exact p.mono s2 (fun a o ha e' => (kk a o ⟨i, ⟨p, .inr e⟩, ha⟩ e').2) q
theorem z_lendX {Γ' : Hp → Env} {e : Expr} {m : M τ α} {R : Rel α} (fz : FrzX Γ Γ') (h : ∀ L, ZE G c (E.lent L) W (Γ' L) e m R) : ZE G c E W Γ e m R := fun X C => pe_wk (pe_ex fun L => h L X C) fun σ H Q _ ⟨B, S, b, hh, q⟩ => by
  obtain ⟨L, hp, back⟩ := hh.lendX fz
  refine ⟨L, B, S, b, hp, ?_⟩
  cases e : m b with
  | stuck => rw [e] at q; exact q.elim
  | exc x b1 => rw [e] at q; exact fun c d S' H' s' h' xa => q c d S' H' s' (back b1 S' H' s' h') xa
  | ok a b1 => rw [e] at q; exact fun v S' H' s' h' r => q v S' H' s' (back b1 S' H' s' h') r
/-! reading what is lent -/
theorem rlf_at {R : Rel α} {xs : List α} {v : V} (hl : HasL E L) (hh : Hold E B Γ b σ S H) (h : (rLF L R).is xs S v) : ∃ a vs, v = .ref a ∧ L a = some (.lst vs) ∧ H a = some (.lst vs) ∧ All2 (fun x v => R.is x S v) xs vs :=
  let ⟨a, vs, e, h1, q⟩ := h; ⟨a, vs, e, h1, hl.h hh.ef _ _ h1, q⟩
section
variable {ea eb e : Expr} {p pos : Pos} {x : Str}
theorem z_ixF {R : Rel α} {ma : M τ (List α)} {mb : M τ Int} (hl : HasL E L) (ha : ZE G c E W Γ ea ma (rLF L R)) (hb : ZE G c E W Γ eb mb rInt) (hs : PIx eb := by intro _ _; rfl) : ZE G c E W Γ (.Subscript ea eb pos) (zop2 ixat ma mb) R := fun X C =>
  pe_wk (pe_ix ix_list (ha X C) (hb X C) hs) fun _ _ _ _ q => by
    rw [C.K]
    refine tz_op2 (fun B σ S H b xs i v w Q hh hx e4 q => ?_) q
    obtain ⟨a, vs, e1, _, e2, e3⟩ := rlf_at hl hh hx
    unfold ixat at q
    cases z : atI xs i with
    | none => rw [z] at q; exact q.elim
    | some x =>
      rw [z] at q
      obtain ⟨u, h1, h2⟩ := e3.atI z
      exact ⟨a, vs, i, u, e1, e4, .of e2, h1, aft_ret hh q h2⟩
end

/-! calls where something is lent -/
end
end Zk

namespace Zk
open PySem L2

section
variable {τ α β γ δ κ ρ ι θ : Type} {G : Gx} {c : Sc} {E : Eff τ} {W : WX} {Γ : Env} {B : Bs} {σ : St} {S S1 S' H H' : Hp} {b b' : τ} {Ls : Ls κ ρ} {L : Hp}
/-! ### instances made of what is lent -/
/-- behind the making of an instance -/
theorem Hold.made {E : Eff Unit} {b : Unit} {C0 l dx : Addr} (hh : Hold E B Γ b σ S H) (hl : H l = none) (hdx : H dx = none) (k : Keep E.own ⟨S, del (upd (upd H dx (.own l)) l (.ins C0 dx [])) l⟩ S' H') (he : E.is () S' H') (hS' : S' l = none) : Hold E B Γ () σ S' (del H' l) := by
  have old : ∀ a o, H a = some o → del (upd (upd H dx (.own l)) l (.ins C0 dx [])) l a = some o := fun a o e => by
    rw [del_ne (ne_of_none e hl), upd_ne (ne_of_none e hl), upd_ne (ne_of_none e hdx)]; exact e
  have nl := hh.fr hl
  refine hh.call ⟨fun a o e => ?_, k.up, fun a o e1 e2 e3 => ?_⟩ (E.mono (Same.refl _) (fun _ _ z => z) (fun a o ha e => ?_) he)
  · rw [del_ne (fun z => by rw [z, hS'] at e; cases e)]; exact k.same _ _ e
  · rw [del_ne (ne_of_none e2 hl)]; exact k.kp a o e1 (old a o e2) e3
  · rw [del_ne (fun z => nl (by rw [← z]; exact ha))]; exact e
/-! ### a loop over an own list of own lists, each changed in its turn; then it is gone -/
/-- the list at l, and of its lists those at rs -/
def ownRest (R : Rel α) (l : Addr) (rs0 rs : List Addr) (xss : List (List α)) : PrO := ⟨fun S H v F => v = .ref l ∧ l ∉ rs ∧ rs.Nodup ∧ (∀ a, F a ↔ a = l ∨ a ∈ rs) ∧ H l = some (.lst (rs0.map V.ref)) ∧ Rows R S H rs xss,
  fun s k ⟨e, n, d, f, h, q⟩ => ⟨e, n, d, f, k _ _ ((f l).mpr (.inl rfl)) h, Rows.mono s (fun a o ha e => k a o ((f a).mpr (.inr ha)) e) (fun _ z => z) q⟩⟩
/-- one of the lists goes into a slot of its own -/
theorem Hold.split {R : Rel α} {l : Addr} {rs0 rs : List Addr} {r : Addr} {xs : List α} {xss : List (List α)} {i j : Nat} (h : Hold E B Γ b σ S H) (hi : Γ[i]? = some (.ow (ownRest R l rs0 (r :: rs) (xs :: xss)))) (hij : j ≠ i) (hj : j < σ.length) :
    Hold E B ((Γ.set i (.ow (ownRest R l rs0 rs xss))).set j (.ow (ownL R xs))) b (σ.set j (some (.ref r))) S H := by
  obtain ⟨Fs, hF, hs⟩ := h.sl
  obtain ⟨v, e1, rfl, n, d, f, hl, ⟨us, eu, hu⟩, q⟩ := hs i _ hi
  obtain ⟨nr, d⟩ := List.nodup_cons.mp d
  have nl : l ∉ rs := fun z => n (by simp [z])
  have hlr : l ≠ r := fun z => n (by simp [z])
  have fi : ∀ a, Fs i a ↔ a = l ∨ a = r ∨ a ∈ rs := fun a => (f a).trans (by simp)
  let Fn : Nat → Addr → Prop := fun k a => if k = j then a = r else if k = i then a = l ∨ a ∈ rs else Fs k a
  have sub : ∀ k a, Fn k a → ∃ k', Fs k' a ∧ (k' = k ∨ (k' = i ∧ (k = j ∨ k = i))) := fun k a e => by
    show ∃ k', Fs k' a ∧ _
    by_cases hk : k = j
    · have e : a = r := by have : (if k = j then a = r else if k = i then a = l ∨ a ∈ rs else Fs k a) := e; rwa [if_pos hk] at this
      exact ⟨i, (fi a).mpr (.inr (.inl e)), .inr ⟨rfl, .inl hk⟩⟩
    · have e : (if k = j then a = r else if k = i then a = l ∨ a ∈ rs else Fs k a) := e
      rw [if_neg hk] at e
      by_cases hk2 : k = i
      · rw [if_pos hk2] at e
        exact ⟨i, (fi a).mpr (e.elim .inl fun z => .inr (.inr z)), .inr ⟨rfl, .inr hk2⟩⟩
      · rw [if_neg hk2] at e
        exact ⟨k, e, .inl rfl⟩
  refine ⟨h.kp, h.ef, Fn, ⟨fun k a e => ?_, fun k m a e1 e2 => ?_⟩, fun k s e => ?_⟩
  · obtain ⟨k', e', _⟩ := sub k a e
    exact hF.at_ k' a e'
  · have g1 : ∀ k, Fn k a → k = j → a = r := fun k e hk => by have e : (if k = j then a = r else if k = i then a = l ∨ a ∈ rs else Fs k a) := e; rwa [if_pos hk] at e
    have g2 : ∀ k, Fn k a → k ≠ j → k = i → a = l ∨ a ∈ rs := fun k e hk hk2 => by have e : (if k = j then a = r else if k = i then a = l ∨ a ∈ rs else Fs k a) := e; rwa [if_neg hk, if_pos hk2] at e
    have g3 : ∀ k, Fn k a → k ≠ j → k ≠ i → Fs k a := fun k e hk hk2 => by have e : (if k = j then a = r else if k = i then a = l ∨ a ∈ rs else Fs k a) := e; rwa [if_neg hk, if_neg hk2] at e
    have nor : a = r → ¬ (a = l ∨ a ∈ rs) := fun z w => w.elim (fun w => hlr (w.symm.trans z)) fun w => nr (by rw [← z]; exact w)
    have inI : (a = r ∨ a = l ∨ a ∈ rs) → Fs i a := fun z => (fi a).mpr (by rcases z with z | z | z <;> simp [z])
    by_cases k1 : k = j <;> by_cases m1 : m = j
    · rw [k1, m1]
    · by_cases m2 : m = i
      · exact absurd (g2 m e2 m1 m2) (nor (g1 k e1 k1))
      · exact absurd (hF.ds _ _ a (g3 m e2 m1 m2) (inI (.inl (g1 k e1 k1)))) m2
    · by_cases k2 : k = i
      · exact absurd (g2 k e1 k1 k2) (nor (g1 m e2 m1))
      · exact absurd (hF.ds _ _ a (g3 k e1 k1 k2) (inI (.inl (g1 m e2 m1)))) k2
    · by_cases k2 : k = i <;> by_cases m2 : m = i
      · rw [k2, m2]
      · exact absurd (hF.ds _ _ a (g3 m e2 m1 m2) (inI (.inr (g2 k e1 k1 k2)))) m2
      · exact absurd (hF.ds _ _ a (g3 k e1 k1 k2) (inI (.inr (g2 m e2 m1 m2)))) k2
      · exact hF.ds _ _ a (g3 k e1 k1 k2) (g3 m e2 m1 m2)
  · rcases set_get e with ⟨rfl, rfl⟩ | ⟨nk, e⟩
    · rw [List.getElem?_set_self hj]
      refine ⟨.ref r, rfl, r, us, rfl, fun a => ?_, eu, hu⟩
      show (if k = k then a = r else _) ↔ a = r
      rw [if_pos rfl]
    · rw [List.getElem?_set_ne (Ne.symm nk)]
      rcases set_get e with ⟨rfl, rfl⟩ | ⟨ni, e⟩
      · refine ⟨.ref l, e1, rfl, nl, d, fun a => ?_, hl, q⟩
        show (if k = j then a = r else if k = k then a = l ∨ a ∈ rs else Fs k a) ↔ _
        rw [if_neg nk, if_pos rfl]
      · have hq := hs k s e
        have ef : Fn k = Fs k := funext fun a => by
          show (if k = j then a = r else if k = i then a = l ∨ a ∈ rs else Fs k a) = Fs k a
          rw [if_neg nk, if_neg ni]
        rw [ef]
        exact hq
end
end Zk

namespace Zk
open PySem L2

section
variable {τ α β γ δ κ ρ ι θ : Type} {G : Gx} {c : Sc} {E : Eff τ} {W : WX} {Γ : Env} {B : Bs} {σ : St} {S S1 S' H H' : Hp} {b b' : τ} {Ls : Ls κ ρ} {L : Hp}
end
end Zk

namespace Zk
open PySem L2

/-! ### sorted of data -/
section
variable {X : Cx} {β : Type}
end
section
variable {τ α β γ δ κ ρ ι θ : Type} {G : Gx} {c : Sc} {E : Eff τ} {W : WX} {Γ Γ' : Env} {B : Bs} {σ : St} {S S1 S' H H' : Hp} {b b' : τ} {L : Ls κ ρ}
/-- data that can be compared -/
structure Srt {R : Rel α} (D : DatR R) : Prop where
  al : ∀ a b, PySem.W.alike (D.d a) (D.d b) = true
  nn : ∀ a, D.d a ≠ .none
structure SrtK {R : Rel α} (D : DatR R) : Prop extends Srt D where
  k : (∀ b, ∃ x r, D.d b = .tuple (x :: r)) ∨ ∀ b, D.d b ≠ .none ∧ ∀ xs, D.d b ≠ .tuple xs
/-! ### texts -/
variable {ea eb e : Expr} {p pos : Pos}
end
end Zk

namespace Zk
open PySem L2 PySem.Spec PyProof.Rows

/-! ### keys that are tuples: data without lists and dicts -/
mutual
def nkD : PyData → NestedKey
  | .none => .none
  | .bool b => .num (if b = true then 1 else 0)
  | .int i => .num i
  | .str x => .text x
  | .tuple xs => .tup (nkAll xs)
  | .list _ => .none
  | .dict _ => .none
def nkAll : List PyData → List NestedKey
  | [] => []
  | x :: xs => nkD x :: nkAll xs
end
mutual
def keyD : PyData → Bool
  | .none => true
  | .bool _ => true
  | .int _ => true
  | .str _ => true
  | .tuple xs => keyAll xs
  | .list _ => false
  | .dict _ => false
def keyAll : List PyData → Bool
  | [] => true
  | x :: xs => keyD x && keyAll xs
end
mutual
theorem nested_of {h : Heap} : ∀ (d : PyData) (v : Value) (as : List Addr), Reads h v d as → keyD d = true → NestedIs h (nkD d) v
  | .none, _, _, r, _ => by cases r; rw [nkD]; exact .none
  | .bool b, _, _, r, _ => by cases r; rw [nkD]; exact .bool rfl
  | .int i, _, _, r, _ => by cases r; rw [nkD]; exact .int _ _
  | .str x, _, _, r, _ => by cases r; rw [nkD]; exact .text _ _
  | .tuple xs, _, _, r, k => by
    cases r with
    | tuple h1 h2 h3 h4 => rw [nkD]; exact .tup h1 h2 h3 (nested_all xs _ _ h4 (by simpa [keyD] using k))
  | .list _, _, _, _, k => by simp [keyD] at k
  | .dict _, _, _, _, k => by simp [keyD] at k
theorem nested_all {h : Heap} : ∀ (ds : List PyData) (vs : List Value) (as : List Addr), ReadsAll h vs ds as → keyAll ds = true → NestedAll h (nkAll ds) vs
  | [], _, _, r, _ => by cases r; rw [nkAll]; exact .nil
  | d :: ds, _, _, r, k => by
    rw [keyAll, Bool.and_eq_true] at k
    cases r with
    | cons h1 h2 => rw [nkAll]; exact .cons (nested_of d _ _ h1 k.1) (nested_all ds _ _ h2 k.2)
end
mutual
theorem nk_eqv : ∀ d e : PyData, keyD d = true → keyD e = true → nkD d = nkD e → PyData.eqv d e = true
  | .none, e, _, k, h => by cases e <;> simp_all [nkD, keyD, PyData.eqv]
  | .bool b, e, _, k, h => by cases e <;> simp_all [nkD, keyD, PyData.eqv]
                              all_goals (cases b <;> simp_all)
                              all_goals (rename_i b'; cases b' <;> simp_all)
  | .int i, e, _, k, h => by cases e <;> simp_all [nkD, keyD, PyData.eqv]
  | .str x, e, _, k, h => by cases e <;> simp_all [nkD, keyD, PyData.eqv]
  | .tuple xs, e, k1, k, h => by
    cases e with
    | tuple ys =>
      simp only [nkD, NestedKey.tup.injEq] at h
      simp only [keyD] at k1 k
      simp only [PyData.eqv]
      exact nkAll_eqv xs ys k1 k h
    | _ => simp_all [nkD, keyD]
  | .list _, _, k, _, _ => by simp [keyD] at k
  | .dict _, _, k, _, _ => by simp [keyD] at k
theorem nkAll_eqv : ∀ ds es : List PyData, keyAll ds = true → keyAll es = true → nkAll ds = nkAll es → PyData.eqvAll ds es = true
  | [], [], _, _, _ => by simp [PyData.eqvAll]
  | d :: ds, e :: es, k1, k2, h => by
    rw [keyAll, Bool.and_eq_true] at k1 k2
    simp only [nkAll, List.cons.injEq] at h
    simp [PyData.eqvAll, nk_eqv d e k1.1 k2.1 h.1, nkAll_eqv ds es k1.2 k2.2 h.2]
  | [], _ :: _, _, _, h => by simp [nkAll] at h
  | _ :: _, [], _, _, h => by simp [nkAll] at h
end
/-- a kind whose things may be keys, all of them tuples -/
structure KyT {κ : Type} {R : Rel κ} (D : DatR R) : Prop where
  key : ∀ x, keyD (D.d x) = true
  tup : ∀ x, ∃ xs, D.d x = .tuple xs
  dep : ∀ x, (nkD (D.d x)).depth ≤ 8
theorem KyT.inj {κ : Type} {R : Rel κ} {D : DatR R} (h : KyT D) {x y : κ} (e : nkD (D.d x) = nkD (D.d y)) : x = y := (D.eq x y).mp (nk_eqv _ _ (h.key x) (h.key y) e)

/-! ### dicts of such keys -/
abbrev NE := NestedKey × Addr × V
def elook (es : List NE) (k : NestedKey) : Option V := (es.find? fun e => decide (e.1 = k)).map (·.2.2)
def ehas (es : List NE) (k : NestedKey) : Bool := es.any fun e => decide (e.1 = k)
def eput (es : List NE) (k : NestedKey) (b : Addr) (v : V) : List NE := if ehas es k = true then es.map (fun e => if e.1 = k then (e.1, e.2.1, v) else e) else es ++ [(k, b, v)]
abbrev NP : List NE → List (NestedKey × Addr × Value) → Prop := Paired fun e x => e.1 = x.1 ∧ e.2.1 = x.2.1 ∧ RelV e.2.2 x.2.2
theorem NP.look {k : NestedKey} : ∀ {es : List NE} {xs : List (NestedKey × Addr × Value)}, NP es xs → RelO (elook es k) ((atKey xs k).map (·.2)) := fun {es xs} r => by
  induction r with
  | nil => exact True.intro
  | @cons e x es xs h t ih =>
    obtain ⟨h1, _, h3⟩ := h
    by_cases z : e.1 = k
    · have z' : x.1 = k := h1.symm.trans z
      have a : elook (e :: es) k = some e.2.2 := by simp [elook, List.find?_cons, z]
      have b : atKey (x :: xs) k = some x.2 := by simp [atKey, List.find?_cons, z']
      rw [a, b]; exact h3
    · have z' : ¬ x.1 = k := fun y => z (h1.trans y)
      have a : elook (e :: es) k = elook es k := by simp [elook, List.find?_cons, z]
      have b : atKey (x :: xs) k = atKey xs k := by simp [atKey, List.find?_cons, z']
      rw [a, b]; exact ih
theorem ehas_look (k : NestedKey) : ∀ es : List NE, ehas es k = (elook es k).isSome
  | [] => rfl
  | e :: es => by
    have ih := ehas_look k es
    unfold ehas elook at *
    by_cases z : e.1 = k
    · simp [List.find?_cons, z]
    · simp only [List.any_cons, decide_eq_false z, Bool.false_or, List.find?_cons]; exact ih
theorem NP.repl {k : NestedKey} {v : V} {u : Value} (rv : RelV v u) {es : List NE} {xs : List (NestedKey × Addr × Value)} (r : NP es xs) : NP (es.map fun e => if e.1 = k then (e.1, e.2.1, v) else e) (xs.map (putAt k u)) := by
  induction r with
  | nil => exact .nil
  | @cons e x es xs h t ih =>
    rw [List.map_cons, List.map_cons]
    refine .cons ?_ ih
    obtain ⟨h1, h2, h3⟩ := h
    unfold putAt
    by_cases z : e.1 = k
    · rw [if_pos z, if_pos (h1.symm.trans z)]; exact ⟨h1, h2, rv⟩
    · rw [if_neg z, if_neg (fun y => z (h1.trans y))]; exact ⟨h1, h2, h3⟩
theorem NP.put {k : NestedKey} {b : Addr} {v : V} {u : Value} {es : List NE} {xs : List (NestedKey × Addr × Value)} (r : NP es xs) (rv : RelV v u) : NP (eput es k b v) (storedH xs k b u) := by
  have e : ehas es k = (atKey xs k).isSome := by rw [ehas_look, (r.look (k := k)).isSome_eq, Option.isSome_map]
  unfold eput storedH
  rw [e]
  by_cases q : (atKey xs k).isSome = true
  · rw [if_pos q, if_pos q]; exact r.repl rv
  · rw [if_neg q, if_neg q]; exact Paired.snoc r ⟨rfl, rfl, rv⟩
section
variable {X : Cx} {pins : List (Addr × Obj)} {σ : L2.St} {H : Hp} {s : Shared} {a b : Addr} {es : List NE} {k : NestedKey} {A : Around} {EE : Value → Shared → Prop}
/-- .ref b is the key k -/
def KAt (K : PySem.W.Frag) (H : Hp) (b : Addr) (k : NestedKey) : Prop := ∃ d, Dp K H (.ref b) d ∧ nkD d = k ∧ keyD d = true ∧ (nkD d).depth ≤ 8
theorem KAt.is (I : Inv X pins σ H s) (h : KAt X.K H b k) : (nestedKind X.prog X.w).is s.heap k b := by
  obtain ⟨d, h1, h2, h3, h4⟩ := h
  obtain ⟨as, hr⟩ := Dp.reads I d (.ref b) (.ref b) h1 rfl
  rw [← h2]
  exact ⟨nested_of d _ _ hr h3, h4⟩
end
section
variable {X : Cx} {o i e value : Expr} {pos pos' tpos : Pos} {td ty tv : TE}
end
section
variable {X : Cx} {pins : List (Addr × Obj)} {σ : L2.St} {H : Hp} {s : Shared} {d : Addr} {o : Obj} {es : List NE}
end
end Zk

namespace Zk
open PySem L2

/-! ### dicts as association lists -/
section
variable {κ α β : Type} [DecidableEq κ]
def dlook (xs : List (κ × α)) (k : κ) : Option α := (xs.find? fun p => decide (p.1 = k)).map (·.2)
def dput (xs : List (κ × α)) (k : κ) (v : α) : List (κ × α) := if xs.any (fun p => decide (p.1 = k)) = true then xs.map (fun p => if p.1 = k then (p.1, v) else p) else xs ++ [(k, v)]
structure MonoE (t : TE) : Prop where
  h : ∀ {σ : St} {H : Hp} {Q Q' : VK}, (∀ v H, Q v H → Q' v H) → t σ H Q → t σ H Q'
theorem pc_wk {X : Cx} {op : CmpOp} {a b : Expr} {t t' : TE} (h : PC X op a b t) (w : ∀ σ H Q, σ.length = X.N.length → t' σ H Q → t σ H Q) : PC X op a b t' := ⟨fun pins s σ H Q I q => h.run pins s σ H Q I (w σ H Q I.len q)⟩
structure CtxE (G : Gx) (X : Cx) : Prop where
  P : X.prog = G.P
  w : X.w = G.w
  K : X.K = G.K
  hu : X.A.units + 64 < cLine
  calm : X.calm = true
def klook {T : Type} (val : T → V) (ks : List κ) (es : List T) (k : κ) : Option V := ((ks.zip es).find? fun p => decide (p.1 = k)).map fun p => val p.2
def kput {T : Type} (rv : T → V → T) (t : T) (ks : List κ) (es : List T) (k : κ) (v : V) : List T := if ks.any (fun x => decide (x = k)) = true then (ks.zip es).map (fun p => if p.1 = k then rv p.2 v else p.2) else es ++ [t]
theorem klook_nil {T : Type} {val : T → V} {k : κ} {es : List T} : klook val ([] : List κ) es k = none := by simp [klook]
theorem klook_cons {T : Type} {val : T → V} {x k : κ} {ks : List κ} {t : T} {es : List T} : klook val (x :: ks) (t :: es) k = if x = k then some (val t) else klook val ks es k := by
  unfold klook
  rw [List.zip_cons_cons, List.find?_cons]
  by_cases h : x = k
  · simp [h]
  · simp [h]
end
/-- a kind of keys, and of the dicts that have such keys -/
structure Ky (G : Gx) (κ : Type) [DecidableEq κ] where
  R : Rel κ
  T : Type
  val : T → V
  kr : κ → Hp → T → Prop
  krm : ∀ {x : κ} {S S' : Hp} {t : T}, Same S S' → kr x S t → kr x S' t
  ob : Addr → List T → HO
  mu : ∀ a es, Mut (some (ob a es))
  nt : κ → V → V → T
  mkv : ∀ k y v, val (nt k y v) = v
  mkr : ∀ {k : κ} {S : Hp} {y v : V}, R.is k S y → kr k S (nt k y v)
  rv : T → V → T
  rvv : ∀ t v, val (rv t v) = v
  rvr : ∀ {x : κ} {S : Hp} {t : T} {v : V}, kr x S t → kr x S (rv t v)
  get : ∀ {X : Cx}, CtxE G X → ∀ {o i : Expr} {pos : Pos} {td ty : TE}, MonoE td → MonoE ty → PE X o td → PE X i ty → NoSl i → PE X (.Subscript o i pos) (fun σ H Q => td σ H fun x H1 => ty σ H1 fun y H2 => ∃ a es ks k S v, x = .ref a ∧ Rd H2 a (ob a es) ∧ Same S H2 ∧ All2 (fun x t => kr x S t) ks es ∧ R.is k S y ∧ klook val ks es k = some v ∧ Q v H2)
  has : ∀ {X : Cx}, CtxE G X → ∀ (neg : Bool) {o i : Expr} {td ty : TE}, MonoE td → MonoE ty → PE X i ty → PE X o td → PC X (if neg = true then .NotIn else .In) i o (fun σ H Q => ty σ H fun y H1 => td σ H1 fun x H2 => ∃ a es ks k S, x = .ref a ∧ Rd H2 a (ob a es) ∧ Same S H2 ∧ All2 (fun x t => kr x S t) ks es ∧ R.is k S y ∧ Q (.bl (neg ^^ (klook val ks es k).isSome)) H2)
  get2 : ∀ {X : Cx}, CtxE G X → ∀ {o e f : Expr} {apos cpos : Pos} {td ty tx : TE}, MonoE td → MonoE ty → MonoE tx → PE X o td → PE X e ty → PE X f tx → M2 X o "get" apos e f cpos → PE X (.Call (.Attribute o "get" apos) [e, f] [] cpos) (fun σ H Q => td σ H fun x H1 => ∃ a es0 ks0 S0, x = .ref a ∧ Rd H1 a (ob a es0) ∧ Same S0 H1 ∧ All2 (fun x t => kr x S0 t) ks0 es0 ∧ ty σ H1 fun y H2 => tx σ H2 fun z H3 => ∃ es ks k S, Rd H3 a (ob a es) ∧ Same S H3 ∧ All2 (fun x t => kr x S t) ks es ∧ R.is k S y ∧ Q ((klook val ks es k).getD z) H3)
  put : ∀ {X : Cx}, CtxE G X → ∀ {o i value : Expr} {pos pos' : Pos} {td ty tv : TE}, MonoE td → MonoE ty → MonoE tv → PE X o td → PE X i ty → PE X value tv → (swapsWith value (some (.Subscript o i pos')) pos.line X.env = pure false) → PS X (.Assign [.Subscript o i pos'] value pos) (fun D σ H => tv σ H fun v H1 => td σ H1 fun x H2 => ty σ H2 fun y H3 => ∃ a es ks k S, x = .ref a ∧ H3 a = some (ob a es) ∧ Same S H3 ∧ All2 (fun x t => kr x S t) ks es ∧ R.is k S y ∧ es.length < sizeLine ∧ D.nx σ (upd H3 a (ob a (kput rv (nt k y v) ks es k v))))
  aug : ∀ {X : Cx}, CtxE G X → ∀ {o i value : Expr} {op : Operator} {rd : V → V → Hp → VK → Prop} {pos pos' : Pos} {td ty tv : TE}, MonoE td → MonoE ty → MonoE tv → (∀ x y H, ∀ {Q Q' : VK}, (∀ v H, Q v H → Q' v H) → rd x y H Q → rd x y H Q') → PE X o td → PE X i ty → PE X value tv → InOp X op rd → (∀ ov iv new, augStore i ov iv new = (do holding [new, ov, iv] (setItem ov iv new); release [new, ov, iv] []; pure .next)) → PS X (.AugAssign (.Subscript o i pos') op value pos) (fun D σ H => td σ H fun x H1 => ty σ H1 fun y H2 => ∃ a es ks k S v, x = .ref a ∧ H2 a = some (ob a es) ∧ Same S H2 ∧ All2 (fun x t => kr x S t) ks es ∧ R.is k S y ∧ klook val ks es k = some v ∧
    tv σ H2 fun y2 H3 => rd v y2 H3 fun z H4 => ∃ es ks S, H4 a = some (ob a es) ∧ Same S H4 ∧ All2 (fun x t => kr x S t) ks es ∧ R.is k S y ∧ es.length < sizeLine ∧ D.nx σ (upd H4 a (ob a (kput rv (nt k y z) ks es k z))))
  nw : ∀ {X : Cx}, CtxE G X → ∀ {pos : Pos}, PE X (.Dict [] [] pos) (fun _ H Q => ∀ p, H p = none → Q (.ref p) (upd H p (ob p [])))
  it : Addr → Obj → List T → It
  pi : ∀ {X : Cx}, CtxE G X → ∀ {tg e : Expr} {td : TE}, MonoE td → PE X e td → PI X tg e (fun σ H Q => td σ H fun x H1 => ∃ d o es, x = .ref d ∧ H1 d = some (.frz o (ob d es)) ∧ Q (it d o es) H1)
  src : ∀ {P : Hp → Hp → Prop} {d : Addr} {o : Obj} {es : List T} {ks : List κ}, Src P (it d o es) ks R (fun S => S d = some (.frz o (ob d es)) ∧ All2 (fun x t => kr x S t) ks es)

/-! ### keys that are whole numbers or texts -/
structure KyF {κ : Type} (R : Rel κ) (f : κ → Key) : Prop where
  at_ : ∀ {x : κ} {S : Hp} {v : V}, R.is x S v ↔ v = kV (f x)
  inj : ∀ {x y : κ}, f x = f y → x = y
theorem kyfS : KyF rStr Sum.inr := ⟨Iff.rfl, fun h => Sum.inr.inj h⟩
section
variable {κ : Type} [DecidableEq κ] {R : Rel κ} {f : κ → Key}
theorem flat_look (F : KyF R f) (k : κ) : ∀ {ks : List κ} {es : List (Key × V)}, All2 (fun x t => t.1 = f x) ks es → valV es (f k) = klook (·.2) ks es k
  | [], [], _ => by rw [klook_nil]; rfl
  | x :: ks, t :: es, ⟨h, q⟩ => by
    rw [klook_cons]
    by_cases e : x = k
    · rw [if_pos e, valV_pos (by rw [h, e])]
    · rw [if_neg e, valV_neg (by rw [h]; exact fun z => e (F.inj z)), flat_look F k q]
  | [], _ :: _, h => h.elim
  | _ :: _, [], h => h.elim
theorem flat_any (F : KyF R f) (k : κ) : ∀ {ks : List κ} {es : List (Key × V)}, All2 (fun x t => t.1 = f x) ks es → (es.any fun kv => decide (kv.1 = f k)) = ks.any fun x => decide (x = k)
  | [], [], _ => rfl
  | x :: ks, t :: es, ⟨h, q⟩ => by
    rw [List.any_cons, List.any_cons, flat_any F k q, h]
    congr 1
    by_cases e : x = k
    · simp [e]
    · rw [decide_eq_false e, decide_eq_false fun z => e (F.inj z)]
  | [], _ :: _, h => h.elim
  | _ :: _, [], h => h.elim
theorem flat_map (F : KyF R f) (k : κ) (v : V) : ∀ {ks : List κ} {es : List (Key × V)}, All2 (fun x t => t.1 = f x) ks es → (es.map fun kv => if kv.1 = f k then (kv.1, v) else kv) = (ks.zip es).map fun p => if p.1 = k then (p.2.1, v) else p.2
  | [], [], _ => rfl
  | x :: ks, t :: es, ⟨h, q⟩ => by
    rw [List.map_cons, List.zip_cons_cons, List.map_cons, flat_map F k v q]
    congr 1
    by_cases e : x = k
    · rw [if_pos (by rw [h, e]), if_pos e]
    · rw [if_neg (by rw [h]; exact fun z => e (F.inj z)), if_neg e]
  | [], _ :: _, h => h.elim
  | _ :: _, [], h => h.elim
theorem flat_put (F : KyF R f) {k : κ} {v : V} {ks : List κ} {es : List (Key × V)} (h : All2 (fun x t => t.1 = f x) ks es) : putK es (f k) v = kput (fun t v => (t.1, v)) (f k, v) ks es k v := by
  unfold putK kput
  rw [flat_any F k h, flat_map F k v h]
def kyF (G : Gx) (F : KyF R f) : Ky G κ where
  R := R
  T := Key × V
  val := (·.2)
  kr x _ t := t.1 = f x
  krm := fun _ h => h
  ob := fun _ es => .dK es
  mu := fun _ _ => trivial
  nt k _ v := (f k, v)
  mkv := fun _ _ _ => rfl
  mkr := fun _ => rfl
  rv t v := (t.1, v)
  rvv := fun _ _ => rfl
  rvr := fun h => h
  get := fun {X} C {o i pos td ty} md my ho hi hs => pe_wk (pe_dget (by have := C.hu; omega) ho hi hs) fun σ H Q _ q => md.h (fun x H1 q => my.h (fun y H2 ⟨a, es, ks, k, S, v, e1, e2, e3, e4, e5, e6, q⟩ =>
    ⟨a, v, e1, .inl ⟨es, f k, e2, F.at_.mp e5, by rw [← e6]; exact (flat_look F k e4).symm⟩, q⟩) q) q
  has := fun {X} C neg {o i td ty} md my hi ho => by
    cases neg with
    | false => exact pc_wk (pc_din (by have := C.hu; omega) hi ho) fun σ H Q _ q => my.h (fun y H1 q => md.h (fun x H2 ⟨a, es, ks, k, S, e1, e2, e3, e4, e5, q⟩ =>
        ⟨a, _, e1, .inl ⟨es, f k, e2, F.at_.mp e5, rfl⟩, by rw [flat_look F k e4]; simpa using q⟩) q) q
    | true => exact pc_wk (pc_dnotin (by have := C.hu; omega) hi ho) fun σ H Q _ q => my.h (fun y H1 q => md.h (fun x H2 ⟨a, es, ks, k, S, e1, e2, e3, e4, e5, q⟩ =>
        ⟨a, _, e1, .inl ⟨es, f k, e2, F.at_.mp e5, rfl⟩, by rw [flat_look F k e4]; simpa using q⟩) q) q
  get2 := fun {X} C {o e f' apos cpos td ty tx} md my mx ho he hf m => pe_wk (pe_dget2 (by have := C.hu; omega) ho he hf m) fun σ H Q _ q => md.h (fun x H1 ⟨a, es0, ks0, S0, e1, e2, _, _, q⟩ =>
    ⟨a, e1, .inl ⟨es0, e2⟩, my.h (fun y H2 q => mx.h (fun z H3 ⟨es, ks, k, S, f1, f2, f3, f4, q⟩ => ⟨_, .inl ⟨es, f k, f1, F.at_.mp f4, rfl⟩, by rw [flat_look F k f3]; exact q⟩) q) q⟩) q
  put := fun {X} C {o i value pos pos' td ty tv} md my mv ho hi hv hs => ps_wk (ps_dput (by have := C.hu; omega) ho hi hv hs) fun D σ H _ q => mv.h (fun v H1 q => md.h (fun x H2 q => my.h (fun y H3 ⟨a, es, ks, k, S, e1, e2, e3, e4, e5, e6, q⟩ =>
    ⟨a, _, e1, .inl ⟨es, f k, e2, F.at_.mp e5, e6, rfl⟩, by rw [flat_put F e4]; exact q⟩) q) q) q
  aug := fun {X} C {o i value op rd pos pos' td ty tv} md my mv mr ho hi hv hop ha => ps_wk (ps_daug (by have := C.hu; omega) ho hi hv hop ha) fun D σ H _ q => md.h (fun x H1 q => my.h (fun y H2 ⟨a, es, ks, k, S, v, e1, e2, e3, e4, e5, e6, q⟩ =>
    ⟨a, v, e1, .inl ⟨es, f k, .inl e2, F.at_.mp e5, by rw [← e6]; exact (flat_look F k e4).symm⟩, mv.h (fun y2 H3 q => mr _ _ _ (fun z H4 ⟨es, ks, S, f1, f2, f3, f4, f5, q⟩ =>
      ⟨_, .inl ⟨es, f k, f1, F.at_.mp f4, f5, rfl⟩, by rw [flat_put F f3]; exact q⟩) q) q⟩) q) q
  nw := fun C {pos} => pe_dnewK
  it := Itk
  pi := fun {X} C {tg e td} md he => pi_wk (pi_keys he) fun σ H Q q => md.h (fun x H1 ⟨d, o, es, e1, e2, q⟩ => ⟨d, o, e1, .inl ⟨es, e2, q⟩⟩) q
  src := {
    mono := fun s ⟨e, q⟩ => ⟨s _ _ e, q⟩
    go := fun {i S H} s _ ⟨e, q⟩ hi => ⟨s _ _ e, by rw [← q.length]; exact hi⟩
    yl := fun {i S H H' x y} s _ ⟨e, q⟩ hy ⟨e1, k, v, e2, e3⟩ => .inl ⟨e1, by
      obtain ⟨t, h1, h2⟩ := q.get hy
      rw [e2] at h1; cases h1
      exact F.at_.mpr (by rw [e3]; exact congrArg kV h2)⟩
    st := fun s _ ⟨e, q⟩ => ⟨s _ _ e, by rw [q.length]; exact Nat.le_refl _⟩ }
end

/-! ### keys that are tuples -/
section
open PySem.Spec PyProof.Rows
variable {X : Cx} {o i e value : Expr} {pos pos' tpos : Pos} {td ty tv : TE}
end
section
variable {κ : Type} [DecidableEq κ] {R : Rel κ} {D : DatR R}
end
end Zk

namespace Zk
open PySem L2

section
variable {τ α β γ δ κ ρ ι θ υ : Type} {G : Gx} {c : Sc} {E : Eff τ} {W : WX} {Γ Γ' : Env} {B : Bs} {σ : St} {S S1 S' H H' : Hp} {b b' : τ} {L : Ls κ ρ}
theorem CtxOk.e {X : Cx} (C : CtxOk G c W X) : CtxE G X := ⟨C.prog, C.w, C.K, C.room.units, C.calm⟩
/-! ### what a dict tells -/
section
variable [DecidableEq ι]
def DRel (K : Ky G ι) (R2 : Rel α) (S : Hp) (xs : List (ι × α)) (es : List K.T) : Prop := All2 (fun x t => K.kr x.1 S t ∧ R2.is x.2 S (K.val t)) xs es
variable {K : Ky G ι} {R2 : Rel α}
theorem DRel.mono (s : Same S S') {xs : List (ι × α)} {es : List K.T} (h : DRel K R2 S xs es) : DRel K R2 S' xs es := h.imp fun x t ⟨h1, h2⟩ => ⟨K.krm s h1, R2.mono s h2⟩
theorem dlook_cons {x : ι × α} {xs : List (ι × α)} {k : ι} : dlook (x :: xs) k = if x.1 = k then some x.2 else dlook xs k := by
  unfold dlook
  rw [List.find?_cons]
  by_cases h : x.1 = k
  · simp [h]
  · simp [h]
theorem DRel.look {k : ι} : ∀ {xs : List (ι × α)} {es : List K.T}, DRel K R2 S xs es → match dlook xs k with | some y => ∃ v, klook K.val (xs.map (·.1)) es k = some v ∧ R2.is y S v | none => klook K.val (xs.map (·.1)) es k = none
  | [], [], _ => klook_nil
  | x :: xs, t :: es, ⟨h, q⟩ => by
    have ih := DRel.look (k := k) q
    rw [dlook_cons, List.map_cons, klook_cons]
    by_cases e : x.1 = k
    · rw [if_pos e, if_pos e]; exact ⟨_, rfl, h.2⟩
    · rw [if_neg e, if_neg e]; exact ih
  | [], _ :: _, h => h.elim
  | _ :: _, [], h => h.elim
theorem DRel.isSome {k : ι} {xs : List (ι × α)} {es : List K.T} (h : DRel K R2 S xs es) : (klook K.val (xs.map (·.1)) es k).isSome = (dlook xs k).isSome := by
  have := h.look (k := k)
  cases e : dlook xs k with
  | none => rw [e] at this; rw [this]; rfl
  | some y => rw [e] at this; obtain ⟨v, h1, _⟩ := this; rw [h1]; rfl
theorem DRel.repl {k : ι} {y : α} {v : V} (r : R2.is y S v) : ∀ {xs : List (ι × α)} {es : List K.T}, DRel K R2 S xs es → DRel K R2 S (xs.map fun p => if p.1 = k then (p.1, y) else p) (((xs.map (·.1)).zip es).map fun p => if p.1 = k then K.rv p.2 v else p.2)
  | [], [], _ => trivial
  | x :: xs, t :: es, ⟨h, q⟩ => by
    rw [List.map_cons, List.map_cons, List.zip_cons_cons, List.map_cons]
    refine ⟨?_, DRel.repl r q⟩
    by_cases e : x.1 = k
    · rw [if_pos e, if_pos e]; exact ⟨K.rvr h.1, by rw [K.rvv]; exact r⟩
    · rw [if_neg e, if_neg e]; exact h
  | [], _ :: _, h => h.elim
  | _ :: _, [], h => h.elim
theorem DRel.put {k : ι} {y : α} {v kv : V} {xs : List (ι × α)} {es : List K.T} (h : DRel K R2 S xs es) (hk : K.R.is k S kv) (r : R2.is y S v) : DRel K R2 S (dput xs k y) (kput K.rv (K.nt k kv v) (xs.map (·.1)) es k v) := by
  unfold dput kput
  have e : ((xs.map (·.1)).any fun x => decide (x = k)) = xs.any fun p => decide (p.1 = k) := by rw [List.any_map]; rfl
  rw [e]
  split
  · exact h.repl r
  · exact All2.append h ⟨⟨K.mkr hk, by rw [K.mkv]; exact r⟩, trivial⟩
/-- a dict that stays as it is -/
def rDct (K : Ky G ι) (R2 : Rel α) : Rel (List (ι × α)) := ⟨fun xs S v => ∃ a o es, v = .ref a ∧ S a = some (.frz o (K.ob a es)) ∧ DRel K R2 S xs es, fun s ⟨a, o, es, e, h, q⟩ => ⟨a, o, es, e, s _ _ h, q.mono s⟩⟩
def ownD (K : Ky G ι) (R2 : Rel α) (xs : List (ι × α)) : PrO := ⟨fun S H v F => ∃ l es, v = .ref l ∧ (∀ a, F a ↔ a = l) ∧ H l = some (K.ob l es) ∧ DRel K R2 S xs es, fun s k ⟨l, es, e, f, h, q⟩ => ⟨l, es, e, f, k _ _ ((f l).mpr rfl) h, q.mono s⟩⟩
/-! ### reading -/
variable {eo ei ed : Expr} {pos : Pos}
/-! ### new ones -/
theorem zf_dnew : ZF G c E W Γ (.Dict [] [] pos) (ret ([] : List (ι × α))) (ownD K R2) := fun X C => pe_wk (K.nw C.e) fun σ H Q _ ⟨B, S, b, hh, q⟩ p hp =>
  aftF_new hh q hp ⟨p, [], rfl, fun _ => Iff.rfl, upd_same, trivial⟩
/-! ### what is in ghost slots -/
theorem Hold.gh {g : Nat} {p : PrO} (h : Hold E B Γ b σ S H) (hg : Γ[g]? = some (.gh p)) : ∃ F, p.p S H .non F ∧ ∀ a, F a → S a = none ∧ ∃ o, H a = some o := by
  obtain ⟨Fs, hF, hs⟩ := h.sl
  exact ⟨Fs g, hs g _ hg, fun a ha => ⟨(hF.at_ g a ha).1, (hF.at_ g a ha).2.2.2⟩⟩
/-- what is in a ghost slot is changed at l -/
theorem Hold.chgG {g : Nat} {l : Addr} {o : HO} {p p' : PrO} (h : Hold E B Γ b σ S H) (hg : Γ[g]? = some (.gh p)) (hf : ∀ {F : Addr → Prop}, p.p S H .non F → F l) (hp : ∀ {F : Addr → Prop}, p.p S H .non F → p'.p S (upd H l o) .non F) : Hold E B (Γ.set g (.gh p')) b σ S (upd H l o) := by
  obtain ⟨Fs, hF, hs⟩ := h.sl
  have hl := hf (hs g _ hg)
  obtain ⟨l1, l2, l3, u, l4⟩ := hF.at_ g l hl
  have ne : ∀ j a, j ≠ g → Fs j a → a ≠ l := fun j a n e z => n (hF.ds j g a e (z ▸ hl))
  refine ⟨⟨fun a u e => ?_, h.kp.up, fun a u h1 h2 h3 => ?_⟩, E.mono (Same.refl _) (fun _ _ z => z) (fun a u ha e => by rw [upd_ne (fun z => l3 (by rw [← z]; exact ha))]; exact e) h.ef, Fs, ⟨fun i a e => ?_, hF.ds⟩, fun j s e => ?_⟩
  · rw [upd_ne (fun z => by rw [z, l1] at e; cases e)]; exact h.same _ _ e
  · have n : a ≠ l := fun z => by rw [z, l2] at h2; cases h2
    rw [upd_ne n]; exact h.kp.kp a u h1 h2 h3
  · obtain ⟨r1, r2, r3, u, r4⟩ := hF.at_ i a e
    by_cases z : a = l
    · subst z; exact ⟨r1, r2, r3, o, upd_same⟩
    · exact ⟨r1, r2, r3, u, by rw [upd_ne z]; exact r4⟩
  · rcases set_get e with ⟨rfl, rfl⟩ | ⟨n, e⟩
    · exact hp (hs j _ hg)
    · have q := hs j s e
      cases s with
      | no => trivial
      | st p => exact q
      | ow p => obtain ⟨x, e1, e2⟩ := q; exact ⟨x, e1, p.mono (Same.refl _) (fun a u ha e => by rw [upd_ne (ne j a n ha)]; exact e) e2⟩
      | gh p => exact p.mono (Same.refl _) (fun a u ha e => by rw [upd_ne (ne j a n ha)]; exact e) q
/-- a new thing's address is known from here on: its content goes into a ghost slot -/
theorem zb_gh {i g : Nat} {P : PrO} {Pa : Addr → PrO} {sts : List Stmt} {m : M τ (Fl β κ ρ)} {Γn : β → Env} (hi : Γ[i]? = some (.ow P)) (hg : Γ[g]? = some .no) (hP : ∀ {S H v F}, P.p S H v F → ∃ l, v = .ref l ∧ (Pa l).p S H .non F) (h : ∀ l, ZB G c E W L ((Γ.set i (.st ((rRef l).pr ()))).set g (.gh (Pa l))) sts m Γn) : ZB G c E W L Γ sts m Γn := fun X C =>
  pss_wk (pss_ex fun l => h l X C) fun D σ H _ ⟨B, S, b, hh, q⟩ => by
    obtain ⟨Fs, hF, hs⟩ := id hh.sl
    obtain ⟨v, e1, e2⟩ := hs i _ hi
    obtain ⟨l, rfl, e3⟩ := hP e2
    have hig : i ≠ g := fun z => by rw [z, hg] at hi; cases hi
    refine ⟨l, B, S, b, ⟨hh.kp, hh.ef, fun j a => (j ≠ i ∧ j ≠ g ∧ Fs j a) ∨ (j = g ∧ Fs i a), ⟨fun j a e => ?_, fun j k a e1 e2 => ?_⟩, fun j s e => ?_⟩, q⟩
    · rcases e with ⟨_, _, e⟩ | ⟨_, e⟩
      · exact hF.at_ j a e
      · exact hF.at_ i a e
    · rcases e1 with ⟨n1, n1', e1⟩ | ⟨n1, e1⟩ <;> rcases e2 with ⟨n2, n2', e2⟩ | ⟨n2, e2⟩
      · exact hF.ds j k a e1 e2
      · exact absurd (hF.ds j i a e1 e2) n1
      · exact absurd (hF.ds k i a e2 e1) n2
      · rw [n1, n2]
    · rcases set_get e with ⟨rfl, rfl⟩ | ⟨n, e⟩
      · have : (fun a => (j ≠ i ∧ j ≠ j ∧ Fs j a) ∨ (j = j ∧ Fs i a)) = Fs i := funext fun a => propext ⟨fun z => z.elim (fun z => absurd rfl z.2.1) (·.2), fun z => .inr ⟨rfl, z⟩⟩
        show (Pa l).p S H .non (fun a => (j ≠ i ∧ j ≠ j ∧ Fs j a) ∨ (j = j ∧ Fs i a))
        rw [this]; exact e3
      · rcases set_get e with ⟨rfl, rfl⟩ | ⟨n2, e⟩
        · exact ⟨_, e1, rfl⟩
        · have : (fun a => (j ≠ i ∧ j ≠ g ∧ Fs j a) ∨ (j = g ∧ Fs i a)) = Fs j := funext fun a => propext ⟨fun z => z.elim (·.2.2) (fun z => absurd z.1 n), fun z => .inl ⟨n2, n, z⟩⟩
          have q := hs j s e
          cases s with
          | no => trivial
          | st p => exact q
          | ow p => obtain ⟨x, e1, e2⟩ := q; exact ⟨x, e1, by show p.p S H x (fun a => (j ≠ i ∧ j ≠ g ∧ Fs j a) ∨ (j = g ∧ Fs i a)); rw [this]; exact e2⟩
          | gh p => show p.p S H .non (fun a => (j ≠ i ∧ j ≠ g ∧ Fs j a) ∨ (j = g ∧ Fs i a)); rw [this]; exact q
variable {g : Nat} {l : Addr} {xs : List (ι × α)}
end
end
end Zk

namespace Zk
open PySem L2

section
variable {τ α β γ δ κ ρ ι θ υ : Type} {G : Gx} {c : Sc} {E : Eff τ} {W : WX} {Γ Γ' : Env} {B : Bs} {σ : St} {S S1 S' H H' : Hp} {b b' : τ} {L : Ls κ ρ}
/-! ### room for ghosts -/
theorem sub_more (k : Nat) : Sub E Γ (Γ ++ List.replicate k .no) := fun {B b σ S H} h => ⟨S, Same.refl _, h.wk fun i s e => by
  by_cases hi : i < Γ.length
  · rw [List.getElem?_append_left hi] at e; exact .inr e
  · rw [List.getElem?_append_right (by omega), List.getElem?_replicate] at e
    split at e
    · cases e; exact .inl rfl
    · cases e⟩
/-! ### a dict becomes stable -/
theorem pe_frz {X : Cx} {e : Expr} {t : TE} (h : PE X e t) : PE X e (fun σ H Q => t σ H fun v H1 => ∃ d u, H1 d = some u ∧ Mut (some u) ∧ ∀ od, Q v (upd H1 d (.frz od u))) :=
  ⟨fun pins s σ H Q I h1 => thn (h.run pins s σ H _ I h1) fun u s1 ⟨x, H1, I1, r, d, o, hd, mu, q⟩ => by
    obtain ⟨od, I2⟩ := I1.lock hd mu
    exact ⟨x, _, I2, r, q od⟩⟩
section
variable [DecidableEq ι] {K : Ky G ι} {R2 : Rel α} {l : Addr} {xs : List (ι × α)}
/-- a new dict, stable at once -/
theorem z_dict {e : Expr} {m : M τ (List (ι × α))} (h : ZF G c E W Γ e m (ownD K R2)) : ZE G c E W Γ e m (rDct K R2) := fun X C => pe_wk (pe_frz (h X C)) fun σ H Q _ ⟨B, S, b, hh, q⟩ => by
  refine ⟨B, S, b, hh, ?_⟩
  cases e : m b with
  | stuck => rw [e] at q; exact q
  | exc x b1 => rw [e] at q; exact q
  | ok xs b1 =>
    rw [e] at q
    intro v S' H1 H' F s' h1 hF hk ⟨l, es, e1, f, e2, e3⟩
    subst e1
    refine ⟨l, _, e2, K.mu _ _, fun od => ?_⟩
    have hl := hF l ((f l).mpr rfl)
    have he : upd H' l (.frz od (K.ob l es)) = upd H1 l (.frz od (K.ob l es)) := by
      funext a
      by_cases ha : a = l
      · subst ha; rw [upd_same, upd_same]
      · rw [upd_ne ha, upd_ne ha, hk a fun z => ha ((f a).mp z)]
    rw [he]
    have hS : S' l = none := h1.same.free hl.1
    exact q _ (upd S' l (.frz od (K.ob l es))) _ (s'.trans (same_new hS)) (h1.new hl.1) ⟨l, od, es, rfl, upd_same, e3.mono (same_new hS)⟩
/-! ### d[k] += e -/
variable {g : Nat} {eo ei : Expr} {pos : Pos}
structure AugOp (op : Operator) (f : Int → Int → Int) (rd : V → V → Hp → VK → Prop) : Prop where
  ip : ∀ X : Cx, InOp X op rd
  mono : ∀ x y H, ∀ {Q Q' : VK}, (∀ v H, Q v H → Q' v H) → rd x y H Q → rd x y H Q'
  go : ∀ x y H (Q : VK), Q (.int (f x y)) H → rd (.int x) (.int y) H Q
end
end
end Zk

namespace Zk
open PySem L2

section
variable {τ α β γ δ κ ρ ι θ υ : Type} {G : Gx} {c : Sc} {E : Eff τ} {W : WX} {Γ Γ' : Env} {B : Bs} {σ : St} {S S1 S' H H' : Hp} {b b' : τ} {L : Ls κ ρ}
section
variable [DecidableEq ι] {R : Rel ι} {f : ι → Key} {R2 : Rel α} {e : Expr} {x : Str} {p pos : Pos}
theorem dct_flat {F : KyF R f} {xs : List (ι × α)} {v : V} (h : (rDct (kyF G F) R2).is xs S v) : ∃ (a : Addr) (o : Obj) (es : List (Key × V)), v = .ref a ∧ S a = some (.frz o (.dK es)) ∧ DRel (kyF G F) R2 S xs es := h
/-! ### dicts compared, whose keys stand alike -/
variable {ea eb : Expr}
end
/-! ### records: dicts with names as keys -/
def zkGo (E : Eff τ) (B : Bs) (Γ : Env) (σ : St) (S : Hp) (D : Addr) (o : HO) (A : α → List Pr) (Q : List V → Hp → Prop) : Out τ α → Prop
  | .ok x b' => ∀ S' H' us, Same S S' → Hold E (Bd B D o) Γ b' σ S' H' → All2 (fun (p : Pr) v => p.p S' v) (A x) us → Q us H'
  | _ => False
theorem zkGo.same {D : Addr} {o : HO} {A : α → List Pr} {Q : List V → Hp → Prop} (s : Same S S1) : ∀ {t : Out τ α}, zkGo E B Γ σ S D o A Q t → zkGo E B Γ σ S1 D o A Q t
  | .ok _ _, h => fun S' H' us s2 => h S' H' us (s.trans s2)
  | .exc _ _, h => h
  | .stuck, h => h
end
end Zk

namespace Zk
open PySem L2

section
variable {τ α β γ δ κ ρ ι θ υ : Type} {G : Gx} {c : Sc} {E : Eff τ} {W : WX} {Γ Γ' : Env} {B : Bs} {σ : St} {S S1 S' H H' : Hp} {b b' : τ} {L : Ls κ ρ}
/-! ### dict comprehensions -/
section
variable [DecidableEq ι] {Rk : Rel ι} {fk : ι → Key} {F : KyF Rk fk}
def dcEnd (F : KyF Rk fk) (G : Gx) (E : Eff τ) (B : Bs) (Γ : Env) (σ : St) (S : Hp) (R' : Rel γ) (Q : VK) : Out τ (List (ι × γ)) → Prop
  | .ok ys b' => ∀ D S' H' us, Same S S' → Hold E (Bd B D (.dK us)) Γ b' σ S' H' → B.S D = none → B.H D = none → ¬ E.own D → DRel (kyF G F) R' S' ys us → Q (.ref D) H'
  | _ => False
theorem dcEnd.same {R' : Rel γ} {Q : VK} (s : Same S S1) : ∀ {o : Out τ (List (ι × γ))}, dcEnd F G E B Γ σ S R' Q o → dcEnd F G E B Γ σ S1 R' Q o
  | .ok _ _, h => fun D S' H' us s2 => h D S' H' us (s.trans s2)
  | .exc _ _, h => h
  | .stuck, h => h
/-- a dict comprehension's parts -/
structure Dcm (F : KyF Rk fk) (G : Gx) (c : Sc) (E : Eff τ) (W : WX) (Γ : Env) (kx elt tg iter : Expr) (ifs : List Expr) (scope : Scope) (own : List (Str × Nat)) (m : M τ (List β)) (t : β → M τ Bool) (kf : β → M τ ι) (f : β → M τ γ) (R : Rel β) (R' : Rel γ) (Γ1 : β → Env) : Prop where
  ok : BlkOk c.N c.sc scope own
  hi : ZI G c E W Γ tg iter m R
  hg : ZG G (c.blk scope) E Wf (wipeE Γ (own.map (·.2))) (own.map (·.2)) tg Γ1 R
  ht : ∀ x, ZTs G (c.blk scope) E Wf (Γ1 x) ifs (t x)
  hk : ∀ x, ZE G (c.blk scope) E Wf (Γ1 x) kx (kf x) Rk
  he : ∀ x, ZE G (c.blk scope) E Wf (Γ1 x) elt (f x) R'
  no : ∀ (i : Nat) s, Γ[i]? = some s → s = .no ∨ i ∉ own.map (·.2)
  fs : ∀ (env : PySem.Env) x, foldedSetIterable iter env x = pure x
end
end
end Zk

namespace Zk
open PySem L2

section
variable {τ α β γ δ κ ρ ρ' ι θ υ : Type} {G : Gx} {c : Sc} {E : Eff τ} {W : WX} {Γ Γ' : Env} {B : Bs} {σ σ' : St} {S S1 S' H H' : Hp} {b b' : τ} {L : Ls κ ρ}
theorem nodup_ix {T : Type} {x : T} : ∀ {l : List T} {i j : Nat}, l.Nodup → l[i]? = some x → l[j]? = some x → i = j
  | [], i, j, _, h, _ => by simp at h
  | a :: l, 0, 0, _, _, _ => rfl
  | a :: l, 0, j + 1, n, h1, h2 => by
    rw [List.nodup_cons] at n
    have h1 : a = x := by simpa using h1
    exact absurd (List.mem_of_getElem? (show l[j]? = some x by simpa using h2)) (h1 ▸ n.1)
  | a :: l, i + 1, 0, n, h1, h2 => by
    rw [List.nodup_cons] at n
    have h2 : a = x := by simpa using h2
    exact absurd (List.mem_of_getElem? (show l[i]? = some x by simpa using h1)) (h2 ▸ n.1)
  | a :: l, i + 1, j + 1, n, h1, h2 => by
    rw [List.nodup_cons] at n
    rw [nodup_ix n.2 (show l[i]? = some x by simpa using h1) (show l[j]? = some x by simpa using h2)]
/-! ### defs that change what is in ghost slots -/
abbrev ghs (gs : List PrO) : Env := gs.map Sl.gh
theorem ghs_get {gs : List PrO} {i : Nat} {s : Sl} (h : (ghs gs)[i]? = some s) : ∃ p, gs[i]? = some p ∧ s = .gh p := by
  rw [List.getElem?_map] at h
  obtain ⟨p, h1, h2⟩ := Option.map_eq_some_iff.mp h
  exact ⟨p, h1, h2.symm⟩
theorem Hold.front {front : Env} {gs : List PrO} (h : Hold E B (ghs gs) b σ' S H) (hf : ∀ (i : Nat) s, front[i]? = some s → slOk S H (σ[i]?.join) (fun _ => False) s) : Hold E B (front ++ ghs gs) b σ S H := by
  obtain ⟨Fs, hF, hs⟩ := h.sl
  refine ⟨h.kp, h.ef, fun i a => front.length ≤ i ∧ Fs (i - front.length) a, ⟨fun i a e => hF.at_ _ a e.2, fun i j a e1 e2 => ?_⟩, fun i s e => ?_⟩
  · have := hF.ds _ _ a e1.2 e2.2
    have h1 := e1.1; have h2 := e2.1; omega
  · by_cases hi : i < front.length
    · rw [List.getElem?_append_left hi] at e
      have ef : (fun a => front.length ≤ i ∧ Fs (i - front.length) a) = fun _ => False := funext fun a => propext ⟨fun z => by have := z.1; omega, fun z => z.elim⟩
      show slOk S H (σ[i]?.join) (fun a => front.length ≤ i ∧ Fs (i - front.length) a) s
      rw [ef]; exact hf i s e
    · rw [List.getElem?_append_right (by omega)] at e
      obtain ⟨p, e1, rfl⟩ := ghs_get e
      have ef : (fun a => front.length ≤ i ∧ Fs (i - front.length) a) = Fs (i - front.length) := funext fun a => propext ⟨fun z => z.2, fun z => ⟨by omega, z⟩⟩
      show p.p S H .non (fun a => front.length ≤ i ∧ Fs (i - front.length) a)
      rw [ef]; exact hs _ _ e
theorem Hold.back {front : Env} {gs : List PrO} (h : Hold E B (front ++ ghs gs) b σ S H) (σ' : St) : Hold E B (ghs gs) b σ' S H := by
  obtain ⟨Fs, hF, hs⟩ := h.sl
  refine ⟨h.kp, h.ef, fun i a => Fs (front.length + i) a, ⟨fun i a e => hF.at_ _ a e, fun i j a e1 e2 => by have := hF.ds _ _ a e1 e2; omega⟩, fun i s e => ?_⟩
  obtain ⟨p, e1, rfl⟩ := ghs_get e
  have := hs (front.length + i) (.gh p) (by rw [List.getElem?_append_right (by omega), Nat.add_sub_cancel_left]; exact e)
  exact this
open Classical in
end
end Zk

namespace Zk
open PySem L2

section
variable {τ α β γ δ κ ρ ρ' ι θ υ : Type} {G : Gx} {c : Sc} {E : Eff τ} {W : WX} {Γ Γ' : Env} {B : Bs} {σ σ' : St} {S S1 S' H H' : Hp} {b b' : τ} {L : Ls κ ρ}
/-! ### a field that is a new dict -/
/-! ### an instance that is stable at the end of its __init__ -/
/-! ### None or a thing -/
structure NN (R : Rel α) : Prop where
  h : ∀ {x : α} {S : Hp} {v : V}, R.is x S v → v ≠ .non
theorem nn_int : NN rInt := ⟨fun h e => by rw [show _ = _ from h] at e; cases e⟩
theorem opt_non {R : Rel α} (nn : NN R) {x : Option α} {S : Hp} {v : V} (h : (rOpt R).is x S v) : decide (v = .non) = !x.isSome := by
  cases x with
  | none => have h : v = .non := h; rw [h]; rfl
  | some y => exact decide_eq_false (nn.h h)
section
variable {e : Expr} {m : M τ (Option α)} {R : Rel α} {pos : Pos} {j : Nat} {pp : Pos}
theorem z_isN (nn : NN R) (h : ZE G c E W Γ e m (rOpt R)) : ZE G c E W Γ (.Compare e [.Is] [.Constant .none j pp] pos) (zget Option.isNone m) rBl := fun X C => pe_wk (pe_cmp (pc_isN (h X C)) (by rfl)) fun σ H Q _ ⟨B, S, b, hh, q⟩ =>
  tz_bnd hh q fun x b1 v S1 H1 s1 h1 r1 q1 => by rw [opt_non nn r1, Option.not_isSome]; exact aft_ret h1 q1 rfl
end
/-! ### how many a tuple of unlike things has -/
end
end Zk

namespace Zk
open PySem L2
open PySem.Spec

section
variable {τ α β γ δ κ ρ ρ' ι θ υ : Type} {G : Gx} {c : Sc} {E : Eff τ} {W : WX} {Γ Γ' : Env} {B : Bs} {σ σ' : St} {S S1 S' H H' : Hp} {b b' : τ} {L : Ls κ ρ}
variable [DecidableEq ι] {K : Ky G ι} {R2 : Rel α} {l : Addr} {xs : List (ι × α)}
end
end Zk

namespace Zk
open PySem L2

section
variable {τ α β γ δ κ ρ ρ' ι θ υ : Type} {G : Gx} {c : Sc} {E : Eff τ} {W : WX} {Γ Γ' : Env} {B : Bs} {σ σ' : St} {S S1 S' H H' : Hp} {b b' : τ} {L : Ls κ ρ}
section
variable {e : Expr} {m : M τ (Option α)} {R : Rel α} {pos : Pos} {j : Nat} {pp : Pos}
end
end
end Zk

namespace Zk
open PySem L2

section
variable {τ α β γ δ κ ρ ρ' ι θ υ : Type} {G : Gx} {c : Sc} {E : Eff τ} {W : WX} {Γ Γ' : Env} {B : Bs} {σ σ' : St} {S S1 S' H H' : Hp} {b b' : τ} {L : Ls κ ρ}
section
variable {ea eb e : Expr} {x : Str} {p pos : Pos}
/-! ### truths told apart by is; shown -/
/-! ### texts compared -/
/-! ### parts of rows: row[:2] + (e,) -/
/-! ### sorted of a dict's keys -/
end
/-! ### xs.insert(i, e) -/
end
end Zk

namespace Zk
open PySem L2 PyProof.Rows

section
variable {τ α β γ δ κ ρ ρ' ι θ υ : Type} {G : Gx} {c : Sc} {E : Eff τ} {W : WX} {Γ Γ' : Env} {B : Bs} {σ σ' : L2.St} {S S1 S' H H' : Hp} {b b' : τ} {L : Ls κ ρ}
end
end Zk

namespace Zk
open PySem L2

section
variable {τ α β γ δ κ ρ ρ' ι θ υ : Type} {G : Gx} {c : Sc} {E : Eff τ} {W : WX} {Γ Γ' : Env} {B : Bs} {σ σ' : St} {S S1 S' H H1 H' : Hp} {b b' : τ} {L : Ls κ ρ}
/-! ### what is fresh, kept by a ghost slot behind all others -/
def atV (P : PrO) (v : V) : PrO := ⟨fun S H _ F => P.p S H v F, fun s k h => P.mono s k h⟩
/-! ### defs that change what is in ghost slots: with an effect, and what they hand back -/
def finHB (G : Gx) (E : Eff τ) (B : Bs) (gs : γ → List PrO) (R : Rel ρ) (Q : VK) (XE : XK) : Out τ (ρ × γ) → Prop
  | .ok (r, y) b => ∀ v σ' S' H', Hold E B (ghs (gs y)) b σ' S' H' → R.is r S' v → Q v H'
  | .exc e b => ∀ c d σ' S' H', Hold E B [] b σ' S' H' → XAt G e H' c d → XE c d H'
  | .stuck => False
def spHB (G : Gx) (E : θ → Eff τ) (A : θ → α → List Pr) (gs : θ → γ → List PrO) (m : α × γ → M τ (ρ × γ)) (R : Rel ρ) : Sp := fun vs H Q XE => ∃ q x y S B σ0 b, B.S = S ∧ All2 (fun (p : Pr) v => p.p S v) (A q x) vs ∧ Hold (E q) B (ghs (gs q y)) b σ0 S H ∧ finHB G (E q) B (gs q) R Q XE (m (x, y) b)
/-- what falls off a def's end, and what it hands back -/
def zfinH (n : γ → Option ρ) (m : M τ (Fl γ Empty (ρ × γ))) : M τ (ρ × γ) := fun s => match m s with
  | .ok (.nx z) s' => match n z with | some r => .ok (r, z) s' | none => .stuck
  | .ok (.rt r) s' => .ok r s'
  | .ok _ _ => .stuck
  | .exc e s' => .exc e s'
  | .stuck => .stuck
def rGh (R : Rel ρ) (γ : Type) : Rel (ρ × γ) := ⟨fun r => R.is r.1, fun s h => R.mono s h⟩
theorem fn_okHB {g : Bool} {x qual : Str} {st : Stmt} {f : Addr} {fd : FuncData} {N ps : List Str} {k : Nat} {E : θ → Eff τ} {A : θ → α → List Pr} {gs : θ → γ → List PrO} {mb : α × γ → M τ (Fl γ Empty (ρ × γ))} {R : Rel ρ} {n : γ → Option ρ} (F : Fun G.K x qual st f fd) (sc : FnScope N ps (defScope st))
    (hA : ∀ q x, (A q x).length = ps.length) (hn : ∀ z r, n z = some r → ∀ S, R.is r S .non)
    (hb : ∀ q x y (W : WX), ZB G ⟨N, defScope st, k, true, fun _ => true, g⟩ (E q) W ⟨fun e : Empty => e.elim, [], rGh R γ, fun r _ => List.replicate N.length .no ++ ghs (gs q r.2)⟩ (envOf N.length (A q x) ++ ghs (gs q y)) (defBody st) (mb (x, y)) (fun z => List.replicate N.length .no ++ ghs (gs q z))) :
    FnG g G.P G.w G.K G.mg G.base (k + 1) f fd ps (spHB G E A gs (fun p => zfinH n (mb p)) R) := by
  refine fng_F F sc (fun vs H Q XE h => ?_) (fun cdv A0 outer s H vs Q XE hr hgd h => ?_)
  · obtain ⟨q, x, y, S, B, σ0, b, _, r, _⟩ := h
    rw [← r.length, hA]
  · obtain ⟨q, x, y, S, B, σ0, b, eB, r, hh, fz⟩ := h
    let W : WX := fun cls d _ H => XE cls d H
    have C : CtxOk G ⟨N, defScope st, k, true, fun _ => true, g⟩ W (cxOf (L2.CX G.P G.w) G.P G.w G.K G.mg G.base N qual (defScope st) f cdv A0 outer s H XE) :=
      ⟨rfl, rfl, rfl, rfl, rfl, rfl, sc.nd, rfl, rfl, hr, hgd, takes_of rfl rfl rfl rfl, passes_of rfl, rfl, fun _ => ⟨rfl, rfl⟩⟩
    have h0 := hold_start (q := E q) (b := b) (N := N) hh.same hh.ef r
    refine ⟨_, hb q x y W _ C, B, S, b, hh.front (fun i s e => ?_), ?_⟩
    · obtain ⟨Fs, hF, hs⟩ := h0.sl
      have := hs i s e
      cases s with
      | no => trivial
      | st p => exact this
      | ow p =>
        exfalso
        unfold envOf at e
        rcases List.mem_append.mp (List.mem_of_getElem? e) with z | z
        · obtain ⟨_, _, z⟩ := List.mem_map.mp z; cases z
        · have := List.eq_of_mem_replicate z; cases this
      | gh p =>
        exfalso
        unfold envOf at e
        rcases List.mem_append.mp (List.mem_of_getElem? e) with z | z
        · obtain ⟨_, _, z⟩ := List.mem_map.mp z; cases z
        · have := List.eq_of_mem_replicate z; cases this
    · have fz : finHB G (E q) B (gs q) R Q XE (zfinH n (mb (x, y)) b) := fz
      unfold zfinH at fz
      cases e : mb (x, y) b with
      | stuck => rw [e] at fz; exact fz
      | exc e b' => rw [e] at fz; exact fun c d σ' S' H' h xa => fz c d σ' S' H' h xa
      | ok r b' =>
        rw [e] at fz
        cases r with
        | bk k => exact k.elim
        | ct k => exact k.elim
        | rt r => exact fun v σ' S' H' h' rr => fz v σ' S' H' (h'.back σ') rr
        | nx z =>
          dsimp only at fz
          cases e2 : n z with
          | none => rw [e2] at fz; exact fz.elim
          | some r => rw [e2] at fz; exact fun σ' S' H' s' h => fz .non σ' S' H' (h.back σ') (hn z r e2 S')
/-! ### calls of them -/
theorem noeff_callB {idx : List Nat} {gs : List PrO} (h : Hold E B Γ b σ S H) (hi : All2 (fun i p => Γ[i]? = some (.gh p)) idx gs) (nd : idx.Nodup) : ∃ Bc : Bs, Bc.S = S ∧ Hold E Bc (ghs gs) b [] S H ∧
    (∀ b' S' H' σ' gs' Γ', Hold E Bc (ghs gs') b' σ' S' H' → (∀ (i : Nat) s, Γ'[i]? = some s → (∃ (j : Nat) (p : PrO), idx[j]? = some i ∧ gs'[j]? = some p ∧ s = .gh p) ∨ (i ∉ idx ∧ Γ[i]? = some s)) → Same S S' ∧ Hold E B Γ' b' σ S' H') ∧
    (∀ b' S' H' σ', Hold E Bc [] b' σ' S' H' → Same S S' ∧ Hold E B [] b' σ S' H') := by
  classical
  obtain ⟨Fs, hF, hs⟩ := id h.sl
  let Gf : Addr → Prop := fun a => ∃ i, i ∈ idx ∧ Fs i a
  let BH : Hp := fun a => if Gf a then none else H a
  have bn : ∀ a, Gf a → BH a = none := fun a z => if_pos z
  have bs : ∀ a, ¬ Gf a → BH a = H a := fun a z => if_neg z
  have bo : ∀ a o, BH a = some o → ¬ Gf a ∧ H a = some o := fun a o e => by
    by_cases z : Gf a
    · rw [bn a z] at e; cases e
    · rw [bs a z] at e; exact ⟨z, e⟩
  have go : ∀ a, E.own a → ¬ Gf a := fun a ha ⟨i, _, z⟩ => (hF.at_ i a z).2.2.1 ha
  have keep : ∀ S' H', Keep E.own ⟨S, BH⟩ S' H' → Keep E.own B S' H' := fun S' H' k => ⟨k.same, h.kp.up.trans k.up, fun a o h1 h2 h3 => by
    obtain ⟨r1, r2⟩ := h.kp.kp a o h1 h2 h3
    have ng : ¬ Gf a := fun ⟨i, _, z⟩ => by rw [(hF.at_ i a z).2.1] at h2; cases h2
    exact k.kp a o r1 (by show BH a = _; rw [bs a ng]; exact r2) h3⟩
  refine ⟨⟨S, BH⟩, rfl, ⟨⟨h.same, Same.refl _, fun a o h1 h2 _ => ⟨h1, (bo a o h2).2⟩⟩, h.ef, fun (j : Nat) a => ∃ i, idx[j]? = some i ∧ Fs i a, ⟨fun j a ⟨i, e1, e2⟩ => ?_, fun j j' a ⟨i, e1, e2⟩ ⟨i', e1', e2'⟩ => ?_⟩, fun j s e => ?_⟩, fun b' S' H' σ' gs' Γ' h' hg => ⟨h'.kp.up, ?_⟩, fun b' S' H' σ' h' => ⟨h'.kp.up, ?_⟩⟩
  · obtain ⟨r1, r2, r3, r4⟩ := hF.at_ i a e2
    exact ⟨r1, bn a ⟨i, List.mem_of_getElem? e1, e2⟩, r3, r4⟩
  · have := hF.ds i i' a e2 e2'
    subst this
    exact nodup_ix nd e1 e1'
  · obtain ⟨p, e1, rfl⟩ := ghs_get e
    obtain ⟨i, q1, q2⟩ := hi.get' e1
    have := hs i _ q2
    have ef : (fun a => ∃ i, idx[j]? = some i ∧ Fs i a) = Fs i := funext fun a => propext ⟨fun ⟨i', z1, z2⟩ => by rw [q1] at z1; cases z1; exact z2, fun z => ⟨i, q1, z⟩⟩
    show p.p S H .non (fun a => ∃ i, idx[j]? = some i ∧ Fs i a)
    rw [ef]; exact this
  · obtain ⟨Fs', hF', hs'⟩ := h'.sl
    have kk : ∀ i a, i ∉ idx → Fs i a → S' a = none ∧ ∃ o, H a = some o ∧ H' a = some o := fun i a ni z => by
      obtain ⟨r1, r2, r3, o, r4⟩ := hF.at_ i a z
      have ng : ¬ Gf a := fun ⟨j, hj, z'⟩ => ni (hF.ds i j a z z' ▸ hj)
      have := h'.kp.kp a o r1 (by show BH a = _; rw [bs a ng]; exact r4) r3
      exact ⟨this.1, o, r4, this.2⟩
    refine ⟨keep S' H' h'.kp, h'.ef, fun i a => (i ∉ idx ∧ Fs i a) ∨ ∃ j, idx[j]? = some i ∧ Fs' j a, ⟨fun i a e => ?_, fun i i' a e e' => ?_⟩, fun i s e => ?_⟩
    · rcases e with ⟨ni, e⟩ | ⟨j, e1, e2⟩
      · obtain ⟨r1, r2, r3, r4⟩ := hF.at_ i a e
        obtain ⟨k1, o, _, k2⟩ := kk i a ni e
        exact ⟨k1, r2, r3, o, k2⟩
      · obtain ⟨r1, r2, r3, r4⟩ := hF'.at_ j a e2
        have r2 : BH a = none := r2
        refine ⟨r1, ?_, r3, r4⟩
        cases z : B.H a with
        | none => rfl
        | some o =>
          exfalso
          by_cases hg : Gf a
          · obtain ⟨i', _, z'⟩ := hg
            rw [(hF.at_ i' a z').2.1] at z; cases z
          · rw [bs a hg] at r2
            cases zs : B.S a with
            | some o' => have := h'.kp.up _ _ (h.kp.up _ _ zs); rw [r1] at this; cases this
            | none => have := (h.kp.kp a o zs z r3).2; rw [r2] at this; cases this
    · have cross : ∀ i i', i ∉ idx → Fs i a → (∃ j, idx[j]? = some i' ∧ Fs' j a) → False := fun i i' ni z ⟨j, z1, z2⟩ => by
        obtain ⟨_, o, z3, _⟩ := kk i a ni z
        have r2 : BH a = none := (hF'.at_ j a z2).2.1
        have ng : ¬ Gf a := fun ⟨j', hj, z'⟩ => ni (hF.ds i j' a z z' ▸ hj)
        rw [bs a ng, z3] at r2; cases r2
      rcases e with ⟨ni, e⟩ | e <;> rcases e' with ⟨ni', e'⟩ | e'
      · exact hF.ds i i' a e e'
      · exact (cross i i' ni e e').elim
      · exact (cross i' i ni' e' e).elim
      · obtain ⟨j, z1, z2⟩ := e
        obtain ⟨j', z1', z2'⟩ := e'
        have := hF'.ds j j' a z2 z2'
        subst this
        rw [z1] at z1'; cases z1'; rfl
    · rcases hg i s e with ⟨j, p, z1, z2, rfl⟩ | ⟨ni, z⟩
      · have hin : i ∈ idx := List.mem_of_getElem? z1
        have := hs' j (.gh p) (by rw [List.getElem?_map, z2]; rfl)
        have ef : (fun a => (i ∉ idx ∧ Fs i a) ∨ ∃ j, idx[j]? = some i ∧ Fs' j a) = Fs' j := funext fun a => propext ⟨fun y => y.elim (fun y => absurd hin y.1) fun ⟨j', y1, y2⟩ => by
          have := nodup_ix nd z1 y1
          subst this; exact y2, fun y => .inr ⟨j, z1, y⟩⟩
        show p.p S' H' .non (fun a => (i ∉ idx ∧ Fs i a) ∨ ∃ j, idx[j]? = some i ∧ Fs' j a)
        rw [ef]; exact this
      · have q := hs i s z
        have ef : (fun a => (i ∉ idx ∧ Fs i a) ∨ ∃ j, idx[j]? = some i ∧ Fs' j a) = Fs i := funext fun a => propext ⟨fun y => y.elim (·.2) fun ⟨j', y1, _⟩ => absurd (List.mem_of_getElem? y1) ni, fun y => .inl ⟨ni, y⟩⟩
        cases s with
        | no => trivial
        | st p => obtain ⟨x, e1, e2⟩ := q; exact ⟨x, e1, p.mono h'.kp.up e2⟩
        | ow p =>
          obtain ⟨x, e1, e2⟩ := q
          refine ⟨x, e1, ?_⟩
          show p.p S' H' x (fun a => (i ∉ idx ∧ Fs i a) ∨ ∃ j, idx[j]? = some i ∧ Fs' j a)
          rw [ef]
          exact p.mono h'.kp.up (fun a o ha e' => by obtain ⟨_, o', k1, k2⟩ := kk i a ni ha; rw [k1] at e'; cases e'; exact k2) e2
        | gh p =>
          show p.p S' H' .non (fun a => (i ∉ idx ∧ Fs i a) ∨ ∃ j, idx[j]? = some i ∧ Fs' j a)
          rw [ef]
          exact p.mono h'.kp.up (fun a o ha e' => by obtain ⟨_, o', k1, k2⟩ := kk i a ni ha; rw [k1] at e'; cases e'; exact k2) q
  · exact ⟨keep S' H' h'.kp, h'.ef, fun _ _ => False, ⟨fun _ _ z => z.elim, fun _ _ _ z => z.elim⟩, fun i s e => by simp at e⟩
def setG : Env → List Nat → List PrO → Env
  | Γ, i :: is, p :: ps => setG (Γ.set i (.gh p)) is ps
  | Γ, _, _ => Γ
theorem setG_get : ∀ {idx : List Nat} {ps : List PrO} {Γ : Env} {i : Nat} {s : Sl}, ps.length = idx.length → (setG Γ idx ps)[i]? = some s → (∃ (j : Nat) (p : PrO), idx[j]? = some i ∧ ps[j]? = some p ∧ s = .gh p) ∨ (i ∉ idx ∧ Γ[i]? = some s)
  | [], [], _, _, _, _, h => .inr ⟨by simp, h⟩
  | i0 :: is, p0 :: ps, Γ, i, s, hl, h => by
    rcases setG_get (idx := is) (ps := ps) (by simpa using hl) h with ⟨j, p, h1, h2, h3⟩ | ⟨h1, h2⟩
    · exact .inl ⟨j + 1, p, by simpa using h1, by simpa using h2, h3⟩
    · rcases set_get h2 with ⟨rfl, rfl⟩ | ⟨n, h2⟩
      · exact .inl ⟨0, p0, rfl, rfl, rfl⟩
      · exact .inr ⟨by simp [n, h1], h2⟩
  | [], _ :: _, _, _, _, hl, _ => by simp at hl
  | _ :: _, [], _, _, _, hl, _ => by simp at hl
/-- what a call changes and hands back -/
def zcallH (m : M τ α) (y : γ) (f : α × γ → M τ (ρ × γ)) : M τ (ρ × γ) := bnd m fun z => f (z, y)
section
variable {g : Bool} {x : Str} {k : Nat} {ps : List Str} {A : θ → α → List Pr} {gs : θ → γ → List PrO} {R : Rel ρ'} {e : Expr} {es : List Expr} {m : M τ α} {p cpos pos : Pos} {q : θ} {idx : List Nat} {y : γ}
/-- the reading of such a call -/
def tzH (G : Gx) (E : Eff τ) (W : WX) (L : Ls κ ρ) (Γ : Env) (Γ' : γ → Env) (R : Rel ρ') (m : M τ (ρ' × γ)) : TE := fun σ H Q => ∃ B S b, Hold E B Γ b σ S H ∧ (match m b with
  | .ok (r, z) b' => ∀ v S' H', Same S S' → Hold E B (Γ' z) b' σ S' H' → R.is r S' v → Q v H'
  | .exc x b' => ∀ c d S' H', Hold E B L.x b' σ S' H' → XAt G x H' c d → W c d σ H'
  | .stuck => False)
theorem zh_call {f : α × γ → M τ (ρ' × γ)} {E' : θ → Eff τ} (F : FnAt g G x k ps (spHB G E' A gs f R)) (hE : E' q = E) (hk : k ≤ c.k) (hg : g = true → c.gd = true) (gb : Gb c x) (hi : All2 (fun i p => Γ[i]? = some (.gh p)) idx (gs q y)) (nd : idx.Nodup) (hl : ∀ z, (gs q z).length = idx.length)
    (ha : ZA G c E W Γ (e :: es) m (A q)) (sx : Sub E Γ L.x) (hx : L.x = []) (hd : (x == ("__debug__" : Str)) = false) (he : Star e es) (hpl : ∀ env : PySem.Env, (backTo cpos (starEach es env)).any (·.1) = false) {X : Cx} (C : CtxOk G c W X) :
    PE X (.Call (.Name x p) (e :: es) [] cpos) (tzH G E W L Γ (fun z => setG Γ idx (gs q z)) R (zcallH m y f)) := by
  obtain ⟨f0, fd, h1, h2, h3, h4⟩ := F.ex
  rw [← C.prog, ← C.w, ← C.K, ← C.mg, ← C.base] at h4
  rw [← C.mg] at h1
  rw [← C.K] at h2 h3
  refine pe_wk (pe_callG (Ex := WE W) h4 (C.room.mono hk) (fun z => C.gds (hg z)) (C.gl gb) h1 h2 h3 .nil (passAt C.takes) (ha X C) hd (he _) (hpl _)) fun σ H Q _ ⟨B, S, b, hh, qq⟩ => ?_
  subst hE
  refine ⟨B, S, b, hh, ?_⟩
  unfold zcallH bnd at qq
  cases e1 : m b with
  | stuck => rw [e1] at qq; exact qq.elim
  | exc z b1 => rw [e1] at qq; exact fun c d S1 H1 _ h1 xa => let ⟨S2, _, h2⟩ := sx h1; qq c d S2 H1 h2 xa
  | ok z b1 =>
    rw [e1] at qq
    intro us S1 H1 s1 hh1 r1
    obtain ⟨Bc, eB, h0, back, backx⟩ := noeff_callB hh1 hi nd
    rw [List.append_nil]
    refine ⟨q, z, y, S1, Bc, [], b1, eB, r1, h0, ?_⟩
    dsimp only at qq
    cases e2 : f (z, y) b1 with
    | stuck => rw [e2] at qq; exact qq.elim
    | exc e' b' =>
      rw [e2] at qq
      exact fun c d σ' S' H' h' xa => qq c d S' H' (by rw [hx]; exact (backx b' S' H' σ' h').2) xa
    | ok r b' =>
      rw [e2] at qq
      intro v σ' S' H' h' rr
      obtain ⟨s3, h4⟩ := back b' S' H' σ' (gs q r.2) (setG Γ idx (gs q r.2)) h' fun i s hs => setG_get (hl _) hs
      exact qq v S' H' (s1.trans s3) h4 rr
end
def ZH (G : Gx) (c : Sc) (E : Eff τ) (W : WX) (L : Ls κ ρ) (Γ : Env) (Γ' : γ → Env) (e : Expr) (m : M τ (ρ' × γ)) (R : Rel ρ') : Prop := ∀ X, CtxOk G c W X → PE X e (tzH G E W L Γ Γ' R m)
/-- alone in its row -/
theorem zs_callH {Γ' : γ → Env} {R : Rel ρ'} {e : Expr} {m : M τ (ρ' × γ)} {pos : Pos} (h : ZH G c E W L Γ Γ' e m R) (hs : NoSwap e := by intro _ _ _; rfl) : ZS G c E W L Γ (.Expr e pos) (bnd m fun r => ret (.nx r.2) : M τ (Fl γ κ ρ)) Γ' := fun X C =>
  ps_wk (ps_expr (h X C) (hs _ _ _)) fun D σ H hl ⟨B, S, b, hh, q⟩ => by
    refine ⟨B, S, b, hh, ?_⟩
    unfold bnd at q
    cases e1 : m b with
    | stuck => rw [e1] at q; exact q.elim
    | exc z b1 => rw [e1] at q; exact fun c d S1 H1 h1 xa => q c d σ S1 H1 h1 xa
    | ok r b1 =>
      rw [e1] at q
      exact fun v S1 H1 s1 h1 _ => q σ S1 H1 s1 h1
/-- what is known, written out -/
theorem zb_eq {Γ' : Env} {st : List Stmt} {m : M τ (Fl α κ ρ)} {Γn : α → Env} (h : Γ = Γ') (h1 : ZB G c E W L Γ' st m Γn) : ZB G c E W L Γ st m Γn := h ▸ h1
end
end Zk

namespace L2
open PySem PySem.Spec PyProof.Rows
section
variable {X : Cx}
end
end L2
namespace Zk
open PySem L2

section
variable {τ α β γ δ κ ρ ρ' ι θ υ : Type} {G : Gx} {c : Sc} {E : Eff τ} {W : WX} {Γ Γ' : Env} {B : Bs} {σ σ' : St} {S S1 S' H H1 H' : Hp} {b b' : τ} {L : Ls κ ρ}
/-! ### None or a thing: the thing -/
/-! ### zip -/
section
variable {e e2 : Expr} {elts : List Expr} {kk : Nat} {tpos p pos : Pos} {m : M τ (List α × List β)} {R : Rel α} {R2 : Rel β}
end
/-! ### how many a pair has -/
/-! ### if f(..) is None, where f changes own dicts -/
section
variable {Γ' : γ → Env} {R : Rel ρ'} {e : Expr} {a d : List Stmt} {m : M τ (Option ρ' × γ)} {n o : γ → M τ (Fl α κ ρ)} {Γn : α → Env} {pos pp pq : Pos} {j : Nat}
end
/-! ### sorted(d, reverse=True) -/
end
end Zk

namespace Zk
open PySem L2
/-! ### more keys -/
section
variable {τ α β γ δ κ ρ ι θ : Type} {G : Gx} {c : Sc} {E : Eff τ} {W : WX} {Γ Γ' : Env} {B : Bs} {σ : St} {S S1 S' H H' : Hp} {b b' : τ} {L : Ls κ ρ}
/-! ### xs.index(y) -/
/-! ### try, where nothing is raised -/
theorem CtxOk.nox {X : Cx} (C : CtxOk G c W X) : CtxOk G c Wf X.nox where
  prog := C.prog
  w := C.w
  K := C.K
  mg := C.mg
  base := C.base
  N := C.N
  nd := C.nd
  sc := C.sc
  calm := C.calm
  room := C.room
  gds := C.gds
  takes := takes0
  owns := PassesOwn.never
  fx := C.fx
  isfn := C.isfn
end
end Zk

namespace Zk
open PySem L2
/-! ### {k: v}, the key a tuple -/
section
variable {X : Cx} {k v : Expr} {pos : Pos} {tk tv : TE}
end
section
variable {τ α β γ δ κ ρ ι θ : Type} {G : Gx} {c : Sc} {E : Eff τ} {W : WX} {Γ Γ' : Env} {B : Bs} {σ : St} {S S1 S' H H' : Hp} {b b' : τ} {L : Ls κ ρ}
variable [DecidableEq ι] {R : Rel ι} {D : DatR R} {R2 : Rel α}
end
/-! ### more keys: standings -/
end Zk

namespace Zk
open PySem L2

section
variable {τ α β γ δ κ ρ ρ' ι θ υ β1 β2 : Type} {G : Gx} {c : Sc} {E : Eff τ} {W : WX} {Γ Γ' : Env} {B : Bs} {σ σ' : L2.St} {S S1 S' H H1 H' : Hp} {b b' : τ} {L : Ls κ ρ}
/-! ### less told of a thing -/
/-! ### a thing that two things of its own hang on -/
variable {Rr : Addr → Addr → Rel α} {P1 : Addr → β1 → PrO} {P2 : Addr → β2 → PrO}
/-! ### defs that hand back what is new -/
/-! ### calls of them -/
end
end Zk

namespace Zk
open PySem L2

section
variable {τ α β γ δ κ ρ ι θ : Type} {G : Gx} {c : Sc} {E : Eff τ} {W : WX} {Γ Γ' : Env} {B : Bs} {σ : St} {S S1 S' H H' : Hp} {b b' : τ} {L : Ls κ ρ}
/-! ### xs.pop(), alone in its row -/
/-! ### xs or ys -/
end
end Zk

namespace Zk
open PySem L2 PySem.Spec PyProof.Rows
/-! ### sorted(d), d's keys tuples -/
section
variable {X : Cx} {β : Type}
/-! ### len(d) -/
end
section
variable {τ α β γ δ κ ρ ι θ : Type} {G : Gx} {c : Sc} {E : Eff τ} {W : WX} {Γ Γ' : Env} {B : Bs} {σ : L2.St} {S S1 S' H H' : Hp} {b b' : τ} {L : Ls κ ρ}
variable [DecidableEq ι] {R : Rel ι} {D : DatR R} {R2 : Rel α}
end
end Zk

namespace Zk
open PySem L2
/-! ### own __len__ -/
section
variable {prog : Program} {w : World} {A : Around} {Ex : Value → Shared → Prop} {s : Shared} {K : PySem.W.Frag} {x C f : Addr} {ox : Obj} {od : Option Obj}
end
variable {τ α β γ δ κ ρ ι θ : Type} {G : Gx} {c : Sc} {E : Eff τ} {W : WX} {Γ Γ' : Env} {B : Bs} {σ : L2.St} {S S1 S' H H' : Hp} {b b' : τ} {L : Ls κ ρ}
structure LnAt (g : Bool) (G : Gx) (C : Addr) (k : Nat) (ps : List Str) (sp : Sp) : Prop where
  ex : ∃ f fd, PySem.W.findIn G.K (.ref C) "__len__" = some (some (.ref f)) ∧ PySem.W.isFn G.K (.ref f) = true ∧ Binds G.K fd ps [] ∧ FnG g G.P G.w G.K G.mg G.base k f fd ps sp
/-! ### what hangs on a record becomes stable -/
end Zk

namespace Zk
open PySem L2 PyProof.Rows
/-! ### zip of any two things that are drawn from -/
/-- an iterator at it over l: what is known of a heap where i things are drawn; what is drawn -/
structure Drw (it l : Addr) (P : Heap → Nat → Prop) (get : Nat → Option Value) : Prop where
  item : ∀ {prog : Program} {w : World} {A : Around} {E : Value → Shared → Prop} {s : Shared} {i : Nat} {x : Value} {Q : Value → Shared → Prop}, P s.heap i → get i = some x → (∀ h', P h' (i + 1) → Heap.SameBut it s.heap h' → Q x { s with heap := h' }) → wpAny (model prog w) A (Builtin.SmallTypes.nextOf (.ref it)) Q E s
  stop : ∀ {prog : Program} {w : World} {A : Around} {E : Value → Shared → Prop} {s : Shared} {i : Nat} {Q : Value → Shared → Prop}, A.handled = none → P s.heap i → get i = none → (∀ h' e, Heap.ExtBut it s.heap h' → (∃ o, h'.get? e = some o ∧ o.cls = .type "StopIteration") → E (.ref e) { s with heap := h' }) → wpAny (model prog w) A (Builtin.SmallTypes.nextOf (.ref it)) Q E s
  keep : ∀ {h h' : Heap} {i : Nat}, P h i → (∀ o, h.get? it = some o → h'.get? it = some o) → (∀ o, h.get? l = some o → h'.get? l = some o) → P h' i
  lt : ∀ {h : Heap} {i : Nat}, P h i → it < h.objs.size
section
variable {prog : Program} {w : World} {A : Around} {E : Value → Shared → Prop} {s : Shared} {z TI TO i1 i2 l1 l2 : Addr} {k1 k2 : Nat} {P1 P2 : Heap → Nat → Prop} {g1 g2 : Nat → Option Value} {x y a b : Value}
end
/-! ### zip of a list and a tuple -/
/-! ### in a walk -/
section
variable {τ α β γ δ κ ρ ι θ : Type} {G : Gx} {c : Sc} {E : Eff τ} {W : WX} {Γ : Env}
variable {e e2 : Expr} {m : M τ (List α × List β)} {R : Rel α} {R2 : Rel β} {p pos tpos : Pos} {elts : List Expr} {kk : Nat}
end
end Zk

/-! ### a set of the names of a list: how many are apart -/
namespace Zk
open PySem L2 PySem.Spec PyProof.Rows
section
variable {prog : Program} {w : World} {A : Around} {R : Result → Shared → Prop} {I : Addr} {fp wr : List Addr} {G : Array GenState → Array GenState → Prop} {n : Nat} {P : Nat → Value → Prop} {St : Nat → Shared → Prop}
end
section
variable {prog : Program} {w : World} {A : Around} {E : Value → Shared → Prop} {s : Shared}
set_option maxHeartbeats 3200000 in
end
section
variable {τ : Type} {G : Gx} {c : Sc} {E : Eff τ} {W : WX} {Γ : Env}
end
end Zk

namespace Zk
open PySem L2
/-! ### try .. except X: return a constant -/
section
variable {τ α β γ δ κ ρ ι θ : Type} {G : Gx} {c : Sc} {E : Eff τ} {W : WX} {Γ Γ' : Env} {B : Bs} {σ : L2.St} {S S1 S' H H' : Hp} {b b' : τ} {L : Ls κ ρ}
theorem CtxOk.tr {X : Cx} (C : CtxOk G c W X) {W' : WX} {pn : List (Addr × Obj)} {xe : Value → Shared → Prop} (tk : Takes (X.tr pn xe) W') (ow : PassesOwn (model X.prog X.w) X.A X.env xe) : CtxOk G c W' (X.tr pn xe) where
  prog := C.prog
  w := C.w
  K := C.K
  mg := C.mg
  base := C.base
  N := C.N
  nd := C.nd
  sc := C.sc
  calm := C.calm
  room := C.room
  gds := C.gds
  takes := tk
  owns := ow
  fx := C.fx
  isfn := C.isfn
theorem cat_nil {C0 : Addr} : ∀ n b C', (fun _ : Str => (none : Option Bool)) n = some b → G.mg n = some (.ref C') → PySem.W.exmOne G.K (.ref C') (.ref C0) = some b := fun _ _ _ h => by cases h
theorem cat_cons {C0 D0 : Addr} {n0 : Str} {b0 : Bool} {cat : Str → Option Bool} (hg : G.mg n0 = some (.ref D0)) (hx : PySem.W.exmOne G.K (.ref D0) (.ref C0) = some b0) (h : ∀ n b C', cat n = some b → G.mg n = some (.ref C') → PySem.W.exmOne G.K (.ref C') (.ref C0) = some b) :
    ∀ n b C', (fun n => if n = n0 then some b0 else cat n) n = some b → G.mg n = some (.ref C') → PySem.W.exmOne G.K (.ref C') (.ref C0) = some b := fun n b C' e k => by
  dsimp only at e
  split at e
  · rename_i z
    subst z
    cases e
    rw [hg] at k
    cases k
    exact hx
  · exact h n b C' e k
end
end Zk

namespace Zk
open PySem L2
/-! ### defs with an argument that only a keyword tells -/
structure FnAtK (g : Bool) (G : Gx) (x : Str) (k n : Nat) (ps ks : List Str) (sp : Sp) (gV : List V → List V → List V) : Prop where
  ex : ∃ f fd gg, G.mg x = some (.ref f) ∧ PySem.W.keepIn G.K (.ref f) = true ∧ KBn G.K fd ps n ks gg gV ∧ FnG g G.P G.w G.K G.mg G.base k f fd ps sp
section
variable {X : Cx} {k n : Nat} {f : Addr} {fd : FuncData} {ps ks : List Str} {sp : Sp} {Ex : St → XK} {x : Str} {p pos : Pos} {e : Expr} {es : List Expr} {kws : List Keyword} {t tk : TA} {gg : List Value → List Value → List Value} {gV : List V → List V → List V} {g : Bool}
end
section
variable {τ α β γ δ κ ρ ι θ : Type} {G : Gx} {c : Sc} {E : Eff τ} {W : WX} {Γ Γ' : Env} {B : Bs} {σ : L2.St} {S S1 S' H H' : Hp} {b b' : τ} {L : Ls κ ρ}
end
end Zk

namespace Zk
open PySem L2
/-! ### x in xs, lists in lists -/
section
variable {τ α β γ δ κ ρ ι θ : Type} {G : Gx} {c : Sc} {E : Eff τ} {W : WX} {Γ Γ' : Env} {B : Bs} {σ : L2.St} {S S1 S' H H' : Hp} {b b' : τ} {L : Ls κ ρ}
variable {ea eb : Expr} {pos : Pos}
end
end Zk

namespace Zk
open PySem L2
section
variable {τ α β γ δ κ ρ ι θ : Type} {G : Gx} {c : Sc} {E : Eff τ} {W : WX} {Γ Γ' : Env} {B : Bs} {σ : L2.St} {S S1 S' H H' : Hp} {b b' : τ} {L : Ls κ ρ}
end
end Zk

namespace Zk
open PySem L2
/-! ### a thing of one of two kinds -/
section
variable {τ α β γ δ κ ρ ι θ : Type} {G : Gx} {c : Sc} {E : Eff τ} {W : WX} {Γ Γ' : Env} {B : Bs} {σ : St} {S S1 S' H H' : Hp} {b b' : τ} {L : Ls κ ρ}
def rSum (R1 : Rel α) (R2 : Rel β) : Rel (α ⊕ β) := ⟨fun x S v => match x with | .inl y => R1.is y S v | .inr y => R2.is y S v, fun {x _ _ _} s h => by
  cases x with
  | inl y => exact R1.mono s h
  | inr y => exact R2.mono s h⟩
theorem z_inr {R1 : Rel α} {R2 : Rel β} {e : Expr} {m : M τ β} (h : ZE G c E W Γ e m R2) : ZE G c E W Γ e (zget Sum.inr m) (rSum R1 R2) := fun X C => pe_wk (h X C) fun σ H Q _ ⟨B, S, b, hh, q⟩ =>
  tz_bnd hh q fun x b1 v S1 H1 s1 h1 r1 q1 => aft_ret h1 q1 r1
/-! places of tuples, if there are such -/
structure TupAtP (R : Rel α) (k : Int) (f : α → Option β) (R2 : Rel β) : Prop where
  h : ∀ {x : α} {y : β} {S : Hp} {v : V}, R.is x S v → f x = some y → ∃ a vs u, v = .ref a ∧ S a = some (.tup vs) ∧ atI vs k = some u ∧ R2.is y S u
def mopt : Option α → M τ α
  | some x => ret x
  | none => stk
def zgetP (f : α → Option β) (m : M τ α) : M τ β := bnd m fun x => mopt (f x)
/-! as data -/
structure DatW (R : Rel α) where
  d : α → PyData
  n : Nat
  dep : ∀ x, (d x).depth ≤ n
  dp : ∀ {K : PySem.W.Frag} {x : α} {S H : Hp} {v : V}, Same S H → R.is x S v → Dp K H v (d x)
def DatR.w {R : Rel α} (D : DatR R) : DatW R := ⟨D.d, D.n, D.dep, D.dp⟩
def datU {R1 : Rel α} {R2 : Rel β} (D : DatW R1) (F : DatW R2) : DatW (rSum R1 R2) := ⟨Sum.elim D.d F.d, max D.n F.n, fun x => by
  cases x with
  | inl x => exact Nat.le_trans (D.dep x) (Nat.le_max_left ..)
  | inr x => exact Nat.le_trans (F.dep x) (Nat.le_max_right ..), fun {K x S H v} s r => by
  cases x with
  | inl x => exact D.dp s r
  | inr x => exact F.dp s r⟩
section
variable {ea eb : Expr} {pos : Pos} {R1 : Rel α} {R2 : Rel β}
end
def freprW {R : Rel α} (D : DatW R) (x : α) : M τ Str := chk ((D.d x).showable = true ∧ (D.d x).canLay0 = true ∧ D.n ≤ 60 ∧ (D.d x).shown.length ≤ sizeLine) (ret (D.d x).shown)
theorem rf_sum {R1 : Rel α} {R2 : Rel β} (f : RefR R1) (g : RefR R2) : RefR (rSum R1 R2) := ⟨fun {x _ _} r => by
  cases x with
  | inl x => exact f.h r
  | inr x => exact g.h r⟩
theorem z_reprW {R : Rel α} (D : DatW R) (rf : RefR R) {x : Str} {p pos : Pos} {e : Expr} {m : M τ α} (hgd : c.gd = true) (bl : Blt G c x (.builtin "repr")) (ha : ZE G c E W Γ e m R) (hs : Star e [] := by intro _; rfl) : ZE G c E W Γ (.Call (.Name x p) [e] [] pos) (zapp (freprW D) m) rStr :=
  z_b1 bl (R := R) (r := rReprD G.K) (fun X C => by rw [← C.K]; exact cr_reprD (C.gds hgd) C.room.units) (fun B σ S H b x v Q hh hx q => by
    obtain ⟨⟨h1, h2, h3, h4⟩, q⟩ := aft_chk q
    obtain ⟨a, rfl⟩ := rf.h hx
    exact ⟨a, _, rfl, D.dp hh.same hx, h1, PyData.hasDict_of_canLay _ h2, Nat.le_trans (D.dep x) h3, h4, aft_ret hh q rfl⟩) ha hs
end
end Zk

namespace Zk
open PySem L2
/-! ### try .. except X as e, suites that read e and tell a thing -/
section
variable {τ α β γ δ κ ρ ι θ : Type} {G : Gx} {c : Sc} {E : Eff τ} {W : WX} {Γ Γ' : Env} {B : Bs} {σ : L2.St} {S S1 S' H H' : Hp} {b b' : τ} {L : Ls κ ρ}
/-- what stands at a suite's beginning: e (the name i) is the exception x -/
structure Su (G : Gx) (E : Eff τ) (Γ : Env) (i : Nat) (a : Addr) (cls : Value) (d : Option Addr) (x : Exc) (B : Bs) (S : Hp) (b : τ) (σ : L2.St) (H : Hp) : Prop where
  hh : Hold E B Γ b σ S H
  xa : XAt G x H cls d
  nm : i = 999999 ∨ σ[i]? = some (some (.ref a))
structure SuC (G : Gx) (c : Sc) (W : WX) (X X' : Cx) (a : Addr) (oe : Obj) (cls : Value) (d : Option Addr) : Prop where
  C : CtxOk G c W X
  zc : Zc cls d oe
  fl : ∃ vs, oe.data = .fields vs
  pn : ∃ pn, X' = X.suite a ((a, oe) :: pn)
/-- a scalar of e -/
def HA (G : Gx) (c : Sc) (E : Eff τ) (W : WX) (Γ : Env) (i : Nat) (e : Expr) (f : Exc → Option β) (v : β → V) : Prop :=
  ∀ X X' a oe cls d, SuC G c W X X' a oe cls d → PE X' e (fun σ H Q => ∃ B S b x y, Su G E Γ i a cls d x B S b σ H ∧ f x = some y ∧ Q (v y) H)
/-- a thing made of e -/
def HE (G : Gx) (c : Sc) (E : Eff τ) (W : WX) (Γ : Env) (i : Nat) (e : Expr) (f : Exc → Option β) (R : Rel β) : Prop :=
  ∀ X X' a oe cls d, SuC G c W X X' a oe cls d → PE X' e (fun σ H Q => ∃ B S b x y, Su G E Γ i a cls d x B S b σ H ∧ f x = some y ∧ ∀ v S1 H1, Same S S1 → Hold E B Γ b σ S1 H1 → XAt G x H1 cls d → R.is y S1 v → Q v H1)
/-- a test -/
def HT (G : Gx) (c : Sc) (E : Eff τ) (W : WX) (Γ : Env) (i : Nat) (e : Expr) (f : Exc → Option Bool) : Prop :=
  ∀ X X' a oe cls d, SuC G c W X X' a oe cls d → PT X' e (fun σ H Q => ∃ B S b x y, Su G E Γ i a cls d x B S b σ H ∧ f x = some y ∧ ∀ S1 H1, Same S S1 → Su G E Γ i a cls d x B S1 b σ H1 → Q y H1)
def HW (G : Gx) (c : Sc) (E : Eff τ) (W : WX) (Γ : Env) (i : Nat) (e : Expr) (f : Exc → Option Bool) : Prop :=
  ∀ X X' a oe cls d, SuC G c W X X' a oe cls d → PW X' e (fun σ H Q => ∃ B S b x y, Su G E Γ i a cls d x B S b σ H ∧ f x = some y ∧ ∀ S1 H1, Same S S1 → Su G E Γ i a cls d x B S1 b σ H1 → Q y H1)
/-- a suite -/
def HB (G : Gx) (c : Sc) (E : Eff τ) (W : WX) (L : Ls κ ρ) (Γ : Env) (i : Nat) (sts : List Stmt) (m : Exc → M τ (Fl α κ ρ)) (Γn : α → Env) : Prop :=
  ∀ X X' a oe cls d, SuC G c W X X' a oe cls d → PSs X' sts (fun D σ H => ∃ B S b x, Su G E Γ i a cls d x B S b σ H ∧ aftS G E W L B S Γn D (m x b))
def HS (G : Gx) (c : Sc) (E : Eff τ) (W : WX) (L : Ls κ ρ) (Γ : Env) (i : Nat) (st : Stmt) (m : Exc → M τ (Fl α κ ρ)) (Γn : α → Env) : Prop :=
  ∀ X X' a oe cls d, SuC G c W X X' a oe cls d → PS X' st (fun D σ H => ∃ B S b x, Su G E Γ i a cls d x B S b σ H ∧ aftS G E W L B S Γn D (m x b))
section
variable {i : Nat} {f : Exc → Option β} {v : β → V} {e : Expr}
theorem ha_k {k : β} (hp : ∀ X : Cx, PE X e fun σ H Q => Q (v k) H) : HA G c E W Γ i e (fun _ => some k) v := fun X X' a oe cls d C => pe_wk (hp X') fun σ H Q _ ⟨B, S, b, x, y, _, e, q⟩ => by cases e; exact q
theorem ha_str {k : Str} {j : Nat} {pos : Pos} : HA G c E W Γ i (.Constant (.str k) j pos) (fun _ => some k) V.str := ha_k fun X => pe_str
/-- e.f -/
structure FldC (G : Gx) (n fld : Str) : Prop where
  h : ∃ C, G.mg n = some (.ref C) ∧ XfC G.K C ∧ PySem.W.findIn G.K (.ref C) fld = some none
def xfld (ns : List Str) (fld : Str) (un : V → Option β) (x : Exc) : Option β := if x.cls ∈ ns then (x.fs.lookup fld).bind un else none
def unI : V → Option Int | .int k => some k | _ => none
theorem unI_ok : ∀ w y, unI w = some y → w = .int y := fun w y h => by cases w <;> simp_all [unI]
theorem ha_fld {ns : List Str} {fld n : Str} {un : V → Option β} {np pos : Pos} (nm : Nm c i n) (hi : i ≠ 999999) (hu : ∀ w y, un w = some y → w = v y) (hf : ∀ k ∈ ns, FldC G k fld)
    (hb : ∀ env : PySem.Env, attributeBase (.Name n np) fld env (eval (.Name n np) env) = eval (.Name n np) env := by intro _; rfl) : HA G c E W Γ i (.Attribute (.Name n np) fld pos) (xfld ns fld un) v := fun X X' a oe cls d ⟨C, zc, fl, pn, ep⟩ => by
  subst ep
  refine ⟨fun pins s σ H Q I ⟨B, S, b, x, y, su, e, q⟩ => ?_⟩
  unfold xfld at e
  by_cases hk : x.cls ∈ ns
  case neg => rw [if_neg hk] at e; cases e
  rw [if_pos hk] at e
  obtain ⟨D, h1, h2, h3⟩ := (hf _ hk).h
  obtain ⟨C1, g1, g2, g3⟩ := su.xa
  have : C1 = D := by rw [h1] at g1; cases g1; rfl
  subst this
  rw [← C.K] at h2 h3
  have pv : PE (X.suite a ((a, oe) :: pn)) (.Name n np) (tVar i) := pe_var (C.hi nm.n) (by show Vis X.env.scope _; rw [C.sc]; exact nm.v) nm.d nm.cd
  refine (pe_xf (n := fld) (pos := pos) h2 h3 zc fl pv (hb X.env)).run pins s σ H Q I ⟨.ref a, su.nm.resolve_left hi, rfl, g2, ?_⟩
  cases l : x.fs.lookup fld with
  | none => rw [l] at e; cases e
  | some w =>
    rw [l] at e
    rcases g3 with ⟨g3, _⟩ | ⟨dd, g3, g4⟩
    · rw [g3] at l; cases l
    · exact ⟨dd, x.fs, w, g3, g4, l, by rw [hu w y e]; exact q⟩
/-! things -/
theorem xat_new {x : Exc} {cls : Value} {d : Option Addr} {p : Addr} {o : HO} (h : XAt G x H cls d) (hp : H p = none) : XAt G x (upd H p o) cls d := by
  obtain ⟨C, h1, h2, h3⟩ := h
  refine ⟨C, h1, h2, h3.imp id fun ⟨dd, e, k⟩ => ⟨dd, e, ?_⟩⟩
  rw [upd_ne (fun z => by rw [z, hp] at k; cases k)]
  exact k
theorem he_a {R : Rel β} (h : HA G c E W Γ i e f v) (hr : ∀ y S, R.is y S (v y)) : HE G c E W Γ i e f R := fun X X' a oe cls d C => pe_wk (h X X' a oe cls d C) fun σ H Q _ ⟨B, S, b, x, y, su, e, q⟩ =>
  ⟨B, S, b, x, y, su, e, q (v y) S H (Same.refl _) su.hh su.xa (hr y S)⟩
theorem he_map {R : Rel β} {R2 : Rel γ} {g : β → γ} (h : HE G c E W Γ i e f R) (hr : ∀ y S v, R.is y S v → R2.is (g y) S v) : HE G c E W Γ i e (fun x => (f x).map g) R2 := fun X X' a oe cls d C => pe_wk (h X X' a oe cls d C) fun σ H Q _ ⟨B, S, b, x, y, su, e, q⟩ => by
  dsimp only at e
  cases e1 : f x with
  | none => rw [e1] at e; cases e
  | some z =>
    rw [e1] at e
    cases e
    exact ⟨B, S, b, x, z, su, e1, fun v S1 H1 s hh xa r => q v S1 H1 s hh xa (hr z S1 v r)⟩
/-! tests -/
theorem ht_val {f : Exc → Option Bool} (h : HA G c E W Γ i e f V.bl) (he : ∀ (env : PySem.Env) whole, isTrue e env whole = (do let v ← whole; standAt e.pos; holding [v] (truthy v)) := by intro _ _; rfl) : HT G c E W Γ i e f := fun X X' a oe cls d C =>
  pt_wk (pt_val (h X X' a oe cls d C) (he X'.env)) fun σ H Q _ ⟨B, S, b, x, y, su, e, q⟩ => ⟨B, S, b, x, y, su, e, y, rfl, q S H (Same.refl _) su⟩
theorem ht_not {f : Exc → Option Bool} {pos : Pos} (h : HT G c E W Γ i e f) : HT G c E W Γ i (.UnaryOp .Not e pos) (fun x => (f x).map not) := fun X X' a oe cls d C => pt_wk (pt_not (h X X' a oe cls d C)) fun σ H Q _ ⟨B, S, b, x, y, su, e, q⟩ => by
  dsimp only at e
  cases e1 : f x with
  | none => rw [e1] at e; cases e
  | some z => rw [e1] at e; cases e; exact ⟨B, S, b, x, z, su, e1, q⟩
theorem hw_t {f : Exc → Option Bool} (h : HW G c E W Γ i e f) : HT G c E W Γ i e f := fun X X' a oe cls d C => (h X X' a oe cls d C).pt
theorem hw_or1 {f : Exc → Option Bool} {pos : Pos} (h : HT G c E W Γ i e f) : HW G c E W Γ i (.BoolOp .Or [e] pos) f := fun X X' a oe cls d C => pw_or1 (h X X' a oe cls d C)
def hor (f g : Exc → Option Bool) (x : Exc) : Option Bool := (f x).bind fun y => if y = true then some true else g x
theorem hw_or {u w : Expr} {rest : List Expr} {f g : Exc → Option Bool} {pos : Pos} (h : HT G c E W Γ i u f) (h2 : HW G c E W Γ i (.BoolOp .Or (w :: rest) pos) g) : HW G c E W Γ i (.BoolOp .Or (u :: w :: rest) pos) (hor f g) := fun X X' a oe cls d C =>
  pw_wk (pw_or (h X X' a oe cls d C) (h2 X X' a oe cls d C)) fun σ H Q ⟨B, S, b, x, y, su, e, q⟩ => by
    unfold hor at e
    cases e1 : f x with
    | none => rw [e1] at e; cases e
    | some z =>
      rw [e1] at e
      refine ⟨B, S, b, x, z, su, e1, fun S1 H1 s su1 => ?_⟩
      cases z with
      | false => exact ⟨B, S1, b, x, y, su1, e, fun S2 H2 s2 su2 => q S2 H2 (s.trans s2) su2⟩
      | true => cases e; exact q S1 H1 s su1
/-- what an own class of exceptions says of itself: isinstance -/
structure IsC (G : Gx) (n : Str) : Prop where
  h : ∃ C, G.mg n = some (.ref C) ∧ L2.ExcC G.K C
theorem kitx_own {K : PySem.W.Frag} {D a : Addr} {oe : Obj} {od : Option Obj} (C : L2.ExcC K D) : PySem.W.KitX K (.ref a) (.ref D) (fun h => PySem.W.InstAt h a oe D od) :=
  PySem.W.kitx_exc (by obtain ⟨cd, hc, _⟩ := PySem.W.any_some C.hd; rw [hc]; rfl) C.hg C.hk C.hs C.ha C.hn C.ht C.hm
theorem inst_own {H : Hp} {s : Shared} {X : Cx} {a D : Addr} {oe : Obj} {d : Option Addr} {pn pins : List (Addr × Obj)} {fs : List (Str × V)} {σ : L2.St} (I : Inv (X.suite a ((a, oe) :: pn)) pins σ H s) (zc : Zc (.ref D) d oe) (fl : ∃ vs, oe.data = .fields vs) (h : (fs = [] ∧ d = none) ∨ ∃ dd, d = some dd ∧ H dd = some (.xd fs)) :
    ∃ od, PySem.W.InstAt s.heap a oe D od := by
  obtain ⟨hget, _⟩ := I.pin (a, oe) (List.mem_append.mpr (.inl List.mem_cons_self))
  obtain ⟨vs, hv⟩ := fl
  rcases h with ⟨_, rfl⟩ | ⟨dd, rfl, ea⟩
  · refine ⟨none, ?_⟩
    obtain ⟨oc, od, oda, osl⟩ := oe
    obtain ⟨h1, h2⟩ := zc
    dsimp only at h1 h2 hv
    subst h1 h2 hv
    exact ⟨hget, rfl, rfl, trivial⟩
  · obtain ⟨mA, hns, hr⟩ : ObjOk X.prog X.w H s.heap dd (.xd fs) := I.hok dd _ ea
    obtain ⟨od, ho, hl⟩ := L2.lookIn_ns hns
    exact ⟨some od, hget, zc.1, by unfold PySem.W.notCls; rw [hv] <;> rfl, by rw [zc.2]; exact ho⟩
/-- isinstance(e, c): c an own class, or a built-in one -/
theorem ht_isi {t : Str → Option Bool} {n : Str} {np p pos : Pos} {y : Expr} {v0 : V} {cv : Value} (nm : Nm c i n) (hi : i ≠ 999999) (bl : Blt G c "isinstance" (.builtin "isinstance")) (hy : ∀ X, CtxOk G c W X → ∀ a pn, PE (X.suite a pn) y fun σ H Q => Q v0 H) (hcv : ∀ u, RelV v0 u → u = cv)
    (ht : ∀ k b, t k = some b → ∃ D, G.mg k = some (.ref D) ∧ L2.ExcC G.K D ∧ PySem.W.kitOne G.K (.ref D) cv = some b)
    (hs : Star (.Name n np) [y] := by intro _; rfl) (hs2 : Star y [] := by intro _; rfl) : HA G c E W Γ i (.Call (.Name "isinstance" p) [.Name n np, y] [] pos) (fun x => t x.cls) V.bl := fun X X' a oe cls d ⟨C, zc, fl, pn, ep⟩ => by
  subst ep
  have pv : PE (X.suite a ((a, oe) :: pn)) (.Name n np) (tVar i) := pe_var (C.hi nm.n) (by show Vis X.env.scope _; rw [C.sc]; exact nm.v) nm.d nm.cd
  have cr : CallR (X.suite a ((a, oe) :: pn)) (.builtin "isinstance") (fun xs H Q => ∃ (x : Exc) (b : Bool), xs = [.ref a, v0] ∧ XAt G x H cls d ∧ t x.cls = some b ∧ Q (.bl b) H) := by
    intro pins s σ H xs us Q I r h
    obtain ⟨x, b, rfl, xa, e, q⟩ := h
    cases r with
    | cons rx rr =>
      cases rr with
      | cons rt rr =>
        cases rr
        cases rx
        have ec := hcv _ rt
        subst ec
        obtain ⟨D, m1, xc, m2⟩ := ht _ _ e
        obtain ⟨D', g1, g2, g3⟩ := xa
        have : D' = D := by rw [m1] at g1; cases g1; rfl
        subst this
        subst g2
        rw [← C.K] at xc m2
        obtain ⟨od, J⟩ := inst_own I zc fl g3
        exact PySem.W.kia_one (kitx_own xc) I.kIn J m2 (fun z => nomatch z) fun tk => ⟨.bl b, H, I.kept (t' := tk) fun _ _ z => z, rfl, q⟩
  exact pe_wk (pe_callB cr (C.gl bl.g) (by show X.mg _ = _; rw [C.mg]; exact bl.m) bl.v (pa_cons pv (pa_cons (hy X C a _) pa_nil (hs2 X.env)) (hs X.env)) bl.n bl.d (hs X.env) (by show (backTo _ (starEach [y] X.env)).any _ = false; rw [hs2 X.env]; rfl)) fun σ H Q _ ⟨B, S, b, x, y, su, e, q⟩ =>
    ⟨.ref a, su.nm.resolve_left hi, x, y, rfl, su.xa, e, q⟩
/-- isinstance(e, (c, ..)) -/
theorem ht_valE {f : Exc → Option Bool} (h : HE G c E W Γ i e f rBl) (he : ∀ (env : PySem.Env) whole, isTrue e env whole = (do let v ← whole; standAt e.pos; holding [v] (truthy v)) := by intro _ _; rfl) : HT G c E W Γ i e f := fun X X' a oe cls d C =>
  pt_wk (pt_val (h X X' a oe cls d C) (he X'.env)) fun σ H Q _ ⟨B, S, b, x, y, su, e, q⟩ => ⟨B, S, b, x, y, su, e, fun v S1 H1 s1 h1 xa r => ⟨y, r, q S1 H1 s1 ⟨h1, xa, su.nm⟩⟩⟩
/-- classes written one behind another -/
structure Ys (G : Gx) (c : Sc) (W : WX) (ys : List Expr) (vs : List V) (us : List Value) : Prop where
  p : ∀ X, CtxOk G c W X → ∀ a pn, PA (X.suite a pn) ys fun σ H Q => Q vs H
  k : Paired ClsV vs us
theorem ys_nil : Ys G c W [] [] [] := ⟨fun X C a pn => pa_wk pa_nil fun σ H Q _ q => q, .nil⟩
theorem ys_own {y : Str} {p2 : Pos} {C0 : Addr} {ys : List Expr} {vs : List V} {us : List Value} (g2 : Gb c y) (m2 : G.mg y = some (.ref C0)) (hd2 : (y == ("__debug__" : Str)) = false) (h : Ys G c W ys vs us) (hs : Star (.Name y p2) ys := by intro _; rfl) : Ys G c W (.Name y p2 :: ys) (.ref C0 :: vs) (.ref C0 :: us) :=
  ⟨fun X C a pn => pa_wk (pa_cons (pe_glob (X := X.suite a pn) (v := .ref C0) (C.gl g2) (by show X.mg _ = _; rw [C.mg]; exact m2) rfl hd2) (h.p X C a pn) (hs X.env)) fun σ H Q _ q => q, .cons (.own C0) h.k⟩
theorem he_isiT {t : Str → Option Bool} {n : Str} {np p pos tp : Pos} {ys : List Expr} {vs : List V} {us : List Value} {kk} (nm : Nm c i n) (hi : i ≠ 999999) (bl : Blt G c "isinstance" (.builtin "isinstance")) (hy : Ys G c W ys vs us)
    (ht : ∀ k b, t k = some b → ∃ D, G.mg k = some (.ref D) ∧ L2.ExcC G.K D ∧ PySem.W.kitAny G.K (.ref D) us = some b) (hl : vs.length ≤ sizeLine)
    (hs : Star (.Name n np) [.Tuple ys kk tp] := by intro _; rfl) (hs2 : Star (.Tuple ys kk tp) [] := by intro _; rfl) : HE G c E W Γ i (.Call (.Name "isinstance" p) [.Name n np, .Tuple ys kk tp] [] pos) (fun x => t x.cls) rBl := fun X X' a oe cls d ⟨C, zc, fl, pn, ep⟩ => by
  subst ep
  have pv : PE (X.suite a ((a, oe) :: pn)) (.Name n np) (tVar i) := pe_var (C.hi nm.n) (by show Vis X.env.scope _; rw [C.sc]; exact nm.v) nm.d nm.cd
  have cr : CallR (X.suite a ((a, oe) :: pn)) (.builtin "isinstance") (fun xs H Q => ∃ (x : Exc) (b : Bool) (q : Addr), xs = [.ref a, .ref q] ∧ H q = some (.tup vs) ∧ XAt G x H cls d ∧ t x.cls = some b ∧ Q (.bl b) H) := by
    intro pins s σ H xs ws Q I r h
    obtain ⟨x, b, tp, rfl, hT, xa, e, q⟩ := h
    cases r with
    | cons rx rr =>
      cases rr with
      | cons rt rr =>
        cases rr
        cases rx
        cases rt
        obtain ⟨D, m1, xc, m2⟩ := ht _ _ e
        obtain ⟨D', g1, g2, g3⟩ := xa
        have : D' = D := by rw [m1] at g1; cases g1; rfl
        subst this
        subst g2
        rw [← C.K] at xc m2
        obtain ⟨od, J⟩ := inst_own I zc fl g3
        obtain ⟨_, its, rv, o, h1, h2, n, h3⟩ := (show ObjOk X.prog X.w H s.heap tp (.tup vs) from I.hok tp _ hT)
        have e3 := ClsV.all hy.k rv
        subst e3
        obtain ⟨oc, od', dt, sl⟩ := o
        simp only at h2 h3
        subst h2 h3
        exact PySem.W.kia_tup (kitx_own xc) I.kIn J h1 m2 (fun z => nomatch z) fun tk => ⟨.bl b, H, I.kept (t' := tk) fun _ _ z => z, rfl, q⟩
  exact pe_wk (pe_callB cr (C.gl bl.g) (by show X.mg _ = _; rw [C.mg]; exact bl.m) bl.v (pa_cons pv (pa_cons (pe_tup (hy.p X C a _)) pa_nil (hs2 X.env)) (hs X.env)) bl.n bl.d (hs X.env) (by show (backTo _ (starEach [_] X.env)).any _ = false; rw [hs2 X.env]; rfl)) fun σ H Q _ ⟨B, S, b, x, y, su, e, q⟩ =>
    ⟨.ref a, su.nm.resolve_left hi, hl, fun p hp => by
      have hn := su.hh.new (o := .tup vs) hp
      exact ⟨x, y, p, rfl, upd_same, xat_new su.xa hp, e, q (.bl y) _ _ (same_new (su.hh.same.free hp)) hn (xat_new su.xa hp) rfl⟩⟩
theorem hy_own {y : Str} {p2 : Pos} {C0 : Addr} (g2 : Gb c y) (m2 : G.mg y = some (.ref C0)) (hd2 : (y == ("__debug__" : Str)) = false) : ∀ X, CtxOk G c W X → ∀ a pn, PE (X.suite a pn) (.Name y p2) fun σ H Q => Q (.ref C0) H := fun X C a pn =>
  pe_glob (X := X.suite a pn) (v := .ref C0) (C.gl g2) (by show X.mg _ = _; rw [C.mg]; exact m2) rfl hd2
theorem hy_blt {y : Str} {p2 : Pos} {n : String} (b2 : Blt G c y (.type n)) : ∀ X, CtxOk G c W X → ∀ a pn, PE (X.suite a pn) (.Name y p2) fun σ H Q => Q (.ty n) H := fun X C a pn =>
  pe_bltn (X := X.suite a pn) (v := .ty n) (C.gl b2.g) (by show X.mg _ = _; rw [C.mg]; exact b2.m) b2.v rfl b2.n b2.d
theorem hcv_own {C0 : Addr} : ∀ u, RelV (.ref C0) u → u = .ref C0 := fun u h => h
theorem hcv_ty {n : String} : ∀ u, RelV (.ty n) u → u = .type n := fun u h => h
/-! suites -/
theorem hs_ret {f : Exc → Option ρ} {pos : Pos} {Γn : α → Env} (h : HE G c E W Γ i e f L.R) (ho : ∀ r v, L.o r v = [] := by intro _ _; rfl) : HS G c E W L Γ i (.Return (some e) pos) (fun x => bnd (mopt (f x)) fun r => ret (.rt r)) Γn := fun X X' a oe cls d C =>
  ps_wk (ps_ret (h X X' a oe cls d C)) fun D σ H _ ⟨B, S, b, x, su, q⟩ => by
    dsimp only at q
    cases e1 : f x with
    | none => rw [e1] at q; exact q.elim
    | some y =>
      rw [e1] at q
      refine ⟨B, S, b, x, y, su, e1, fun v S1 H1 s hh _ r => ?_⟩
      exact q v σ S1 H1 (by rw [ho]; exact hh.nil) r
theorem hb_one {st : Stmt} {m : Exc → M τ (Fl α κ ρ)} {Γn : α → Env} (h : HS G c E W L Γ i st m Γn) : HB G c E W L Γ i [st] m Γn := fun X X' a oe cls d C => pss_wk (pss_one (h X X' a oe cls d C)) fun D σ H _ q => q
/-- hands back a thing, if anything -/
def OnRt (m : Exc → M τ (Fl α κ ρ)) : Prop := ∀ x s r s', m x s = .ok r s' → ∃ y, r = .rt y
theorem on_ret {f : Exc → Option ρ} : OnRt (fun x => bnd (mopt (f x)) fun r => ret (.rt r) : Exc → M τ (Fl α κ ρ)) := fun x s r s' h => by
  dsimp only at h
  cases e : f x with
  | none => rw [e] at h; cases h
  | some y => rw [e] at h; cases h; exact ⟨y, rfl⟩
/-- if ..: (never goes on); and what stands behind -/
theorem hb_if {a1 : List Stmt} {rest : List Stmt} {f : Exc → Option Bool} {n o : Exc → M τ (Fl α κ ρ)} {Γn : α → Env} {pos : Pos} (h : HT G c E W Γ i e f) (ha : HB G c E W L Γ i a1 n Γn) (hx : OnRt n) (hr : HB G c E W L Γ i rest o Γn) : HB G c E W L Γ i (.If e a1 [] pos :: rest) (fun x => bnd (mopt (f x)) fun y => if y = true then n x else o x) Γn := fun X X' a oe cls d C => by
  refine pss_wk (pss_cons (ps_if (h X X' a oe cls d C) (ha X X' a oe cls d C) pss_nil) (hr X X' a oe cls d C)) fun D σ H hl ⟨B, S, b, x, su, q⟩ => ?_
  dsimp only at q
  cases e1 : f x with
  | none => rw [e1] at q; exact q.elim
  | some y =>
    rw [e1] at q
    refine ⟨B, S, b, x, y, su, e1, fun S1 H1 s1 su1 => ?_⟩
    cases y with
    | false => exact ⟨B, S1, b, x, su1, q.same s1⟩
    | true =>
      refine ⟨B, S1, b, x, su1, ?_⟩
      have q2 : aftS G E W L B S1 Γn D (n x b) := q.same s1
      cases e2 : n x b with
      | stuck => rw [e2] at q2; exact q2
      | exc z b' => rw [e2] at q2; exact q2
      | ok r b' =>
        rw [e2] at q2
        cases r with
        | nx r => obtain ⟨y, z⟩ := hx x b _ b' e2; cases z
        | rt r => exact q2
        | bk r => exact q2
        | ct r => exact q2
/-! ### the statement -/
def ztryX (cat : Str → Option Bool) (m : M τ (Fl α κ ρ)) (hm : Exc → M τ (Fl α κ ρ)) : M τ (Fl α κ ρ) := fun s => match m s with
  | .ok a s' => .ok a s'
  | .exc e s' => match cat e.cls with | some true => hm e s' | some false => .exc e s' | none => .stuck
  | .stuck => .stuck
/-- what the name e is behind a suite: unknown -/
structure Unk (i : Nat) (Γ : Env) : Prop where
  h : ∀ s, Γ[i]? = some s → s = .no
theorem hold_set_unk {v : Option V} (u : Unk i Γ) (h : Hold E B Γ b σ S H) : Hold E B Γ b (σ.set i v) S H := by
  obtain ⟨kp, ef, Fs, ft, sl⟩ := h
  refine ⟨kp, ef, Fs, ft, fun j s hj => ?_⟩
  by_cases z : j = i
  · subst z
    have := u.h s hj
    subst this
    exact sl j .no hj |> fun _ => by
      first
      | trivial
      | exact sl j .no hj
  · rw [List.getElem?_set_ne (fun q => z q.symm)]
    exact sl j s hj
theorem fc_nil {fld : Str} : ∀ k ∈ ([] : List Str), FldC G k fld := fun k h => by cases h
theorem fc_cons {fld n : Str} {ns : List Str} {C : Addr} (h : G.mg n = some (.ref C)) (x : L2.ExcC G.K C) (f : PySem.W.findIn G.K (.ref C) fld = some none) (r : ∀ k ∈ ns, FldC G k fld) : ∀ k ∈ n :: ns, FldC G k fld := fun k hk => by
  rcases List.mem_cons.mp hk with rfl | hk
  · exact ⟨C, h, ⟨x.hg, x.hk, x.hs, x.hd⟩, f⟩
  · exact r k hk
theorem it_nil {cv : Value} : ∀ k b, (fun _ : Str => (none : Option Bool)) k = some b → ∃ D, G.mg k = some (.ref D) ∧ L2.ExcC G.K D ∧ PySem.W.kitOne G.K (.ref D) cv = some b := fun _ _ h => by cases h
theorem it_cons {cv : Value} {n0 : Str} {b0 : Bool} {C : Addr} {t : Str → Option Bool} (h : G.mg n0 = some (.ref C)) (x : L2.ExcC G.K C) (kk : PySem.W.kitOne G.K (.ref C) cv = some b0) (r : ∀ k b, t k = some b → ∃ D, G.mg k = some (.ref D) ∧ L2.ExcC G.K D ∧ PySem.W.kitOne G.K (.ref D) cv = some b) :
    ∀ k b, (fun n => if n = n0 then some b0 else t n) k = some b → ∃ D, G.mg k = some (.ref D) ∧ L2.ExcC G.K D ∧ PySem.W.kitOne G.K (.ref D) cv = some b := fun k b e => by
  dsimp only at e
  split at e
  · rename_i z
    subst z
    cases e
    exact ⟨C, h, x, kk⟩
  · exact r k b e
theorem ia_nil {us : List Value} : ∀ k b, (fun _ : Str => (none : Option Bool)) k = some b → ∃ D, G.mg k = some (.ref D) ∧ L2.ExcC G.K D ∧ PySem.W.kitAny G.K (.ref D) us = some b := fun _ _ h => by cases h
theorem ia_cons {us : List Value} {n0 : Str} {b0 : Bool} {C : Addr} {t : Str → Option Bool} (h : G.mg n0 = some (.ref C)) (x : L2.ExcC G.K C) (kk : PySem.W.kitAny G.K (.ref C) us = some b0) (r : ∀ k b, t k = some b → ∃ D, G.mg k = some (.ref D) ∧ L2.ExcC G.K D ∧ PySem.W.kitAny G.K (.ref D) us = some b) :
    ∀ k b, (fun n => if n = n0 then some b0 else t n) k = some b → ∃ D, G.mg k = some (.ref D) ∧ L2.ExcC G.K D ∧ PySem.W.kitAny G.K (.ref D) us = some b := fun k b e => by
  dsimp only at e
  split at e
  · rename_i z
    subst z
    cases e
    exact ⟨C, h, x, kk⟩
  · exact r k b e
theorem ka_nil {K : PySem.W.Frag} {t : Value} : PySem.W.kitAny K t [] = some false := rfl
theorem ka_f {K : PySem.W.Frag} {t u : Value} {us : List Value} {b : Bool} (h : PySem.W.kitOne K t u = some false) (r : PySem.W.kitAny K t us = some b) : PySem.W.kitAny K t (u :: us) = some b := kitAny_cons h (fun _ => r) (fun z => by cases z)
end
end
end Zk

namespace Zk
open PySem L2
/-! ### xs.pop(..) as a value; things of one of two kinds: places, isinstance; data of such -/
section
variable {τ α β γ δ κ ρ ρ' ι θ : Type} {G : Gx} {c : Sc} {E : Eff τ} {W : WX} {Γ Γ' : Env} {B : Bs} {σ : St} {S S1 S' H H' : Hp} {b b' : τ} {L : Ls κ ρ}
end
end Zk

namespace Zk
open PySem L2
section
variable {τ α β γ δ κ ρ ρ' ι θ : Type} {G : Gx} {c : Sc} {E : Eff τ} {W : WX} {Γ Γ' : Env} {B : Bs} {σ : L2.St} {S S1 S' H H' : Hp} {b b' : τ} {L : Ls κ ρ}
/-! ### try, the names kept; suites that go on -/
/-- nothing of one's own is known -/
def OnlySt (Γ : Env) : Prop := ∀ (i : Nat) s, Γ[i]? = some s → s = .no ∨ ∃ p, s = .st p
theorem onlySt_nil : OnlySt [] := fun i s h => by cases h
theorem onlySt_no {Γ : Env} (h : OnlySt Γ) : OnlySt (.no :: Γ) := fun i s e => by
  cases i with
  | zero => exact .inl (by simpa using e.symm)
  | succ i => exact h i s (by simpa using e)
theorem onlySt_st {Γ : Env} {p : Pr} (h : OnlySt Γ) : OnlySt (.st p :: Γ) := fun i s e => by
  cases i with
  | zero => exact .inr ⟨p, by simpa using e.symm⟩
  | succ i => exact h i s (by simpa using e)
theorem Hold.rebase (h : Hold E B Γ b σ S H) (o : OnlySt Γ) : Hold E ⟨S, H⟩ Γ b σ S H := by
  obtain ⟨kp, ef, Fs, ft, sl⟩ := h
  refine ⟨⟨kp.same, Same.refl _, fun a o e1 e2 _ => ⟨e1, e2⟩⟩, ef, fun _ _ => False, ⟨fun _ _ z => z.elim, fun _ _ _ z => z.elim⟩, fun i s hi => ?_⟩
  rcases o i s hi with rfl | ⟨p, rfl⟩
  · trivial
  · exact sl i _ hi
theorem Hold.debase {σ' : L2.St} (h : Hold E B Γ b σ S H) (k : Hold E ⟨S, H⟩ Γ' b' σ' S' H') : Hold E B Γ' b' σ' S' H' := by
  obtain ⟨kp, ef, _⟩ := h
  obtain ⟨kp', ef', Fs, ft, sl⟩ := k
  refine ⟨⟨kp'.same, kp.up.trans kp'.up, fun a o e1 e2 e3 => ?_⟩, ef', Fs, ⟨fun i a f => ?_, ft.ds⟩, sl⟩
  · obtain ⟨q1, q2⟩ := kp.kp a o e1 e2 e3
    exact kp'.kp a o q1 q2 e3
  · obtain ⟨f1, f2, f3, f4⟩ := ft.at_ i a f
    refine ⟨f1, ?_, f3, f4⟩
    cases q : B.H a with
    | none => rfl
    | some o =>
      exfalso
      have f2 : H a = none := f2
      cases q2 : B.S a with
      | some o' => have := kp.same _ _ (kp.up _ _ q2); rw [f2] at this; cases this
      | none => have := (kp.kp a o q2 q f3).2; rw [f2] at this; cases this
theorem aft_debase {Γn : α → Env} {D : Ends} {L' : Ls κ ρ} (h : Hold E B Γ b σ S H) (hk : L'.k = L.k) (hR : L'.R = L.R) (ho : L'.o = L.o) (W' : WX) : ∀ {o : Out τ (Fl α κ ρ)}, (∀ x b', o ≠ .exc x b') → aftS G E W L B S Γn D o → aftS G E W' L' ⟨S, H⟩ S Γn D o := by
  intro o no q
  cases o with
  | stuck => exact q
  | exc x b' => exact absurd rfl (no x b')
  | ok r b' =>
    cases r with
    | nx a => exact fun σ' S' H' s k => q σ' S' H' s (h.debase k)
    | rt r => exact fun v σ' S' H' k e => q v σ' S' H' (h.debase (by rw [← ho]; exact k)) (by rw [← hR]; exact e)
    | bk a => exact fun σ' S' H' s k => q σ' S' H' s (h.debase (by rw [← hk]; exact k))
    | ct a => exact fun σ' S' H' s k => q σ' S' H' s (h.debase (by rw [← hk]; exact k))
/-- what a suite tells, seen from where the statement began -/
theorem aft_up {Γn : α → Env} {D : Ends} {hm : M τ (Fl α κ ρ)} (s : Same S S') (q : aftS G E W L B S Γn D (hm b)) : aftS G E W L B S' Γn D (hm b) := q.same s
abbrev Ls.keep (L : Ls κ ρ) (Γx : Env) : Ls κ ρ := { L with x := Γx }
theorem zs_tryG {Γx : Env} {x n : Str} {i : Nat} {C0 : Addr} {cat : Str → Option Bool} {body : List Stmt} {b0 : Stmt} {suite : List Stmt} {np pos pos' : Pos} {m : M τ (Fl α κ ρ)} {hm : Exc → M τ (Fl α κ ρ)} {Γn : α → Env} (os : OnlySt Γ) (nm : Ns c i n) (hk : c.sc.names.lookup n = some .local) (g : Gb c x) (hg : G.mg x = some (.ref C0)) (hd : (x == ("__debug__" : Str)) = false) (hf : c.fn = true)
    (hcat : ∀ n b C', cat n = some b → G.mg n = some (.ref C') → PySem.W.exmOne G.K (.ref C') (.ref C0) = some b) (sx : ∀ B b σ S H, Hold E B Γx b σ S H → ∃ S', Hold E B L.x b σ S' H)
    (ux : Unk i Γx) (un : ∀ a, Unk i (Γn a)) (uk : ∀ a, Unk i (L.k a))
    (h : ∀ W', ZB G c E W' (L.keep Γx) Γ body m Γn) (hh : HB G c E W L Γx i (b0 :: suite) hm Γn) : ZS G c E W L Γ (.Try body [.ExceptHandler (some (.Name x np)) (some n) (b0 :: suite) pos'] [] [] pos) (ztryX cat m hm) Γn := fun X C =>
  ps_wk (ps_try_as (C.isfn hf).1 (C.isfn hf).2 C.set_hN (C.hi nm.n) (by show X.env.scope.names.lookup n = _; rw [C.sc]; exact hk) ⟨C.gl g, hd, .inl (by rw [C.mg]; exact hg)⟩ C.takes (fun W' pn xe tk ow => h W' _ (C.tr tk ow)) (ts := fun a cls d D σ H => ∃ (σ0 : L2.St), ∃ B S b x, σ = σ0.set i (some (.ref a)) ∧ Hold E B Γx b σ S H ∧ XAt G x H cls d ∧ aftS G E W L B S Γn D (hm x b))
    (fun a oe cls d pn zc fl => pss_wk (hh X _ a oe cls d ⟨C, zc, fl, pn, rfl⟩) fun D σ H hl ⟨σ0, B, S, b, x, e, h1, xa, q⟩ => ⟨B, S, b, x, ⟨h1, xa, .inr (by
      subst e
      rw [List.getElem?_set_self]
      rw [List.length_set] at hl
      rw [hl]
      exact (List.getElem?_eq_some_iff.mp (C.hi nm.n)).1)⟩, q⟩)) fun D σ H hl ⟨B, S, b, hh, q⟩ => by
    refine ⟨⟨S, H⟩, S, b, hh.rebase os, ?_⟩
    unfold ztryX at q
    cases e1 : m b with
    | stuck => rw [e1] at q; exact q.elim
    | ok a b1 =>
      rw [e1] at q
      exact aft_debase (L := L) (L' := L.keep Γx) (o := .ok a b1) hh rfl rfl rfl _ (fun x b' z => by cases z) q
    | exc x1 b1 =>
      rw [e1] at q
      intro cl d σ' S' H' h1 xa
      dsimp only at q
      obtain ⟨C', k1, k2, _⟩ := id xa
      have hs : Same S S' := h1.kp.up
      have h2 := hh.debase h1
      cases e2 : cat x1.cls with
      | none => rw [e2] at q; exact q.elim
      | some t =>
        rw [e2] at q
        have ex := hcat _ _ _ e2 k1
        refine ⟨t, by rw [C.K, k2]; exact ex, fun et a ha => ?_, fun et => ?_⟩
        · subst et
          refine ⟨σ', B, S', b1, x1, rfl, hold_set_unk ux h2, xa, ?_⟩
          have q2 : aftS G E W L B S' Γn D (hm x1 b1) := aft_up (hm := hm x1) hs q
          cases e3 : hm x1 b1 with
          | stuck => rw [e3] at q2; exact q2.elim
          | exc z b2 => rw [e3] at q2; exact q2
          | ok r b2 =>
            rw [e3] at q2
            cases r with
            | nx r => exact fun σ2 S2 H2 s2 h2 => q2 _ S2 H2 s2 (hold_set_unk (un r) h2)
            | rt r => exact q2
            | bk r => exact fun σ2 S2 H2 s2 h2 => q2 _ S2 H2 s2 (hold_set_unk (uk r) h2)
            | ct r => exact fun σ2 S2 H2 s2 h2 => q2 _ S2 H2 s2 (hold_set_unk (uk r) h2)
        · subst et
          obtain ⟨S2, h3⟩ := sx _ _ _ _ _ h2
          exact q cl d σ' S2 H' h3 xa
theorem sx_of (h : Sub E Γ Γ') : ∀ B b σ S H, Hold E B Γ b σ S H → ∃ S', Hold E B Γ' b σ S' H := fun B b σ S H k => let ⟨S', _, k'⟩ := h k; ⟨S', k'⟩
/-! ### places of things of one of two kinds -/
/-! ### data with such within -/
def dat2w {R : Rel α} {R2 : Rel β} (D : DatW R) (D2 : DatW R2) : DatW (rT2 R R2) := ⟨fun x => .tuple [D.d x.1, D2.d x.2], max D.n D2.n + 1, fun x => by have := D.dep x.1; have := D2.dep x.2; simp only [PyData.depth, PyData.depthAll]; omega,
  fun s ⟨a, u, w, e, h, q, q2⟩ => by cases e; exact .tup (.of (s _ _ h)) (.cons (D.dp s q) (.cons (D2.dp s q2) .nil))⟩
theorem unk_at {i : Nat} (h : Γ[i]? = some .no ∨ Γ[i]? = none) : Unk i Γ := ⟨fun s e => by
  rcases h with h | h
  · rw [h] at e; cases e; rfl
  · rw [h] at e; cases e⟩
/-- told by another kind -/
theorem z_relF {R : Rel α} {R2 : Rel β} {f : α → β} {e : Expr} {m : M τ α} (hr : ∀ x S v, R.is x S v → R2.is (f x) S v) (h : ZE G c E W Γ e m R) : ZE G c E W Γ e (zget f m) R2 := fun X C => pe_wk (h X C) fun σ H Q _ ⟨B, S, b, hh, q⟩ =>
  tz_bnd hh q fun x b1 v S1 H1 s1 h1 r1 q1 => aft_ret h1 q1 (hr x S1 v r1)
/-- isinstance of one of two kinds, and a built-in class -/
structure IsTU (G : Gx) (R : Rel α) (y : String) (f : α → Bool) : Prop where
  h : ∀ {x : α} {S H : Hp} {v : V}, Same S H → R.is x S v → ∃ t, TyX G.K H v t ∧ PySem.W.kitOne G.K t (.type y) = some (f x)
end
end Zk

namespace Zk
open PySem L2
/-! ### min of names; one or none by a test -/
section
variable {τ α β γ δ κ ρ ρ' ι θ : Type} {G : Gx} {c : Sc} {E : Eff τ} {W : WX} {Γ Γ' : Env} {B : Bs} {σ : L2.St} {S S1 S' H H' : Hp} {b b' : τ} {L : Ls κ ρ}
end
end Zk

namespace Zk
open PySem L2
/-! ### d.update(e); a record copied, two of its items new dicts of its own -/
section
variable {τ α β γ δ κ ρ ρ' ι θ : Type} {G : Gx} {c : Sc} {E : Eff τ} {W : WX} {Γ Γ' : Env} {B : Bs} {σ : L2.St} {S S1 S' H H' : Hp} {b b' : τ} {L : Ls κ ρ}
theorem Hold.fresh {D : Addr} (h : Hold E B Γ b σ S H) (hD : H D = none) : S D = none ∧ B.S D = none ∧ B.H D = none ∧ ¬ E.own D := by
  have hE := h.fr hD
  have hS := h.same.free hD
  have hBS := h.kp.up.free hS
  refine ⟨hS, hBS, ?_, hE⟩
  cases z : B.H D with
  | none => rfl
  | some o => have := (h.kp.kp D o hBS z hE).2; rw [hD] at this; cases this
/-- what is kept at l goes into a ghost slot -/
theorem Hold.toG {l : Addr} {o : HO} {g : Nat} {p : PrO} (h : Hold E (Bd B l o) Γ b σ S H) (hg : Γ[g]? = some .no) (hBS : B.S l = none) (hBH : B.H l = none) (hE : ¬ E.own l) (hp : p.p S H .non (fun a => a = l)) : Hold E B (Γ.set g (.gh p)) b σ S H := by
  obtain ⟨hS, hH⟩ := h.cellAt hBS hE
  obtain ⟨Fs, hF, hs⟩ := h.sl
  have nl : ∀ i a, Fs i a → a ≠ l := fun i a e z => by
    have := (hF.at_ i a e).2.1
    rw [z] at this
    have : upd B.H l o l = none := this
    rw [upd_same] at this; cases this
  have hu := h.unBd hBH
  refine ⟨hu.kp, hu.ef, fun i a => (i ≠ g ∧ Fs i a) ∨ (i = g ∧ a = l), ⟨fun i a e => ?_, fun i k a e1 e2 => ?_⟩, fun i s e => ?_⟩
  · rcases e with ⟨_, e⟩ | ⟨_, rfl⟩
    · obtain ⟨r1, r2, r3, r4⟩ := hF.at_ i a e
      refine ⟨r1, ?_, r3, r4⟩
      have r2 : upd B.H l o a = none := r2
      rw [upd_ne (nl i a e)] at r2
      exact r2
    · exact ⟨hS, hBH, hE, _, hH⟩
  · rcases e1 with ⟨_, e1⟩ | ⟨k1, e1⟩ <;> rcases e2 with ⟨_, e2⟩ | ⟨k2, e2⟩
    · exact hF.ds i k a e1 e2
    · exact absurd e2 (nl i a e1)
    · exact absurd e1 (nl k a e2)
    · rw [k1, k2]
  · rcases set_get e with ⟨rfl, rfl⟩ | ⟨n, e⟩
    · have : (fun a => (i ≠ i ∧ Fs i a) ∨ (i = i ∧ a = l)) = (fun a => a = l) := funext fun a => propext ⟨fun z => z.elim (fun z => absurd rfl z.1) (·.2), fun z => .inr ⟨rfl, z⟩⟩
      show p.p S H .non (fun a => (i ≠ i ∧ Fs i a) ∨ (i = i ∧ a = l))
      rw [this]; exact hp
    · have : (fun a => (i ≠ g ∧ Fs i a) ∨ (i = g ∧ a = l)) = Fs i := funext fun a => propext ⟨fun z => z.elim (·.2) (fun z => absurd z.1 n), fun z => .inl ⟨n, z⟩⟩
      have q := hs i s e
      cases s with
      | no => trivial
      | st p => exact q
      | ow p => show ∃ x, _ ∧ p.p S H x (fun a => (i ≠ g ∧ Fs i a) ∨ (i = g ∧ a = l)); rw [this]; exact q
      | gh p => show p.p S H .non (fun a => (i ≠ g ∧ Fs i a) ∨ (i = g ∧ a = l)); rw [this]; exact q
end
end Zk

namespace Zk
open PySem L2 PySem.Spec PyProof.Rows

/-! ### a table of code objects that may grow -/
/-- what the table ps tells bears the name q, for ever -/
def CodZ (S : Hp) (ps : Array Value) (q : Str) : Prop := TriplesOk ps.toList ∧ ∀ (pos : Pos) (cv : Value), codeAmong pos ps.toList = some cv → ∃ c, cv = .ref c ∧ S c = some (LamX.CodeO c q)
theorem CodZ.mono {S S' : Hp} {ps : Array Value} {q : Str} (h : CodZ S ps q) (s : Same S S') : CodZ S' ps q := ⟨h.1, fun pos cv e => let ⟨c, e1, e2⟩ := h.2 pos cv e; ⟨c, e1, s _ _ e2⟩⟩
section
variable {X : Cx} {pins : List (Addr × Obj)} {σ : L2.St} {H : Hp} {s : Shared}
end

/-! ### the key row[:2], over the heap alone -/
section
variable {prog : Program} {w : World} {A : Around} {s : Shared}
end

section
variable {τ α β γ δ κ ρ ι θ : Type} {G : Gx} {c : Sc} {E : Eff τ} {W : WX} {Γ Γ' : Env} {B : Bs} {σ : L2.St} {S S1 S' H H' : Hp} {b b' : τ} {L : Ls κ ρ} {t : Addr × Str}
end
end Zk

namespace Zk
open PySem L2 PySem.Spec PyProof.Rows

section
variable {τ α β γ δ κ ρ ι θ : Type} {G : Gx} {c : Sc} {E : Eff τ} {W : WX} {Γ Γ' : Env} {B : Bs} {σ : L2.St} {S S1 S' H H' : Hp} {b b' : τ} {L : Ls κ ρ} {t : Addr × Str}
/-! ### statements of a def that makes lambdas -/
/-! ### calls where a table may grow -/
/-! ### a def that makes lambdas, by its body -/
/-! ### the law's start -/
end
end Zk

namespace Zk
open PySem L2 PySem.Spec PyProof.Rows
/-! ### the end: a law whose defs make lambdas in one table -/
section
variable {P : Program} {w : World} {K : PySem.W.Frag} {mg mb : Str → Option Value} {k : Nat} {fa a cc T : Addr} {fd : FuncData} {x : Str} {sp : Sp} {s : Shared} {vs : List Value} {ns : List Int} {H : Hp}
open Classical in
end
end Zk

namespace Zk
open PySem L2
section
variable {τ α β γ δ κ ρ ι θ : Type} {G : Gx} {c : Sc} {E : Eff τ} {W : WX} {Γ Γ' : Env} {B : Bs} {σ : L2.St} {S S1 S' H H' : Hp} {b b' : τ} {L : Ls κ ρ}
/-! ### a written place of a list of things of several kinds -/
structure LstAt (R : Rel α) (k : Int) (f : α → β) (R2 : Rel β) : Prop where
  h : ∀ {x : α} {S : Hp} {v : V}, R.is x S v → ∃ a vs u, v = .ref a ∧ S a = some (.lst vs) ∧ atI vs k = some u ∧ R2.is (f x) S u
/-! ### xs.extend(ys), xs a list of one's own -/
end
end Zk

namespace Zk
open PySem L2
/-! ### dict(xs) of pairs, the keys tuples -/
section
variable {X : Cx} {pins : List (Addr × Obj)} {σ : L2.St} {H : Hp} {s : Shared}
end
section
variable {τ α β γ δ κ ρ ι θ : Type} {G : Gx} {c : Sc} {E : Eff τ} {W : WX} {Γ Γ' : Env} {B : Bs} {σ : L2.St} {S S1 S' H H' : Hp} {b b' : τ} {L : Ls κ ρ}
variable [DecidableEq ι] {R : Rel ι} {D : DatR R} {R2 : Rel α}
end
end Zk

namespace Zk
open PySem L2
section
variable {τ α β γ γ' δ κ ρ ι θ : Type} {G : Gx} {c : Sc} {E : Eff τ} {W : WX} {Γ : Env} {B : Bs} {σ : L2.St} {S S1 S' H H' : Hp} {b b' : τ}
/-! ### return of a call that has own dicts handed -/
end
end Zk

namespace Zk
open PySem L2
/-! ### None or a scalar, as data -/
end Zk
namespace Zk
open PySem L2
section
variable {τ α β γ κ ρ ρ' : Type} {G : Gx} {c : Sc} {E : Eff τ} {W : WX} {Γ : Env}
/-! ### a call that has own dicts handed and leaves them, within an expression -/
end
end Zk
namespace Zk
end Zk

namespace Zk
open PySem L2
/-! ### more keys: tuples of ints -/
section
variable {τ α α' β γ κ ρ ι ι' δ δ' : Type} {G : Gx} {c : Sc} {E : Eff τ} {W : WX} {Γ Δ : Env} {B : Bs} {b : τ} {σ : L2.St} {S H : Hp}
/-! ### an own record made within an expression, stable at once -/
theorem Hold.fst {Γ Δ : Env} (h : Hold E B (Γ ++ Δ) b σ S H) : Hold E B Γ b σ S H := by
  obtain ⟨Fs, hF, hs⟩ := h.sl
  exact ⟨h.kp, h.ef, Fs, hF, fun j s e => hs j s (by rw [List.getElem?_append_left (List.getElem?_eq_some_iff.mp e).1]; exact e)⟩
/-! ### d[xs.pop(..)] -/
end
/-! ### list(d), d a dict of one's own whose keys are tuples -/
section
variable {X : Cx}
end
section
variable {τ κ δ : Type} {G : Gx} {c : Sc} {E : Eff τ} {W : WX} {Γ : Env} {R : Rel κ} {D : DatR R} {F : KyT D} {R2 : Rel δ} [DecidableEq κ]
end
section
variable {τ α γ κ ρ ρ' : Type} {G : Gx} {c : Sc} {E : Eff τ} {W : WX} {Γ : Env} {L : Ls κ ρ} {Γ' : γ → Env} {R : Rel ρ'} {e : Expr} {a d : List Stmt} {m : M τ (Option ρ' × γ)} {n o : γ → M τ (Fl α κ ρ)} {Γn : α → Env} {pos pp pq : Pos} {j : Nat}
/-! ### if f(..) is None, where f changes own dicts -/
end
end Zk

namespace Zk
open PySem L2 PySem.Spec PyProof.Rows
/-! ### xs[:] = ys -/
section
variable {prog : Program} {w : World} {A : Around} {E : Value → Shared → Prop} {s : Shared}
end
section
variable {X : Cx}
end
section
variable {τ α β γ κ ρ ι θ υ : Type} {G : Gx} {c : Sc} {E : Eff τ} {W : WX} {Γ Γ' : Env} {B : Bs} {σ σ' : L2.St} {S S1 S' H H1 H' : Hp} {b b' : τ} {L : Ls κ ρ}
end
end Zk

namespace Zk
open PySem L2 PyProof.Rows PySem.Spec
/-! ### zip, the pair that was given out still there -/
section
variable {prog : Program} {w : World} {A : Around} {E : Value → Shared → Prop} {s : Shared} {z TI TO T i1 i2 l1 l2 : Addr} {k1 k2 : Nat} {P1 P2 : Heap → Nat → Prop} {g1 g2 : Nat → Option Value} {x y : Value} {f : Bool} {oT : Obj}
/-! ### list(zip(..)) -/
/-- the pairs that were given out: where they stand -/
structure ZG2 (g1 g2 : Nat → Option Value) (lo : Addr) (h : Heap) (as : List Addr) : Prop where
  rise : as.Pairwise (· < ·)
  above : ∀ a ∈ as, lo < a
  pairs : ∀ (j : Nat) (a : Addr), as[j]? = some a → ∃ x y, g1 j = some x ∧ g2 j = some y ∧ h.get? a = some { cls := .type "tuple", data := .seq #[x, y] }
end
end Zk

namespace Zk
open PySem L2 PyProof.Rows PySem.Spec
/-! ### several new pairs, and a list of them -/
section
variable {X : Cx} {pins : List (Addr × Obj)} {σ : L2.St} {H H' : Hp} {s : Shared} {h' : Heap}
end
section
variable {τ α β γ κ ρ ι θ υ : Type} {G : Gx} {c : Sc} {E : Eff τ} {W : WX} {Γ Γ' : Env} {B : Bs} {σ σ' : L2.St} {S S1 S' H H1 H' : Hp} {b b' : τ} {L : Ls κ ρ}
variable {e e2 : Expr} {m : M τ (List α × List β)} {R : Rel α} {R2 : Rel β} {p p2 pos pos2 : Pos}
end
end Zk

namespace Zk
open PySem L2
/-! ### lists that are new since a def was begun, wherever they stand in what it hands back -/
def Eff.newer {τ : Type} (E : Eff τ) (N : Hp) : Eff τ where
  own := E.own
  is b S H := E.is b S H ∧ Same N S
  mono := fun s f k ⟨h1, h2⟩ => ⟨E.mono s f k h1, h2.trans s⟩
  th := fun ⟨h1, _⟩ ha => E.th h1 ha
structure HasN {τ : Type} (E : Eff τ) (N : Hp) : Prop where
  h : ∀ {b : τ} {S H : Hp}, E.is b S H → Same N S
/-- a kind that looks at nothing but what is no list, and at lists at addresses that P tells -/
structure TagR {α : Type} (R : (Addr → Prop) → Rel α) : Prop where
  go : ∀ {P Q : Addr → Prop} {x : α} {S T : Hp} {v : V}, (R P).is x S v → (∀ a vs, P a → S a = some (.lst vs) → Q a) → (∀ a o, S a = some o → (P a ∨ ∀ vs, o ≠ .lst vs) → T a = some o) → (R Q).is x T v
section
variable {α β γ δ : Type} {R : (Addr → Prop) → Rel α} {R2 : (Addr → Prop) → Rel β} {R3 : (Addr → Prop) → Rel γ} {R4 : (Addr → Prop) → Rel δ}
theorem tg_int : TagR (fun _ => rInt) := ⟨fun h _ _ => h⟩
theorem tg_opt (t : TagR R) : TagR (fun P => rOpt (R P)) := ⟨fun {P Q x S T v} h a b => by cases x with | none => exact h | some y => exact t.go h a b⟩
/-- a thing whose new lists are one's own -/
def treeF (R : (Addr → Prop) → Rel α) (x : α) : PrO := ⟨fun S H v F => (∀ a, F a → ∃ vs, H a = some (.lst vs)) ∧ ∀ T, Same S T → (∀ a o, F a → H a = some o → T a = some o) → (R F).is x T v,
  fun s k h => ⟨fun a f => let ⟨vs, e⟩ := h.1 a f; ⟨vs, k _ _ f e⟩, fun T sT kT => h.2 T (s.trans sT) fun a o f e => kT a o f (k a o f e)⟩⟩
end
/-- what may change hangs on no stable list -/
structure FreeL {τ : Type} (E : Eff τ) : Prop where
  h : ∀ {b b0 : τ} {S S' H S0 H0 : Hp}, E.is b0 S0 H0 → Same S0 S' → (∀ a o, S' a = some o → S a = some o) → (∀ a o, S a = some o → (∀ vs, o ≠ .lst vs) → S' a = some o) → E.is b S H → E.is b S' H
theorem hp_non {S : Hp} {a : Addr} (h : ∀ o, S a = some o → False) : S a = none := by
  cases q : S a with
  | none => rfl
  | some o => exact (h o q).elim
theorem freeL_of {τ : Type} {E : Eff τ} (f : Free E) : FreeL E := ⟨fun {b b0 S S' H S0 H0} _ _ k _ e => f.h (fun a ha => hp_non fun o q => by have := (E.th e ha).1; rw [k _ _ q] at this; cases this) e⟩
/-- what one owns, lists all, is seen as if stable -/
structure SeenL (P : PrO) (p : Pr) : Prop where
  lst : ∀ {S H : Hp} {v : V} {F : Addr → Prop}, P.p S H v F → ∀ a, F a → ∃ vs, H a = some (.lst vs)
  see : ∀ {S H T : Hp} {v : V} {F : Addr → Prop}, P.p S H v F → Same S T → (∀ a o, F a → H a = some o → T a = some o) → p.p T v
theorem seen_L {α : Type} {R : Rel α} {xs : List α} : SeenL (ownL R xs) ((rLst R).pr xs) :=
  ⟨fun ⟨l, vs, _, f, hl, _⟩ a e => ⟨vs, by rw [(f a).mp e]; exact hl⟩, fun ⟨l, vs, e, f, hl, hq⟩ sm k => ⟨l, vs, e, k _ _ ((f l).mpr rfl) hl, All2.rel sm hq⟩⟩
/-- own lists are seen as if stable, all else that is one's own is hidden -/
inductive FrzL : Env → Env → Prop
  | nil : FrzL [] []
  | no {l l' : Env} : FrzL l l' → FrzL (.no :: l) (.no :: l')
  | st {p : Pr} {l l' : Env} : FrzL l l' → FrzL (.st p :: l) (.st p :: l')
  | see {P : PrO} {p : Pr} {l l' : Env} : SeenL P p → FrzL l l' → FrzL (.ow P :: l) (.st p :: l')
  | hid {p : PrO} {l l' : Env} : FrzL l l' → FrzL (.ow p :: l) (.no :: l')
  | gh {p : PrO} {l l' : Env} : FrzL l l' → FrzL (.gh p :: l) (.no :: l')
theorem FrzL.ow {α : Type} {R : Rel α} {xs : List α} {l l' : Env} (h : FrzL l l') : FrzL (.ow (ownL R xs) :: l) (.st ((rLst R).pr xs) :: l') := .see seen_L h
def VisL (Γ Γ' : Env) (i : Nat) : Prop := ∃ (P : PrO) (p : Pr), Γ[i]? = some (.ow P) ∧ Γ'[i]? = some (.st p) ∧ SeenL P p
theorem FrzL.get : ∀ {l l' : Env}, FrzL l l' → ∀ {i : Nat} {s : Sl}, l'[i]? = some s → s = .no ∨ (∃ p, s = .st p ∧ l[i]? = some (.st p)) ∨ ∃ (P : PrO) (p : Pr), s = .st p ∧ l[i]? = some (.ow P) ∧ SeenL P p
  | _, _, .nil, i, s, h => by simp at h
  | _, _, .no f, 0, s, h => by simp at h; exact .inl h.symm
  | _, _, .st f, 0, s, h => by simp at h; exact .inr (.inl ⟨_, h.symm, rfl⟩)
  | _, _, .see sn f, 0, s, h => by simp at h; exact .inr (.inr ⟨_, _, h.symm, rfl, sn⟩)
  | _, _, .hid f, 0, s, h => by simp at h; exact .inl h.symm
  | _, _, .gh f, 0, s, h => by simp at h; exact .inl h.symm
  | _, _, .no f, i + 1, s, h => by simpa using f.get (i := i) (by simpa using h)
  | _, _, .st f, i + 1, s, h => by simpa using f.get (i := i) (by simpa using h)
  | _, _, .see sn f, i + 1, s, h => by simpa using f.get (i := i) (by simpa using h)
  | _, _, .hid f, i + 1, s, h => by simpa using f.get (i := i) (by simpa using h)
  | _, _, .gh f, i + 1, s, h => by simpa using f.get (i := i) (by simpa using h)
section
variable {τ α α' β β1 β2 γ κ ρ ρ' ι θ υ δ : Type} {G : Gx} {c : Sc} {E : Eff τ} {W : WX} {Γ Γ' : Env} {B : Bs} {σ σ' : L2.St} {S S1 S' H H1 H' N : Hp} {b b' : τ}
open Classical in
theorem Hold.newS (fz : FrzL Γ Γ') (fr : FreeL E) (h : Hold E B Γ b σ S H) : ∃ B1 Sp, Hold (E.newer Sp) B1 Γ' b σ Sp H ∧
    ∀ b1 S2 H2, Same Sp S2 → Hold (E.newer Sp) B1 Γ' b1 σ S2 H2 → (∃ S3, Same S S3 ∧ Hold E B Γ b1 σ S3 H2 ∧ ∀ a o, S2 a = some o → (∀ vs, o ≠ .lst vs) → S3 a = some o) ∧
      ∀ {R : (Addr → Prop) → Rel α} {x : α} {v : V}, TagR R → (R fun a => Sp a = none).is x S2 v → ∃ S4, Same S S4 ∧ Hold E B (Γ ++ [.gh (atV (treeF R x) v)]) b1 σ S4 H2 := by
  obtain ⟨Fs, hF, hs⟩ := h.sl
  let Ow : Addr → Prop := fun a => ∃ i, VisL Γ Γ' i ∧ Fs i a
  let Gh : Addr → Prop := fun a => ∃ i, ¬ VisL Γ Γ' i ∧ Fs i a
  have fS : ∀ a i, Fs i a → S a = none := fun a i e => (hF.at_ i a e).1
  have oS : ∀ a, Ow a → S a = none := fun a ⟨i, _, e⟩ => fS a i e
  have oB : ∀ a, Ow a → B.H a = none := fun a ⟨i, _, e⟩ => (hF.at_ i a e).2.1
  have oE : ∀ a, Ow a → ¬ E.own a := fun a ⟨i, _, e⟩ => (hF.at_ i a e).2.2.1
  have gB : ∀ a, Gh a → B.H a = none := fun a ⟨i, _, e⟩ => (hF.at_ i a e).2.1
  have gE : ∀ a, Gh a → ¬ E.own a := fun a ⟨i, _, e⟩ => (hF.at_ i a e).2.2.1
  have gO : ∀ a, Gh a → ¬ Ow a := fun a ⟨i, n, e⟩ ⟨j, y, e'⟩ => n (by rw [hF.ds i j a e e']; exact y)
  have oL : ∀ a, Ow a → ∃ vs, H a = some (.lst vs) := fun a ⟨i, ⟨P, p, e1, _, sn⟩, e⟩ => by
    obtain ⟨v, _, hp⟩ := hs i _ e1
    exact sn.lst hp a e
  have bS : ∀ a, S a = none → B.S a = none := fun a ha => by
    cases e : B.S a with
    | none => rfl
    | some o => have := h.kp.up _ _ e; rw [ha] at this; cases this
  let Sp : Hp := fun a => if Ow a then H a else S a
  let BH : Hp := fun a => if Gh a then H a else B.H a
  have pO : ∀ a, Ow a → Sp a = H a := fun a z => if_pos z
  have pS : ∀ a, ¬ Ow a → Sp a = S a := fun a z => if_neg z
  have qG : ∀ a, Gh a → BH a = H a := fun a z => if_pos z
  have qB : ∀ a, ¬ Gh a → BH a = B.H a := fun a z => if_neg z
  have sm : Same S Sp := fun a o e => by
    rw [pS a fun z => by rw [oS a z] at e; cases e]; exact e
  refine ⟨⟨B.S, BH⟩, Sp, ⟨⟨fun a o e => ?_, h.kp.up.trans sm, fun a o h1 h2 h3 => ?_⟩, ⟨E.mono sm (fun a ha hn => ?_) (fun _ _ _ e => e) h.ef, Same.refl _⟩, fun _ _ => False, ⟨fun _ _ z => z.elim, fun _ _ _ z => z.elim⟩, fun i s e => ?_⟩, fun b1 S2 H2 s2 h2 => ?_⟩
  · by_cases z : Ow a
    · rw [pO a z] at e; exact e
    · rw [pS a z] at e; exact h.same _ _ e
  · have h2 : BH a = some o := h2
    by_cases hg : Gh a
    · rw [qG a hg] at h2
      obtain ⟨i, _, e⟩ := id hg
      exact ⟨by rw [pS a (gO a hg)]; exact fS a i e, h2⟩
    · rw [qB a hg] at h2
      obtain ⟨r1, r2⟩ := h.kp.kp a o h1 h2 h3
      exact ⟨by rw [pS a fun z => by rw [oB a z] at h2; cases h2]; exact r1, r2⟩
  · rw [pS a fun z => oE a z ha]; exact hn
  · rcases fz.get e with rfl | ⟨p, rfl, e'⟩ | ⟨P, p, rfl, e', sn⟩
    · trivial
    · obtain ⟨x, e1, e2⟩ := hs i _ e'; exact ⟨x, e1, p.mono sm e2⟩
    · obtain ⟨x, e1, hp⟩ := hs i _ e'
      exact ⟨x, e1, sn.see hp sm fun a o f eh => by rw [pO a ⟨i, ⟨P, p, e', e, sn⟩, f⟩]; exact eh⟩
  · have ko : ∀ a o, Ow a → H a = some o → H2 a = some o := fun a o z e => h2.same _ _ (s2 _ _ (by rw [pO a z]; exact e))
    have kg : ∀ a o, Gh a → H a = some o → S2 a = none ∧ H2 a = some o := fun a o z e => by
      obtain ⟨i, _, e'⟩ := id z
      exact h2.kp.kp a o (bS a (fS a i e')) (show BH a = some o by rw [qG a z]; exact e) (gE a z)
    have kk : ∀ i a o, Fs i a → H a = some o → H2 a = some o := fun i a o e eh => by
      by_cases z : VisL Γ Γ' i
      · exact ko a o ⟨i, z, e⟩ eh
      · exact (kg a o ⟨i, z, e⟩ eh).2
    have kb : ∀ a o, B.S a = none → B.H a = some o → ¬ E.own a → S2 a = none ∧ H2 a = some o := fun a o h1 h2' h3 => h2.kp.kp a o h1 (show BH a = some o by rw [qB a fun z => by rw [gB a z] at h2'; cases h2']; exact h2') h3
    constructor
    · let S3 : Hp := fun a => if Ow a then none else S2 a
      have tO : ∀ a, Ow a → S3 a = none := fun a z => if_pos z
      have tn : ∀ a, ¬ Ow a → S3 a = S2 a := fun a z => if_neg z
      have sm2 : Same S S3 := fun a o e => by
        rw [tn a fun z => by rw [oS a z] at e; cases e]; exact s2 _ _ (sm _ _ e)
      have nO : ∀ a o, S2 a = some o → (∀ vs, o ≠ .lst vs) → ¬ Ow a := fun a o e hn z => by
        obtain ⟨vs, e'⟩ := oL a z
        have := h2.same _ _ e
        rw [ko a _ z e'] at this
        cases this; exact hn vs rfl
      have dn : ∀ a o, S3 a = some o → S2 a = some o := fun a o e => by
        by_cases z : Ow a
        · rw [tO a z] at e; cases e
        · rw [tn a z] at e; exact e
      refine ⟨S3, sm2, ⟨⟨fun a o e => h2.same _ _ (dn a o e), h.kp.up.trans sm2, fun a o h1 h2' h3 => ?_⟩, fr.h h.ef sm2 dn (fun a o e hn => by rw [tn a (nO a o e hn)]; exact e) h2.ef.1, Fs, ⟨fun i a e => ?_, hF.ds⟩, fun i s e => ?_⟩, fun a o e hn => by rw [tn a (nO a o e hn)]; exact e⟩
      · obtain ⟨r1, r2⟩ := kb a o h1 h2' h3
        refine ⟨?_, r2⟩
        by_cases z : Ow a
        · exact tO a z
        · rw [tn a z]; exact r1
      · obtain ⟨r1, r2, r3, o, r4⟩ := hF.at_ i a e
        refine ⟨?_, r2, r3, o, kk i a o e r4⟩
        by_cases z : VisL Γ Γ' i
        · exact tO a ⟨i, z, e⟩
        · rw [tn a (gO a ⟨i, z, e⟩)]; exact (kg a o ⟨i, z, e⟩ r4).1
      · have q := hs i s e
        cases s with
        | no => trivial
        | st p => obtain ⟨x, e1, e2⟩ := q; exact ⟨x, e1, p.mono sm2 e2⟩
        | ow p => obtain ⟨x, e1, e2⟩ := q; exact ⟨x, e1, p.mono sm2 (fun a o ha e' => kk i a o ha e') e2⟩
        | gh p => exact p.mono sm2 (fun a o ha e' => kk i a o ha e') q
    · intro R x v tg hr
      let Nw : Addr → Prop := fun a => Sp a = none ∧ ∃ vs, S2 a = some (.lst vs)
      let S4 : Hp := fun a => if Ow a ∨ Nw a then none else S2 a
      have t0 : ∀ a, Ow a ∨ Nw a → S4 a = none := fun a z => if_pos z
      have t1 : ∀ a, ¬ (Ow a ∨ Nw a) → S4 a = S2 a := fun a z => if_neg z
      have dn : ∀ a o, S4 a = some o → S2 a = some o := fun a o e => by
        by_cases z : Ow a ∨ Nw a
        · rw [t0 a z] at e; cases e
        · rw [t1 a z] at e; exact e
      have sm4 : Same S S4 := fun a o e => by
        rw [t1 a fun z => z.elim (fun z => by rw [oS a z] at e; cases e) fun z => by have := sm _ _ e; rw [z.1] at this; cases this]
        exact s2 _ _ (sm _ _ e)
      have k4 : ∀ a o, S2 a = some o → (∀ vs, o ≠ .lst vs) → S4 a = some o := fun a o e hn => by
        rw [t1 a fun z => z.elim (fun z => by
          obtain ⟨vs, e'⟩ := oL a z
          have := h2.same _ _ e
          rw [ko a _ z e'] at this
          cases this; exact hn vs rfl) fun ⟨_, vs, e'⟩ => by rw [e] at e'; cases e'; exact hn vs rfl]
        exact e
      have F0 : ∀ a, Nw a → S4 a = none ∧ B.H a = none ∧ ¬ E.own a ∧ ∃ o, H2 a = some o := fun a z => by
        obtain ⟨z1, vs, e⟩ := id z
        have hS : S a = none := by
          cases q : S a with
          | none => rfl
          | some o' => have := sm _ _ q; rw [z1] at this; cases this
        have hE : ¬ E.own a := fun y => by have := (E.th h2.ef.1 y).1; rw [e] at this; cases this
        refine ⟨t0 a (.inr z), ?_, hE, _, h2.same _ _ e⟩
        cases q : B.H a with
        | none => rfl
        | some o' => have := (kb a o' (bS a hS) q hE).1; rw [e] at this; cases this
      have Fx : ∀ i a, Fs i a → ¬ Nw a := fun i a e ⟨z, vs, e2⟩ => by
        obtain ⟨_, _, _, o', r4⟩ := hF.at_ i a e
        by_cases y : VisL Γ Γ' i
        · rw [pO a ⟨i, y, e⟩, r4] at z; cases z
        · have := (kg a o' ⟨i, y, e⟩ r4).1; rw [e2] at this; cases this
      refine ⟨S4, sm4, ⟨fun a o e => h2.same _ _ (dn a o e), h.kp.up.trans sm4, fun a o h1 h2' h3 => ⟨?_, (kb a o h1 h2' h3).2⟩⟩, fr.h h.ef sm4 dn k4 h2.ef.1, fun j a => (j < Γ.length ∧ Fs j a) ∨ (j = Γ.length ∧ Nw a), ⟨fun j a e => ?_, fun j k a e1 e2 => ?_⟩, fun j s e => ?_⟩
      · cases q : S4 a with
        | none => rfl
        | some o' => have := (kb a o h1 h2' h3).1; rw [dn _ _ q] at this; cases this
      · rcases e with ⟨_, e⟩ | ⟨_, e⟩
        · obtain ⟨r1, r2, r3, o, r4⟩ := hF.at_ j a e
          refine ⟨?_, r2, r3, o, kk j a o e r4⟩
          by_cases z : VisL Γ Γ' j
          · exact t0 a (.inl ⟨j, z, e⟩)
          · cases q : S4 a with
            | none => rfl
            | some o' => have := (kg a o ⟨j, z, e⟩ r4).1; rw [dn _ _ q] at this; cases this
        · exact F0 a e
      · rcases e1 with ⟨l1, e1⟩ | ⟨l1, e1⟩ <;> rcases e2 with ⟨l2, e2⟩ | ⟨l2, e2⟩
        · exact hF.ds j k a e1 e2
        · exact absurd e2 (Fx j a e1)
        · exact absurd e1 (Fx k a e2)
        · rw [l1, l2]
      · by_cases hj : j < Γ.length
        · rw [List.getElem?_append_left hj] at e
          have q := hs j s e
          have ef : (fun a => (j < Γ.length ∧ Fs j a) ∨ (j = Γ.length ∧ Nw a)) = Fs j := funext fun a => propext ⟨fun z => z.elim (·.2) fun z => absurd z.1 (by omega), fun z => .inl ⟨hj, z⟩⟩
          show slOk S4 H2 (σ[j]?.join) (fun a => (j < Γ.length ∧ Fs j a) ∨ (j = Γ.length ∧ Nw a)) s
          rw [ef]
          cases s with
          | no => trivial
          | st p => obtain ⟨x, e1, e2⟩ := q; exact ⟨x, e1, p.mono sm4 e2⟩
          | ow p => obtain ⟨x, e1, e2⟩ := q; exact ⟨x, e1, p.mono sm4 (fun a o ha e' => kk j a o ha e') e2⟩
          | gh p => exact p.mono sm4 (fun a o ha e' => kk j a o ha e') q
        · rw [List.getElem?_append_right (by omega)] at e
          have hj2 : j = Γ.length := by
            have := (List.getElem?_eq_some_iff.mp e).1
            simp at this; omega
          subst hj2
          simp at e
          subst e
          have ef : (fun a => (Γ.length < Γ.length ∧ Fs Γ.length a) ∨ (Γ.length = Γ.length ∧ Nw a)) = Nw := funext fun a => propext ⟨fun z => z.elim (fun z => absurd z.1 (by omega)) (·.2), fun z => .inr ⟨rfl, z⟩⟩
          show (treeF R x).p S4 H2 v (fun a => (Γ.length < Γ.length ∧ Fs Γ.length a) ∨ (Γ.length = Γ.length ∧ Nw a))
          rw [ef]
          refine ⟨fun a ⟨_, vs, e⟩ => ⟨vs, h2.same _ _ e⟩, fun T sT kT => ?_⟩
          refine tg.go hr (fun a vs z e => ⟨z, vs, e⟩) fun a o e z => ?_
          by_cases y : ∃ vs, o = .lst vs
          · obtain ⟨vs, rfl⟩ := y
            exact kT a _ ⟨z.elim id (fun z => absurd rfl (z vs)), vs, e⟩ (h2.same _ _ e)
          · exact sT _ _ (k4 a o e fun vs z => y ⟨vs, z⟩)
/-- own lists are read, what comes of it holds no list -/
theorem z_lendN {e : Expr} {m : M τ α} {R : Rel α} (tg : TagR (fun _ => R)) (fr : FreeL E) (fz : FrzL Γ Γ') (h : ∀ N, ZE G c (E.newer N) W Γ' e m R) : ZE G c E W Γ e m R := fun X C =>
  pe_wk (pe_ex fun N => h N X C) fun σ H Q _ ⟨B, S, b, hh, q⟩ => by
    obtain ⟨B1, Sp, h1, back⟩ := Hold.newS (α := α) fz fr hh
    refine ⟨Sp, B1, Sp, b, h1, ?_⟩
    cases e1 : m b with
    | stuck => rw [e1] at q; exact q.elim
    | exc x b1 =>
      rw [e1] at q
      intro c d S' H' s' h' xa
      obtain ⟨⟨S3, s3, h3, _⟩, _⟩ := back b1 S' H' s' h'
      exact q c d S3 H' s3 h3 xa
    | ok a b1 =>
      rw [e1] at q
      intro v S' H' s' h' r
      obtain ⟨⟨S3, s3, h3, k3⟩, _⟩ := back b1 S' H' s' h'
      exact q v S3 H' s3 h3 (tg.go (P := fun _ => False) (Q := fun _ => False) r (fun _ _ z => z.elim) fun a o e z => k3 a o e (z.resolve_left id))
/-! ### in a def whose new lists are told apart -/
/-! ### what is read of such a thing; what is changed of it, and never read again -/
structure WkR {α : Type} (R : (Addr → Prop) → Rel α) (R' : Rel α) : Prop where
  h : ∀ P x S v, (R P).is x S v → R'.is x S v
structure JAt {α : Type} (R : (Addr → Prop) → Rel α) (f : α → Option Nat) (ks : List Nat) : Prop where
  h : ∀ {P : Addr → Prop} {T : Hp} {x : α} {v : V} {n : Nat}, (R P).is x T v → f x = some n → ∃ a us, v = .ref a ∧ T a = some (.tup us) ∧ ∀ k ∈ ks, ∃ c vs, us[k]? = some (.ref c) ∧ P c ∧ T c = some (.lst vs) ∧ vs.length ≤ n
end
end Zk

namespace Zk
open PySem L2
section
variable {τ α β γ κ ρ ι θ υ : Type} {G : Gx} {c : Sc} {E : Eff τ} {W : WX} {Γ Γ' : Env}
/-! ### list(range(a, b)) -/
instance {a b : Int} : Decidable (RgOk a b) := by unfold RgOk; infer_instance
/-! ### None, or things of several kinds: ==, repr -/
structure RefB {α : Type} (R : Rel α) (f : α → Bool) : Prop where
  h : ∀ {x : α} {S : Hp} {v : V}, f x = true → R.is x S v → ∃ a, v = .ref a
end
end Zk

namespace Zk
open PySem L2 PySem.Spec PyProof.Rows
section
variable {τ α β γ δ κ ρ ι θ : Type} {G : Gx} {c : Sc} {E : Eff τ} {W : WX} {Γ Γ' : Env} {B : Bs} {σ : L2.St} {S S1 S' H H' : Hp} {b b' : τ} {L : Ls κ ρ} {t : Addr × Str} {N : Hp}
/-! ### new lists told by defs that make lambdas -/
/-! ### what is told as a tree is seen -/
/-! ### a list of two new lists -/
structure JLt {α : Type} (R : (Addr → Prop) → Rel α) (f : α → Option Nat) (ks : List Nat) : Prop where
  h : ∀ {P : Addr → Prop} {T : Hp} {x : α} {v : V} {n : Nat}, (R P).is x T v → f x = some n → ∃ a us, v = .ref a ∧ P a ∧ T a = some (.lst us) ∧ ∀ k ∈ ks, ∃ c vs, us[k]? = some (.ref c) ∧ P c ∧ c ≠ a ∧ T c = some (.lst vs) ∧ vs.length ≤ n
end
end Zk

namespace Zk
open PySem L2 PySem.Spec
section
variable {τ α β γ δ1 δ2 κ ρ ι ι2 θ : Type} {G : Gx} {c : Sc} {E : Eff τ} {W : WX} {Γ Γ' Γ1 : Env} {B : Bs} {σ : L2.St} {S S1 S' H H' : Hp} {b b' : τ} {L : Ls κ ρ} {N : Hp}
/-! ### own dicts lent: seen as stable by an expression -/
/-- a kind that looks at nothing that is frozen (no dict, no record) -/
structure NoFrz {α : Type} (R : Rel α) : Prop where
  h : ∀ {x : α} {S T : Hp} {v : V}, R.is x S v → (∀ a o, S a = some o → (∀ od u, o ≠ .frz od u) → T a = some o) → R.is x T v
/-- what is one's own is hidden -/
inductive HidL : Env → Env → Prop
  | nil : HidL [] []
  | st {p : Pr} {l l' : Env} : HidL l l' → HidL (.st p :: l) (.st p :: l')
  | hid {s : Sl} {l l' : Env} : HidL l l' → HidL (s :: l) (.no :: l')
theorem HidL.get : ∀ {l l' : Env}, HidL l l' → ∀ {i : Nat} {s : Sl}, l'[i]? = some s → s = .no ∨ ∃ p, s = .st p ∧ l[i]? = some (.st p)
  | _, _, .nil, i, s, h => by simp at h
  | _, _, .st f, 0, s, h => by simp at h; exact .inr ⟨_, h.symm, rfl⟩
  | _, _, .hid f, 0, s, h => by simp at h; exact .inl h.symm
  | _, _, .st f, i + 1, s, h => by simpa using f.get (i := i) (by simpa using h)
  | _, _, .hid f, i + 1, s, h => by simpa using f.get (i := i) (by simpa using h)
open Classical in
end
end Zk

namespace Zk
open PySem L2 PySem.Spec
section
variable {τ α β γ κ ρ ι θ : Type} {G : Gx} {c : Sc} {E : Eff τ} {W : WX} {Γ Γ' Γ1 : Env} {B : Bs} {σ : L2.St} {S S1 S' H H' : Hp} {b b' : τ} {L : Ls κ ρ}
/-! ### own lists in ghost slots: handed to defs that change them -/
def ownLa (R : Rel α) (l : Addr) (xs : List α) : PrO := ⟨fun S H v F => (∀ a, F a ↔ a = l) ∧ ∃ vs, H l = some (.lst vs) ∧ All2 (fun x v => R.is x S v) xs vs, fun s k ⟨f, vs, h, q⟩ => ⟨f, vs, k _ _ ((f l).mpr rfl) h, All2.rel s q⟩⟩
theorem opn_L {R : Rel α} {xs : List α} {S H : Hp} {v : V} {F : Addr → Prop} (h : (ownL R xs).p S H v F) : ∃ l, v = .ref l ∧ (ownLa R l xs).p S H .non F := let ⟨l, vs, e, f, h, q⟩ := h; ⟨l, e, f, vs, h, q⟩
theorem ownLa_at {R : Rel α} {xs : List α} {g : Nat} {l : Addr} (h : Hold E B Γ b σ S H) (hg : Γ[g]? = some (.gh (ownLa R l xs))) : S l = none ∧ ∃ vs, H l = some (.lst vs) ∧ All2 (fun x v => R.is x S v) xs vs := by
  obtain ⟨Fs, hF, hs⟩ := h.sl
  obtain ⟨f, vs, e1, e2⟩ := hs g _ hg
  exact ⟨(hF.at_ g l ((f l).mpr rfl)).1, vs, e1, e2⟩
theorem ownLa_set {R : Rel α} {xs ys : List α} {g : Nat} {l : Addr} {ws : List V} (h : Hold E B Γ b σ S H) (hg : Γ[g]? = some (.gh (ownLa R l xs))) (r : All2 (fun x v => R.is x S v) ys ws) : Hold E B (Γ.set g (.gh (ownLa R l ys))) b σ S (upd H l (.lst ws)) :=
  h.chgG hg (fun hp => (hp.1 l).mpr rfl) fun hp => ⟨hp.1, ws, upd_same, r⟩
/-- while an expression is looked at, another's list is as one's own -/
theorem hold_close {R : Rel α} {xs : List α} {i g : Nat} {l : Addr} (hi : Γ[i]? = some (.st ((rRef l).pr ()))) (hg : Γ[g]? = some (.gh (ownLa R l xs))) (h : Hold E B Γ b σ S H) : Hold E B ((Γ.set g .no).set i (.ow (ownL R xs))) b σ S H ∧ σ[i]?.join = some (.ref l) := by
  have hig : i ≠ g := fun z => by rw [z, hg] at hi; cases hi
  obtain ⟨Fs, hF, hs⟩ := id h.sl
  obtain ⟨v, k1, k2⟩ := hs i _ hi
  have k2 : v = .ref l := k2
  subst k2
  obtain ⟨f, vs, e1, e2⟩ := hs g _ hg
  refine ⟨⟨h.kp, h.ef, fun j a => (j ≠ i ∧ j ≠ g ∧ Fs j a) ∨ (j = i ∧ Fs g a), ⟨fun j a e => ?_, fun j k a z1 z2 => ?_⟩, fun j s e => ?_⟩, k1⟩
  · rcases e with ⟨_, _, e⟩ | ⟨_, e⟩
    · exact hF.at_ j a e
    · exact hF.at_ g a e
  · rcases z1 with ⟨n1, n2, z1⟩ | ⟨y1, z1⟩ <;> rcases z2 with ⟨n3, n4, z2⟩ | ⟨y2, z2⟩
    · exact hF.ds j k a z1 z2
    · exact absurd (hF.ds j g a z1 z2) n2
    · exact absurd (hF.ds k g a z2 z1) n4
    · rw [y1, y2]
  · rcases set_get e with ⟨rfl, rfl⟩ | ⟨nj, e⟩
    · refine ⟨.ref l, k1, l, vs, rfl, fun a => ?_, e1, e2⟩
      constructor
      · rintro (⟨n, _⟩ | ⟨_, z⟩)
        · exact absurd rfl n
        · exact (f a).mp z
      · exact fun z => .inr ⟨rfl, (f a).mpr z⟩
    · rcases set_get e with ⟨rfl, rfl⟩ | ⟨ng, e⟩
      · trivial
      · have q := hs j s e
        have ef : (fun a => (j ≠ i ∧ j ≠ g ∧ Fs j a) ∨ (j = i ∧ Fs g a)) = Fs j := funext fun a => propext ⟨fun z => z.elim (·.2.2) fun z => absurd z.1 nj, fun z => .inl ⟨nj, ng, z⟩⟩
        show slOk S H (σ[j]?.join) (fun a => (j ≠ i ∧ j ≠ g ∧ Fs j a) ∨ (j = i ∧ Fs g a)) s
        rw [ef]; exact q
theorem hold_open {R : Rel α} {xs : List α} {i g : Nat} {l : Addr} (hi : Γ[i]? = some (.st ((rRef l).pr ()))) (hg : Γ[g]? = some (.gh (ownLa R l xs))) (hv : σ[i]?.join = some (.ref l)) (h : Hold E B ((Γ.set g .no).set i (.ow (ownL R xs))) b σ S H) : Hold E B Γ b σ S H := by
  have hig : i ≠ g := fun z => by rw [z, hg] at hi; cases hi
  obtain ⟨Fs, hF, hs⟩ := id h.sl
  have li : i < (Γ.set g .no).length := by rw [List.length_set]; exact (List.getElem?_eq_some_iff.mp hi).1
  obtain ⟨v, k1, l', vs, e0, f, e1, e2⟩ := hs i (.ow (ownL R xs)) (List.getElem?_set_self li)
  rw [hv] at k1; cases k1; cases e0
  refine ⟨h.kp, h.ef, fun j a => (j ≠ i ∧ j ≠ g ∧ Fs j a) ∨ (j = g ∧ Fs i a), ⟨fun j a e => ?_, fun j k a z1 z2 => ?_⟩, fun j s e => ?_⟩
  · rcases e with ⟨_, _, e⟩ | ⟨_, e⟩
    · exact hF.at_ j a e
    · exact hF.at_ i a e
  · rcases z1 with ⟨n1, n2, z1⟩ | ⟨y1, z1⟩ <;> rcases z2 with ⟨n3, n4, z2⟩ | ⟨y2, z2⟩
    · exact hF.ds j k a z1 z2
    · exact absurd (hF.ds j i a z1 z2) n1
    · exact absurd (hF.ds k i a z2 z1) n3
    · rw [y1, y2]
  · by_cases nj : j = i
    · subst nj
      rw [hi] at e; cases e
      exact ⟨.ref l, hv, rfl⟩
    · by_cases ng : j = g
      · subst ng
        rw [hg] at e; cases e
        refine ⟨fun a => ?_, vs, e1, e2⟩
        constructor
        · rintro (⟨_, n, _⟩ | ⟨_, z⟩)
          · exact absurd rfl n
          · exact (f a).mp z
        · exact fun z => .inr ⟨rfl, (f a).mpr z⟩
      · have q := hs j s (by rw [List.getElem?_set_ne (fun z => nj z.symm), List.getElem?_set_ne (fun z => ng z.symm)]; exact e)
        have ef : (fun a => (j ≠ i ∧ j ≠ g ∧ Fs j a) ∨ (j = g ∧ Fs i a)) = Fs j := funext fun a => propext ⟨fun z => z.elim (·.2.2) fun z => absurd z.1 ng, fun z => .inl ⟨nj, ng, z⟩⟩
        show slOk S H (σ[j]?.join) (fun a => (j ≠ i ∧ j ≠ g ∧ Fs j a) ∨ (j = g ∧ Fs i a)) s
        rw [ef]; exact q
theorem z_close {R : Rel α} {xs : List α} {i g : Nat} {l : Addr} {e : Expr} {m : M τ β} {R2 : Rel β} (hi : Γ[i]? = some (.st ((rRef l).pr ()))) (hg : Γ[g]? = some (.gh (ownLa R l xs))) (h : ZE G c E W ((Γ.set g .no).set i (.ow (ownL R xs))) e m R2) : ZE G c E W Γ e m R2 := fun X C => pe_wk (h X C) fun σ H Q _ ⟨B, S, b, hh, q⟩ => by
  obtain ⟨h1, hv⟩ := hold_close hi hg hh
  refine ⟨B, S, b, h1, ?_⟩
  cases e1 : m b with
  | stuck => rw [e1] at q; exact q
  | exc x b1 => rw [e1] at q; exact fun c d S1 H1 s1 h2 xa => q c d S1 H1 s1 (hold_open hi hg hv h2) xa
  | ok a b1 => rw [e1] at q; exact fun v S1 H1 s1 h2 r => q v S1 H1 s1 (hold_open hi hg hv h2) r
theorem zt_close {R : Rel α} {xs : List α} {i g : Nat} {l : Addr} {e : Expr} {m : M τ Bool} (hi : Γ[i]? = some (.st ((rRef l).pr ()))) (hg : Γ[g]? = some (.gh (ownLa R l xs))) (h : ZT G c E W ((Γ.set g .no).set i (.ow (ownL R xs))) e m) : ZT G c E W Γ e m := fun X C => pt_wk (h X C) fun σ H Q _ ⟨B, S, b, hh, q⟩ => by
  obtain ⟨h1, hv⟩ := hold_close hi hg hh
  refine ⟨B, S, b, h1, ?_⟩
  cases e1 : m b with
  | stuck => rw [e1] at q; exact q
  | exc x b1 => rw [e1] at q; exact fun c d S1 H1 s1 h2 xa => q c d S1 H1 s1 (hold_open hi hg hv h2) xa
  | ok a b1 => rw [e1] at q; exact fun S1 H1 s1 h2 => q S1 H1 s1 (hold_open hi hg hv h2)
/-! ### if not f(..) or ..: where f changes what is one's own -/
end
end Zk

namespace Zk
open PySem L2 PySem.Spec
section
variable {τ α β γ κ ρ ι θ : Type} {G : Gx} {c : Sc} {E : Eff τ} {W : WX} {Γ Γ' : Env}
/-! ### defs with a keyword whose told lists are new -/
end
end Zk

namespace Zk
open PySem L2 PySem.Spec
section
variable {τ α β γ κ ρ ι θ : Type} {G : Gx} {c : Sc} {E : Eff τ} {W : WX} {Γ Γ' : Env} {B : Bs} {σ : L2.St} {S S1 S' H H' N : Hp} {b b' : τ}
/-! ### sorted of tuples that are not empty -/
end
end Zk

namespace Zk
open PySem L2 PySem.Spec
section
variable {τ α β γ κ ρ ι θ : Type} {G : Gx} {c : Sc} {E : Eff τ} {W : WX} {Γ Γ' : Env} {B : Bs} {σ : L2.St} {S S1 S' H H' N : Hp} {b b' : τ}
/-! ### a told list itself changed, never read again -/
structure JRt {α : Type} (R : (Addr → Prop) → Rel α) (f : α → Option Nat) : Prop where
  h : ∀ {P : Addr → Prop} {T : Hp} {x : α} {v : V} {n : Nat}, (R P).is x T v → f x = some n → ∃ a vs, v = .ref a ∧ P a ∧ T a = some (.lst vs) ∧ vs.length ≤ n
end
end Zk

namespace Zk
open PySem L2 PySem.Spec
section
variable {X : Cx}
end
section
variable {τ α β γ κ ρ ρ' ι : Type} [DecidableEq ι] {G : Gx} {c : Sc} {E : Eff τ} {W : WX} {Γ Γ' : Env} {B : Bs} {L : Ls κ ρ} {Rk : Rel ι} {fk : ι → Key} {F : KyF Rk fk}
end
end Zk

namespace Zk
open PySem L2 PySem.Spec
/-! ### isinstance of refusals -/
theorem kit_ref {K : PySem.W.Frag} {D C : Addr} {b : Bool} (h1 : PySem.W.isClsIn K C = true) (h2 : PySem.W.typeIn K (.ref C) = some (.type "type")) (hs : PySem.W.subIn K (.ref C) (.ref C) = some true) (h3 : PySem.W.subIn K (.ref D) (.ref C) = some b) : PySem.W.kitOne K (.ref D) (.ref C) = some b := by
  unfold PySem.W.kitOne
  by_cases z : (Value.ref D == Value.ref C) = true
  · have e : Value.ref D = Value.ref C := by simpa using z
    rw [if_pos z]
    rw [e, hs] at h3
    exact h3
  · rw [if_neg z]
    show (if ((PySem.W.clsIn K C).isSome && PySem.W.typeIn K (.ref C) == some (.type "type")) = true then PySem.W.subIn K (.ref D) (.ref C) else none) = some b
    rw [h2]
    have h1 : (PySem.W.clsIn K C).isSome = true := h1
    rw [h1]
    exact h3
theorem kit_ty {K : PySem.W.Frag} {D : Addr} {T : String} {b : Bool} (h1 : PySem.W.kitMeta T = true) (h3 : PySem.W.subIn K (.ref D) (.type T) = some b) : PySem.W.kitOne K (.ref D) (.type T) = some b := by
  unfold PySem.W.kitOne
  rw [if_neg (show ¬ (Value.ref D == Value.type T) = true from fun h => nomatch (show false = true from h))]
  show (if PySem.W.kitMeta T = true then PySem.W.subIn K (.ref D) (.type T) else none) = some b
  rw [if_pos h1]
  exact h3
/-! ### xs[::k], k 1 or -1 -/
section
variable {X : Cx} {e es : Expr} {te ts : TE} {p3 pos : Pos}
end
section
variable {τ α β γ κ ρ ι θ : Type} {G : Gx} {c : Sc} {E : Eff τ} {W : WX} {Γ Γ' : Env} {B : Bs} {σ : L2.St} {S S1 S' H H' N : Hp} {b b' : τ}
/-! ### a told list itself changed, never read again: its length is told -/
structure JEt {α : Type} (R : (Addr → Prop) → Rel α) (f : α → Option Nat) : Prop where
  h : ∀ {P : Addr → Prop} {T : Hp} {x : α} {v : V} {n : Nat}, (R P).is x T v → f x = some n → ∃ a vs, v = .ref a ∧ P a ∧ T a = some (.lst vs) ∧ vs.length = n
end
end Zk

namespace Zk
open PySem L2
/-! ### a record of one's own: a dict by texts of things of any kind -/
section
variable {τ α β γ δ κ ρ ι θ υ : Type} {G : Gx} {c : Sc} {E : Eff τ} {W : WX} {Γ Γ' : Env} {B : Bs} {σ σ' : L2.St} {S S1 S' H H1 H' : Hp} {b b' : τ} {L : Ls κ ρ}
end
end Zk

namespace Zk
open PySem L2
/-! ### min, max of two texts -/
section
variable {prog : Program} {w : World} {A : Around} {E : Value → Shared → Prop} {s : Shared} {a b : Str} {t u : Tok} {Q : Value → Shared → Prop}
end
/-! ### dict(zip(xs, ys)), texts as keys -/
section
variable {τ α β γ δ κ ρ ι θ υ : Type} {G : Gx} {c : Sc} {E : Eff τ} {W : WX} {Γ Γ' : Env} {B : Bs} {σ σ' : L2.St} {S S1 S' H H1 H' : Hp} {b b' : τ} {L : Ls κ ρ} {e e2 : Expr} {x : Str} {p pos : Pos}
/-! ### what is never come to, as a value (a def that calls itself no deeper) -/
/-! ### dict(zip(..)) -/
end
end Zk

namespace Zk
open PySem L2 PyProof.Rows
/-! ### enumerate of a tuple -/
section
variable {τ α β γ δ κ ρ ι θ : Type} {G : Gx} {c : Sc} {E : Eff τ} {W : WX} {Γ : Env}
end
end Zk

namespace Zk
open PySem L2 PySem.Spec PyProof.Rows
/-! ### things of several kinds in tuples -/
section
variable {τ α β γ δ κ ρ ι θ : Type} {G : Gx} {c : Sc} {E : Eff τ} {W : WX} {Γ Γ' : Env} {B : Bs} {σ : L2.St} {S S1 S' H H' : Hp} {b b' : τ} {L : Ls κ ρ}
variable {ea eb : Expr} {pos : Pos} {R : Rel α} {R2 : Rel β}
/-! ### a name of several kinds is one of them by then -/
structure PrjOk (f : α → Option β) (R : Rel α) (R1 : Rel β) : Prop where
  h : ∀ {x y S v}, f x = some y → R.is x S v → R1.is y S v
/-! ### repr of things of several kinds, texts among them -/
theorem cr_reprS {X : Cx} : CallR X (.builtin "repr") (fun xs H Q => ∃ i : Str, xs = [.str i] ∧ (reprText i).length ≤ sizeLine ∧ Q (.str (reprText i)) H) := by
  intro pins s σ H xs us Q I r h
  obtain ⟨i, rfl, hz, q⟩ := h
  obtain ⟨u, rfl, rx⟩ := vals1 r
  obtain ⟨t, rfl⟩ := (show ∃ t, u = Value.str i t from rx)
  exact PySem.P.repr_of_str ⟨.str _, H, I.tok _, ⟨_, rfl⟩, q⟩ hz
structure RefS (R : Rel α) (D : DatW R) : Prop where
  h : ∀ {x : α} {S : Hp} {v : V}, R.is x S v → (∃ a, v = .ref a) ∨ ∃ s, v = .str s ∧ D.d x = .str s
end
end Zk

namespace Zk
open PySem L2 PySem.Spec PyProof.Rows
/-! ### keys: pairs of standings -/
instance decRR : DecidableEq (List (Str × Int × Int) × List (Str × Int × Int)) := inferInstance
section
variable {τ α β γ δ κ ρ ι θ : Type} {G : Gx} {c : Sc} {E : Eff τ} {W : WX} {Γ Γ' : Env} {B : Bs} {σ : L2.St} {S S1 S' H H' : Hp} {b b' : τ} {L : Ls κ ρ}
/-! ### x in a pair of things -/
section
variable {ea eb : Expr} {pos : Pos} {R : Rel α} {R1 : Rel β} {R2 : Rel γ}
/-! ### a pair of None-or-things taken as the pair of things -/
end
/-! ### a dict whose values are of another kind for a while -/
section
variable [DecidableEq ι] {K : Ky G ι} {R3 : Rel β} {R2 : Rel α}
end
/-! ### a row of three and one more -/
end
end Zk

namespace Zk
open PySem L2
/-! ### dict(zip(xs, ys)), tuples as keys -/
section
variable {τ α β γ δ κ ρ ι θ υ : Type} {G : Gx} {c : Sc} {E : Eff τ} {W : WX} {Γ Γ' : Env} {B : Bs} {σ σ' : L2.St} {S S1 S' H H1 H' : Hp} {b b' : τ} {L : Ls κ ρ} {e e2 : Expr} {x : Str} {p pos : Pos}
variable [DecidableEq ι] {R : Rel ι} {D : DatR R}
end
/-! ### a thing that three things of its own hang on -/
section
variable {τ α β γ δ κ ρ ι θ υ β1 β2 β3 : Type} {G : Gx} {c : Sc} {E : Eff τ} {W : WX} {Γ Γ' : Env} {B : Bs} {σ σ' : L2.St} {S S1 S' H H1 H' : Hp} {b b' : τ} {L : Ls κ ρ}
end

/-! ### sorted of an own dict with tuples as keys -/
section
variable {τ α β γ κ ρ ι θ : Type} {G : Gx} {c : Sc} {E : Eff τ} {W : WX} {Γ Γ' : Env} {B : Bs} {σ : L2.St} {S S1 S' H H' : Hp} {b b' : τ} {L : Ls κ ρ}
variable [DecidableEq ι] {R : Rel ι} {D : DatR R} {R2 : Rel α}
end

/-! ### dicts of ints: != -/
section
variable {τ α β γ κ ρ ι θ : Type} {G : Gx} {c : Sc} {E : Eff τ} {W : WX} {Γ Γ' : Env} {B : Bs} {σ : L2.St} {S S1 S' H H' : Hp} {b b' : τ} {L : Ls κ ρ} [DecidableEq ι] {R : Rel ι} {f : ι → Key} {pos : Pos}
variable {ea eb : Expr}
end
end Zk

namespace Zk
open PySem L2 PySem.Spec
section
variable {τ α β γ δ κ ρ ρ' ι θ υ : Type} {G : Gx} {c : Sc} {E : Eff τ} {W : WX} {Γ Γ' Γ1 : Env} {B : Bs} {σ : L2.St} {S S1 S' H H' : Hp} {b b' : τ} {L : Ls κ ρ'}
/-! ### an own record lent to an expression, out of which something new comes -/
/-- a kind that looks at no frozen dict with plain keys -/
structure NoDk {α : Type} (R : Rel α) : Prop where
  h : ∀ {x : α} {S T : Hp} {v : V}, R.is x S v → (∀ a o, S a = some o → (∀ od es, o ≠ .frz od (.dK es)) → T a = some o) → R.is x T v
structure NoDkP (P : PrO) : Prop where
  h : ∀ {S T H H' : Hp} {v : V} {F : Addr → Prop}, P.p S H v F → (∀ a o, S a = some o → (∀ od es, o ≠ .frz od (.dK es)) → T a = some o) → (∀ a o, F a → H a = some o → H' a = some o) → P.p T H' v F
theorem HidL.len : ∀ {l l' : Env}, HidL l l' → l.length = l'.length
  | _, _, .nil => rfl
  | _, _, .st f => by rw [List.length_cons, List.length_cons, f.len]
  | _, _, .hid f => by rw [List.length_cons, List.length_cons, f.len]
open Classical in
end
section
variable {τ α β γ δ κ ρ ρ' ι θ υ : Type} {G : Gx} {c : Sc} {E : Eff τ} {W : WX} {Γ Γ' Γ1 : Env} {B : Bs} {σ : L2.St} {S S1 S' H H' : Hp} {b b' : τ} {L : Ls κ ρ'}
/-! ### two own dicts lent, by their names -/
/-! ### lists of things, and None behind -/
theorem all2_some {R : Rel α} {S : Hp} : ∀ {xs : List α} {vs : List V}, All2 (fun x v => R.is x S v) xs vs → All2 (fun x v => (rOpt R).is x S v) (xs.map some) vs
  | [], [], _ => trivial
  | _ :: _, _ :: _, ⟨h, q⟩ => ⟨h, all2_some q⟩
  | [], _ :: _, h => h.elim
  | _ :: _, [], h => h.elim
theorem all2_none {R : Rel α} {S : Hp} : ∀ {xs : List Unit} {vs : List V}, All2 (fun x v => rNon.is x S v) xs vs → All2 (fun x v => (rOpt R).is x S v) (xs.map fun _ => none) vs
  | [], [], _ => trivial
  | _ :: _, _ :: _, ⟨h, q⟩ => ⟨h, all2_none q⟩
  | [], _ :: _, h => h.elim
  | _ :: _, [], h => h.elim
theorem lst_some {R : Rel α} {xs : List α} {S : Hp} {v : V} (h : (rLst R).is xs S v) : (rLst (rOpt R)).is (xs.map some) S v :=
  let ⟨a, vs, e, h1, q⟩ := h; ⟨a, vs, e, h1, all2_some q⟩
theorem lst_none {R : Rel α} {xs : List Unit} {S : Hp} {v : V} (h : (rLst rNon).is xs S v) : (rLst (rOpt R)).is (xs.map fun _ => none) S v :=
  let ⟨a, vs, e, h1, q⟩ := h; ⟨a, vs, e, h1, all2_none q⟩
/-! ### x["k"], y["k"] = a, b: new keys of own records -/
end
end Zk

namespace Zk
open PySem L2 PySem.Spec
/-! ### new dicts handed to a def that changes them -/
section
variable {τ α β γ δ κ ρ ρ' ι θ υ η : Type} {G : Gx} {c : Sc} {E : Eff τ} {W : WX} {Γ Γ' Γ1 : Env} {B : Bs} {σ : L2.St} {S S1 S' H H' : Hp} {b b' : τ}
variable {g : Bool} {x : Str} {k : Nat} {ps : List Str} {A' : θ → α → List Pr} {gs' : θ → γ → List PrO} {R : Rel ρ'} {e : Expr} {es : List Expr} {p cpos pos : Pos}
end
section
variable {τ α β γ κ ρ ι θ : Type} {G : Gx} {c : Sc} {E : Eff τ} {W : WX} {Γ Γ' : Env} {B : Bs} {σ : L2.St} {S S1 S' H H' : Hp} {b b' : τ} [DecidableEq ι] {R : Rel ι} {f : ι → Key} {R2 : Rel α} {e : Expr} {x : Str} {p pos : Pos}
end
end Zk

namespace Zk
open PySem L2 PySem.Spec
section
variable {τ α β γ δ κ ρ ρ' ι θ υ : Type} {G : Gx} {c : Sc} {E : Eff τ} {W : WX} {Γ Γ' Γ1 : Env} {B : Bs} {σ : L2.St} {S S1 S' H H' : Hp} {b b' : τ} {L : Ls κ ρ}
/-! ### x, y, z = a new thing, a new thing, something -/
end
/-! ### if a and f(..) is not None, where f changes own dicts -/
section
variable {τ α γ κ ρ ρ' : Type} {G : Gx} {c : Sc} {E : Eff τ} {W : WX} {Γ : Env} {L : Ls κ ρ} {Γ' : γ → Env} {R : Rel ρ'} {e ea : Expr} {a d : List Stmt} {m1 : M τ Bool} {m : M τ (Option ρ' × γ)} {n o : γ → M τ (Fl α κ ρ)} {Γn : α → Env} {pos pp pq pb : Pos} {j : Nat}
end
end Zk

namespace Zk
open PySem L2 PySem.Spec
section
variable {τ α β γ δ κ ρ ρ' ι θ υ η ε : Type} {G : Gx} {c : Sc} {E : Eff τ} {W : WX} {L : Ls κ ρ} {Γ Γ' Γ1 : Env} {B : Bs} {σ : L2.St} {S S1 S' H H' : Hp} {b b' : τ}
/-! ### a def as a thing: a name of one's own that holds it -/
end
end Zk

namespace Zk
open PySem L2 PySem.Spec PyProof.Rows
/-! ### iteration over what is a tuple or a list -/
section
variable {τ α β γ δ κ ρ ι θ : Type} {G : Gx} {c : Sc} {E : Eff τ} {W : WX} {Γ Γ' : Env} {B : Bs} {σ : L2.St} {S S1 S' H H' : Hp} {b b' : τ} {L : Ls κ ρ}
/-! ### x in a list of things of several kinds -/
section
variable {ea eb : Expr} {pos : Pos} {R : Rel α} {R2 : Rel β}
end
/-! ### d.update(e) -/
section
variable [DecidableEq ι] {R : Rel ι} {f : ι → Key} {R2 : Rel α}
end
/-! ### a dict whose values are told otherwise -/
section
variable [DecidableEq ι] {K : Ky G ι} {R1 : Rel α} {R2 : Rel β} {f : α → β}
end
/-! ### dicts compared, whose values are plain, whatever the order of keys -/
structure FlR (R : Rel α) [DecidableEq α] where
  d : α → PyData
  fl : ∀ {x : α} {S : Hp} {v : V} {u : Value}, R.is x S v → RelV v u → PyProof.V.Flat u (d x)
  ev : ∀ x y : α, PyData.eqv (d x) (d y) = decide (x = y)
section
variable [DecidableEq ι] {R : Rel ι} {f : ι → Key} {R2 : Rel α} [DecidableEq α]
variable {ea eb : Expr} {pos : Pos}
end
/-! ### a == b in a suite of except -/
/-! ### a name that holds a def that makes lambdas -/
/-! ### own dicts of a record lent, where there is a table -/
structure FreeK {τ : Type} (E : Eff τ) : Prop where
  h : ∀ {b b0 : τ} {S S' H S0 H0 : Hp}, E.is b0 S0 H0 → Same S0 S' → (∀ a o, S' a = some o → S a = some o) → (∀ a o, S a = some o → (∀ od u, o ≠ .frz od u) → S' a = some o) → E.is b S H → E.is b S' H
section
variable {τ α β γ δ1 δ2 κ ρ ι ι2 θ : Type} {G : Gx} {c : Sc} {E : Eff τ} {W : WX} {Γ Γ' Γ1 : Env} {B : Bs} {σ : L2.St} {S S1 S' H H' : Hp} {b b' : τ} {L : Ls κ ρ} {N : Hp}
open Classical in
end
end
end Zk

namespace Zk
open PySem L2 PySem.Spec PyProof.Rows
/-! ### an exception that leaves a list comprehension -/
section
variable {M : Model} {A : Around} {Ex : Value → Shared → Prop} {s : Shared} {Bg : Heap} {en : PySem.Env} {ou : List PySem.Env} {x L : Addr} {Zx : Obj → Prop} {fw : Value}
end
section
variable {X : Cx} {pins : List (Addr × Obj)} {σ : L2.St} {H : Hp} {s : Shared} {W : WX} {scope : Scope} {ce : PySem.Env} {fp : List Addr}
end
section
variable {X : Cx} {W : WX}
end
section
variable {τ α β γ δ κ ρ ι θ : Type} {G : Gx} {c : Sc} {E : Eff τ} {W : WX} {Γ Γ' : Env} {B : Bs} {σ : L2.St} {S S1 S' H H' : Hp} {b b' : τ} {L : Ls κ ρ}
def lcEndX (G : Gx) (E : Eff τ) (W : Value → Option Addr → Hp → Prop) (B : Bs) (Γ : Env) (σ : L2.St) (S : Hp) (R' : Rel γ) (Q : VK) : Out τ (List γ) → Prop
  | .ok ys b' => ∀ D S' H' us, Same S S' → Hold E (Bd B D (.lst us)) Γ b' σ S' H' → B.S D = none → B.H D = none → ¬ E.own D → All2 (fun x v => R'.is x S' v) ys us → Q (.ref D) H'
  | .exc x b' => ∀ c d S' H', Same S S' → Hold E B Γ b' σ S' H' → XAt G x H' c d → W c d H'
  | .stuck => False
theorem lcEndX.same {Wo : Value → Option Addr → Hp → Prop} {R' : Rel γ} {Q : VK} (s : Same S S1) : ∀ {o : Out τ (List γ)}, lcEndX G E Wo B Γ σ S R' Q o → lcEndX G E Wo B Γ σ S1 R' Q o
  | .ok _ _, h => fun D S' H' us s2 => h D S' H' us (s.trans s2)
  | .exc _ _, h => fun c d S' H' s2 => h c d S' H' (s.trans s2)
  | .stuck, h => h
structure LcX (G : Gx) (c : Sc) (E : Eff τ) (W : WX) (Γ : Env) (elt tg iter : Expr) (ifs : List Expr) (scope : Scope) (own : List (Str × Nat)) (m : M τ (List β)) (t : β → M τ Bool) (f : β → M τ γ) (R : Rel β) (R' : Rel γ) (Γ1 : β → Env) : Prop where
  ok : BlkOk c.N c.sc scope own
  hi : ZI G c E W Γ tg iter m R
  hg : ZG G (c.blk scope) E Wf (wipeE Γ (own.map (·.2))) (own.map (·.2)) tg Γ1 R
  ht : ∀ x, ZTs G (c.blk scope) E Wf (Γ1 x) ifs (t x)
  he : ∀ (W' : WX) x, ZE G (c.blk scope) E W' (Γ1 x) elt (f x) R'
  no : ∀ (i : Nat) s, Γ[i]? = some s → s = .no ∨ i ∉ own.map (·.2)
  fs : ∀ (env : PySem.Env) x, foldedSetIterable iter env x = pure x
end
end Zk

namespace Zk
open PySem L2
/-! ### an own record: an item that is an own dict; an item put anew; items read -/
section
variable {τ α β γ δ κ ρ ι θ υ : Type} {G : Gx} {c : Sc} {E : Eff τ} {W : WX} {Γ Γ' : Env} {B : Bs} {σ σ' : L2.St} {S S1 S' H H1 H' : Hp} {b b' : τ} {L : Ls κ ρ}
/-- two ghosts are one -/
theorem Hold.join {g : Nat} {p1 p2 p : PrO} (h : Hold E B (Γ ++ [.gh p2]) b σ S H) (hg : Γ[g]? = some (.gh p1)) (hp : ∀ {F F2 : Addr → Prop}, p1.p S H .non F → p2.p S H .non F2 → (∀ a, ¬ (F a ∧ F2 a)) → p.p S H .non (fun a => F a ∨ F2 a)) : Hold E B (Γ.set g (.gh p)) b σ S H := by
  obtain ⟨Fs, hFe, hs⟩ := id h.sl
  have hlt := (List.getElem?_eq_some_iff.mp hg).1
  have hn : g ≠ Γ.length := by omega
  have h1 : p1.p S H .non (Fs g) := hs g (.gh p1) (by rw [List.getElem?_append_left hlt]; exact hg)
  have h2 : p2.p S H .non (Fs Γ.length) := hs Γ.length (.gh p2) (by simp)
  have h3 := hp h1 h2 fun a z => hn (hFe.ds g Γ.length a z.1 z.2)
  refine ⟨h.kp, h.ef, fun j a => (j ≠ g ∧ j < Γ.length ∧ Fs j a) ∨ (j = g ∧ (Fs g a ∨ Fs Γ.length a)), ⟨fun j a e => ?_, fun j k a z1 z2 => ?_⟩, fun j s e => ?_⟩
  · rcases e with ⟨_, _, e⟩ | ⟨_, e | e⟩
    · exact hFe.at_ j a e
    · exact hFe.at_ g a e
    · exact hFe.at_ Γ.length a e
  · rcases z1 with ⟨n1, n1', e1⟩ | ⟨n1, e1⟩ <;> rcases z2 with ⟨n2, n2', e2⟩ | ⟨n2, e2⟩
    · exact hFe.ds j k a e1 e2
    · rcases e2 with e2 | e2
      · exact absurd (hFe.ds j g a e1 e2) n1
      · exact absurd (hFe.ds j Γ.length a e1 e2) (by omega)
    · rcases e1 with e1 | e1
      · exact absurd (hFe.ds k g a e2 e1) n2
      · exact absurd (hFe.ds k Γ.length a e2 e1) (by omega)
    · rw [n1, n2]
  · rcases set_get e with ⟨rfl, rfl⟩ | ⟨n, e⟩
    · have : (fun a => (j ≠ j ∧ j < Γ.length ∧ Fs j a) ∨ (j = j ∧ (Fs j a ∨ Fs Γ.length a))) = fun a => Fs j a ∨ Fs Γ.length a := funext fun a => propext ⟨fun z => z.elim (fun z => absurd rfl z.1) (·.2), fun z => .inr ⟨rfl, z⟩⟩
      show p.p S H .non (fun a => (j ≠ j ∧ j < Γ.length ∧ Fs j a) ∨ (j = j ∧ (Fs j a ∨ Fs Γ.length a)))
      rw [this]; exact h3
    · have hj := (List.getElem?_eq_some_iff.mp e).1
      have : (fun a => (j ≠ g ∧ j < Γ.length ∧ Fs j a) ∨ (j = g ∧ (Fs g a ∨ Fs Γ.length a))) = Fs j := funext fun a => propext ⟨fun z => z.elim (·.2.2) fun z => absurd z.1 n, fun z => .inl ⟨n, hj, z⟩⟩
      have q := hs j s (by rw [List.getElem?_append_left hj]; exact e)
      cases s with
      | no => trivial
      | st p => exact q
      | ow p => obtain ⟨x, e1, e2⟩ := q; exact ⟨x, e1, by show p.p S H x (fun a => (j ≠ g ∧ j < Γ.length ∧ Fs j a) ∨ (j = g ∧ (Fs g a ∨ Fs Γ.length a))); rw [this]; exact e2⟩
      | gh p => show p.p S H .non (fun a => (j ≠ g ∧ j < Γ.length ∧ Fs j a) ∨ (j = g ∧ (Fs g a ∨ Fs Γ.length a))); rw [this]; exact q
end
end Zk

namespace Zk
open PySem L2
/-! ### things of any kind: what they are is looked at as the law runs -/
mutual
inductive Dq (S : Hp) : V → PyData → Prop
  | non : Dq S .non .none
  | bl (b : Bool) : Dq S (.bl b) (.bool b)
  | int (i : Int) : Dq S (.int i) (.int i)
  | str (x : Str) : Dq S (.str x) (.str x)
  | lst {a : Addr} {xs : List V} {ds : List PyData} : S a = some (.lst xs) → DqAll S xs ds → Dq S (.ref a) (.list ds)
  | tup {a : Addr} {xs : List V} {ds : List PyData} : S a = some (.tup xs) → DqAll S xs ds → Dq S (.ref a) (.tuple ds)
  | dct {a : Addr} {o : Obj} : S a = some (.frz o (.dK [])) → Dq S (.ref a) (.dict [])
inductive DqAll (S : Hp) : List V → List PyData → Prop
  | nil : DqAll S [] []
  | cons {v : V} {vs : List V} {d : PyData} {ds : List PyData} : Dq S v d → DqAll S vs ds → DqAll S (v :: vs) (d :: ds)
end
section
variable {S S' : Hp}
mutual
theorem dq_sm (s : Same S S') : ∀ {v : V} {d : PyData}, Dq S v d → Dq S' v d
  | _, _, .non => .non
  | _, _, .bl b => .bl b
  | _, _, .int i => .int i
  | _, _, .str x => .str x
  | _, _, .lst h q => .lst (s _ _ h) (dqa_sm s q)
  | _, _, .tup h q => .tup (s _ _ h) (dqa_sm s q)
  | _, _, .dct h => .dct (s _ _ h)
theorem dqa_sm (s : Same S S') : ∀ {v : List V} {d : List PyData}, DqAll S v d → DqAll S' v d
  | _, _, .nil => .nil
  | _, _, .cons h q => .cons (dq_sm s h) (dqa_sm s q)
end
mutual
theorem Dq.dp {K : PySem.W.Frag} : ∀ {v : V} {d : PyData}, Dq S v d → d.hasDict = false → Dp K S v d
  | _, _, .non, _ => .non
  | _, _, .bl b, _ => .bl b
  | _, _, .int i, _ => .int i
  | _, _, .str x, _ => .str x
  | _, _, .lst h q, n => .lst (.of h) (DqAll.dp q (by simpa only [PyData.hasDict] using n))
  | _, _, .tup h q, n => .tup (.of h) (DqAll.dp q (by simpa only [PyData.hasDict] using n))
  | _, _, .dct _, n => by simp [PyData.hasDict] at n
theorem DqAll.dp {K : PySem.W.Frag} : ∀ {v : List V} {d : List PyData}, DqAll S v d → PyData.hasDictAll d = false → DpAll K S v d
  | _, _, .nil, _ => .nil
  | _, _, .cons h q, n => by
    simp only [PyData.hasDictAll, Bool.or_eq_false_iff] at n
    exact .cons (Dq.dp h n.1) (DqAll.dp q n.2)
end
end
def rQ : Rel PyData := ⟨fun d S v => Dq S v d, fun s h => dq_sm s h⟩
theorem dqAll_all2 {S : Hp} : ∀ {ds : List PyData} {vs : List V}, DqAll S vs ds → All2 (fun d v => rQ.is d S v) ds vs
  | [], [], _ => trivial
  | _ :: _, _ :: _, .cons h q => ⟨h, dqAll_all2 q⟩
  | [], _ :: _, h => nomatch h
  | _ :: _, [], h => nomatch h
/-- what is a thing -/
structure DaQ {α : Type} (R : Rel α) where
  d : α → PyData
  q : ∀ {x : α} {S : Hp} {v : V}, R.is x S v → Dq S v (d x)
section
variable {α β γ : Type}
def qI : DaQ rInt := ⟨fun x => .int x, fun h => by cases h; exact .int _⟩
def qS : DaQ rStr := ⟨fun x => .str x, fun h => by cases h; exact .str _⟩
def qB : DaQ rBl := ⟨fun x => .bool x, fun h => by cases h; exact .bl _⟩
def qN : DaQ rNon := ⟨fun _ => .none, fun h => by cases h; exact .non⟩
def qQ : DaQ rQ := ⟨id, fun h => h⟩
theorem daq_all {R : Rel α} (D : DaQ R) {S : Hp} : ∀ {xs : List α} {vs : List V}, All2 (fun x v => R.is x S v) xs vs → DqAll S vs (xs.map D.d)
  | [], [], _ => .nil
  | _ :: _, _ :: _, ⟨h, q⟩ => .cons (D.q h) (daq_all D q)
  | [], _ :: _, h => h.elim
  | _ :: _, [], h => h.elim
def qL {R : Rel α} (D : DaQ R) : DaQ (rLst R) := ⟨fun xs => .list (xs.map D.d), fun ⟨a, vs, e, h, q⟩ => by cases e; exact .lst h (daq_all D q)⟩
def qV {R : Rel α} (D : DaQ R) : DaQ (rVT R) := ⟨fun xs => .tuple (xs.map D.d), fun ⟨a, vs, e, h, q⟩ => by cases e; exact .tup h (daq_all D q)⟩
def q2 {R : Rel α} {R2 : Rel β} (D : DaQ R) (F : DaQ R2) : DaQ (rT2 R R2) := ⟨fun x => .tuple [D.d x.1, F.d x.2], fun ⟨a, u, w, e, h, q, r⟩ => by cases e; exact .tup h (.cons (D.q q) (.cons (F.q r) .nil))⟩
def q3 {R : Rel α} {R2 : Rel β} {R3 : Rel γ} (D : DaQ R) (F : DaQ R2) (J : DaQ R3) : DaQ (rT3 R R2 R3) := ⟨fun x => .tuple [D.d x.1, F.d x.2.1, J.d x.2.2], fun ⟨a, u, w, z, e, h, q, r, t⟩ => by cases e; exact .tup h (.cons (D.q q) (.cons (F.q r) (.cons (J.q t) .nil)))⟩
def qO {R : Rel α} (D : DaQ R) : DaQ (rOpt R) := ⟨fun x => match x with | none => .none | some y => D.d y, fun {x S v} h => by
  cases x with
  | none => have : v = .non := h; subst this; exact .non
  | some y => exact D.q h⟩
end
/-- .. or a dict of texts and numbers -/
def FlD (S : Hp) (v : V) (d : PyData) : Prop := ∃ (a : Addr) (o : Obj) (es : List (Key × V)) (xs : List (Str × Int)), v = .ref a ∧ S a = some (.frz o (.dK es)) ∧ d = .dict (xs.map fun t => (.str t.1, .int t.2)) ∧ All2 (fun (x : Str × Int) t => t.1 = Sum.inr x.1 ∧ t.2 = V.int x.2) xs es
def rX : Rel PyData := ⟨fun d S v => Dq S v d ∨ FlD S v d, fun s h => h.imp (dq_sm s) fun ⟨a, o, es, xs, e1, e2, e3, q⟩ => ⟨a, o, es, xs, e1, s _ _ e2, e3, q⟩⟩
def asI : PyData → Option Int | .int i => some i | _ => none
def asL : PyData → Option (List PyData) | .list ds => some ds | _ => none
section
variable {τ α β γ δ κ ρ ι θ υ : Type} {G : Gx} {c : Sc} {E : Eff τ} {W : WX} {Γ Γ' : Env} {B : Bs} {σ σ' : L2.St} {S S1 S' H H1 H' : Hp} {b b' : τ} {L : Ls κ ρ} {e : Expr} {p pos : Pos} {x : Str}
/-- a thing of some kind is a thing -/
theorem z_q {R : Rel α} (D : DaQ R) {m : M τ α} (h : ZE G c E W Γ e m R) : ZE G c E W Γ e (zget D.d m) rQ := fun X C => pe_wk (h X C) fun σ H Q _ ⟨B, S, b, hh, q⟩ => by
  refine tz_bnd hh q fun x b1 v S1 H1 s1 h1 r1 q1 => ?_
  exact aft_ret h1 q1 (D.q r1)
theorem z_x {R : Rel α} (D : DaQ R) {m : M τ α} (h : ZE G c E W Γ e m R) : ZE G c E W Γ e (zget D.d m) rX := fun X C => pe_wk (h X C) fun σ H Q _ ⟨B, S, b, hh, q⟩ => by
  refine tz_bnd hh q fun x b1 v S1 H1 s1 h1 r1 q1 => ?_
  exact aft_ret h1 q1 (.inl (D.q r1))
/-- what a thing is taken as -/
theorem z_as {R : Rel α} {R1 : Rel β} {f : α → Option β} (hf : ∀ {x y S v}, f x = some y → R.is x S v → R1.is y S v) {m : M τ α} (h : ZE G c E W Γ e m R) : ZE G c E W Γ e (zgetP f m) R1 := fun X C => pe_wk (h X C) fun σ H Q _ ⟨B, S, b, hh, q⟩ => by
  refine tz_bnd hh q fun x b1 v S1 H1 s1 h1 r1 q1 => ?_
  cases e1 : f x with
  | none => rw [e1] at q1; exact q1.elim
  | some y => rw [e1] at q1; exact aft_ret h1 q1 (hf e1 r1)
theorem as_I : ∀ {x y S v}, asI x = some y → rQ.is x S v → rInt.is y S v := fun {x y S v} e r => by
  cases x <;> cases e
  have r : Dq S v (.int y) := r
  cases r; rfl
theorem as_L : ∀ {x y S v}, asL x = some y → rQ.is x S v → (rLst rQ).is y S v := fun {x y S v} e r => by
  cases x <;> cases e
  have r : Dq S v (.list y) := r
  cases r with
  | lst h q => exact ⟨_, _, rfl, h, dqAll_all2 q⟩
/-- isinstance of a thing -/
theorem tyx_q {K : PySem.W.Frag} {v : V} {d : PyData} (h : Dq S v d) : TyX K S v (.type (tyD d)) := by
  cases h with
  | non => exact .base .non
  | bl b => exact .base (.bl b)
  | int i => exact .base (.int i)
  | str x => exact .base (.str x)
  | lst h q => exact .base (.lst h)
  | tup h q => exact .base (.tup h)
  | dct h => exact .fDict h
theorem tyx_X {K : PySem.W.Frag} {v : V} {d : PyData} (h : rX.is d S v) : TyX K S v (.type (tyD d)) := h.elim (fun h => tyx_q h) fun ⟨a, o, es, xs, e1, e2, e3, q⟩ => by
  subst e1 e3
  exact .fDict e2
theorem z_isiX {y : Str} {p2 : Pos} {n : String} {m : M τ PyData} (bl : Blt G c x (.builtin "isinstance")) (b2 : Blt G c y (.type n)) (hk : ∀ d : PyData, PySem.W.kitOne G.K (.type (tyD d)) (.type n) = some (isD n d)) (ha : ZE G c E W Γ e m rX) (hs : Star e [.Name y p2] := by intro _; rfl) :
    ZE G c E W Γ (.Call (.Name x p) [e, .Name y p2] [] pos) (zget (isD n) m) rBl := fun X C =>
  pe_wk (pe_callB (call_isi) (C.gl bl.g) (by rw [C.mg]; exact bl.m) bl.v (pa_cons (ha X C) (pa_cons (pe_bltn (v := .ty n) (C.gl b2.g) (by rw [C.mg]; exact b2.m) b2.v rfl b2.n b2.d) pa_nil (by rfl)) (hs X.env)) bl.n bl.d (hs X.env) (by rfl)) fun σ H Q _ ⟨B, S, b, hh, q⟩ => by
    refine tz_bnd hh q fun x b1 v S1 H1 s1 h1 r1 q1 => ?_
    exact ⟨v, .ty n, .type (tyD x), .type n, isD n x, rfl, .ty n, by rw [C.K]; exact tyx_X (rX.mono h1.same r1), by rw [C.K]; exact hk x, aft_ret h1 q1 rfl⟩
/-! == and in of things -/
section
variable {ea eb : Expr} {ma mb : M τ PyData}
end
/-! repr of a thing -/
def encK : Key → PyData | .inl i => .int i | .inr x => .str x
theorem fl_pairs {h : Heap} : ∀ {ys : List (Str × Int)} {es : List (Key × V)} {vs : List (Key × Value)}, All2 (fun (x : Str × Int) t => t.1 = Sum.inr x.1 ∧ t.2 = V.int x.2) ys es → KV es vs → PyProof.V.PairsRead h encK vs (ys.map fun t => (.str t.1, .int t.2)) []
  | [], [], _, _, r => by cases r; exact .nil
  | y :: ys, t :: es, vs, ⟨⟨h1, h2⟩, q⟩, r => by
    cases r with
    | @cons _ w _ ws k rr =>
      obtain ⟨k1, k2⟩ := k
      obtain ⟨wk, wv⟩ := w
      have k1 : t.1 = wk := k1
      have k2 : RelV t.2 wv := k2
      rw [h2] at k2
      obtain ⟨tk, rfl⟩ := (show ∃ t, wv = Value.int y.2 t from k2)
      have e : encK wk = .str y.1 := by
        have z : t.1 = wk := k1
        rw [← z, h1]; rfl
      have := PyProof.V.PairsRead.cons (enc := encK) (k := wk) (Reads.int y.2 tk : Reads h (Value.int y.2 tk) (.int y.2) []) (fl_pairs q rr)
      rw [e] at this
      exact this
  | [], _ :: _, _, h, _ => h.elim
  | _ :: _, [], _, h, _ => h.elim
def rReprX : List V → Hp → VK → Prop := fun xs H Q => ∃ v d, xs = [v] ∧ ((Dq H v d ∧ d.hasDict = false) ∨ FlD H v d) ∧ d.showable = true ∧ d.depth ≤ 60 ∧ d.shown.length ≤ sizeLine ∧ Q (.str d.shown) H
theorem cr_reprX {X : Cx} (hg : X.A.guards = some []) (hu : X.A.units + 64 < cLine) : CallR X (.builtin "repr") rReprX := by
  intro pins s σ H xs us Q I r h
  obtain ⟨v, d, rfl, hd, h1, h3, h4, q⟩ := h
  rcases hd with ⟨hd, h2⟩ | ⟨a, o, es, ys, rfl, ea, rfl, hq⟩
  · cases hd with
    | non =>
      obtain ⟨u, rfl, rx⟩ := vals1 r
      obtain rfl : u = Value.none := rx
      simp only [PyData.shown] at q
      exact PySem.P.repr_of_none ⟨.str _, H, I.tok _, ⟨_, rfl⟩, q⟩
    | bl b =>
      obtain ⟨u, rfl, rx⟩ := vals1 r
      obtain rfl : u = Value.bool b := rx
      simp only [PyData.shown] at q
      exact PySem.P.repr_of_bool ⟨.str _, H, I.tok _, ⟨_, rfl⟩, q⟩
    | int i => exact SkE.call_repr_int pins s σ H _ us Q I r ⟨i, rfl, by simpa [PyData.showable] using h1, by simpa only [PyData.shown] using q⟩
    | str x => exact cr_reprS pins s σ H _ us Q I r ⟨x, rfl, by simpa only [PyData.shown] using h4, by simpa only [PyData.shown] using q⟩
    | lst h q' =>
      rw [Vals.ref1 r]
      obtain ⟨as, rd⟩ := Dp.reads I _ _ (.ref _) (Dq.dp (.lst h q') h2) rfl
      exact repr_of_reads' rd h1 (PyData.noDict_hsm h2) hg (by omega) (fun _ _ z => z) (fun h' u tk k => ⟨.str _, H, I.kept (t' := tk) k, ⟨_, rfl⟩, q⟩) h4
    | tup h q' =>
      rw [Vals.ref1 r]
      obtain ⟨as, rd⟩ := Dp.reads I _ _ (.ref _) (Dq.dp (.tup h q') h2) rfl
      exact repr_of_reads' rd h1 (PyData.noDict_hsm h2) hg (by omega) (fun _ _ z => z) (fun h' u tk k => ⟨.str _, H, I.kept (t' := tk) k, ⟨_, rfl⟩, q⟩) h4
    | dct h => simp [PyData.hasDict] at h2
  · rw [Vals.ref1 r]
    obtain ⟨_, lo, vs, ra, da⟩ := dk_rd I.hok (.inr ⟨o, ea⟩)
    have rd := PyProof.V.reads_dictOf (enc := encK) (fun k key hk => by
      rcases keyIs_shape hk with ⟨i, t, rfl, rfl⟩ | ⟨x, t, rfl, rfl⟩
      · exact .int i t
      · exact .str x t) da (fl_pairs hq ra)
    refine repr_of_reads' rd h1 (fun _ z => ?_) hg (by omega) (fun _ _ z => z) (fun h' u tk k => ⟨.str _, H, I.kept (t' := tk) k, ⟨_, rfl⟩, q⟩) h4
    have : sysModules = a := by simpa using z
    rw [this] at lo
    simp at lo
/-! ### texts, and a dict of one text and number -/
end
end Zk

/-! ### how many are apart in a long list of few texts -/
namespace Zk
open PySem L2 PySem.Spec PyProof.Rows
section
variable {prog : Program} {w : World} {A : Around} {R : Result → Shared → Prop} {I : Addr} {fp wr : List Addr} {G : Array GenState → Array GenState → Prop} {n : Nat} {P : Nat → Value → Prop} {St : Nat → Shared → Prop}
end
section
variable {prog : Program} {w : World} {A : Around} {E : Value → Shared → Prop} {s : Shared}
set_option maxHeartbeats 3200000 in
end
section
variable {τ : Type} {G : Gx} {c : Sc} {E : Eff τ} {W : WX} {Γ : Env}
end
end Zk

namespace Zk
open PySem L2
/-! ### things that hold empty dicts: their repr -/
section
variable {X : Cx} {pins : List (Addr × Obj)} {σ : L2.St} {H : Hp} {s : Shared}
theorem dq0_reads (I : Inv X pins σ H s) {a : Addr} {o : Obj} (hs : H a = some (.frz o (.dK []))) : ∃ as, Reads s.heap (.ref a) (.dict []) as ∧ sysModules ∉ as := by
  obtain ⟨_, lo, vs, ra, da⟩ := dk_rd I.hok (.inr ⟨_, hs⟩)
  have rd := PyProof.V.reads_dictOf (enc := encK) (fun k key hk => by
    rcases keyIs_shape hk with ⟨i, t, rfl, rfl⟩ | ⟨x, t, rfl, rfl⟩
    · exact .int i t
    · exact .str x t) da (fl_pairs (h := s.heap) (ys := []) (es := []) trivial ra)
  refine ⟨_, rd, fun z => ?_⟩
  have : sysModules = a := by simpa using z
  rw [this] at lo
  simp at lo
mutual
theorem Dq.rds (I : Inv X pins σ H s) : ∀ (d : PyData) (v : V) (u : Value), Dq H v d → RelV v u → ∃ as, Reads s.heap u d as
  | .none, v, u, h, r => Dp.reads I _ v u (Dq.dp h rfl) r
  | .bool _, v, u, h, r => Dp.reads I _ v u (Dq.dp h rfl) r
  | .int _, v, u, h, r => Dp.reads I _ v u (Dq.dp h rfl) r
  | .str _, v, u, h, r => Dp.reads I _ v u (Dq.dp h rfl) r
  | .list ds, v, u, h, r => by
    cases h with
    | lst hs ha =>
      cases r
      obtain ⟨its, rv, ⟨ob, n, e1, e2, _, e3⟩, _⟩ := I.list (SqL.of (K := X.K) hs)
      exact let ⟨_, q⟩ := DqAll.rds I ds _ its ha rv; ⟨_, .list e1 e2 e3 q⟩
  | .tuple ds, v, u, h, r => by
    cases h with
    | tup hs ha =>
      cases r
      obtain ⟨its, rv, ⟨ob, e1, e2, n, e3⟩, _⟩ := I.tuple (SqT.of (K := X.K) hs)
      exact let ⟨_, q⟩ := DqAll.rds I ds _ its ha rv; ⟨_, .tuple e1 e2 e3 q⟩
  | .dict _, v, u, h, r => by
    cases h with
    | dct hs =>
      cases r
      exact let ⟨as, q, _⟩ := dq0_reads I hs; ⟨as, q⟩
theorem DqAll.rds (I : Inv X pins σ H s) : ∀ (ds : List PyData) (vs : List V) (us : List Value), DqAll H vs ds → Vals vs us → ∃ as, ReadsAll s.heap us ds as
  | [], _, _, .nil, .nil => ⟨_, .nil⟩
  | d :: ds, _, _, .cons h h2, .cons r r2 => let ⟨_, q⟩ := Dq.rds I d _ _ h r; let ⟨_, q2⟩ := DqAll.rds I ds _ _ h2 r2; ⟨_, .cons q q2⟩
end
/-- below n no more than what is read -/
def Low (P : Program) (w : World) (h : Heap) (n : Nat) (R : List Addr → Prop) : Prop := ∃ bs, ReadAtMost h n bs ∧ R bs
mutual
theorem Dq.low (I : Inv X pins σ H s) : ∀ (d : PyData) (v : V) (u : Value), Dq H v d → RelV v u → d.showable = true → d.shown.length ≤ sizeLine → Low X.prog X.w s.heap d.depth fun bs => ReprK X.prog X.w bs s.heap d.depth u d.shown
  | .none, v, u, h, r, e, z => let ⟨_, q⟩ := Dp.reads I _ v u (Dq.dp h rfl) r; ReprK.of_reads q e (fun y => nomatch y) z
  | .bool _, v, u, h, r, e, z => let ⟨_, q⟩ := Dp.reads I _ v u (Dq.dp h rfl) r; ReprK.of_reads q e (fun y => nomatch y) z
  | .int _, v, u, h, r, e, z => let ⟨_, q⟩ := Dp.reads I _ v u (Dq.dp h rfl) r; ReprK.of_reads q e (fun y => nomatch y) z
  | .str _, v, u, h, r, e, z => let ⟨_, q⟩ := Dp.reads I _ v u (Dq.dp h rfl) r; ReprK.of_reads q e (fun y => nomatch y) z
  | .dict _, v, u, h, r, e, z => by
    cases h with
    | dct hs =>
      cases r
      obtain ⟨as, q, n⟩ := dq0_reads I hs
      exact ReprK.of_reads q e (fun _ => n) z
  | .list ds, v, u, h, r, e, z => by
    cases h with
    | lst hs ha =>
      cases r
      obtain ⟨its, rv, ⟨ob, n, e1, e2, _, e3⟩, _⟩ := I.list (SqL.of (K := X.K) hs)
      obtain ⟨as, q⟩ := DqAll.rds I ds _ its ha rv
      have q0 := Reads.list e1 e2 e3 q
      have z' : (listText (PyData.shownAll ds)).length ≤ sizeLine := by rw [PyData.shown] at z; exact z
      obtain ⟨bs, l1, l2⟩ := DqAll.low I ds _ its ha rv (by simpa [PyData.showable] using e) fun t ht => Nat.le_trans (listText_mem_le ht) z'
      have lt : PyData.depthAll ds < (PyData.list ds).depth := by simp only [PyData.depth]; omega
      refine ⟨_ :: bs, ReadAtMost.cons q0 (Nat.le_of_lt lt) l1, ?_⟩
      rw [PyData.depth, PyData.shown]
      generalize PyData.shownAll ds = ts at l2 ⊢
      cases l2 with
      | nil => rw [show listText [] = "[]" from listText_nil]; exact ReprK.listEmpty e1 e2 e3
      | cons k1 k2 => exact ReprK.list e1 e2 e3 (not_mem_of_deeper q0 lt l1) (by simpa using k2.length_eq) fun i y g => (ReprAllK.cons k1 k2).item i y (by simpa using g)
  | .tuple ds, v, u, h, r, e, z => by
    cases h with
    | tup hs ha =>
      cases r
      obtain ⟨its, rv, ⟨ob, e1, e2, n, e3⟩, _⟩ := I.tuple (SqT.of (K := X.K) hs)
      obtain ⟨as, q⟩ := DqAll.rds I ds _ its ha rv
      have q0 := Reads.tuple e1 e2 e3 q
      have z' : (tupleText (PyData.shownAll ds)).length ≤ sizeLine := by rw [PyData.shown] at z; exact z
      obtain ⟨bs, l1, l2⟩ := DqAll.low I ds _ its ha rv (by simpa [PyData.showable] using e) fun t ht => Nat.le_trans (tupleText_mem_le ht) z'
      have lt : PyData.depthAll ds < (PyData.tuple ds).depth := by simp only [PyData.depth]; omega
      refine ⟨_ :: bs, ReadAtMost.cons q0 (Nat.le_of_lt lt) l1, ?_⟩
      rw [PyData.depth, PyData.shown]
      exact ReprK.tuple e1 e2 e3 (not_mem_of_deeper q0 lt l1) (by simpa using l2)
theorem DqAll.low (I : Inv X pins σ H s) : ∀ (ds : List PyData) (vs : List V) (us : List Value), DqAll H vs ds → Vals vs us → PyData.showableAll ds = true → (∀ t ∈ PyData.shownAll ds, t.length ≤ sizeLine) →
    Low X.prog X.w s.heap (PyData.depthAll ds) fun bs => ReprAllK X.prog X.w bs s.heap (PyData.depthAll ds) us (PyData.shownAll ds)
  | [], _, _, .nil, .nil, _, _ => ⟨[], (fun _ y => nomatch y), by rw [PyData.shownAll]; exact .nil⟩
  | d :: ds, _, _, .cons h h2, .cons r r2, e, z => by
    obtain ⟨e1, e2⟩ : d.showable = true ∧ PyData.showableAll ds = true := by simpa [PyData.showableAll] using e
    rw [PyData.shownAll] at z
    obtain ⟨bs, l1, k1⟩ := Dq.low I d _ _ h r e1 (z _ List.mem_cons_self)
    obtain ⟨cs, l2, k2⟩ := DqAll.low I ds _ _ h2 r2 e2 fun t ht => z t (List.mem_cons_of_mem _ ht)
    have m1 : d.depth ≤ PyData.depthAll (d :: ds) := by rw [PyData.depthAll]; exact Nat.le_max_left _ _
    have m2 : PyData.depthAll ds ≤ PyData.depthAll (d :: ds) := by rw [PyData.depthAll]; exact Nat.le_max_right _ _
    refine ⟨bs ++ cs, (l1.mono m1).append (l2.mono m2), ?_⟩
    rw [PyData.shownAll]
    exact .cons ((k1.more fun _ y => List.mem_append_left _ y).level_le m1) (k2.more_le (fun _ y => List.mem_append_right _ y) m2)
end
end
def rReprY : List V → Hp → VK → Prop := fun xs H Q => ∃ v d, xs = [v] ∧ Dq H v d ∧ d.showable = true ∧ d.depth ≤ 60 ∧ d.shown.length ≤ sizeLine ∧ Q (.str d.shown) H
theorem cr_reprY {X : Cx} (hg : X.A.guards = some []) (hu : X.A.units + 64 < cLine) : CallR X (.builtin "repr") rReprY := by
  intro pins s σ H xs us Q I r h
  obtain ⟨v, d, rfl, hd, h1, h3, h4, q⟩ := h
  by_cases hn : d.hasDict = false
  · exact cr_reprX hg hu pins s σ H _ us Q I r ⟨v, d, rfl, .inl ⟨hd, hn⟩, h1, h3, h4, q⟩
  · obtain ⟨u, rfl, rx⟩ := vals1 r
    cases hd with
    | non => exact absurd rfl hn
    | bl b => exact absurd rfl hn
    | int i => exact absurd rfl hn
    | str x => exact absurd rfl hn
    | dct h => exact cr_reprX hg hu pins s σ H _ _ Q I r ⟨_, _, rfl, .inr ⟨_, _, [], [], rfl, h, rfl, trivial⟩, h1, h3, h4, q⟩
    | @lst a vs ds h q' =>
      obtain rfl : u = Value.ref a := rx
      obtain ⟨its, rv, ⟨ob, n, e1, e2, _, e3⟩, _⟩ := I.list (SqL.of (K := X.K) h)
      obtain ⟨as, rd⟩ := DqAll.rds I ds _ its q' rv
      have z' : (listText (PyData.shownAll ds)).length ≤ sizeLine := by rw [PyData.shown] at h4; exact h4
      obtain ⟨bs, l1, l2⟩ := DqAll.low I ds _ its q' rv (by simpa [PyData.showable] using h1) fun t ht => Nat.le_trans (listText_mem_le ht) z'
      have hd1 : PyData.depthAll ds + 1 ≤ 60 := by simp only [PyData.depth] at h3; omega
      have ni := not_mem_of_deeper (Reads.list e1 e2 e3 rd) (n := PyData.depthAll ds) (by simp only [PyData.depth]; omega) l1
      simp only [PyData.shown] at q
      cases its with
      | nil =>
        cases rv
        cases q'
        exact absurd (by simp [PyData.hasDict, PyData.hasDictAll]) hn
      | cons u0 us0 =>
        generalize PyData.shownAll ds = ts at l2 q z'
        obtain ⟨k1, k2⟩ : ∃ t0 ts0, ts = t0 :: ts0 ∧ ReprK X.prog X.w bs s.heap (PyData.depthAll ds) u0 t0 ∧ ReprAllK X.prog X.w bs s.heap (PyData.depthAll ds) us0 ts0 := by cases l2 with | cons k1 k2 => exact ⟨_, _, rfl, k1, k2⟩
        obtain ⟨ts0, rfl, k1, k2⟩ := k2
        exact call_repr_slot (by omega) ⟨ob, e1, e2⟩ F.slot_list_repr.toG (call_list_reprK e1 e2 e3 ni (by simpa using k2.length_eq) (fun i y g => (ReprAllK.cons k1 k2).item i y (by simpa using g)) hg (fun b _ => Clear.nil b) (by show X.A.units + 1 + _ < cLine; omega) (fun _ _ z => z) (fun h' u tk k => ⟨_, _, rfl, ⟨.str _, H, I.kept (t' := tk) k, ⟨_, rfl⟩, q⟩⟩) z')
    | @tup a vs ds h q' =>
      obtain rfl : u = Value.ref a := rx
      obtain ⟨its, rv, ⟨ob, e1, e2, n, e3⟩, _⟩ := I.tuple (SqT.of (K := X.K) h)
      obtain ⟨as, rd⟩ := DqAll.rds I ds _ its q' rv
      have z' : (tupleText (PyData.shownAll ds)).length ≤ sizeLine := by rw [PyData.shown] at h4; exact h4
      obtain ⟨bs, l1, l2⟩ := DqAll.low I ds _ its q' rv (by simpa [PyData.showable] using h1) fun t ht => Nat.le_trans (tupleText_mem_le ht) z'
      have hd1 : PyData.depthAll ds + 1 ≤ 60 := by simp only [PyData.depth] at h3; omega
      have ni := not_mem_of_deeper (Reads.tuple e1 e2 e3 rd) (n := PyData.depthAll ds) (by simp only [PyData.depth]; omega) l1
      simp only [PyData.shown] at q
      exact call_repr_slot (by omega) ⟨ob, e1, e2⟩ F.slot_tuple_repr (call_tuple_reprK e1 e2 e3 ni (by simpa using l2) hg (fun b _ => Clear.nil b) (by show X.A.units + 1 + _ < cLine; omega) (fun _ _ z => z) (fun h' u tk k => ⟨_, _, rfl, ⟨.str _, H, I.kept (t' := tk) k, ⟨_, rfl⟩, q⟩⟩) z')
section
variable {τ α β γ δ κ ρ ι θ υ : Type} {G : Gx} {c : Sc} {E : Eff τ} {W : WX} {Γ Γ' : Env} {B : Bs} {σ σ' : L2.St} {S S1 S' H H1 H' : Hp} {b b' : τ} {L : Ls κ ρ} {e : Expr} {p pos : Pos} {x : Str}
def freprY (d : PyData) : M τ Str := chk (d.showable = true ∧ d.depth ≤ 60 ∧ d.shown.length ≤ sizeLine) (ret d.shown)
theorem z_reprY {m : M τ PyData} (hgd : c.gd = true) (bl : Blt G c x (.builtin "repr")) (ha : ZE G c E W Γ e m rQ) (hs : Star e [] := by intro _; rfl) : ZE G c E W Γ (.Call (.Name x p) [e] [] pos) (zapp freprY m) rStr :=
  z_b1 bl (R := rQ) (r := rReprY) (fun X C => cr_reprY (C.gds hgd) C.room.units) (fun B σ S H b x v Q hh hx q => by
    obtain ⟨⟨h1, h3, h4⟩, q⟩ := aft_chk q
    exact ⟨v, x, rfl, dq_sm hh.same hx, h1, h3, h4, aft_ret hh q rfl⟩) ha hs
/-- an empty dict is a thing -/
def dq0 {α : Type} : List α → Option PyData | [] => some (.dict []) | _ :: _ => none
theorem z_q0 {m : M τ (List (Str × Int))} (h : ZE G c E W Γ e m (rDct (kyF G kyfS) rInt)) : ZE G c E W Γ e (zgetP dq0 m) rQ := fun X C => pe_wk (h X C) fun σ H Q _ ⟨B, S, b, hh, q⟩ => by
  refine tz_bnd hh q fun x b1 v S1 H1 s1 h1 r1 q1 => ?_
  cases x with
  | cons y ys => exact q1.elim
  | nil =>
    obtain ⟨a, o, es, e1, e2, q2⟩ := dct_flat r1
    cases es with
    | cons y ys => exact q2.elim
    | nil =>
      subst e1
      exact aft_ret h1 q1 (Dq.dct e2)
/-! a list of anything and the empty one -/
def rEqNil : R2 := fun x y H Q => ∃ a b xs, x = .ref a ∧ y = .ref b ∧ H a = some (.lst xs) ∧ H b = some (.lst []) ∧ Q (.bl xs.isEmpty) H
theorem op_eqNil {X : Cx} (hu : X.A.units < cLine) : OpR X (compareOp .Eq) rEqNil := by
  intro pins s σ H x y v u Q I rx ry h
  obtain ⟨a, b, xs, rfl, rfl, ha, hb, q⟩ := h
  obtain rfl : v = Value.ref a := rx
  obtain rfl : u = Value.ref b := ry
  obtain ⟨its, rv, hl, _⟩ := I.list (SqL.of (K := X.K) ha)
  obtain ⟨its2, rv2, hl2, _⟩ := I.list (SqL.of (K := X.K) hb)
  obtain ⟨o, n, ho, hc, _, hd⟩ := hl
  obtain ⟨o2, n2, ho2, hc2, _, hd2⟩ := hl2
  cases rv2
  have e1 : s.heap.IsList a its.toArray := ⟨_, ho, hc, _, hd⟩
  have e2 : s.heap.IsList b #[] := ⟨_, ho2, hc2, _, hd2⟩
  cases rv with
  | nil => exact SeqAt.RcAt.lists (e := fun _ => true) e1 e2 rfl hu (fun j h1 h2 => absurd h2 (by simp)) X.prog X.w X.xe _ ⟨.bl _, H, I, rfl, q⟩
  | cons r1 r2 => exact SeqAt.RcAt.lists_lengths e1 e2 (by simp) hu X.prog X.w X.xe _ ⟨.bl _, H, I, rfl, q⟩
def feqNil {α β : Type} (xs : List α) (ys : List β) : M τ Bool := match ys with | [] => ret xs.isEmpty | _ :: _ => stk
theorem op2_eqNil {R : Rel α} {R1 : Rel β} : Op2 G E W Γ rEqNil (rLst R) (rLst R1) feqNil rBl := fun B σ S H b x y v w Q hh hx hy q => by
  obtain ⟨a, vs, e1, h1, q1⟩ := hx
  obtain ⟨a2, ws, e2, h2, q2⟩ := hy
  cases y with
  | cons y ys => exact q.elim
  | nil =>
    cases ws with
    | cons w ws => exact q2.elim
    | nil =>
      refine ⟨a, a2, vs, e1, e2, hh.same _ _ h1, hh.same _ _ h2, ?_⟩
      have : vs.isEmpty = x.isEmpty := by
        cases x with
        | nil => cases vs with
          | nil => rfl
          | cons _ _ => exact q1.elim
        | cons _ _ => cases vs with
          | nil => exact q1.elim
          | cons _ _ => rfl
      rw [this]
      exact aft_ret hh q rfl
theorem z_eqNil {R : Rel α} {R1 : Rel β} {ea eb : Expr} {ma : M τ (List α)} {mb : M τ (List β)} (ha : ZE G c E W Γ ea ma (rLst R)) (hb : ZE G c E W Γ eb mb (rLst R1)) : ZE G c E W Γ (.Compare ea [.Eq] [eb] pos) (zop2 feqNil ma mb) rBl := z_cmp (fun X C => op_eqNil C.room.units0) op2_eqNil ha hb (nomark _)
end
/-! a list of numbers out of a thing -/
def intsOf : List PyData → Option (List Int)
  | [] => some []
  | d :: ds => (asI d).bind fun x => (intsOf ds).map fun xs => x :: xs
def asLI (d : PyData) : Option (List Int) := (asL d).bind intsOf
theorem ints_of {S : Hp} : ∀ {ds : List PyData} {xs : List Int} {vs : List V}, intsOf ds = some xs → All2 (fun d v => rQ.is d S v) ds vs → All2 (fun d v => rInt.is d S v) xs vs
  | [], xs, [], e, _ => by cases e; trivial
  | d :: ds, xs, v :: vs, e, ⟨h, q⟩ => by
    unfold intsOf at e
    cases e1 : asI d with
    | none => rw [e1] at e; cases e
    | some y =>
      rw [e1] at e
      cases e2 : intsOf ds with
      | none => rw [e2] at e; cases e
      | some ys => rw [e2] at e; cases e; exact ⟨as_I e1 h, ints_of e2 q⟩
  | [], _, _ :: _, _, h => h.elim
  | _ :: _, _, [], _, h => h.elim
theorem as_LI : ∀ {x y S v}, asLI x = some y → rQ.is x S v → (rLst rInt).is y S v := fun {x y S v} e r => by
  unfold asLI at e
  cases e1 : asL x with
  | none => rw [e1] at e; cases e
  | some ds =>
    rw [e1] at e
    obtain ⟨a, vs, e2, h, q⟩ := as_L e1 r
    exact ⟨a, vs, e2, h, ints_of e q⟩
end Zk

namespace Zk
open PySem L2
section
variable {τ α β γ δ κ ρ ι θ : Type} {G : Gx} {c : Sc} {E : Eff τ} {W : WX} {Γ Γ' : Env} {B : Bs} {σ : L2.St} {S S1 S' H H1 H' : Hp} {b b' : τ} {L : Ls κ ρ}
/-- x[k] = e, x another's list -/
theorem zs_putG {R : Rel α} {xs : List α} {i g : Nat} {l : Addr} {x : Str} {ek e : Expr} {m : M τ α} {mk : M τ Int} {p1 p3 pos : Pos} (n : Nm c i x) (hi : Γ[i]? = some (.st ((rRef l).pr ()))) (hg : Γ[g]? = some (.gh (ownLa R l xs))) (hk : ZE G c E W Γ ek mk rInt) (h : ZE G c E W Γ e m R) (sx : Sub E Γ L.x)
    (hasg : AsgSub (.Name x p1) ek p3 := by intro _ _; rfl)
    (hs : ∀ (l : Nat) (env : PySem.Env), swapsWithSole [.Subscript (.Name x p1) ek p3] e l env = pure false := by intro _ _; rfl)
    (hw : ∀ env : PySem.Env, swappedStores [.Subscript (.Name x p1) ek p3] e env = pure none := by intro _; rfl) :
    ZS G c E W L Γ (.Assign [.Subscript (.Name x p1) ek p3] e pos) (putM xs m mk) (fun ys => Γ.set g (.gh (ownLa R l ys))) := fun X C =>
  ps_wk (ps_asg (h X C) (pg_sub (pe_var (C.hi n.n) (by rw [C.sc]; exact n.v) n.d n.cd) (hk X C) set_list (hasg _)) (hs _ _) (hw _)) fun D σ H hl ⟨B, S, b, hh, q⟩ => by
    refine tzS_bnd (R := R) sx hh q fun v b1 u S1 H1 s1 h1 r1 q1 => ?_
    have e1 : σ[i]? = some (some (.ref l)) := by
      obtain ⟨Fs, hF, hs⟩ := id h1.sl
      obtain ⟨v, k1, k2⟩ := hs i _ hi
      have k2 : v = .ref l := k2
      rw [← k2]; exact slot_get k1
    refine ⟨.ref l, e1, ?_⟩
    refine tzS_bnd (R := rInt) sx h1 q1 fun k b3 y S3 H3 s3 h3 r3 q3 => ?_
    obtain ⟨_, vs', e2', e3'⟩ := ownLa_at h3 hg
    unfold putI at q3
    cases e4 : ixN xs.length k with
    | none => simp [e4] at q3; exact q3.elim
    | some t =>
      simp [e4] at q3
      exact ⟨l, vs', k, t, rfl, r3, e2', by rw [← e3'.length]; exact e4, q3 σ S3 _ (Same.refl _) (ownLa_set h3 hg (All2.set (r := fun x v => R.is x S3 v) (R.mono s3 r1) t e3'))⟩
end
end Zk

namespace Zk
open PySem L2 PySem.Spec PyProof.Rows
/-! ### defs of the refusal that is handled, called within its suite -/
section
variable {τ α β γ κ ρ : Type} {G : Gx} {W : WX} {N ps : List Str} {k : Nat} {f : Addr} {fd : FuncData} {g : Bool}
def FnE (g : Bool) (G : Gx) (k : Nat) (f : Addr) (fd : FuncData) (ps : List Str) (m : Exc → M Unit ρ) (R : Rel ρ) : Prop :=
  ∀ (A : Around) (outer : List PySem.Env) (s : Shared) (S H : Hp) (args : Args) (a : Addr) (oe : Obj) (cls : Value) (d : Option Addr) (x : Exc) (Q : VK),
    L2H.RoomH k A → (g = true → A.guards = some []) → A.handled = some (.ref a) → L2H.PinOk outer H s (a, oe) → Zc cls d oe → (∃ vs, oe.data = .fields vs) → XAt G x H cls d → Same S H →
    Env0 G.P G.w G.K G.mg G.base A outer s H → BindsTo s fd args (ps.zip [.ref a]) → finZ G noE S H R Q (fun _ _ _ => False) (m x ()) →
    codeAny (model G.P G.w) A (.call (.ref f) args) (CR (L2.CX G.P G.w) outer G.P G.w H s Q fun _ _ _ => False) s
theorem inv_xe {X : Cx} {pins : List (Addr × Obj)} {σ : L2.St} {H : Hp} {s : Shared} {ex : Value → Shared → Prop} (I : Inv X pins σ H s) : Inv { X with xe := ex } pins σ H s :=
  ⟨⟨I.ok.mod, I.ok.kind, I.ok.glob, I.ok.blt, I.ok.above, I.ok.inj, I.ok.has, I.ok.cab, I.ok.hd, I.ok.frames, I.ok.stk, I.ok.exf, I.ok.bs, I.ok.bsz, I.ok.noex, I.ok.exfs, I.ok.funs, I.ok.frf⟩,
    I.os, I.bare, I.base, I.loc, I.cell, I.free, I.freeC, I.pin, I.hok, I.len⟩
theorem fn_okE {x qual pn : Str} {st : Stmt} {R : Rel ρ} {mb : Exc → M Unit (Fl α Empty ρ)} {Γn : α → Env} (F : Fun G.K x qual st f fd) (sc : FnScope N [pn] (defScope st))
    (hb : ∀ W : WX, HB G ⟨N, defScope st, k, true, fun _ => true, g⟩ noE W ⟨fun e : Empty => e.elim, [], R, fun _ _ => []⟩ (envOf N.length []) 0 (defBody st) mb Γn) :
    FnE g G (k + 1) f fd [pn] (fun x => zbody (mb x)) R := by
  obtain ⟨oc, od, kV, doc, pm, an, cdv, ct, osl, rfl, lk, hcd⟩ := F.ex
  intro A outer s S H args a oe cls d x Q hr hgd hh hpin zc fl xa hs e0 bt fz
  obtain ⟨hd0, dp, fr, gu, un⟩ := A
  obtain rfl : hd0 = some (.ref a) := hh
  let X0 : Cx := cxOf (L2.CX G.P G.w) G.P G.w G.K G.mg G.base N qual (defScope st) f cdv ⟨none, dp, fr, gu, un⟩ outer s H fun _ _ _ => False
  have C : CtxOk G ⟨N, defScope st, k, true, fun _ => true, g⟩ (fun _ _ _ _ => False) X0 :=
    ⟨rfl, rfl, rfl, rfl, rfl, rfl, sc.nd, rfl, rfl, Room.deeper (A := ⟨none, dp, fr, gu, un⟩) ⟨rfl, hr.dp, hr.un⟩ _, hgd, takes_of rfl rfl rfl rfl, passes_of rfl, rfl, fun _ => ⟨rfl, rfl⟩⟩
  have body := hb (fun _ _ _ _ => False) X0 (X0.suite a [(a, oe)]) a oe cls d ⟨C, zc, fl, [], rfl⟩
  have KX : G.K.In s.heap := e0.mod.kin.keeps fun b o e => (e0.bs b o e).1
  have lim : s.heap.NoLimit := e0.mod.nolimit.keeps fun b o e => (e0.bs b o e).1
  refine codeAny_call_function hr.depth (KX _ _ lk) rfl sc.co sc.gen rfl (PySem.W.codeRec_of KX hcd) (bt _ _ _ _ ?_)
  refine wpAny_newFunctionEnv_cells sc.kind (fun y hy => ?_) fun env he s1 z => ?_
  · obtain ⟨n, v⟩ := y
    exact (sc.par n (List.of_mem_zip hy).1).imp id fun q => ⟨q, PySem.W.cellsFrom_some _ _ _ (.inl q)⟩
  subst he
  refine ⟨lim.keeps z.toInCall.keep, codeAny_func ?_⟩
  have I0 := L2H.inv_startH (CX := L2.CX G.P G.w) (E := fun _ _ _ => False) (vs := [V.ref a]) sc hpin e0 rfl (.cons rfl .nil) z
  have I : Inv (X0.suite a [(a, oe)]) [] (L2.start N [V.ref a]) H s1 := inv_xe I0
  have h0 : Hold noE ⟨S, H⟩ (envOf N.length []) () (L2.start N [V.ref a]) S H := by
    refine ⟨⟨hs, Same.refl _, fun a o h1 h2 _ => ⟨h1, h2⟩⟩, trivial, fun _ _ => False, ⟨fun _ _ h => h.elim, fun _ _ _ h => h.elim⟩, fun i sl e => ?_⟩
    unfold envOf at e
    simp only [List.map_nil, List.nil_append, List.length_nil, Nat.sub_zero, List.getElem?_replicate] at e
    split at e
    · cases e; exact trivial
    · cases e
  have n0 : (L2.start N [V.ref a])[0]? = some (some (V.ref a)) := rfl
  refine wpAny_mono (body.run [] s1 (L2.start N [V.ref a]) H { nx := fun _ H' => Q .non H', rt := Q } I ⟨⟨S, H⟩, S, (), x, ⟨h0, xa, .inr n0⟩, ?_⟩) (fun fl s' h => ?_) fun e s' h => (show False from h).elim
  · have fz : finZ G noE S H R Q (fun _ _ _ => False) (zbody (mb x) ()) := fz
    unfold zbody zfin at fz
    cases e : mb x () with
    | stuck => rw [e] at fz; exact fz.elim
    | exc e b' => rw [e] at fz; exact fun c d σ' S' H' h xa => fz c d S' H' h.kp h.ef xa
    | ok r b' =>
      rw [e] at fz
      cases r with
      | bk k => exact k.elim
      | ct k => exact k.elim
      | rt r => exact fun v σ' S' H' h rr => fz v S' H' h.kp h.ef rr
      | nx r => exact fz.elim
  · have fin : ∀ {σ' : L2.St} {H' : Hp} {v : V} {u : Value}, Inv (X0.suite a [(a, oe)]) [] σ' H' s' → RelV v u → Q v H' → CE outer G.P G.w H s Q u s' :=
      fun {σ' H' v u} J rv q => ⟨v, H', J.os, J.bare, J.base, J.hok, rv, q⟩
    match fl, h with
    | .ret u, ⟨v, σ', H', J, rv, q⟩ => exact fin J rv q
    | .next, ⟨σ', H', J, q⟩ => exact fin (v := V.non) (u := Value.none) J rfl q
    | .brk, ⟨_, _, _, q⟩ => exact False.elim q
    | .cont, ⟨_, _, _, q⟩ => exact False.elim q
theorem xat_keep {S S' H H' : Hp} {x : Exc} {cls : Value} {d : Option Addr} (h : XAt G x H cls d) (s : Same S H) (k : Keep (fun _ => False) ⟨S, H⟩ S' H') : XAt G x H' cls d := by
  obtain ⟨C, h1, h2, h3⟩ := h
  refine ⟨C, h1, h2, h3.imp id fun ⟨dd, e, q⟩ => ⟨dd, e, ?_⟩⟩
  cases e1 : S dd with
  | none => exact (k.kp dd _ e1 q id).2
  | some o =>
    have := s _ _ e1
    rw [q] at this; cases this
    exact k.same _ _ (k.up _ _ e1)
structure FnEAt (g : Bool) (G : Gx) (x : Str) (k : Nat) (ps : List Str) (m : Exc → M Unit ρ) (R : Rel ρ) : Prop where
  ex : ∃ f fd, G.mg x = some (.ref f) ∧ PySem.W.keepIn G.K (.ref f) = true ∧ Binds G.K fd ps [] ∧ FnE g G k f fd ps m R
def okOf (m : M Unit ρ) : Option ρ := match m () with | .ok y _ => some y | _ => none
theorem he_callE {c : Sc} {E : Eff τ} {Γ : Env} {i : Nat} {fn n pn : Str} {np q pos : Pos} {m : Exc → M Unit ρ} {R : Rel ρ} (F : FnEAt g G fn k [pn] m R) (hk : k ≤ c.k) (hg : g = true → c.gd = true) (gb : Gb c fn) (nm : Nm c i n) (hi : i ≠ 999999)
    (hd : (fn == ("__debug__" : Str)) = false := by decide) (he : Star (.Name n np) [] := by intro _; rfl) (hpl : ∀ env : PySem.Env, (backTo pos (starEach [] env)).any (·.1) = false := by intro _; rfl) :
    HE G c E W Γ i (.Call (.Name fn q) [.Name n np] [] pos) (fun x => okOf (m x)) R := fun X X' a oe cls d ⟨C, zc, fl, pn', ep⟩ => by
  subst ep
  obtain ⟨f0, fd, h1, h2, h3, h4⟩ := F.ex
  unfold FnE at h4
  rw [← C.prog, ← C.w, ← C.K, ← C.mg, ← C.base] at h4
  rw [← C.mg] at h1
  rw [← C.K] at h2 h3
  refine ⟨fun pins s σ H Q I ⟨B, S, b, x, y, su, e, qq⟩ => ?_⟩
  have pv : PE (X.suite a ((a, oe) :: pn')) (.Name n np) (tVar i) := pe_var (C.hi nm.n) (by show Vis X.env.scope _; rw [C.sc]; exact nm.v) nm.d nm.cd
  refine wpAny_Call_Name_kw (ld_glob I (C.gl gb) h1 ?_ hd)
  refine PySem.W.callWith_K (h₀ := X.base) I.ok.mod.kin h2 (thn ((pa_cons pv pa_nil (he _)).run pos pins s σ H (fun vs H1 => vs = [V.ref a] ∧ H1 = H) I ⟨.ref a, su.nm.resolve_left hi, rfl, rfl⟩) fun us s1 ⟨vs, H1, I1, r, e1, e2⟩ => ⟨I1.kIn, ?_⟩) (he _) (hpl _)
  subst e1 e2
  obtain rfl : us = [.ref a] := by
    cases r with
    | cons r1 r2 => cases r2; exact congrArg (· :: []) r1
  have P1 := I1.pin (a, oe) (List.mem_append_left _ List.mem_cons_self)
  have hpin : L2H.PinOk X.stack H1 s1 (a, oe) := ⟨P1.1, P1.2.1, fun hm => (List.mem_cons.mp (I1.stkSub a hm)).elim P1.2.2.1 P1.2.2.2.1, P1.2.2.2.2⟩
  have hr : L2H.RoomH k (X.A.mark (some (.ref a))) := ⟨(C.room.mono hk).dp, (C.room.mono hk).un⟩
  have bt := h3 s1 [.ref a] I1.kIn rfl
  refine wpAny_call (codeAny_mono (h4 _ X.stack s1 S H1 ⟨[.ref a], []⟩ a oe cls d x Q hr (fun z => C.gds (hg z)) rfl hpin zc fl su.xa su.hh.same I1.env0 bt ?_) fun r s' hq => ?_)
  · have e : okOf (m x) = some y := e
    unfold okOf at e
    cases em : m x () with
    | stuck => rw [em] at e; cases e
    | exc _ _ => rw [em] at e; cases e
    | ok r b' =>
      rw [em] at e; cases e
      exact fun v S' H' kk _ rr => qq v S' H' kk.up (su.hh.callP kk) (xat_keep su.xa su.hh.same kk) rr
  · match r, hq with
    | .error z, hq =>
      obtain ⟨_, _, _, _, _, _, _, _, _, _, _, _, z⟩ := hq
      exact z.elim
    | .ok (.ret u), hq => exact I1.after hq
    | .ok .next, hq => exact hq.elim
    | .ok .brk, hq => exact hq.elim
    | .ok .cont, hq => exact hq.elim
end
end Zk

namespace Zk
open PySem L2
/-! ### tuples of a scalar and a thing, within a suite -/
section
variable {τ α β γ δ κ ρ ι θ : Type} {G : Gx} {c : Sc} {E : Eff τ} {W : WX} {Γ Γ' : Env} {i : Nat}
theorem he_tup2E {u w : Expr} {R1 : Rel β} {R2 : Rel γ} {f1 : Exc → Option β} {f2 : Exc → Option γ} {v1 : β → V} {k} {pos : Pos} (h : HA G c E W Γ i u f1 v1) (h2 : HE G c E W Γ i w f2 R2) (r1 : ∀ y S, R1.is y S (v1 y)) (hs : Star u [w] := by intro _; rfl) (hs2 : Star w [] := by intro _; rfl) :
    HE G c E W Γ i (.Tuple [u, w] k pos) (fun x => (f1 x).bind fun y => (f2 x).bind fun z => some (y, z)) (rT2 R1 R2) := fun X X' a oe cls d C =>
  pe_wk (pe_tup (pa_cons (h X X' a oe cls d C) (pa_cons (h2 X X' a oe cls d C) pa_nil (hs2 X'.env)) (hs X'.env))) fun σ H Q _ ⟨B, S, b, x, y, su, e, q⟩ => by
    dsimp only at e
    cases e1 : f1 x with
    | none => rw [e1] at e; cases e
    | some y1 =>
      cases e2 : f2 x with
      | none => rw [e1, e2] at e; cases e
      | some y2 =>
        rw [e1, e2] at e
        cases e
        refine ⟨B, S, b, x, y1, su, e1, B, S, b, x, y2, su, e2, fun v S1 H1 s1 hh1 xa1 r2 => ?_⟩
        refine ⟨line4 (by simp), fun p hp => ?_⟩
        have hn := hh1.new (o := .tup [v1 y1, v]) hp
        have sn := same_new (o := .tup [v1 y1, v]) (hh1.same.free hp)
        exact q (.ref p) _ _ (s1.trans sn) hn (xat_new xa1 hp) ⟨p, v1 y1, v, rfl, upd_same, r1 _ _, R2.mono sn r2⟩
end
end Zk

namespace Zk
open PySem L2
/-! ### x, y, z = something, a new thing, a new thing -/
section
variable {τ α β γ δ κ ρ ι θ : Type} {G : Gx} {c : Sc} {E : Eff τ} {W : WX} {Γ Γ' Γ1 : Env} {B : Bs} {σ : L2.St} {S S1 S' H H' : Hp} {b b' : τ} {L : Ls κ ρ}
end
end Zk

namespace Zk
open PySem L2

def top (i : Nat) : Stmt := PySem.Challenge.pw_aheadpays_k16_ladders_refused.main.body.getD i (.Pass ⟨0, 0, 0, 0⟩)
abbrev t_w_take : Stmt := top 24
abbrev t_w_prices : Stmt := top 26
abbrev t_w_any_plan : Stmt := top 27
abbrev t_w_odd : Stmt := top 31
abbrev t_w_bent : Stmt := top 32
abbrev t_w_within : Stmt := top 25
abbrev t_w_are_prices : Stmt := top 29
abbrev t_w_wrong : Stmt := top 30
abbrev t_is_whole : Stmt := top 9
abbrev t_is_between : Stmt := top 10
abbrev t_is_price : Stmt := top 11
abbrev t_are_prices : Stmt := top 17
abbrev t_sums_of : Stmt := top 18
abbrev t_Ladder_init : Stmt := inClass (top 20) 0
abbrev t_w_place : Stmt := top 33
abbrev t_w_made : Stmt := top 34
abbrev t_w_ladder : Stmt := top 28
abbrev t_Ladder_price_at : Stmt := inClass (top 20) 2
abbrev t_Ladder_rung : Stmt := inClass (top 20) 3
abbrev t_repeated : Stmt := top 19
abbrev t_Ladder_height : Stmt := inClass (top 20) 4
abbrev t_Ladder_total : Stmt := inClass (top 20) 6
abbrev t_plain : Stmt := top 21
abbrev t_w_asked : Stmt := top 35
abbrev t_w_asked_due : Stmt := top 36
abbrev t_law : Stmt := top 37
abbrev t_Wrong_init : Stmt := inClass (top 3) 0
def c_FARTHEST_AT : Int := 100
def c_MOST_PRICE : Int := 100000000000000000000
def c_MOST_REPEATED : Int := 4
def c_MOST_ROW : Int := 40
structure Cl where
  Ladder : Addr
  Wrong : Addr
  AheadError : Addr
  NoText : Addr
  TooMany : Addr
  Twice : Addr
structure XLadder where
  low_ : (List Int)
  middle_ : (List Int)
  high_ : (List Int)
  begin_ : Int
  low_sums_ : (List Int)
  middle_sums_ : (List Int)
  high_sums_ : (List Int)
  deriving DecidableEq
def fs_Ladder (D : Cl) (x : XLadder) : List (Str × Pr) := [("high_sums", (rLst rInt).pr x.high_sums_), ("middle_sums", (rLst rInt).pr x.middle_sums_), ("low_sums", (rLst rInt).pr x.low_sums_), ("begin", rInt.pr x.begin_), ("high", (rVT rInt).pr x.high_), ("middle", (rVT rInt).pr x.middle_), ("low", (rVT rInt).pr x.low_)]
def rLadder (D : Cl) : Rel XLadder := rObj D.Ladder (fs_Ladder D)
abbrev t_w_bag : Stmt := top 23
structure Txt (G : Gx) (D : Cl) : Prop where
  b_ValueError : G.mg "ValueError" = none
  b_abs : G.mg "abs" = none
  b_all : G.mg "all" = none
  b_bool : G.mg "bool" = none
  b_divmod : G.mg "divmod" = none
  b_enumerate : G.mg "enumerate" = none
  b_int : G.mg "int" = none
  b_isinstance : G.mg "isinstance" = none
  b_len : G.mg "len" = none
  b_list : G.mg "list" = none
  b_range : G.mg "range" = none
  b_repr : G.mg "repr" = none
  b_tuple : G.mg "tuple" = none
  c_FARTHEST_AT : ∃ u, G.mg "FARTHEST_AT" = some u ∧ RelV (.int c_FARTHEST_AT) u
  c_MOST_PRICE : ∃ u, G.mg "MOST_PRICE" = some u ∧ RelV (.int c_MOST_PRICE) u
  c_MOST_REPEATED : ∃ u, G.mg "MOST_REPEATED" = some u ∧ RelV (.int c_MOST_REPEATED) u
  c_MOST_ROW : ∃ u, G.mg "MOST_ROW" = some u ∧ RelV (.int c_MOST_ROW) u
  g_AheadError : G.mg "AheadError" = some (.ref D.AheadError)
  ain_AheadError : ∃ mc, AIn G.K D.AheadError mc
  g_Wrong : G.mg "Wrong" = some (.ref D.Wrong)
  ox_Wrong : OexC G.K D.Wrong
  xi_Wrong : ∃ f fd, PySem.W.findIn G.K (.ref D.Wrong) "__init__" = some (some (.ref f)) ∧ PySem.W.typeIn G.K (.ref f) = some (.type "function") ∧ Binds G.K fd ["self", "at"] [] ∧ Fun G.K "__init__" "Wrong.__init__" t_Wrong_init f fd
  xf_Wrong : PySem.W.findIn G.K (.ref D.Wrong) "at" = some none
  g_NoText : G.mg "NoText" = some (.ref D.NoText)
  g_TooMany : G.mg "TooMany" = some (.ref D.TooMany)
  g_Twice : G.mg "Twice" = some (.ref D.Twice)
  xc_Wrong : L2.ExcC G.K D.Wrong
  ki_Wrong_NoText : PySem.W.kitOne G.K (.ref D.Wrong) (.ref D.NoText) = some false
  ki_Wrong_TooMany : PySem.W.kitOne G.K (.ref D.Wrong) (.ref D.TooMany) = some false
  ki_Wrong_Twice : PySem.W.kitOne G.K (.ref D.Wrong) (.ref D.Twice) = some false
  ki_Wrong_ValueError : PySem.W.kitOne G.K (.ref D.Wrong) (.type "ValueError") = some true
  ki_Wrong_Wrong : PySem.W.kitOne G.K (.ref D.Wrong) (.ref D.Wrong) = some true
  em_Wrong_AheadError : PySem.W.exmOne G.K (.ref D.Wrong) (.ref D.AheadError) = some true
  g_Ladder : G.mg "Ladder" = some (.ref D.Ladder)
  cl_Ladder : Cls G.K D.Ladder
  na_Ladder_low : NoAttr G.K D.Ladder "low"
  na_Ladder_middle : NoAttr G.K D.Ladder "middle"
  na_Ladder_high : NoAttr G.K D.Ladder "high"
  na_Ladder_begin : NoAttr G.K D.Ladder "begin"
  na_Ladder_low_sums : NoAttr G.K D.Ladder "low_sums"
  na_Ladder_middle_sums : NoAttr G.K D.Ladder "middle_sums"
  na_Ladder_high_sums : NoAttr G.K D.Ladder "high_sums"
  d_w_bag : ∃ f fd, G.mg "_law_bag" = some (.ref f) ∧ PySem.W.keepIn G.K (.ref f) = true ∧ Binds G.K fd ["_law_script"] [] ∧ Fun G.K "_law_bag" "_law_bag" t_w_bag f fd
  d_w_take : ∃ f fd, G.mg "_law_take" = some (.ref f) ∧ PySem.W.keepIn G.K (.ref f) = true ∧ Binds G.K fd ["_law_bag_here", "_law_many"] [] ∧ Fun G.K "_law_take" "_law_take" t_w_take f fd
  d_w_prices : ∃ f fd, G.mg "_law_prices" = some (.ref f) ∧ PySem.W.keepIn G.K (.ref f) = true ∧ Binds G.K fd ["_law_bag_here", "_law_many"] [] ∧ Fun G.K "_law_prices" "_law_prices" t_w_prices f fd
  d_w_any_plan : ∃ f fd, G.mg "_law_any_plan" = some (.ref f) ∧ PySem.W.keepIn G.K (.ref f) = true ∧ Binds G.K fd ["_law_bag_here"] [] ∧ Fun G.K "_law_any_plan" "_law_any_plan" t_w_any_plan f fd
  d_w_odd : ∃ f fd, G.mg "_law_odd" = some (.ref f) ∧ PySem.W.keepIn G.K (.ref f) = true ∧ Binds G.K fd ["_law_bag_here"] [] ∧ Fun G.K "_law_odd" "_law_odd" t_w_odd f fd
  d_w_bent : ∃ f fd, G.mg "_law_bent" = some (.ref f) ∧ PySem.W.keepIn G.K (.ref f) = true ∧ Binds G.K fd ["_law_bag_here", "_law_things"] [] ∧ Fun G.K "_law_bent" "_law_bent" t_w_bent f fd
  d_w_within : ∃ f fd, G.mg "_law_within" = some (.ref f) ∧ PySem.W.keepIn G.K (.ref f) = true ∧ Binds G.K fd ["_law_thing", "_law_low", "_law_high"] [] ∧ Fun G.K "_law_within" "_law_within" t_w_within f fd
  d_w_are_prices : ∃ f fd, G.mg "_law_are_prices" = some (.ref f) ∧ PySem.W.keepIn G.K (.ref f) = true ∧ Binds G.K fd ["_law_thing", "_law_low", "_law_high"] [] ∧ Fun G.K "_law_are_prices" "_law_are_prices" t_w_are_prices f fd
  d_w_wrong : ∃ f fd, G.mg "_law_wrong" = some (.ref f) ∧ PySem.W.keepIn G.K (.ref f) = true ∧ Binds G.K fd ["_law_things"] [] ∧ Fun G.K "_law_wrong" "_law_wrong" t_w_wrong f fd
  d_is_whole : ∃ f fd, G.mg "is_whole" = some (.ref f) ∧ PySem.W.keepIn G.K (.ref f) = true ∧ Binds G.K fd ["thing"] [] ∧ Fun G.K "is_whole" "is_whole" t_is_whole f fd
  d_is_between : ∃ f fd, G.mg "is_between" = some (.ref f) ∧ PySem.W.keepIn G.K (.ref f) = true ∧ Binds G.K fd ["thing", "low", "high"] [] ∧ Fun G.K "is_between" "is_between" t_is_between f fd
  d_is_price : ∃ f fd, G.mg "is_price" = some (.ref f) ∧ PySem.W.keepIn G.K (.ref f) = true ∧ Binds G.K fd ["thing"] [] ∧ Fun G.K "is_price" "is_price" t_is_price f fd
  d_are_prices : ∃ f fd, G.mg "are_prices" = some (.ref f) ∧ PySem.W.keepIn G.K (.ref f) = true ∧ Binds G.K fd ["thing", "least", "most"] [] ∧ Fun G.K "are_prices" "are_prices" t_are_prices f fd
  d_sums_of : ∃ f fd, G.mg "sums_of" = some (.ref f) ∧ PySem.W.keepIn G.K (.ref f) = true ∧ Binds G.K fd ["prices"] [] ∧ Fun G.K "sums_of" "sums_of" t_sums_of f fd
  d_Ladder_init : ∃ f fd, Mk G.K D.Ladder f ∧ FunD G.K "__init__" "Ladder.__init__" (defArgs t_Ladder_init) (defBody t_Ladder_init) (defScope t_Ladder_init) [] [("at", .int 0)] f fd
  d_w_place : ∃ f fd, G.mg "_law_place" = some (.ref f) ∧ PySem.W.keepIn G.K (.ref f) = true ∧ Binds G.K fd ["_law_e"] [] ∧ Fun G.K "_law_place" "_law_place" t_w_place f fd
  d_w_made : ∃ f fd, G.mg "_law_made" = some (.ref f) ∧ PySem.W.keepIn G.K (.ref f) = true ∧ Binds G.K fd ["_law_things"] [] ∧ Fun G.K "_law_made" "_law_made" t_w_made f fd
  d_w_ladder : ∃ f fd, G.mg "_law_ladder" = some (.ref f) ∧ PySem.W.keepIn G.K (.ref f) = true ∧ Binds G.K fd ["_law_plan"] [] ∧ Fun G.K "_law_ladder" "_law_ladder" t_w_ladder f fd
  d_Ladder_price_at : ∃ f fd, Meth G.K D.Ladder "price_at" f ∧ Binds G.K fd ["self", "d"] [] ∧ Fun G.K "price_at" "Ladder.price_at" t_Ladder_price_at f fd
  d_Ladder_rung : ∃ f fd, Meth G.K D.Ladder "rung" f ∧ Binds G.K fd ["self", "d"] [] ∧ Fun G.K "rung" "Ladder.rung" t_Ladder_rung f fd
  d_repeated : ∃ f fd, G.mg "repeated" = some (.ref f) ∧ PySem.W.keepIn G.K (.ref f) = true ∧ Binds G.K fd ["sums", "many"] [] ∧ Fun G.K "repeated" "repeated" t_repeated f fd
  d_Ladder_height : ∃ f fd, Meth G.K D.Ladder "height" f ∧ Binds G.K fd ["self", "d"] [] ∧ Fun G.K "height" "Ladder.height" t_Ladder_height f fd
  d_Ladder_total : ∃ f fd, Meth G.K D.Ladder "total" f ∧ Binds G.K fd ["self", "low", "high"] [] ∧ Fun G.K "total" "Ladder.total" t_Ladder_total f fd
  d_plain : ∃ f fd, G.mg "plain" = some (.ref f) ∧ PySem.W.keepIn G.K (.ref f) = true ∧ Binds G.K fd ["price"] [] ∧ Fun G.K "plain" "plain" t_plain f fd
  d_w_asked : ∃ f fd, G.mg "_law_asked" = some (.ref f) ∧ PySem.W.keepIn G.K (.ref f) = true ∧ Binds G.K fd ["_law_ladder_here", "_law_way", "_law_things"] [] ∧ Fun G.K "_law_asked" "_law_asked" t_w_asked f fd
  d_w_asked_due : ∃ f fd, G.mg "_law_asked_due" = some (.ref f) ∧ PySem.W.keepIn G.K (.ref f) = true ∧ Binds G.K fd ["_law_way", "_law_things"] [] ∧ Fun G.K "_law_asked_due" "_law_asked_due" t_w_asked_due f fd
theorem x_Wrong {G : Gx} {D : Cl} (T : Txt G D) : XAtC G "Wrong" 1 ["self", "at"] (spX1 G.K "at") D.Wrong :=
  let ⟨mc, hA⟩ := T.ain_AheadError; let ⟨f, fd, h1, h2, h3, h4⟩ := T.xi_Wrong
  ⟨T.g_Wrong, T.ox_Wrong, f, fd, h1, h2, h3, xini1 h4 ⟨rfl, rfl, rfl, by decide +kernel, rfl, by decide +kernel, by decide +kernel⟩ rfl hA T.g_AheadError rfl (.inl rfl) (.inl rfl)⟩
def k_w_bag : Sc := ⟨["_law_script", "_law_cell"], defScope t_w_bag, 0, true, fun _ => true, false⟩
theorem sc_w_bag : FnScope ["_law_script", "_law_cell"] ["_law_script"] (defScope t_w_bag) := ⟨rfl, rfl, rfl, by decide +kernel, rfl, by decide +kernel, by decide +kernel⟩
theorem n_w_bag_0 : Nm k_w_bag 0 "_law_script" := nm_of (by decide +kernel)
noncomputable def w_cells (p : List Int) : M Unit (List Int) := (zlc (fun e1 => (ret true)) (fun e1 => (zapp fabs (ret e1))) (zsl (ret p) (ret none) (zsome (ret (63 : Int)))))
theorem f_w_bag {G : Gx} {D : Cl} (T : Txt G D) {f : Addr} {fd : FuncData} (F : Fun G.K "_law_bag" "_law_bag" t_w_bag f fd) : FnG false G.P G.w G.K G.mg G.base 1 f fd ["_law_script"] (spBag G.K w_cells) :=
  bag_ok F sc_w_bag rfl (fun p W => show ZF G k_w_bag _ W [.st ((rSc G.K rInt).pr p), .no] _ (w_cells p) _ from (zf_lc (Lc.mk (own := [("_law_cell", 1)]) (blk_of rfl (by decide +kernel)) (zi_list (z_slSc (z_var n_w_bag_0) zp_no (zp_so z_int))) (zg_name (ns_of (i := 1) (by decide +kernel)) (by decide)) (fun e1 => zts_nil) (fun e1 => (z_abs (blt_of (u := .builtin "abs") T.b_abs (by decide +kernel)) (z_var (nm_of (i := 1) (by decide +kernel))))) (lc_no ⟨rfl, trivial⟩) (fun _ _ => rfl))))
theorem at_w_bag {G : Gx} {D : Cl} (T : Txt G D) : FnAt false G "_law_bag" 1 ["_law_script"] (spBag G.K w_cells) :=
  let ⟨f, fd, h1, h2, h3, h4⟩ := T.d_w_bag; ⟨f, fd, h1, h2, h3, f_w_bag T h4⟩

def k_w_take : Sc := ⟨["_law_bag_here", "_law_many", "_law_first", "_law_second", "_law_cell", "_law_value"], defScope t_w_take, 0, true, fun _ => true, false⟩
theorem sc_w_take : FnScope ["_law_bag_here", "_law_many", "_law_first", "_law_second", "_law_cell", "_law_value"] ["_law_bag_here", "_law_many"] (defScope t_w_take) := ⟨rfl, rfl, rfl, by decide +kernel, rfl, by decide +kernel, by decide +kernel⟩
theorem n_w_take_0 : Nm k_w_take 0 "_law_bag_here" := nm_of (by decide +kernel)
theorem n_w_take_1 : Nm k_w_take 1 "_law_many" := nm_of (by decide +kernel)
theorem n_w_take_2 : Nm k_w_take 2 "_law_first" := nm_of (by decide +kernel)
theorem s_w_take_2 : Ns k_w_take 2 "_law_first" := ns_of (by decide +kernel)
theorem n_w_take_3 : Nm k_w_take 3 "_law_second" := nm_of (by decide +kernel)
theorem s_w_take_3 : Ns k_w_take 3 "_law_second" := ns_of (by decide +kernel)
theorem n_w_take_4 : Nm k_w_take 4 "_law_cell" := nm_of (by decide +kernel)
theorem s_w_take_4 : Ns k_w_take 4 "_law_cell" := ns_of (by decide +kernel)
theorem n_w_take_5 : Nm k_w_take 5 "_law_value" := nm_of (by decide +kernel)
theorem s_w_take_5 : Ns k_w_take 5 "_law_value" := ns_of (by decide +kernel)
noncomputable def b_w_take (p : (Unit × Int)) : M Bag (Fl Unit Empty Int) :=
  (zseq (zifS (zop2 feq (bget Bag.big) (ret (0 : Int)))
    (zseq (zset (ret (0 : Int))) fun cell1 =>
    (zseq (zifS (zop2 ilt (bget Bag.pos) (zapp blen (ret ())))
      (zseq (zset (bcell (ret ()) (bget Bag.pos))) fun cell3 =>
      (znx cell3))
      (znx cell1)) fun j2 =>
    (zseq (bput (fun s v => { s with pos := v }) (zop2 iadd (bget Bag.pos) (ret (1 : Int)))) fun _ =>
    (zseq (zifS (zop2 ige (ret j2) (ret (1000000000000000000 : Int)))
      (zseq (bput (fun s v => { s with big := v }) (ret j2)) fun _ =>
      (znx ()))
      (znx ())) fun _ =>
    (zseq (bput (fun s v => { s with mix := v }) (zop2 imod (zop2 iadd (zop2 iadd (zop2 imul (bget Bag.mix) (ret (48271 : Int))) (zop2 imod (ret j2) (ret (2147483647 : Int)))) (zop2 imul (ret (7919 : Int)) (bget Bag.pos))) (ret (2147483647 : Int)))) fun _ =>
    (znx ()))))))
    (znx ())) fun _ =>
  (zseq (zifS (zop2 igt (bget Bag.big) (ret (0 : Int)))
    (zseq (zset (zop2 imod (bget Bag.big) (ret p.2))) fun value4 =>
    (zseq (bput (fun s v => { s with big := v }) (zop2 idiv (bget Bag.big) (ret p.2))) fun _ =>
    (zrt (ret value4))))
    (znx ())) fun _ =>
  (zseq (zset (zop2 imod (zop2 imul (zop2 iadd (bget Bag.mix) (ret (1 : Int))) (ret (39373 : Int))) (ret (1000000007 : Int)))) fun first5 =>
  (zseq (zset (zop2 imod (zop2 imul (zop2 imod (zop2 imul (ret first5) (ret first5)) (ret (998244353 : Int))) (ret (30011 : Int))) (ret (998244353 : Int)))) fun second6 =>
  (zseq (zifS (zop2 igt (ret p.2) (ret (1000000 : Int)))
    (zrt (zop2 imod (zop2 iadd (zop2 imul (ret second6) (ret (1000000007 : Int))) (ret first5)) (ret p.2)))
    (znx ())) fun _ =>
  (zrt (zop2 imod (zop2 idiv (ret second6) (ret (7 : Int))) (ret p.2))))))))
noncomputable def m_w_take (p : (Unit × Int)) : M Bag Int := zbody (b_w_take p)
theorem f_w_take {G : Gx} {D : Cl} (T : Txt G D) {f : Addr} {fd : FuncData} (F : Fun G.K "_law_take" "_law_take" t_w_take f fd) : FnG false G.P G.w G.K G.mg G.base 1 f fd ["_law_bag_here", "_law_many"] (spZ G (fun q : Addr × Addr => bagE q.1 q.2) (fun (q : Addr × Addr) (p : (Unit × Int)) => [(rRef q.1).pr p.1, rInt.pr p.2]) m_w_take rInt) :=
  fn_ok (g := false) (k := 0) (mb := b_w_take) (n := fun _ _ => stk) (Γn := fun _ _ _ => []) F sc_w_take (fun _ _ => rfl) (fun _ => rfl) (.inl fun _ _ => rfl) fun q p W =>
  show ZB G k_w_take _ W _ [.st ((rRef q.1).pr p.1), .st (rInt.pr p.2), .no, .no, .no, .no] _ (b_w_take p) _ from
  (zb_cons (zs_if (Γn := fun _ : Unit => [.st ((rRef q.1).pr p.1), .st (rInt.pr p.2), .no, .no, .no, .no]) (zt_eq scI (z_bag n_w_take_0 rfl fun _ => rfl) z_int)
    (zb_cons (zs_set s_w_take_4 z_int sub_nil) fun cell1 =>
    (zb_cons (zs_if (Γn := fun j2 : Int => [.st ((rRef q.1).pr p.1), .st (rInt.pr p.2), .no, .no, .st (rInt.pr j2), .no]) (zt_lt (z_bag n_w_take_0 rfl fun _ => rfl) (z_blen (blt_of (u := .builtin "len") T.b_len (by decide +kernel)) (z_bag3 n_w_take_0 rfl)))
      (zb_cons (zs_set s_w_take_4 (z_bcell (z_bag3 n_w_take_0 rfl) (z_bag n_w_take_0 rfl fun _ => rfl)) sub_nil) fun cell3 =>
      (zb_nil (SubL.sub (.keep (.keep (.keep (.keep (.keep (.keep SubL.nil)))))))))
      (zb_nil (SubL.sub (.keep (.keep (.keep (.keep (.keep (.keep SubL.nil)))))))) sub_nil) fun j2 =>
    (zb_cons (zs_binc n_w_take_0 rfl (fun _ => rfl) rfl (fun _ _ => rfl) (fun _ _ => rfl) z_int sub_nil) fun _ =>
    (zb_cons (zs_if (Γn := fun _ : Unit => [.st ((rRef q.1).pr p.1), .st (rInt.pr p.2), .no, .no, .st (rInt.pr j2), .no]) (zt_ge (z_var n_w_take_4) z_int)
      (zb_cons (zs_bput n_w_take_0 rfl rfl (fun _ _ => rfl) (fun _ _ => rfl) (z_var n_w_take_4) sub_nil) fun _ =>
      (zb_nil (SubL.sub (.keep (.keep (.keep (.keep (.keep (.keep SubL.nil)))))))))
      (zb_nil (SubL.sub (.keep (.keep (.keep (.keep (.keep (.keep SubL.nil)))))))) sub_nil) fun _ =>
    (zb_cons (zs_bput n_w_take_0 rfl rfl (fun _ _ => rfl) (fun _ _ => rfl) (z_mod (z_add (z_add (z_mul (z_bag n_w_take_0 rfl fun _ => rfl) z_int) (z_mod (z_var n_w_take_4) z_int)) (z_mul z_int (z_bag n_w_take_0 rfl fun _ => rfl))) z_int) sub_nil) fun _ =>
    (zb_nil (SubL.sub (.keep (.keep (.keep (.keep (.drop (.keep SubL.nil)))))))))))))
    (zb_nil (SubL.sub (.keep (.keep (.keep (.keep (.keep (.keep SubL.nil)))))))) sub_nil) fun _ =>
  (zb_cons (zs_if (Γn := fun _ : Unit => [.st ((rRef q.1).pr p.1), .st (rInt.pr p.2), .no, .no, .no, .no]) (zt_gt (z_bag n_w_take_0 rfl fun _ => rfl) z_int)
    (zb_cons (zs_set s_w_take_5 (z_mod (z_bag n_w_take_0 rfl fun _ => rfl) (z_var n_w_take_1)) sub_nil) fun value4 =>
    (zb_cons (zs_bput n_w_take_0 rfl rfl (fun _ _ => rfl) (fun _ _ => rfl) (z_div (z_bag n_w_take_0 rfl fun _ => rfl) (z_var n_w_take_1)) sub_nil) fun _ =>
    (zb_one (zs_ret (z_var n_w_take_5) sub_nil))))
    (zb_nil (SubL.sub (.keep (.keep (.keep (.keep (.keep (.keep SubL.nil)))))))) sub_nil) fun _ =>
  (zb_cons (zs_set s_w_take_2 (z_mod (z_mul (z_add (z_bag n_w_take_0 rfl fun _ => rfl) z_int) z_int) z_int) sub_nil) fun first5 =>
  (zb_cons (zs_set s_w_take_3 (z_mod (z_mul (z_mod (z_mul (z_var n_w_take_2) (z_var n_w_take_2)) z_int) z_int) z_int) sub_nil) fun second6 =>
  (zb_cons (zs_if (Γn := fun _ : Unit => [.st ((rRef q.1).pr p.1), .st (rInt.pr p.2), .st (rInt.pr first5), .st (rInt.pr second6), .no, .no]) (zt_gt (z_var n_w_take_1) z_int)
    (zb_one (zs_ret (z_mod (z_add (z_mul (z_var n_w_take_3) z_int) (z_var n_w_take_2)) (z_var n_w_take_1)) sub_nil))
    (zb_nil (SubL.sub (.keep (.keep (.keep (.keep (.keep (.keep SubL.nil)))))))) sub_nil) fun _ =>
  (zb_one (zs_ret (z_mod (z_div (z_var n_w_take_3) z_int) (z_var n_w_take_1)) sub_nil)))))))
theorem at_w_take {G : Gx} {D : Cl} (T : Txt G D) : FnAt false G "_law_take" 1 ["_law_bag_here", "_law_many"] (spZ G (fun q : Addr × Addr => bagE q.1 q.2) (fun (q : Addr × Addr) (p : (Unit × Int)) => [(rRef q.1).pr p.1, rInt.pr p.2]) m_w_take rInt) :=
  let ⟨f, fd, h1, h2, h3, h4⟩ := T.d_w_take; ⟨f, fd, h1, h2, h3, f_w_take T h4⟩

def k_w_prices : Sc := ⟨["_law_bag_here", "_law_many", "_law_way", "_law_one", "_law_some", "_law_k"], defScope t_w_prices, 1, true, fun _ => true, false⟩
theorem sc_w_prices : FnScope ["_law_bag_here", "_law_many", "_law_way", "_law_one", "_law_some", "_law_k"] ["_law_bag_here", "_law_many"] (defScope t_w_prices) := ⟨rfl, rfl, rfl, by decide +kernel, rfl, by decide +kernel, by decide +kernel⟩
theorem n_w_prices_0 : Nm k_w_prices 0 "_law_bag_here" := nm_of (by decide +kernel)
theorem n_w_prices_1 : Nm k_w_prices 1 "_law_many" := nm_of (by decide +kernel)
theorem n_w_prices_2 : Nm k_w_prices 2 "_law_way" := nm_of (by decide +kernel)
theorem s_w_prices_2 : Ns k_w_prices 2 "_law_way" := ns_of (by decide +kernel)
theorem n_w_prices_3 : Nm k_w_prices 3 "_law_one" := nm_of (by decide +kernel)
theorem s_w_prices_3 : Ns k_w_prices 3 "_law_one" := ns_of (by decide +kernel)
theorem n_w_prices_4 : Nm k_w_prices 4 "_law_some" := nm_of (by decide +kernel)
theorem s_w_prices_4 : Ns k_w_prices 4 "_law_some" := ns_of (by decide +kernel)
theorem s_w_prices_5 : Ns k_w_prices 5 "_law_k" := ns_of (by decide +kernel)
noncomputable def b_w_prices (p : (Unit × Int)) : M Bag (Fl Unit Empty (List Int)) :=
  (zseq (zset (zapp m_w_take (zpair (ret p.1) (ret (4 : Int))))) fun way1 =>
  (zseq (zset (zop2 ixat (zlist (zcons (ret (0 : Int)) (zcons (ret (1 : Int)) (zcons (zop2 ipow (ret (10 : Int)) (ret (20 : Int))) (zcons (zapp m_w_take (zpair (ret p.1) (zop2 iadd (zop2 ipow (ret (10 : Int)) (ret (20 : Int))) (ret (1 : Int))))) (ret [])))))) (zapp m_w_take (zpair (ret p.1) (ret (4 : Int)))))) fun one2 =>
  (zseq (zset (zlist ((ret []) : M _ (List Int)))) fun some3 =>
  (zseq (zforI (zapp frA1 (ret p.2)) some3 fun c4 x5 =>
    (zseq (bnd (zop2 ixat (zlist (zcons (ret one2) (zcons (zapp m_w_take (zpair (ret p.1) (ret (2 : Int)))) (zcons (zapp m_w_take (zpair (ret p.1) (ret (9 : Int)))) (zcons (zapp m_w_take (zpair (ret p.1) (zop2 iadd (zop2 ipow (ret (10 : Int)) (ret (20 : Int))) (ret (1 : Int))))) (ret [])))))) (ret way1)) fun v => chk (List.length c4 < sizeLine) (ret (.nx v))) fun a6 =>
    (znx (c4 ++ [a6])))) fun c4 =>
  (zrt (ret c4))))))
noncomputable def m_w_prices (p : (Unit × Int)) : M Bag (List Int) := zbody (b_w_prices p)
theorem f_w_prices {G : Gx} {D : Cl} (T : Txt G D) {f : Addr} {fd : FuncData} (F : Fun G.K "_law_prices" "_law_prices" t_w_prices f fd) : FnG false G.P G.w G.K G.mg G.base 2 f fd ["_law_bag_here", "_law_many"] (spZ G (fun q : Addr × Addr => bagE q.1 q.2) (fun (q : Addr × Addr) (p : (Unit × Int)) => [(rRef q.1).pr p.1, rInt.pr p.2]) m_w_prices (rLst rInt)) :=
  fn_ok (g := false) (k := 1) (mb := b_w_prices) (n := fun _ _ => stk) (Γn := fun _ _ _ => []) F sc_w_prices (fun _ _ => rfl) (fun _ => rfl) (.inl fun _ _ => rfl) fun q p W =>
  show ZB G k_w_prices _ W _ [.st ((rRef q.1).pr p.1), .st (rInt.pr p.2), .no, .no, .no, .no] _ (b_w_prices p) _ from
  (zb_cons (zs_set s_w_prices_2 (z_call (q := q) (at_w_take T) rfl (by decide) (by decide) (by exact rfl) (za_cons (z_var n_w_prices_0) (za_one z_int))) sub_nil) fun way1 =>
  (zb_cons (zs_set s_w_prices_3 (z_ixL (z_list (zl_cons z_int (zl_cons z_int (zl_cons (z_pow z_int z_int) (zl_cons (z_call (q := q) (at_w_take T) rfl (by decide) (by decide) (by exact rfl) (za_cons (z_var n_w_prices_0) (za_one (z_add (z_pow z_int z_int) z_int)))) zl_nil))))) (z_call (q := q) (at_w_take T) rfl (by decide) (by decide) (by exact rfl) (za_cons (z_var n_w_prices_0) (za_one z_int)))) sub_nil) fun one2 =>
  (zb_cons (zs_setF s_w_prices_4 (zf_list zl_nil) sub_nil) fun some3 =>
  (zb_cons (zs_for (vs := [5]) (Γh := fun c4 : (List Int) => [.st ((rRef q.1).pr p.1), .st (rInt.pr p.2), .st (rInt.pr way1), .st (rInt.pr one2), .ow (ownL rInt c4), .no]) (zi_r1 (blt_of (u := .type "range") T.b_range (by decide +kernel)) (z_var n_w_prices_1)) (SubL.sub (.keep (.keep (.keep (.keep (.keep (.keep SubL.nil))))))) (fun c4 => (zg_name s_w_prices_5 (by decide))) (fun c4 x5 =>
    (zb_cons (zs_app n_w_prices_4 rfl (z_ixL (z_list (zl_cons (z_var n_w_prices_3) (zl_cons (z_call (q := q) (at_w_take T) rfl (by decide) (by decide) (by exact rfl) (za_cons (z_var n_w_prices_0) (za_one z_int))) (zl_cons (z_call (q := q) (at_w_take T) rfl (by decide) (by decide) (by exact rfl) (za_cons (z_var n_w_prices_0) (za_one z_int))) (zl_cons (z_call (q := q) (at_w_take T) rfl (by decide) (by decide) (by exact rfl) (za_cons (z_var n_w_prices_0) (za_one (z_add (z_pow z_int z_int) z_int)))) zl_nil))))) (z_var n_w_prices_2)) sub_nil) fun a6 =>
    (zb_nil (SubL.sub (.keep (.keep (.keep (.keep (.keep (.drop SubL.nil)))))))))) sub_nil) fun c4 =>
  (zb_wk (sub_frz (i := 4) one_L) <| zb_one (zs_ret (z_var n_w_prices_4) sub_nil))))))
theorem at_w_prices {G : Gx} {D : Cl} (T : Txt G D) : FnAt false G "_law_prices" 2 ["_law_bag_here", "_law_many"] (spZ G (fun q : Addr × Addr => bagE q.1 q.2) (fun (q : Addr × Addr) (p : (Unit × Int)) => [(rRef q.1).pr p.1, rInt.pr p.2]) m_w_prices (rLst rInt)) :=
  let ⟨f, fd, h1, h2, h3, h4⟩ := T.d_w_prices; ⟨f, fd, h1, h2, h3, f_w_prices T h4⟩

def k_w_any_plan : Sc := ⟨["_law_bag_here", "_law_begin", "_law_row", "_law_below"], defScope t_w_any_plan, 2, true, fun _ => true, false⟩
theorem sc_w_any_plan : FnScope ["_law_bag_here", "_law_begin", "_law_row", "_law_below"] ["_law_bag_here"] (defScope t_w_any_plan) := ⟨rfl, rfl, rfl, by decide +kernel, rfl, by decide +kernel, by decide +kernel⟩
theorem n_w_any_plan_0 : Nm k_w_any_plan 0 "_law_bag_here" := nm_of (by decide +kernel)
theorem n_w_any_plan_1 : Nm k_w_any_plan 1 "_law_begin" := nm_of (by decide +kernel)
theorem s_w_any_plan_1 : Ns k_w_any_plan 1 "_law_begin" := ns_of (by decide +kernel)
theorem n_w_any_plan_2 : Nm k_w_any_plan 2 "_law_row" := nm_of (by decide +kernel)
theorem s_w_any_plan_2 : Ns k_w_any_plan 2 "_law_row" := ns_of (by decide +kernel)
theorem n_w_any_plan_3 : Nm k_w_any_plan 3 "_law_below" := nm_of (by decide +kernel)
theorem s_w_any_plan_3 : Ns k_w_any_plan 3 "_law_below" := ns_of (by decide +kernel)
noncomputable def b_w_any_plan (p : Unit) : M Bag (Fl Unit Empty (Int × (List Int) × (List Int) × (List Int))) :=
  (zseq (zset (zop2 ixat (zlist (zcons (ret (0 : Int)) (zcons (ret (100 : Int)) (zcons (zop1 ineg (ret (100 : Int))) (zcons (zop2 isub (zapp m_w_take (zpair (ret p) (ret (201 : Int)))) (ret (100 : Int))) (zcons (zop2 isub (zapp m_w_take (zpair (ret p) (ret (7 : Int)))) (ret (3 : Int))) (ret []))))))) (zapp m_w_take (zpair (ret p) (ret (5 : Int)))))) fun begin1 =>
  (zseq (zset (zapp m_w_prices (zpair (ret p) (zop2 ixat (zlist (zcons (ret (0 : Int)) (zcons (zapp m_w_take (zpair (ret p) (ret (6 : Int)))) (zcons (ret (40 : Int)) (zcons (zapp m_w_take (zpair (ret p) (ret (41 : Int)))) (ret [])))))) (zapp m_w_take (zpair (ret p) (ret (4 : Int)))))))) fun row2 =>
  (zseq (zset (zapp m_w_prices (zpair (ret p) (zop2 iadd (ret (1 : Int)) (zapp m_w_take (zpair (ret p) (ret (4 : Int)))))))) fun below3 =>
  (zrt (zpair (ret begin1) (zpair (ret row2) (zpair (ret below3) (zapp m_w_prices (zpair (ret p) (zop2 iadd (ret (1 : Int)) (zapp m_w_take (zpair (ret p) (ret (4 : Int))))))))))))))
noncomputable def m_w_any_plan (p : Unit) : M Bag (Int × (List Int) × (List Int) × (List Int)) := zbody (b_w_any_plan p)
theorem f_w_any_plan {G : Gx} {D : Cl} (T : Txt G D) {f : Addr} {fd : FuncData} (F : Fun G.K "_law_any_plan" "_law_any_plan" t_w_any_plan f fd) : FnG false G.P G.w G.K G.mg G.base 3 f fd ["_law_bag_here"] (spZ G (fun q : Addr × Addr => bagE q.1 q.2) (fun (q : Addr × Addr) (p : Unit) => [(rRef q.1).pr p]) m_w_any_plan (rT4 rInt (rLst rInt) (rLst rInt) (rLst rInt))) :=
  fn_ok (g := false) (k := 2) (mb := b_w_any_plan) (n := fun _ _ => stk) (Γn := fun _ _ _ => []) F sc_w_any_plan (fun _ _ => rfl) (fun _ => rfl) (.inl fun _ _ => rfl) fun q p W =>
  show ZB G k_w_any_plan _ W _ [.st ((rRef q.1).pr p), .no, .no, .no] _ (b_w_any_plan p) _ from
  (zb_cons (zs_set s_w_any_plan_1 (z_ixL (z_list (zl_cons z_int (zl_cons z_int (zl_cons (z_neg z_int) (zl_cons (z_sub (z_call (q := q) (at_w_take T) rfl (by decide) (by decide) (by exact rfl) (za_cons (z_var n_w_any_plan_0) (za_one z_int))) z_int) (zl_cons (z_sub (z_call (q := q) (at_w_take T) rfl (by decide) (by decide) (by exact rfl) (za_cons (z_var n_w_any_plan_0) (za_one z_int))) z_int) zl_nil)))))) (z_call (q := q) (at_w_take T) rfl (by decide) (by decide) (by exact rfl) (za_cons (z_var n_w_any_plan_0) (za_one z_int)))) sub_nil) fun begin1 =>
  (zb_cons (zs_set s_w_any_plan_2 (z_call (q := q) (at_w_prices T) rfl (by decide) (by decide) (by exact rfl) (za_cons (z_var n_w_any_plan_0) (za_one (z_ixL (z_list (zl_cons z_int (zl_cons (z_call (q := q) (at_w_take T) rfl (by decide) (by decide) (by exact rfl) (za_cons (z_var n_w_any_plan_0) (za_one z_int))) (zl_cons z_int (zl_cons (z_call (q := q) (at_w_take T) rfl (by decide) (by decide) (by exact rfl) (za_cons (z_var n_w_any_plan_0) (za_one z_int))) zl_nil))))) (z_call (q := q) (at_w_take T) rfl (by decide) (by decide) (by exact rfl) (za_cons (z_var n_w_any_plan_0) (za_one z_int))))))) sub_nil) fun row2 =>
  (zb_cons (zs_set s_w_any_plan_3 (z_call (q := q) (at_w_prices T) rfl (by decide) (by decide) (by exact rfl) (za_cons (z_var n_w_any_plan_0) (za_one (z_add z_int (z_call (q := q) (at_w_take T) rfl (by decide) (by decide) (by exact rfl) (za_cons (z_var n_w_any_plan_0) (za_one z_int))))))) sub_nil) fun below3 =>
  (zb_one (zs_ret (z_tup4 (za_cons (z_var n_w_any_plan_1) (za_cons (z_var n_w_any_plan_2) (za_cons (z_var n_w_any_plan_3) (za_one (z_call (q := q) (at_w_prices T) rfl (by decide) (by decide) (by exact rfl) (za_cons (z_var n_w_any_plan_0) (za_one (z_add z_int (z_call (q := q) (at_w_take T) rfl (by decide) (by decide) (by exact rfl) (za_cons (z_var n_w_any_plan_0) (za_one z_int)))))))))))) sub_nil)))))
theorem at_w_any_plan {G : Gx} {D : Cl} (T : Txt G D) : FnAt false G "_law_any_plan" 3 ["_law_bag_here"] (spZ G (fun q : Addr × Addr => bagE q.1 q.2) (fun (q : Addr × Addr) (p : Unit) => [(rRef q.1).pr p]) m_w_any_plan (rT4 rInt (rLst rInt) (rLst rInt) (rLst rInt))) :=
  let ⟨f, fd, h1, h2, h3, h4⟩ := T.d_w_any_plan; ⟨f, fd, h1, h2, h3, f_w_any_plan T h4⟩

def k_w_odd : Sc := ⟨["_law_bag_here", "_law_some"], defScope t_w_odd, 1, true, fun _ => true, false⟩
theorem sc_w_odd : FnScope ["_law_bag_here", "_law_some"] ["_law_bag_here"] (defScope t_w_odd) := ⟨rfl, rfl, rfl, by decide +kernel, rfl, by decide +kernel, by decide +kernel⟩
theorem n_w_odd_0 : Nm k_w_odd 0 "_law_bag_here" := nm_of (by decide +kernel)
theorem n_w_odd_1 : Nm k_w_odd 1 "_law_some" := nm_of (by decide +kernel)
theorem s_w_odd_1 : Ns k_w_odd 1 "_law_some" := ns_of (by decide +kernel)
noncomputable def b_w_odd (p : Unit) : M Bag (Fl Unit Empty PyData) :=
  (zseq (zset (zlist (zcons (zget (qN : DaQ rNon).d (ret ())) (zcons (zget (qI : DaQ rInt).d (zop1 ineg (ret (1 : Int)))) (zcons (zget (qI : DaQ rInt).d (zop2 iadd (zop2 ipow (ret (10 : Int)) (ret (20 : Int))) (ret (1 : Int)))) (zcons (zget (qB : DaQ rBl).d (ret true)) (zcons (zget (qS : DaQ rStr).d (ret ("1" : Str))) (zcons (zget ((qL qI) : DaQ (rLst rInt)).d (zlist ((ret []) : M _ (List Int)))) (zcons (zget ((qV qI) : DaQ (rVT rInt)).d (zlist (zcons (ret (1 : Int)) (ret [])))) (zcons (zgetP dq0 (ret ([] : List (Str × Int)))) (zcons (zget ((qL qI) : DaQ (rLst rInt)).d (zlist (zcons (ret (1 : Int)) (ret [])))) (zcons (zget (qB : DaQ rBl).d (ret false)) (zcons (zget (qI : DaQ rInt).d (zop2 ipow (ret (10 : Int)) (ret (40 : Int)))) (zcons (zget ((qL (qL qI)) : DaQ (rLst (rLst rInt))).d (zlist (zcons (zlist (zcons (ret (1 : Int)) (ret []))) (ret [])))) (ret []))))))))))))))) fun some1 =>
  (zrt (zop2 ixat (ret some1) (zapp m_w_take (zpair (ret p) (ret (12 : Int)))))))
noncomputable def m_w_odd (p : Unit) : M Bag PyData := zbody (b_w_odd p)
theorem f_w_odd {G : Gx} {D : Cl} (T : Txt G D) {f : Addr} {fd : FuncData} (F : Fun G.K "_law_odd" "_law_odd" t_w_odd f fd) : FnG false G.P G.w G.K G.mg G.base 2 f fd ["_law_bag_here"] (spZ G (fun q : Addr × Addr => bagE q.1 q.2) (fun (q : Addr × Addr) (p : Unit) => [(rRef q.1).pr p]) m_w_odd rQ) :=
  fn_ok (g := false) (k := 1) (mb := b_w_odd) (n := fun _ _ => stk) (Γn := fun _ _ _ => []) F sc_w_odd (fun _ _ => rfl) (fun _ => rfl) (.inl fun _ _ => rfl) fun q p W =>
  show ZB G k_w_odd _ W _ [.st ((rRef q.1).pr p), .no] _ (b_w_odd p) _ from
  (zb_cons (zs_set s_w_odd_1 (z_list (zl_cons (z_q qN z_non) (zl_cons (z_q qI (z_neg z_int)) (zl_cons (z_q qI (z_add (z_pow z_int z_int) z_int)) (zl_cons (z_q qB z_bl) (zl_cons (z_q qS z_str) (zl_cons (z_q (qL qI) (z_list zl_nil)) (zl_cons (z_q (qV qI) (z_vtup (zl_cons z_int zl_nil))) (zl_cons (z_q0 (z_dict (zf_dnew (K := (kyF G kyfS)) (R2 := rInt)))) (zl_cons (z_q (qL qI) (z_list (zl_cons z_int zl_nil))) (zl_cons (z_q qB z_bl) (zl_cons (z_q qI (z_pow z_int z_int)) (zl_cons (z_q (qL (qL qI)) (z_list (zl_cons (z_list (zl_cons z_int zl_nil)) zl_nil))) zl_nil))))))))))))) sub_nil) fun some1 =>
  (zb_one (zs_ret (z_ixL (z_var n_w_odd_1) (z_call (q := q) (at_w_take T) rfl (by decide) (by decide) (by exact rfl) (za_cons (z_var n_w_odd_0) (za_one z_int)))) sub_nil)))
theorem at_w_odd {G : Gx} {D : Cl} (T : Txt G D) : FnAt false G "_law_odd" 2 ["_law_bag_here"] (spZ G (fun q : Addr × Addr => bagE q.1 q.2) (fun (q : Addr × Addr) (p : Unit) => [(rRef q.1).pr p]) m_w_odd rQ) :=
  let ⟨f, fd, h1, h2, h3, h4⟩ := T.d_w_odd; ⟨f, fd, h1, h2, h3, f_w_odd T h4⟩

def k_w_bent : Sc := ⟨["_law_bag_here", "_law_things", "_law_place_here", "_law_thing", "_law_way", "_law_some", "_law_spot", "_law_front"], defScope t_w_bent, 2, true, fun _ => true, false⟩
theorem sc_w_bent : FnScope ["_law_bag_here", "_law_things", "_law_place_here", "_law_thing", "_law_way", "_law_some", "_law_spot", "_law_front"] ["_law_bag_here", "_law_things"] (defScope t_w_bent) := ⟨rfl, rfl, rfl, by decide +kernel, rfl, by decide +kernel, by decide +kernel⟩
theorem n_w_bent_0 : Nm k_w_bent 0 "_law_bag_here" := nm_of (by decide +kernel)
theorem n_w_bent_1 : Nm k_w_bent 1 "_law_things" := nm_of (by decide +kernel)
theorem n_w_bent_2 : Nm k_w_bent 2 "_law_place_here" := nm_of (by decide +kernel)
theorem s_w_bent_2 : Ns k_w_bent 2 "_law_place_here" := ns_of (by decide +kernel)
theorem n_w_bent_3 : Nm k_w_bent 3 "_law_thing" := nm_of (by decide +kernel)
theorem s_w_bent_3 : Ns k_w_bent 3 "_law_thing" := ns_of (by decide +kernel)
theorem n_w_bent_4 : Nm k_w_bent 4 "_law_way" := nm_of (by decide +kernel)
theorem s_w_bent_4 : Ns k_w_bent 4 "_law_way" := ns_of (by decide +kernel)
theorem n_w_bent_5 : Nm k_w_bent 5 "_law_some" := nm_of (by decide +kernel)
theorem s_w_bent_5 : Ns k_w_bent 5 "_law_some" := ns_of (by decide +kernel)
theorem n_w_bent_6 : Nm k_w_bent 6 "_law_spot" := nm_of (by decide +kernel)
theorem s_w_bent_6 : Ns k_w_bent 6 "_law_spot" := ns_of (by decide +kernel)
theorem n_w_bent_7 : Nm k_w_bent 7 "_law_front" := nm_of (by decide +kernel)
theorem s_w_bent_7 : Ns k_w_bent 7 "_law_front" := ns_of (by decide +kernel)
noncomputable def b_w_bent (x : (Unit × Unit)) (y : (List PyData)) : M Bag (Fl (List PyData) Empty (Unit × (List PyData))) :=
  (zseq (zset (zapp m_w_take (zpair (ret x.1) (ret (4 : Int))))) fun placehere1 =>
  (zseq (zset (zop2 ixat (ret y) (ret placehere1))) fun thing2 =>
  (zseq (zset (zapp m_w_take (zpair (ret x.1) (ret (4 : Int))))) fun way4 =>
  (zseq (zifS (zop2 feq (ret placehere1) (ret (3 : Int)))
    (zseq (zset (zlist (zcons (zget (qI : DaQ rInt).d (ret (101 : Int))) (zcons (zget (qI : DaQ rInt).d (zop1 ineg (ret (101 : Int)))) (zcons (zget (qI : DaQ rInt).d (ret (100 : Int))) (zcons (zget (qI : DaQ rInt).d (zop1 ineg (ret (100 : Int)))) (zcons (zget (qB : DaQ rBl).d (ret true)) (zcons (zget (qN : DaQ rNon).d (ret ())) (zcons (zget (qS : DaQ rStr).d (ret ("0" : Str))) (zcons (zget ((qL qI) : DaQ (rLst rInt)).d (zlist (zcons (ret (0 : Int)) (ret [])))) (zcons (zget (qI : DaQ rInt).d (ret (0 : Int))) (ret [])))))))))))) fun some6 =>
    (zseq (putM y (zop2 ixat (ret some6) (zapp m_w_take (zpair (ret x.1) (ret (9 : Int))))) (ret (3 : Int))) fun things7 =>
    (znx things7)))
    (zseq (zifS (zor (znot (zget (isD "list") (zget qQ.d (ret thing2)))) (zop2 feq (ret way4) (ret (0 : Int))))
      (zseq (zset (zlist (zcons (zapp m_w_odd (ret x.1)) (zcons (zget ((qL qI) : DaQ (rLst rInt)).d (zop2 lrep (zlist (zcons (ret (1 : Int)) (ret []))) (ret (5 : Int)))) (zcons (zget ((qL qI) : DaQ (rLst rInt)).d (zop2 lrep (zlist (zcons (ret (0 : Int)) (ret []))) (ret (41 : Int)))) (zcons (zget ((qL qI) : DaQ (rLst rInt)).d (zlist ((ret []) : M _ (List Int)))) (zcons (zget ((qL qI) : DaQ (rLst rInt)).d (zop2 lrep (zlist (zcons (ret (3 : Int)) (ret []))) (ret (40 : Int)))) (ret [])))))))) fun some9 =>
      (zseq (putM y (zop2 ixat (ret some9) (zapp m_w_take (zpair (ret x.1) (ret (5 : Int))))) (ret placehere1)) fun things10 =>
      (znx things10)))
      (zseq (zifS (zop2 feq (ret way4) (ret (1 : Int)))
        (zseq (zset (zlist (zcons (zget ((qV qQ) : DaQ (rVT rQ)).d (zapp ret (zgetP asL (ret thing2)))) (zcons (zgetP dq0 (ret ([] : List (Str × Int)))) (zcons (zget ((qL qQ) : DaQ (rLst rQ)).d (zop2 lcat (zgetP asL (ret thing2)) (zop2 lrep (zlist (zcons (zget (qI : DaQ rInt).d (ret (0 : Int))) (ret []))) (ret (40 : Int))))) (zcons (zget ((qL qQ) : DaQ (rLst rQ)).d (zop2 lrep (zgetP asL (ret thing2)) (ret (2 : Int)))) (ret []))))))) fun some12 =>
        (zseq (putM y (zop2 ixat (ret some12) (zapp m_w_take (zpair (ret x.1) (ret (4 : Int))))) (ret placehere1)) fun things13 =>
        (znx things13)))
        (zseq (zset (zapp m_w_take (zpair (ret x.1) (zop2 iadd (zapp flen (zgetP asL (ret thing2))) (ret (1 : Int)))))) fun spot14 =>
        (zseq (zset (zop2 lcat (zsl (zgetP asL (ret thing2)) (ret none) (zsome (ret spot14))) (zlist (zcons (zapp m_w_odd (ret x.1)) (ret []))))) fun front15 =>
        (zseq (putM y (zget ((qL qQ) : DaQ (rLst rQ)).d (zop2 lcat (ret front15) (zsl (zgetP asL (ret thing2)) (zsome (zop2 isub (zop2 iadd (ret spot14) (ret way4)) (ret (2 : Int)))) (ret none)))) (ret placehere1)) fun things16 =>
        (znx things16))))) fun j11 =>
      (znx j11))) fun j8 =>
    (znx j8))) fun j5 =>
  (znx j5)))))
noncomputable def m_w_bent (p : (Unit × Unit) × (List PyData)) : M Bag (Unit × (List PyData)) := zfinH (fun _ => some ()) (b_w_bent p.1 p.2)
theorem f_w_bent {G : Gx} {D : Cl} (T : Txt G D) {f : Addr} {fd : FuncData} (F : Fun G.K "_law_bent" "_law_bent" t_w_bent f fd) : FnG false G.P G.w G.K G.mg G.base 3 f fd ["_law_bag_here", "_law_things"] (spHB G (fun q : ((Addr × Addr) × Addr) => bagE q.1.1 q.1.2) (fun (q : ((Addr × Addr) × Addr)) (x : (Unit × Unit)) => [(rRef q.1.1).pr x.1, (rRef q.2).pr x.2]) (fun (q : ((Addr × Addr) × Addr)) (z : (List PyData)) => [ownLa rQ q.2 z]) m_w_bent rNon) :=
  fn_okHB (g := false) (k := 2) (mb := fun p => b_w_bent p.1 p.2) (n := (fun _ => some ())) F sc_w_bent (fun _ _ => rfl) (fun _ _ h _ => by cases h; rfl) fun q x y W =>
  show ZB G k_w_bent _ W _ [.st ((rRef q.1.1).pr x.1), .st ((rRef q.2).pr ()), .no, .no, .no, .no, .no, .no, .gh (ownLa rQ q.2 y)] _ (b_w_bent x y) _ from
  (zb_cons (zs_set s_w_bent_2 (z_call (q := q.1) (at_w_take T) rfl (by decide) (by decide) (by exact rfl) (za_cons (z_var n_w_bent_0) (za_one z_int))) sub_nil) fun placehere1 =>
  (zb_cons (zs_set s_w_bent_3 (z_close (i := 1) (g := 8) rfl rfl (z_lendX (.st (.ow view_L (.st (.no (.no (.no (.no (.no (.no .nil))))))))) fun L3 => (z_ixF hasL (z_var n_w_bent_1) (z_var n_w_bent_2)))) sub_nil) fun thing2 =>
  (zb_cons (zs_set s_w_bent_4 (z_call (q := q.1) (at_w_take T) rfl (by decide) (by decide) (by exact rfl) (za_cons (z_var n_w_bent_0) (za_one z_int))) sub_nil) fun way4 =>
  (zb_cons (zs_if (Γn := fun j5 : (List PyData) => [.st ((rRef q.1.1).pr x.1), .st ((rRef q.2).pr ()), .st (rInt.pr placehere1), .st (rQ.pr thing2), .st (rInt.pr way4), .no, .no, .no, .gh (ownLa rQ q.2 j5)]) (zt_eq scI (z_var n_w_bent_2) z_int)
    (zb_cons (zs_set s_w_bent_5 (z_list (zl_cons (z_q qI z_int) (zl_cons (z_q qI (z_neg z_int)) (zl_cons (z_q qI z_int) (zl_cons (z_q qI (z_neg z_int)) (zl_cons (z_q qB z_bl) (zl_cons (z_q qN z_non) (zl_cons (z_q qS z_str) (zl_cons (z_q (qL qI) (z_list (zl_cons z_int zl_nil))) (zl_cons (z_q qI z_int) zl_nil)))))))))) sub_nil) fun some6 =>
    (zb_cons (zs_putG (g := 8) n_w_bent_1 rfl rfl z_int (z_ixL (z_var n_w_bent_5) (z_call (q := q.1) (at_w_take T) rfl (by decide) (by decide) (by exact rfl) (za_cons (z_var n_w_bent_0) (za_one z_int)))) sub_nil) fun things7 =>
    (zb_nil (SubL.sub (.keep (.keep (.keep (.keep (.keep (.drop (.keep (.keep (.keep SubL.nil)))))))))))))
    (zb_cons (zs_if (Γn := fun j8 : (List PyData) => [.st ((rRef q.1.1).pr x.1), .st ((rRef q.2).pr ()), .st (rInt.pr placehere1), .st (rQ.pr thing2), .st (rInt.pr way4), .no, .no, .no, .gh (ownLa rQ q.2 j8)]) (zw_t (zw_or (zt_not (zt_val (z_isiX (blt_of (u := .builtin "isinstance") T.b_isinstance (by decide +kernel)) (blt_of (u := .type "list") T.b_list (by decide +kernel)) (fun d => by cases d <;> rfl) (z_x qQ (z_var n_w_bent_3))))) (zw_or1 (zt_eq scI (z_var n_w_bent_4) z_int))))
      (zb_cons (zs_set s_w_bent_5 (z_list (zl_cons (z_call (q := q.1) (at_w_odd T) rfl (by decide) (by decide) (by exact rfl) (za_one (z_var n_w_bent_0))) (zl_cons (z_q (qL qI) (z_repL (z_list (zl_cons z_int zl_nil)) z_int)) (zl_cons (z_q (qL qI) (z_repL (z_list (zl_cons z_int zl_nil)) z_int)) (zl_cons (z_q (qL qI) (z_list zl_nil)) (zl_cons (z_q (qL qI) (z_repL (z_list (zl_cons z_int zl_nil)) z_int)) zl_nil)))))) sub_nil) fun some9 =>
      (zb_cons (zs_putG (g := 8) n_w_bent_1 rfl rfl (z_var n_w_bent_2) (z_ixL (z_var n_w_bent_5) (z_call (q := q.1) (at_w_take T) rfl (by decide) (by decide) (by exact rfl) (za_cons (z_var n_w_bent_0) (za_one z_int)))) sub_nil) fun things10 =>
      (zb_nil (SubL.sub (.keep (.keep (.keep (.keep (.keep (.drop (.keep (.keep (.keep SubL.nil)))))))))))))
      (zb_cons (zs_if (Γn := fun j11 : (List PyData) => [.st ((rRef q.1.1).pr x.1), .st ((rRef q.2).pr ()), .st (rInt.pr placehere1), .st (rQ.pr thing2), .st (rInt.pr way4), .no, .no, .no, .gh (ownLa rQ q.2 j11)]) (zt_eq scI (z_var n_w_bent_4) z_int)
        (zb_cons (zs_set s_w_bent_5 (z_list (zl_cons (z_q (qV qQ) (z_tupL (blt_of (u := .type "tuple") T.b_tuple (by decide +kernel)) (z_as as_L (z_var n_w_bent_3)))) (zl_cons (z_q0 (z_dict (zf_dnew (K := (kyF G kyfS)) (R2 := rInt)))) (zl_cons (z_q (qL qQ) (z_catL (z_as as_L (z_var n_w_bent_3)) (z_repL (z_list (zl_cons (z_q qI z_int) zl_nil)) z_int))) (zl_cons (z_q (qL qQ) (z_repL (z_as as_L (z_var n_w_bent_3)) z_int)) zl_nil))))) sub_nil) fun some12 =>
        (zb_cons (zs_putG (g := 8) n_w_bent_1 rfl rfl (z_var n_w_bent_2) (z_ixL (z_var n_w_bent_5) (z_call (q := q.1) (at_w_take T) rfl (by decide) (by decide) (by exact rfl) (za_cons (z_var n_w_bent_0) (za_one z_int)))) sub_nil) fun things13 =>
        (zb_nil (SubL.sub (.keep (.keep (.keep (.keep (.keep (.drop (.keep (.keep (.keep SubL.nil)))))))))))))
        (zb_cons (zs_set s_w_bent_6 (z_call (q := q.1) (at_w_take T) rfl (by decide) (by decide) (by exact rfl) (za_cons (z_var n_w_bent_0) (za_one (z_add (z_lenL (blt_of (u := .builtin "len") T.b_len (by decide +kernel)) (z_as as_L (z_var n_w_bent_3))) z_int)))) sub_nil) fun spot14 =>
        (zb_cons (zs_set s_w_bent_7 (z_catL (z_slL (z_as as_L (z_var n_w_bent_3)) zp_no (zp_so (z_var n_w_bent_6))) (z_list (zl_cons (z_call (q := q.1) (at_w_odd T) rfl (by decide) (by decide) (by exact rfl) (za_one (z_var n_w_bent_0))) zl_nil))) sub_nil) fun front15 =>
        (zb_cons (zs_putG (g := 8) n_w_bent_1 rfl rfl (z_var n_w_bent_2) (z_q (qL qQ) (z_catL (z_var n_w_bent_7) (z_slL (z_as as_L (z_var n_w_bent_3)) (zp_so (z_sub (z_add (z_var n_w_bent_6) (z_var n_w_bent_4)) z_int)) zp_no))) sub_nil) fun things16 =>
        (zb_nil (SubL.sub (.keep (.keep (.keep (.keep (.keep (.keep (.drop (.drop (.keep SubL.nil)))))))))))))) sub_nil) fun j11 =>
      (zb_nil (SubL.sub (.keep (.keep (.keep (.keep (.keep (.keep (.keep (.keep (.keep SubL.nil)))))))))))) sub_nil) fun j8 =>
    (zb_nil (SubL.sub (.keep (.keep (.keep (.keep (.keep (.keep (.keep (.keep (.keep SubL.nil)))))))))))) sub_nil) fun j5 =>
  (zb_nil (SubL.sub (.drop (.drop (.drop (.drop (.drop (.keep (.keep (.keep (.keep SubL.nil)))))))))))))))
theorem at_w_bent {G : Gx} {D : Cl} (T : Txt G D) : FnAt false G "_law_bent" 3 ["_law_bag_here", "_law_things"] (spHB G (fun q : ((Addr × Addr) × Addr) => bagE q.1.1 q.1.2) (fun (q : ((Addr × Addr) × Addr)) (x : (Unit × Unit)) => [(rRef q.1.1).pr x.1, (rRef q.2).pr x.2]) (fun (q : ((Addr × Addr) × Addr)) (z : (List PyData)) => [ownLa rQ q.2 z]) m_w_bent rNon) :=
  let ⟨f, fd, h1, h2, h3, h4⟩ := T.d_w_bent; ⟨f, fd, h1, h2, h3, f_w_bent T h4⟩

def k_w_within : Sc := ⟨["_law_thing", "_law_low", "_law_high"], defScope t_w_within, 0, true, fun _ => true, false⟩
theorem sc_w_within : FnScope ["_law_thing", "_law_low", "_law_high"] ["_law_thing", "_law_low", "_law_high"] (defScope t_w_within) := ⟨rfl, rfl, rfl, by decide +kernel, rfl, by decide +kernel, by decide +kernel⟩
theorem n_w_within_0 : Nm k_w_within 0 "_law_thing" := nm_of (by decide +kernel)
theorem n_w_within_1 : Nm k_w_within 1 "_law_low" := nm_of (by decide +kernel)
theorem n_w_within_2 : Nm k_w_within 2 "_law_high" := nm_of (by decide +kernel)
noncomputable def b_w_within (p : (PyData × Int × Int)) : M Unit (Fl Unit Empty Bool) :=
  (zrt (zand (zget (isD "int") (zget qQ.d (ret p.1))) (zand (znot (zget (isD "bool") (zget qQ.d (ret p.1)))) (zchain ile ile (ret p.2.1) (zgetP asI (ret p.1)) (ret p.2.2)))))
noncomputable def m_w_within (p : (PyData × Int × Int)) : M Unit Bool := zbody (b_w_within p)
theorem f_w_within {G : Gx} {D : Cl} (T : Txt G D) {f : Addr} {fd : FuncData} (F : Fun G.K "_law_within" "_law_within" t_w_within f fd) : FnG false G.P G.w G.K G.mg G.base 1 f fd ["_law_thing", "_law_low", "_law_high"] (spZ G (fun _ : Unit => noE) (fun (q : Unit) (p : (PyData × Int × Int)) => [rQ.pr p.1, rInt.pr p.2.1, rInt.pr p.2.2]) m_w_within rBl) :=
  fn_ok (g := false) (k := 0) (mb := b_w_within) (n := fun _ _ => stk) (Γn := fun _ _ _ => []) F sc_w_within (fun _ _ => rfl) (fun _ => rfl) (.inl fun _ _ => rfl) fun q p W =>
  show ZB G k_w_within _ W _ [.st (rQ.pr p.1), .st (rInt.pr p.2.1), .st (rInt.pr p.2.2)] _ (b_w_within p) _ from
  (zb_one (zs_ret (z_and (z_isiX (blt_of (u := .builtin "isinstance") T.b_isinstance (by decide +kernel)) (blt_of (u := .type "int") T.b_int (by decide +kernel)) (fun d => by cases d <;> rfl) (z_x qQ (z_var n_w_within_0))) (z_and (z_not (z_isiX (blt_of (u := .builtin "isinstance") T.b_isinstance (by decide +kernel)) (blt_of (u := .type "bool") T.b_bool (by decide +kernel)) (fun d => by cases d <;> rfl) (z_x qQ (z_var n_w_within_0)))) (z_one (z_chI ci_le ci_le (z_var n_w_within_1) (z_as as_I (z_var n_w_within_0)) (z_var n_w_within_2))))) sub_nil))
theorem at_w_within {G : Gx} {D : Cl} (T : Txt G D) : FnAt false G "_law_within" 1 ["_law_thing", "_law_low", "_law_high"] (spZ G (fun _ : Unit => noE) (fun (q : Unit) (p : (PyData × Int × Int)) => [rQ.pr p.1, rInt.pr p.2.1, rInt.pr p.2.2]) m_w_within rBl) :=
  let ⟨f, fd, h1, h2, h3, h4⟩ := T.d_w_within; ⟨f, fd, h1, h2, h3, f_w_within T h4⟩

def k_w_are_prices : Sc := ⟨["_law_thing", "_law_low", "_law_high", "_law_one"], defScope t_w_are_prices, 1, true, fun _ => true, false⟩
theorem sc_w_are_prices : FnScope ["_law_thing", "_law_low", "_law_high", "_law_one"] ["_law_thing", "_law_low", "_law_high"] (defScope t_w_are_prices) := ⟨rfl, rfl, rfl, by decide +kernel, rfl, by decide +kernel, by decide +kernel⟩
theorem n_w_are_prices_0 : Nm k_w_are_prices 0 "_law_thing" := nm_of (by decide +kernel)
theorem n_w_are_prices_1 : Nm k_w_are_prices 1 "_law_low" := nm_of (by decide +kernel)
theorem n_w_are_prices_2 : Nm k_w_are_prices 2 "_law_high" := nm_of (by decide +kernel)
noncomputable def b_w_are_prices (p : (PyData × Int × Int)) : M Unit (Fl Unit Empty Bool) :=
  (zseq (zifS (zor (znot (zget (isD "list") (zget qQ.d (ret p.1)))) (znot (zchain ile ile (ret p.2.1) (zapp flen (zgetP asL (ret p.1))) (ret p.2.2))))
    (zrt (ret false))
    (znx ())) fun _ =>
  (zrt (zop2 feqNil (zlc (fun e1 => (znot (zapp (fun x => lft (m_w_within x)) (zpair (ret e1) (zpair (ret (0 : Int)) (zop2 ipow (ret (10 : Int)) (ret (20 : Int)))))))) (fun e1 => (ret e1)) (zgetP asL (ret p.1))) (zlist ((ret []) : M _ (List Int))))))
noncomputable def m_w_are_prices (p : (PyData × Int × Int)) : M Unit Bool := zbody (b_w_are_prices p)
theorem f_w_are_prices {G : Gx} {D : Cl} (T : Txt G D) {f : Addr} {fd : FuncData} (F : Fun G.K "_law_are_prices" "_law_are_prices" t_w_are_prices f fd) : FnG false G.P G.w G.K G.mg G.base 2 f fd ["_law_thing", "_law_low", "_law_high"] (spZ G (fun _ : Unit => noE) (fun (q : Unit) (p : (PyData × Int × Int)) => [rQ.pr p.1, rInt.pr p.2.1, rInt.pr p.2.2]) m_w_are_prices rBl) :=
  fn_ok (g := false) (k := 1) (mb := b_w_are_prices) (n := fun _ _ => stk) (Γn := fun _ _ _ => []) F sc_w_are_prices (fun _ _ => rfl) (fun _ => rfl) (.inl fun _ _ => rfl) fun q p W =>
  show ZB G k_w_are_prices _ W _ [.st (rQ.pr p.1), .st (rInt.pr p.2.1), .st (rInt.pr p.2.2), .no] _ (b_w_are_prices p) _ from
  (zb_cons (zs_if (Γn := fun _ : Unit => [.st (rQ.pr p.1), .st (rInt.pr p.2.1), .st (rInt.pr p.2.2), .no]) (zw_t (zw_or (zt_not (zt_val (z_isiX (blt_of (u := .builtin "isinstance") T.b_isinstance (by decide +kernel)) (blt_of (u := .type "list") T.b_list (by decide +kernel)) (fun d => by cases d <;> rfl) (z_x qQ (z_var n_w_are_prices_0))))) (zw_or1 (zt_not (zt_chI ci_le ci_le (z_var n_w_are_prices_1) (z_lenL (blt_of (u := .builtin "len") T.b_len (by decide +kernel)) (z_as as_L (z_var n_w_are_prices_0))) (z_var n_w_are_prices_2))))))
    (zb_one (zs_ret z_bl sub_nil))
    (zb_nil (SubL.sub (.keep (.keep (.keep (.keep SubL.nil)))))) sub_nil) fun _ =>
  (zb_one (zs_ret (z_eqNil (R1 := rInt) (z_lc (Lc.mk (own := [("_law_one", 3)]) (blk_of rfl (by decide +kernel)) (zi_list (z_as as_L (z_var n_w_are_prices_0))) (zg_name (ns_of (i := 3) (by decide +kernel)) (by decide)) (fun e1 => (zts_one (zt_not (zt_val (z_callP (q := ()) (at_w_within T) (by decide) (by decide) (by exact rfl) (za_cons (z_var (nm_of (i := 3) (by decide +kernel))) (za_cons z_int (za_one (z_pow z_int z_int))))))))) (fun e1 => (z_var (nm_of (i := 3) (by decide +kernel)))) (lc_no ⟨rfl, trivial⟩) (fun _ _ => rfl))) (z_list zl_nil)) sub_nil)))
theorem at_w_are_prices {G : Gx} {D : Cl} (T : Txt G D) : FnAt false G "_law_are_prices" 2 ["_law_thing", "_law_low", "_law_high"] (spZ G (fun _ : Unit => noE) (fun (q : Unit) (p : (PyData × Int × Int)) => [rQ.pr p.1, rInt.pr p.2.1, rInt.pr p.2.2]) m_w_are_prices rBl) :=
  let ⟨f, fd, h1, h2, h3, h4⟩ := T.d_w_are_prices; ⟨f, fd, h1, h2, h3, f_w_are_prices T h4⟩

def k_w_wrong : Sc := ⟨["_law_things", "_law_good", "_law_place_here"], defScope t_w_wrong, 2, true, fun _ => true, false⟩
theorem sc_w_wrong : FnScope ["_law_things", "_law_good", "_law_place_here"] ["_law_things"] (defScope t_w_wrong) := ⟨rfl, rfl, rfl, by decide +kernel, rfl, by decide +kernel, by decide +kernel⟩
theorem n_w_wrong_0 : Nm k_w_wrong 0 "_law_things" := nm_of (by decide +kernel)
theorem n_w_wrong_1 : Nm k_w_wrong 1 "_law_good" := nm_of (by decide +kernel)
theorem s_w_wrong_1 : Ns k_w_wrong 1 "_law_good" := ns_of (by decide +kernel)
noncomputable def b_w_wrong (p : (List PyData)) : M Unit (Fl Unit Empty (Option Int)) :=
  (zseq (zset (zlist (zcons (zapp (fun x => lft (m_w_are_prices x)) (zpair (zop2 ixat (ret p) (ret (0 : Int))) (zpair (ret (1 : Int)) (ret (4 : Int))))) (zcons (zapp (fun x => lft (m_w_are_prices x)) (zpair (zop2 ixat (ret p) (ret (1 : Int))) (zpair (ret (0 : Int)) (ret (40 : Int))))) (ret []))))) fun good1 =>
  (zseq (zset (zop2 lcat (ret good1) (zlist (zcons (zapp (fun x => lft (m_w_are_prices x)) (zpair (zop2 ixat (ret p) (ret (2 : Int))) (zpair (ret (1 : Int)) (ret (4 : Int))))) (zcons (zapp (fun x => lft (m_w_within x)) (zpair (zop2 ixat (ret p) (ret (3 : Int))) (zpair (zop1 ineg (ret (100 : Int))) (ret (100 : Int))))) (ret [])))))) fun good2 =>
  (zrt (zop2 ixat (zop2 lcat (zget (List.map some) (zlc (fun e4 => (znot (zop2 ixat (ret good2) (ret e4)))) (fun e4 => (ret e4)) (zapp frA1 (ret (4 : Int))))) (zget (List.map fun _ => none) (zlist (zcons (ret ()) (ret []))))) (ret (0 : Int))))))
noncomputable def m_w_wrong (p : (List PyData)) : M Unit (Option Int) := zbody (b_w_wrong p)
theorem f_w_wrong {G : Gx} {D : Cl} (T : Txt G D) {f : Addr} {fd : FuncData} (F : Fun G.K "_law_wrong" "_law_wrong" t_w_wrong f fd) : FnG false G.P G.w G.K G.mg G.base 3 f fd ["_law_things"] (spZ G (fun _ : Unit => noE) (fun (q : Unit) (p : (List PyData)) => [(rLst rQ).pr p]) m_w_wrong (rOpt rInt)) :=
  fn_ok (g := false) (k := 2) (mb := b_w_wrong) (n := fun _ _ => stk) (Γn := fun _ _ _ => []) F sc_w_wrong (fun _ _ => rfl) (fun _ => rfl) (.inl fun _ _ => rfl) fun q p W =>
  show ZB G k_w_wrong _ W _ [.st ((rLst rQ).pr p), .no, .no] _ (b_w_wrong p) _ from
  (zb_cons (zs_set s_w_wrong_1 (z_list (zl_cons (z_callP (q := ()) (at_w_are_prices T) (by decide) (by decide) (by exact rfl) (za_cons (z_ixL (z_var n_w_wrong_0) z_int) (za_cons z_int (za_one z_int)))) (zl_cons (z_callP (q := ()) (at_w_are_prices T) (by decide) (by decide) (by exact rfl) (za_cons (z_ixL (z_var n_w_wrong_0) z_int) (za_cons z_int (za_one z_int)))) zl_nil))) sub_nil) fun good1 =>
  (zb_cons (zs_set s_w_wrong_1 (z_catL (z_var n_w_wrong_1) (z_list (zl_cons (z_callP (q := ()) (at_w_are_prices T) (by decide) (by decide) (by exact rfl) (za_cons (z_ixL (z_var n_w_wrong_0) z_int) (za_cons z_int (za_one z_int)))) (zl_cons (z_callP (q := ()) (at_w_within T) (by decide) (by decide) (by exact rfl) (za_cons (z_ixL (z_var n_w_wrong_0) z_int) (za_cons (z_neg z_int) (za_one z_int)))) zl_nil)))) sub_nil) fun good2 =>
  (zb_one (zs_ret (z_ixL (z_catL (z_relF (R := rLst rInt) (R2 := rLst (rOpt rInt)) (fun _ _ _ h => lst_some h) (z_lc (Lc.mk (own := [("_law_place_here", 2)]) (blk_of rfl (by decide +kernel)) (zi_r1 (blt_of (u := .type "range") T.b_range (by decide +kernel)) z_int) (zg_name (ns_of (i := 2) (by decide +kernel)) (by decide)) (fun e4 => (zts_one (zt_not (zt_val (z_ixL (z_var (nm_of (i := 1) (by decide +kernel))) (z_var (nm_of (i := 2) (by decide +kernel)))))))) (fun e4 => (z_var (nm_of (i := 2) (by decide +kernel)))) (lc_no ⟨rfl, trivial⟩) (fun _ _ => rfl)))) (z_relF (R := rLst rNon) (R2 := rLst (rOpt rInt)) (fun _ _ _ h => lst_none h) (z_list (zl_cons z_non zl_nil)))) z_int) sub_nil))))
theorem at_w_wrong {G : Gx} {D : Cl} (T : Txt G D) : FnAt false G "_law_wrong" 3 ["_law_things"] (spZ G (fun _ : Unit => noE) (fun (q : Unit) (p : (List PyData)) => [(rLst rQ).pr p]) m_w_wrong (rOpt rInt)) :=
  let ⟨f, fd, h1, h2, h3, h4⟩ := T.d_w_wrong; ⟨f, fd, h1, h2, h3, f_w_wrong T h4⟩

def k_is_whole : Sc := ⟨["thing"], defScope t_is_whole, 0, true, fun _ => true, false⟩
theorem sc_is_whole : FnScope ["thing"] ["thing"] (defScope t_is_whole) := ⟨rfl, rfl, rfl, by decide +kernel, rfl, by decide +kernel, by decide +kernel⟩
theorem n_is_whole_0 : Nm k_is_whole 0 "thing" := nm_of (by decide +kernel)
noncomputable def b_is_whole (p : PyData) : M Unit (Fl Unit Empty Bool) :=
  (zrt (zand (zget (isD "int") (zget qQ.d (ret p))) (znot (zget (isD "bool") (zget qQ.d (ret p))))))
noncomputable def m_is_whole (p : PyData) : M Unit Bool := zbody (b_is_whole p)
theorem f_is_whole {G : Gx} {D : Cl} (T : Txt G D) {f : Addr} {fd : FuncData} (F : Fun G.K "is_whole" "is_whole" t_is_whole f fd) : FnG false G.P G.w G.K G.mg G.base 1 f fd ["thing"] (spZ G (fun _ : Unit => noE) (fun (q : Unit) (p : PyData) => [rQ.pr p]) m_is_whole rBl) :=
  fn_ok (g := false) (k := 0) (mb := b_is_whole) (n := fun _ _ => stk) (Γn := fun _ _ _ => []) F sc_is_whole (fun _ _ => rfl) (fun _ => rfl) (.inl fun _ _ => rfl) fun q p W =>
  show ZB G k_is_whole _ W _ [.st (rQ.pr p)] _ (b_is_whole p) _ from
  (zb_one (zs_ret (z_and (z_isiX (blt_of (u := .builtin "isinstance") T.b_isinstance (by decide +kernel)) (blt_of (u := .type "int") T.b_int (by decide +kernel)) (fun d => by cases d <;> rfl) (z_x qQ (z_var n_is_whole_0))) (z_one (z_not (z_isiX (blt_of (u := .builtin "isinstance") T.b_isinstance (by decide +kernel)) (blt_of (u := .type "bool") T.b_bool (by decide +kernel)) (fun d => by cases d <;> rfl) (z_x qQ (z_var n_is_whole_0)))))) sub_nil))
theorem at_is_whole {G : Gx} {D : Cl} (T : Txt G D) : FnAt false G "is_whole" 1 ["thing"] (spZ G (fun _ : Unit => noE) (fun (q : Unit) (p : PyData) => [rQ.pr p]) m_is_whole rBl) :=
  let ⟨f, fd, h1, h2, h3, h4⟩ := T.d_is_whole; ⟨f, fd, h1, h2, h3, f_is_whole T h4⟩

def k_is_between : Sc := ⟨["thing", "low", "high"], defScope t_is_between, 1, true, fun _ => true, false⟩
theorem sc_is_between : FnScope ["thing", "low", "high"] ["thing", "low", "high"] (defScope t_is_between) := ⟨rfl, rfl, rfl, by decide +kernel, rfl, by decide +kernel, by decide +kernel⟩
theorem n_is_between_0 : Nm k_is_between 0 "thing" := nm_of (by decide +kernel)
theorem n_is_between_1 : Nm k_is_between 1 "low" := nm_of (by decide +kernel)
theorem n_is_between_2 : Nm k_is_between 2 "high" := nm_of (by decide +kernel)
noncomputable def b_is_between (p : (PyData × Int × Int)) : M Unit (Fl Unit Empty Bool) :=
  (zrt (zand (zapp (fun x => lft (m_is_whole x)) (ret p.1)) (zchain ile ile (ret p.2.1) (zgetP asI (ret p.1)) (ret p.2.2))))
noncomputable def m_is_between (p : (PyData × Int × Int)) : M Unit Bool := zbody (b_is_between p)
theorem f_is_between {G : Gx} {D : Cl} (T : Txt G D) {f : Addr} {fd : FuncData} (F : Fun G.K "is_between" "is_between" t_is_between f fd) : FnG false G.P G.w G.K G.mg G.base 2 f fd ["thing", "low", "high"] (spZ G (fun _ : Unit => noE) (fun (q : Unit) (p : (PyData × Int × Int)) => [rQ.pr p.1, rInt.pr p.2.1, rInt.pr p.2.2]) m_is_between rBl) :=
  fn_ok (g := false) (k := 1) (mb := b_is_between) (n := fun _ _ => stk) (Γn := fun _ _ _ => []) F sc_is_between (fun _ _ => rfl) (fun _ => rfl) (.inl fun _ _ => rfl) fun q p W =>
  show ZB G k_is_between _ W _ [.st (rQ.pr p.1), .st (rInt.pr p.2.1), .st (rInt.pr p.2.2)] _ (b_is_between p) _ from
  (zb_one (zs_ret (z_and (z_callP (q := ()) (at_is_whole T) (by decide) (by decide) (by exact rfl) (za_one (z_var n_is_between_0))) (z_one (z_chI ci_le ci_le (z_var n_is_between_1) (z_as as_I (z_var n_is_between_0)) (z_var n_is_between_2)))) sub_nil))
theorem at_is_between {G : Gx} {D : Cl} (T : Txt G D) : FnAt false G "is_between" 2 ["thing", "low", "high"] (spZ G (fun _ : Unit => noE) (fun (q : Unit) (p : (PyData × Int × Int)) => [rQ.pr p.1, rInt.pr p.2.1, rInt.pr p.2.2]) m_is_between rBl) :=
  let ⟨f, fd, h1, h2, h3, h4⟩ := T.d_is_between; ⟨f, fd, h1, h2, h3, f_is_between T h4⟩

def k_is_price : Sc := ⟨["thing"], defScope t_is_price, 2, true, fun _ => true, false⟩
theorem sc_is_price : FnScope ["thing"] ["thing"] (defScope t_is_price) := ⟨rfl, rfl, rfl, by decide +kernel, rfl, by decide +kernel, by decide +kernel⟩
theorem n_is_price_0 : Nm k_is_price 0 "thing" := nm_of (by decide +kernel)
noncomputable def b_is_price (p : PyData) : M Unit (Fl Unit Empty Bool) :=
  (zrt (zapp (fun x => lft (m_is_between x)) (zpair (ret p) (zpair (ret (0 : Int)) (ret c_MOST_PRICE)))))
noncomputable def m_is_price (p : PyData) : M Unit Bool := zbody (b_is_price p)
theorem f_is_price {G : Gx} {D : Cl} (T : Txt G D) {f : Addr} {fd : FuncData} (F : Fun G.K "is_price" "is_price" t_is_price f fd) : FnG false G.P G.w G.K G.mg G.base 3 f fd ["thing"] (spZ G (fun _ : Unit => noE) (fun (q : Unit) (p : PyData) => [rQ.pr p]) m_is_price rBl) :=
  fn_ok (g := false) (k := 2) (mb := b_is_price) (n := fun _ _ => stk) (Γn := fun _ _ _ => []) F sc_is_price (fun _ _ => rfl) (fun _ => rfl) (.inl fun _ _ => rfl) fun q p W =>
  show ZB G k_is_price _ W _ [.st (rQ.pr p)] _ (b_is_price p) _ from
  (zb_one (zs_ret (z_callP (q := ()) (at_is_between T) (by decide) (by decide) (by exact rfl) (za_cons (z_var n_is_price_0) (za_cons z_int (za_one (z_gintE (by exact rfl) T.c_MOST_PRICE))))) sub_nil))
theorem at_is_price {G : Gx} {D : Cl} (T : Txt G D) : FnAt false G "is_price" 3 ["thing"] (spZ G (fun _ : Unit => noE) (fun (q : Unit) (p : PyData) => [rQ.pr p]) m_is_price rBl) :=
  let ⟨f, fd, h1, h2, h3, h4⟩ := T.d_is_price; ⟨f, fd, h1, h2, h3, f_is_price T h4⟩

def k_are_prices : Sc := ⟨["thing", "least", "most", "one"], defScope t_are_prices, 3, true, fun _ => true, false⟩
theorem sc_are_prices : FnScope ["thing", "least", "most", "one"] ["thing", "least", "most"] (defScope t_are_prices) := ⟨rfl, rfl, rfl, by decide +kernel, rfl, by decide +kernel, by decide +kernel⟩
theorem n_are_prices_0 : Nm k_are_prices 0 "thing" := nm_of (by decide +kernel)
theorem n_are_prices_1 : Nm k_are_prices 1 "least" := nm_of (by decide +kernel)
theorem n_are_prices_2 : Nm k_are_prices 2 "most" := nm_of (by decide +kernel)
noncomputable def b_are_prices (p : (PyData × Int × Int)) : M Unit (Fl Unit Empty Bool) :=
  (zseq (zifS (zor (znot (zget (isD "list") (zget qQ.d (ret p.1)))) (znot (zchain ile ile (ret p.2.1) (zapp flen (zgetP asL (ret p.1))) (ret p.2.2))))
    (zrt (ret false))
    (znx ())) fun _ =>
  (zrt (zapp fall (zlc (fun e1 => (ret true)) (fun e1 => (zapp (fun x => lft (m_is_price x)) (ret e1))) (zgetP asL (ret p.1))))))
noncomputable def m_are_prices (p : (PyData × Int × Int)) : M Unit Bool := zbody (b_are_prices p)
theorem f_are_prices {G : Gx} {D : Cl} (T : Txt G D) {f : Addr} {fd : FuncData} (F : Fun G.K "are_prices" "are_prices" t_are_prices f fd) : FnG false G.P G.w G.K G.mg G.base 4 f fd ["thing", "least", "most"] (spZ G (fun _ : Unit => noE) (fun (q : Unit) (p : (PyData × Int × Int)) => [rQ.pr p.1, rInt.pr p.2.1, rInt.pr p.2.2]) m_are_prices rBl) :=
  fn_ok (g := false) (k := 3) (mb := b_are_prices) (n := fun _ _ => stk) (Γn := fun _ _ _ => []) F sc_are_prices (fun _ _ => rfl) (fun _ => rfl) (.inl fun _ _ => rfl) fun q p W =>
  show ZB G k_are_prices _ W _ [.st (rQ.pr p.1), .st (rInt.pr p.2.1), .st (rInt.pr p.2.2), .no] _ (b_are_prices p) _ from
  (zb_cons (zs_if (Γn := fun _ : Unit => [.st (rQ.pr p.1), .st (rInt.pr p.2.1), .st (rInt.pr p.2.2), .no]) (zw_t (zw_or (zt_not (zt_val (z_isiX (blt_of (u := .builtin "isinstance") T.b_isinstance (by decide +kernel)) (blt_of (u := .type "list") T.b_list (by decide +kernel)) (fun d => by cases d <;> rfl) (z_x qQ (z_var n_are_prices_0))))) (zw_or1 (zt_not (zt_chI ci_le ci_le (z_var n_are_prices_1) (z_lenL (blt_of (u := .builtin "len") T.b_len (by decide +kernel)) (z_as as_L (z_var n_are_prices_0))) (z_var n_are_prices_2))))))
    (zb_one (zs_ret z_bl sub_nil))
    (zb_nil (SubL.sub (.keep (.keep (.keep (.keep SubL.nil)))))) sub_nil) fun _ =>
  (zb_one (zs_ret (z_all (blt_of (u := .builtin "all") T.b_all (by decide +kernel)) (z_lc (Lc.mk (own := [("one", 3)]) (blk_of rfl (by decide +kernel)) (zi_list (z_as as_L (z_var n_are_prices_0))) (zg_name (ns_of (i := 3) (by decide +kernel)) (by decide)) (fun e1 => zts_nil) (fun e1 => (z_callP (q := ()) (at_is_price T) (by decide) (by decide) (by exact rfl) (za_one (z_var (nm_of (i := 3) (by decide +kernel)))))) (lc_no ⟨rfl, trivial⟩) (fun _ _ => rfl)))) sub_nil)))
theorem at_are_prices {G : Gx} {D : Cl} (T : Txt G D) : FnAt false G "are_prices" 4 ["thing", "least", "most"] (spZ G (fun _ : Unit => noE) (fun (q : Unit) (p : (PyData × Int × Int)) => [rQ.pr p.1, rInt.pr p.2.1, rInt.pr p.2.2]) m_are_prices rBl) :=
  let ⟨f, fd, h1, h2, h3, h4⟩ := T.d_are_prices; ⟨f, fd, h1, h2, h3, f_are_prices T h4⟩

def k_sums_of : Sc := ⟨["prices", "found", "price"], defScope t_sums_of, 0, true, fun _ => true, false⟩
theorem sc_sums_of : FnScope ["prices", "found", "price"] ["prices"] (defScope t_sums_of) := ⟨rfl, rfl, rfl, by decide +kernel, rfl, by decide +kernel, by decide +kernel⟩
theorem n_sums_of_0 : Nm k_sums_of 0 "prices" := nm_of (by decide +kernel)
theorem n_sums_of_1 : Nm k_sums_of 1 "found" := nm_of (by decide +kernel)
theorem s_sums_of_1 : Ns k_sums_of 1 "found" := ns_of (by decide +kernel)
theorem n_sums_of_2 : Nm k_sums_of 2 "price" := nm_of (by decide +kernel)
theorem s_sums_of_2 : Ns k_sums_of 2 "price" := ns_of (by decide +kernel)
noncomputable def b_sums_of (p : (List Int)) : M Unit (Fl Unit Empty (List Int)) :=
  (zseq (zset (zlist (zcons (ret (0 : Int)) (ret [])))) fun found1 =>
  (zseq (zforI (ret p) found1 fun c2 x3 =>
    (zseq (bnd (zop2 iadd (zop2 ixat (ret c2) (zop1 ineg (ret (1 : Int)))) (ret x3)) fun v => chk (List.length c2 < sizeLine) (ret (.nx v))) fun a4 =>
    (znx (c2 ++ [a4])))) fun c2 =>
  (zrt (ret c2))))
noncomputable def m_sums_of (p : (List Int)) : M Unit (List Int) := zbody (b_sums_of p)
theorem f_sums_of {G : Gx} {D : Cl} (T : Txt G D) {f : Addr} {fd : FuncData} (F : Fun G.K "sums_of" "sums_of" t_sums_of f fd) : FnG false G.P G.w G.K G.mg G.base 1 f fd ["prices"] (spZ G (fun _ : Unit => noE) (fun (q : Unit) (p : (List Int)) => [(rLst rInt).pr p]) m_sums_of (rLst rInt)) :=
  fn_ok (g := false) (k := 0) (mb := b_sums_of) (n := fun _ _ => stk) (Γn := fun _ _ _ => []) F sc_sums_of (fun _ _ => rfl) (fun _ => rfl) (.inl fun _ _ => rfl) fun q p W =>
  show ZB G k_sums_of _ W _ [.st ((rLst rInt).pr p), .no, .no] _ (b_sums_of p) _ from
  (zb_cons (zs_setF s_sums_of_1 (zf_list (zl_cons z_int zl_nil)) sub_nil) fun found1 =>
  (zb_cons (zs_for (vs := [2]) (Γh := fun c2 : (List Int) => [.st ((rLst rInt).pr p), .ow (ownL rInt c2), .no]) (zi_list (z_var n_sums_of_0)) (SubL.sub (.keep (.keep (.keep SubL.nil)))) (fun c2 => (zg_name s_sums_of_2 (by decide))) (fun c2 x3 =>
    (zb_cons (zs_app n_sums_of_1 rfl (z_lend (.st (.ow one_L (.st .nil))) free_no fl_int (z_add (z_ixL (z_var n_sums_of_1) (z_neg z_int)) (z_var n_sums_of_2))) sub_nil) fun a4 =>
    (zb_nil (SubL.sub (.keep (.keep (.drop SubL.nil))))))) sub_nil) fun c2 =>
  (zb_wk (sub_frz (i := 1) one_L) <| zb_one (zs_ret (z_var n_sums_of_1) sub_nil))))
theorem at_sums_of {G : Gx} {D : Cl} (T : Txt G D) : FnAt false G "sums_of" 1 ["prices"] (spZ G (fun _ : Unit => noE) (fun (q : Unit) (p : (List Int)) => [(rLst rInt).pr p]) m_sums_of (rLst rInt)) :=
  let ⟨f, fd, h1, h2, h3, h4⟩ := T.d_sums_of; ⟨f, fd, h1, h2, h3, f_sums_of T h4⟩

def k_Ladder_init : Sc := ⟨["self", "below", "row", "above", "at", "bounds", "place", "prices", "least", "most"], defScope t_Ladder_init, 4, true, fun _ => true, false⟩
theorem sc_Ladder_init : FnScope ["self", "below", "row", "above", "at", "bounds", "place", "prices", "least", "most"] ["self", "below", "row", "above", "at"] (defScope t_Ladder_init) := ⟨rfl, rfl, rfl, by decide +kernel, rfl, by decide +kernel, by decide +kernel⟩
theorem n_Ladder_init_0 : Nm k_Ladder_init 0 "self" := nm_of (by decide +kernel)
theorem n_Ladder_init_1 : Nm k_Ladder_init 1 "below" := nm_of (by decide +kernel)
theorem n_Ladder_init_2 : Nm k_Ladder_init 2 "row" := nm_of (by decide +kernel)
theorem n_Ladder_init_3 : Nm k_Ladder_init 3 "above" := nm_of (by decide +kernel)
theorem n_Ladder_init_4 : Nm k_Ladder_init 4 "at" := nm_of (by decide +kernel)
theorem n_Ladder_init_5 : Nm k_Ladder_init 5 "bounds" := nm_of (by decide +kernel)
theorem s_Ladder_init_5 : Ns k_Ladder_init 5 "bounds" := ns_of (by decide +kernel)
theorem n_Ladder_init_6 : Nm k_Ladder_init 6 "place" := nm_of (by decide +kernel)
theorem s_Ladder_init_6 : Ns k_Ladder_init 6 "place" := ns_of (by decide +kernel)
theorem n_Ladder_init_7 : Nm k_Ladder_init 7 "prices" := nm_of (by decide +kernel)
theorem s_Ladder_init_7 : Ns k_Ladder_init 7 "prices" := ns_of (by decide +kernel)
theorem n_Ladder_init_8 : Nm k_Ladder_init 8 "least" := nm_of (by decide +kernel)
theorem s_Ladder_init_8 : Ns k_Ladder_init 8 "least" := ns_of (by decide +kernel)
theorem n_Ladder_init_9 : Nm k_Ladder_init 9 "most" := nm_of (by decide +kernel)
theorem s_Ladder_init_9 : Ns k_Ladder_init 9 "most" := ns_of (by decide +kernel)
noncomputable def b_Ladder_init (p : (PyData × PyData × PyData × PyData)) : M Unit (Fl ((List Int) × (List Int) × (List Int) × Int × (List Int) × (List Int) × (List Int)) Empty Empty) :=
  (zseq (zset (zlist (zcons (zpair (ret p.1) (zpair (ret (1 : Int)) (ret c_MOST_REPEATED))) (zcons (zpair (ret p.2.1) (zpair (ret (0 : Int)) (ret c_MOST_ROW))) (zcons (zpair (ret p.2.2.1) (zpair (ret (1 : Int)) (ret c_MOST_REPEATED))) (ret [])))))) fun bounds1 =>
  (zseq (zforI (zenum (ret bounds1)) () fun _ x2 =>
    (zseq (zifS (znot (zapp (fun x => lft (m_are_prices x)) (zpair (ret x2.2.1) (zpair (ret x2.2.2.1) (ret x2.2.2.2)))))
      (zraise "Wrong" "at" V.int (ret x2.1))
      (znx ())) fun _ =>
    (znx ()))) fun _ =>
  (zseq (zifS (znot (zapp (fun x => lft (m_is_between x)) (zpair (ret p.2.2.2) (zpair (zop2 isub (ret (0 : Int)) (ret c_FARTHEST_AT)) (ret c_FARTHEST_AT)))))
    (zraise "Wrong" "at" V.int (ret (3 : Int)))
    (znx ())) fun _ =>
  (zseq (zset (zpair (zapp ret (zgetP asLI (ret p.1))) (zpair (zapp ret (zgetP asLI (ret p.2.1))) (zapp ret (zgetP asLI (ret p.2.2.1)))))) fun w3 =>
  (zseq (zset (zgetP asI (ret p.2.2.2))) fun begin4 =>
  (zseq (zset (zpair (zapp (fun x => lft (m_sums_of x)) (zgetP asLI (ret p.1))) (zpair (zapp (fun x => lft (m_sums_of x)) (zgetP asLI (ret p.2.1))) (zapp (fun x => lft (m_sums_of x)) (zgetP asLI (ret p.2.2.1)))))) fun w5 =>
  (znx (w3.1, w3.2.1, w3.2.2, begin4, w5.1, w5.2.1, w5.2.2))))))))
def y_Ladder_init (_ : (PyData × PyData × PyData × PyData)) (y : ((List Int) × (List Int) × (List Int) × Int × (List Int) × (List Int) × (List Int))) : XLadder := ⟨y.1, y.2.1, y.2.2.1, y.2.2.2.1, y.2.2.2.2.1, y.2.2.2.2.2.1, y.2.2.2.2.2.2⟩
noncomputable def m_Ladder_init (p : (PyData × PyData × PyData × PyData)) : M Unit XLadder := zini (y_Ladder_init p) (b_Ladder_init p)
theorem f_Ladder_init {G : Gx} {D : Cl} (T : Txt G D) {f : Addr} {fd : FuncData} (F : FunD G.K "__init__" "Ladder.__init__" (defArgs t_Ladder_init) (defBody t_Ladder_init) (defScope t_Ladder_init) [] [("at", .int 0)] f fd) : FnG false G.P G.w G.K G.mg G.base 5 f fd ["self", "below", "row", "above", "at"] (spI G D.Ladder (fun (p : (PyData × PyData × PyData × PyData)) => [rQ.pr p.1, rQ.pr p.2.1, rQ.pr p.2.2.1, rQ.pr p.2.2.2]) m_Ladder_init (fs_Ladder D)) :=
  init_ok (g := false) (k := 4) (C := D.Ladder) (Γn := fun l a y => .ow (ownO (fun x => x = l) D.Ladder (fs_Ladder D (y_Ladder_init a y))) :: [.no, .no, .no, .no, .no, .no, .no, .no, .no]) F sc_Ladder_init (fun _ => rfl) (fun _ _ _ => rfl) fun l p W =>
  show ZB G k_Ladder_init _ W _ [.ow (ownO (fun x => x = l) D.Ladder []), .st (rQ.pr p.1), .st (rQ.pr p.2.1), .st (rQ.pr p.2.2.1), .st (rQ.pr p.2.2.2), .no, .no, .no, .no, .no] _ (b_Ladder_init p) _ from
  (zb_cons (zs_set s_Ladder_init_5 (z_list (zl_cons (z_tup3 (za_cons (z_var n_Ladder_init_1) (za_cons z_int (za_one (z_gintE (by exact rfl) T.c_MOST_REPEATED))))) (zl_cons (z_tup3 (za_cons (z_var n_Ladder_init_2) (za_cons z_int (za_one (z_gintE (by exact rfl) T.c_MOST_ROW))))) (zl_cons (z_tup3 (za_cons (z_var n_Ladder_init_3) (za_cons z_int (za_one (z_gintE (by exact rfl) T.c_MOST_REPEATED))))) zl_nil)))) sub_nil) fun bounds1 =>
  (zb_cons (zs_for (vs := [6, 7, 8, 9]) (Γh := fun _ : Unit => [.ow (ownO (fun x => x = l) D.Ladder []), .st (rQ.pr p.1), .st (rQ.pr p.2.1), .st (rQ.pr p.2.2.1), .st (rQ.pr p.2.2.2), .st ((rLst (rT3 rQ rInt rInt)).pr bounds1), .no, .no, .no, .no]) (zi_enum (by exact rfl) T.b_enumerate (z_var n_Ladder_init_5)) (SubL.sub (.keep (.keep (.keep (.keep (.keep (.keep (.keep (.keep (.keep (.keep SubL.nil))))))))))) (fun _ => (zg_tup to2 (zgs_cons (zg_name s_Ladder_init_6 (by decide)) fun _ => (zgs_one (zg_tup to3 (zgs_cons (zg_name s_Ladder_init_7 (by decide)) fun _ => (zgs_cons (zg_name s_Ladder_init_8 (by decide)) fun _ => (zgs_one (zg_name s_Ladder_init_9 (by decide)))))))))) (fun _ x2 =>
    (zb_cons (zs_if (Γn := fun _ : Unit => [.ow (ownO (fun x => x = l) D.Ladder []), .st (rQ.pr p.1), .st (rQ.pr p.2.1), .st (rQ.pr p.2.2.1), .st (rQ.pr p.2.2.2), .st ((rLst (rT3 rQ rInt rInt)).pr bounds1), .st (rInt.pr x2.1), .st (rQ.pr x2.2.1), .st (rInt.pr x2.2.2.1), .st (rInt.pr x2.2.2.2)]) (zt_not (zt_val (z_callP (q := ()) (at_are_prices T) (by decide) (by decide) (by exact rfl) (za_cons (z_var n_Ladder_init_7) (za_cons (z_var n_Ladder_init_8) (za_one (z_var n_Ladder_init_9)))))))
      (zb_one (zs_raise1 (x_Wrong T) T.xf_Wrong (by decide) rfl scI (z_var n_Ladder_init_6) sub_nil))
      (zb_nil (SubL.sub (.keep (.keep (.keep (.keep (.keep (.keep (.keep (.keep (.keep (.keep SubL.nil)))))))))))) sub_nil) fun _ =>
    (zb_nil (SubL.sub (.keep (.keep (.keep (.keep (.keep (.keep (.drop (.drop (.drop (.drop SubL.nil)))))))))))))) sub_nil) fun _ =>
  (zb_cons (zs_if (Γn := fun _ : Unit => [.ow (ownO (fun x => x = l) D.Ladder []), .st (rQ.pr p.1), .st (rQ.pr p.2.1), .st (rQ.pr p.2.2.1), .st (rQ.pr p.2.2.2), .st ((rLst (rT3 rQ rInt rInt)).pr bounds1), .no, .no, .no, .no]) (zt_not (zt_val (z_callP (q := ()) (at_is_between T) (by decide) (by decide) (by exact rfl) (za_cons (z_var n_Ladder_init_4) (za_cons (z_sub z_int (z_gintE (by exact rfl) T.c_FARTHEST_AT)) (za_one (z_gintE (by exact rfl) T.c_FARTHEST_AT)))))))
    (zb_one (zs_raise1 (x_Wrong T) T.xf_Wrong (by decide) rfl scI z_int sub_nil))
    (zb_nil (SubL.sub (.keep (.keep (.keep (.keep (.keep (.keep (.keep (.keep (.keep (.keep SubL.nil)))))))))))) sub_nil) fun _ =>
  (zb_cons (zs_fldT (n := 3) (.cons (.cons (.cons (.nil)))) n_Ladder_init_0 rfl T.cl_Ladder (nas_cons T.na_Ladder_low (nas_cons T.na_Ladder_middle (nas_cons T.na_Ladder_high nas_nil))) (by exact of_decide_eq_true rfl) rfl (by exact fun _ => rfl) (by decide) (za_cons (z_tupL (blt_of (u := .type "tuple") T.b_tuple (by decide +kernel)) (z_as as_LI (z_var n_Ladder_init_1))) (za_cons (z_tupL (blt_of (u := .type "tuple") T.b_tuple (by decide +kernel)) (z_as as_LI (z_var n_Ladder_init_2))) (za_one (z_tupL (blt_of (u := .type "tuple") T.b_tuple (by decide +kernel)) (z_as as_LI (z_var n_Ladder_init_3)))))) sub_nil) fun w3 =>
  (zb_cons (zs_fld n_Ladder_init_0 rfl T.cl_Ladder T.na_Ladder_begin (by exact of_decide_eq_true rfl) (z_as as_I (z_var n_Ladder_init_4)) sub_nil) fun begin4 =>
  (zb_cons (zs_fldT (n := 3) (.cons (.cons (.cons (.nil)))) n_Ladder_init_0 rfl T.cl_Ladder (nas_cons T.na_Ladder_low_sums (nas_cons T.na_Ladder_middle_sums (nas_cons T.na_Ladder_high_sums nas_nil))) (by exact of_decide_eq_true rfl) rfl (by exact fun _ => rfl) (by decide) (za_cons (z_callP (q := ()) (at_sums_of T) (by decide) (by decide) (by exact rfl) (za_one (z_as as_LI (z_var n_Ladder_init_1)))) (za_cons (z_callP (q := ()) (at_sums_of T) (by decide) (by decide) (by exact rfl) (za_one (z_as as_LI (z_var n_Ladder_init_2)))) (za_one (z_callP (q := ()) (at_sums_of T) (by decide) (by decide) (by exact rfl) (za_one (z_as as_LI (z_var n_Ladder_init_3))))))) sub_nil) fun w5 =>
  (zb_nil (a := (w3.1, w3.2.1, w3.2.2, begin4, w5.1, w5.2.1, w5.2.2)) (SubL.sub (.keep (.drop (.drop (.drop (.drop (.drop (.keep (.keep (.keep (.keep SubL.nil))))))))))))))))))
theorem mk_Ladder_init_K {G : Gx} {D : Cl} (T : Txt G D) : MkAtK false G D.Ladder 5 3 ["self", "below", "row", "above", "at"] ["at"] (spI G D.Ladder (fun (p : (PyData × PyData × PyData × PyData)) => [rQ.pr p.1, rQ.pr p.2.1, rQ.pr p.2.2.1, rQ.pr p.2.2.2]) m_Ladder_init (fs_Ladder D)) (fun vs zs => vs ++ zs) := by
  obtain ⟨f, fd, h1, h2⟩ := T.d_Ladder_init
  obtain ⟨mv, hb⟩ := h2.kbinds0 (ps := ["self", "below", "row", "above", "at"]) 4 ["at"] [] (fun us mv ws => us ++ ws) (by simp) (by simp) (fun r1 _ r3 => r1.append r3) (by
    intro D doc pm an cdv ct us mv ws l1 l2 l3
    match us, mv, ws, l1, l2, l3 with
    | [a0, a1, a2, a3], [], [w], _, _, _ => rfl)
  exact ⟨f, fd, _, h1, hb, f_Ladder_init T h2⟩
def k_w_place : Sc := ⟨["_law_e"], defScope t_w_place, 0, true, fun _ => true, false⟩
theorem sc_w_place : FnScope ["_law_e"] ["_law_e"] (defScope t_w_place) := ⟨rfl, rfl, rfl, by decide +kernel, rfl, by decide +kernel, by decide +kernel⟩
theorem n_w_place_0 : Nm k_w_place 0 "_law_e" := nm_of (by decide +kernel)
noncomputable def b_w_place : Exc → M Unit (Fl Unit Empty (Str ⊕ Int)) :=
  (fun x => bnd (mopt (hor (fun x => ((fun n => if n = ("Wrong" : Str) then some true else none) x.cls).map not) (fun x => ((fun n => if n = ("Wrong" : Str) then some true else none) x.cls).map not) x)) fun y => if y = true then (fun x => bnd (mopt ((some ("other" : Str)).map Sum.inl)) fun r => ret (.rt r)) x else (fun x => bnd (mopt ((fun n => if n = ("Wrong" : Str) then some false else none) x.cls)) fun y => if y = true then (fun x => bnd (mopt ((some ("other" : Str)).map Sum.inl)) fun r => ret (.rt r)) x else (fun x => bnd (mopt ((xfld ["Wrong"] "at" unI x).map Sum.inr)) fun r => ret (.rt r)) x) x)
noncomputable def m_w_place (x : Exc) : M Unit (Str ⊕ Int) := zbody (b_w_place x)
theorem f_w_place {G : Gx} {D : Cl} (T : Txt G D) {f : Addr} {fd : FuncData} (F : Fun G.K "_law_place" "_law_place" t_w_place f fd) : FnE false G 1 f fd ["_law_e"] m_w_place (rSum rStr rInt) :=
  fn_okE (g := false) (k := 0) (mb := b_w_place) (Γn := fun _ => []) F sc_w_place fun W =>
  show HB G k_w_place noE W _ (envOf 1 []) 0 _ b_w_place _ from
  (hb_if (hw_t (hw_or (ht_not (ht_val (ht_isi (i := 0) n_w_place_0 (by decide) (blt_of (u := .builtin "isinstance") T.b_isinstance (by decide +kernel)) (hy_own (by exact rfl) T.g_Wrong (by decide)) hcv_own (it_cons T.g_Wrong T.xc_Wrong T.ki_Wrong_Wrong it_nil)))) (hw_or1 (ht_not (ht_val (ht_isi (i := 0) n_w_place_0 (by decide) (blt_of (u := .builtin "isinstance") T.b_isinstance (by decide +kernel)) (hy_blt (blt_of (u := .type "ValueError") T.b_ValueError (by decide +kernel))) hcv_ty (it_cons T.g_Wrong T.xc_Wrong T.ki_Wrong_ValueError it_nil))))))) (hb_one (hs_ret (he_map (R := rStr) (he_a ha_str fun _ _ => rfl) fun _ _ _ r => r))) on_ret (hb_if (ht_valE (he_isiT (i := 0) n_w_place_0 (by decide) (blt_of (u := .builtin "isinstance") T.b_isinstance (by decide +kernel)) (ys_own (by exact rfl) T.g_NoText (by decide) (ys_own (by exact rfl) T.g_TooMany (by decide) (ys_own (by exact rfl) T.g_Twice (by decide) ys_nil))) (ia_cons T.g_Wrong T.xc_Wrong (ka_f T.ki_Wrong_NoText (ka_f T.ki_Wrong_TooMany (ka_f T.ki_Wrong_Twice ka_nil))) ia_nil) (show (3 : Nat) ≤ sizeLine by decide))) (hb_one (hs_ret (he_map (R := rStr) (he_a ha_str fun _ _ => rfl) fun _ _ _ r => r))) on_ret (hb_one (hs_ret (he_map (R := rInt) (he_a (ha_fld (i := 0) n_w_place_0 (by decide) unI_ok (fc_cons T.g_Wrong T.xc_Wrong T.xf_Wrong fc_nil)) fun _ _ => rfl) fun _ _ _ r => r)))))
theorem at_w_place {G : Gx} {D : Cl} (T : Txt G D) : FnEAt false G "_law_place" 1 ["_law_e"] m_w_place (rSum rStr rInt) :=
  let ⟨f, fd, h1, h2, h3, h4⟩ := T.d_w_place; ⟨f, fd, h1, h2, h3, f_w_place T h4⟩

def k_w_made : Sc := ⟨["_law_things", "_law_e"], defScope t_w_made, 6, true, fun _ => true, false⟩
theorem sc_w_made : FnScope ["_law_things", "_law_e"] ["_law_things"] (defScope t_w_made) := ⟨rfl, rfl, rfl, by decide +kernel, rfl, by decide +kernel, by decide +kernel⟩
theorem n_w_made_0 : Nm k_w_made 0 "_law_things" := nm_of (by decide +kernel)
theorem n_w_made_1 : Nm k_w_made 1 "_law_e" := nm_of (by decide +kernel)
theorem s_w_made_1 : Ns k_w_made 1 "_law_e" := ns_of (by decide +kernel)
noncomputable def b_w_made (p : (List PyData)) : M Unit (Fl Unit Empty ((Str × (Str ⊕ Int)) ⊕ (Str × Unit))) :=
  (zseq (ztryX (fun n => if n = ("Wrong" : Str) then some true else none)
    (zseq (zdrop (bnd (zpair (zop2 ixat (ret p) (ret (0 : Int))) (zpair (zop2 ixat (ret p) (ret (1 : Int))) (zop2 ixat (ret p) (ret (2 : Int))))) fun y => bnd (zop2 ixat (ret p) (ret (3 : Int))) fun z => lft (m_Ladder_init (y.1, y.2.1, y.2.2, z)))) fun _ =>
    (znx ()))
    (fun x => bnd (mopt (((some ("refused" : Str)).bind fun y => (okOf (m_w_place x)).bind fun z => some (y, z)).map Sum.inl)) fun r => ret (.rt r))) fun _ =>
  (zrt (zget Sum.inr (zpair (ret ("made" : Str)) (ret ())))))
noncomputable def m_w_made (p : (List PyData)) : M Unit ((Str × (Str ⊕ Int)) ⊕ (Str × Unit)) := zbody (b_w_made p)
theorem f_w_made {G : Gx} {D : Cl} (T : Txt G D) {f : Addr} {fd : FuncData} (F : Fun G.K "_law_made" "_law_made" t_w_made f fd) : FnG false G.P G.w G.K G.mg G.base 7 f fd ["_law_things"] (spZ G (fun _ : Unit => noE) (fun (q : Unit) (p : (List PyData)) => [(rLst rQ).pr p]) m_w_made (rSum (rT2 rStr (rSum rStr rInt)) (rT2 rStr rNon))) :=
  fn_ok (g := false) (k := 6) (mb := b_w_made) (n := fun _ _ => stk) (Γn := fun _ _ _ => []) F sc_w_made (fun _ _ => rfl) (fun _ => rfl) (.inl fun _ _ => rfl) fun q p W =>
  show ZB G k_w_made _ W _ [.st ((rLst rQ).pr p), .no] _ (b_w_made p) _ from
  (zb_cons (zs_tryG (Γx := [.st ((rLst rQ).pr p), .no]) (Γn := fun _ : Unit => [.st ((rLst rQ).pr p), .no]) (onlySt_st (onlySt_no onlySt_nil)) s_w_made_1 (by decide +kernel) (by exact rfl) T.g_AheadError (by decide) rfl (cat_cons T.g_Wrong T.em_Wrong_AheadError cat_nil) (sx_of sub_nil) (unk_at (.inl rfl)) (fun _ => unk_at (.inl rfl)) (fun a => nomatch a) (fun _ =>
    (zb_cons (zs_expr (z_obj (fs_Ladder D) (zf_makeK (f := m_Ladder_init) (g := fun (y : (PyData × PyData × PyData) × PyData) => (y.1.1, y.1.2.1, y.1.2.2, y.2)) (mk_Ladder_init_K T) T.g_Ladder (by decide) (by decide) rfl (by exact fun _ => rfl) (by exact gv3) (za_cons (z_ixL (z_var n_w_made_0) z_int) (za_cons (z_ixL (z_var n_w_made_0) z_int) (za_one (z_ixL (z_var n_w_made_0) z_int)))) (z_ixL (z_var n_w_made_0) z_int))) (SubL.sub (.keep (.keep SubL.nil)))) fun _ =>
    (zb_nil (SubL.sub (.keep (.keep SubL.nil))))))
    (hb_one (hs_ret (he_map (he_tup2E ha_str (he_callE (i := 1) (at_w_place T) (by decide) (by decide) (by exact rfl) n_w_made_1 (by decide)) (fun _ _ => rfl)) fun _ _ _ r => r)))) fun _ =>
  (zb_one (zs_ret (z_inr (z_tup2 (za_cons z_str (za_one z_non)))) sub_nil)))
theorem at_w_made {G : Gx} {D : Cl} (T : Txt G D) : FnAt false G "_law_made" 7 ["_law_things"] (spZ G (fun _ : Unit => noE) (fun (q : Unit) (p : (List PyData)) => [(rLst rQ).pr p]) m_w_made (rSum (rT2 rStr (rSum rStr rInt)) (rT2 rStr rNon))) :=
  let ⟨f, fd, h1, h2, h3, h4⟩ := T.d_w_made; ⟨f, fd, h1, h2, h3, f_w_made T h4⟩

def k_is_whole_2 : Sc := ⟨["thing"], defScope t_is_whole, 0, true, fun _ => true, false⟩
theorem sc_is_whole_2 : FnScope ["thing"] ["thing"] (defScope t_is_whole) := ⟨rfl, rfl, rfl, by decide +kernel, rfl, by decide +kernel, by decide +kernel⟩
theorem n_is_whole_2_0 : Nm k_is_whole_2 0 "thing" := nm_of (by decide +kernel)
noncomputable def b_is_whole_2 (p : Int) : M Unit (Fl Unit Empty Bool) :=
  (zrt (zand (zis true (ret p)) (znot (zis false (ret p)))))
noncomputable def m_is_whole_2 (p : Int) : M Unit Bool := zbody (b_is_whole_2 p)
theorem f_is_whole_2 {G : Gx} {D : Cl} (T : Txt G D) {f : Addr} {fd : FuncData} (F : Fun G.K "is_whole" "is_whole" t_is_whole f fd) : FnG false G.P G.w G.K G.mg G.base 1 f fd ["thing"] (spZ G (fun _ : Unit => noE) (fun (q : Unit) (p : Int) => [rInt.pr p]) m_is_whole_2 rBl) :=
  fn_ok (g := false) (k := 0) (mb := b_is_whole_2) (n := fun _ _ => stk) (Γn := fun _ _ _ => []) F sc_is_whole_2 (fun _ _ => rfl) (fun _ => rfl) (.inl fun _ _ => rfl) fun q p W =>
  show ZB G k_is_whole_2 _ W _ [.st (rInt.pr p)] _ (b_is_whole_2 p) _ from
  (zb_one (zs_ret (z_and (z_isi (blt_of (u := .builtin "isinstance") T.b_isinstance (by decide +kernel)) isI (blt_of (u := .type "int") T.b_int (by decide +kernel)) rfl (z_var n_is_whole_2_0)) (z_one (z_not (z_isi (blt_of (u := .builtin "isinstance") T.b_isinstance (by decide +kernel)) isI (blt_of (u := .type "bool") T.b_bool (by decide +kernel)) rfl (z_var n_is_whole_2_0))))) sub_nil))
theorem at_is_whole_2 {G : Gx} {D : Cl} (T : Txt G D) : FnAt false G "is_whole" 1 ["thing"] (spZ G (fun _ : Unit => noE) (fun (q : Unit) (p : Int) => [rInt.pr p]) m_is_whole_2 rBl) :=
  let ⟨f, fd, h1, h2, h3, h4⟩ := T.d_is_whole; ⟨f, fd, h1, h2, h3, f_is_whole_2 T h4⟩

def k_is_between_2 : Sc := ⟨["thing", "low", "high"], defScope t_is_between, 1, true, fun _ => true, false⟩
theorem sc_is_between_2 : FnScope ["thing", "low", "high"] ["thing", "low", "high"] (defScope t_is_between) := ⟨rfl, rfl, rfl, by decide +kernel, rfl, by decide +kernel, by decide +kernel⟩
theorem n_is_between_2_0 : Nm k_is_between_2 0 "thing" := nm_of (by decide +kernel)
theorem n_is_between_2_1 : Nm k_is_between_2 1 "low" := nm_of (by decide +kernel)
theorem n_is_between_2_2 : Nm k_is_between_2 2 "high" := nm_of (by decide +kernel)
noncomputable def b_is_between_2 (p : (Int × Int × Int)) : M Unit (Fl Unit Empty Bool) :=
  (zrt (zand (zapp (fun x => lft (m_is_whole_2 x)) (ret p.1)) (zchain ile ile (ret p.2.1) (ret p.1) (ret p.2.2))))
noncomputable def m_is_between_2 (p : (Int × Int × Int)) : M Unit Bool := zbody (b_is_between_2 p)
theorem f_is_between_2 {G : Gx} {D : Cl} (T : Txt G D) {f : Addr} {fd : FuncData} (F : Fun G.K "is_between" "is_between" t_is_between f fd) : FnG false G.P G.w G.K G.mg G.base 2 f fd ["thing", "low", "high"] (spZ G (fun _ : Unit => noE) (fun (q : Unit) (p : (Int × Int × Int)) => [rInt.pr p.1, rInt.pr p.2.1, rInt.pr p.2.2]) m_is_between_2 rBl) :=
  fn_ok (g := false) (k := 1) (mb := b_is_between_2) (n := fun _ _ => stk) (Γn := fun _ _ _ => []) F sc_is_between_2 (fun _ _ => rfl) (fun _ => rfl) (.inl fun _ _ => rfl) fun q p W =>
  show ZB G k_is_between_2 _ W _ [.st (rInt.pr p.1), .st (rInt.pr p.2.1), .st (rInt.pr p.2.2)] _ (b_is_between_2 p) _ from
  (zb_one (zs_ret (z_and (z_callP (q := ()) (at_is_whole_2 T) (by decide) (by decide) (by exact rfl) (za_one (z_var n_is_between_2_0))) (z_one (z_chI ci_le ci_le (z_var n_is_between_2_1) (z_var n_is_between_2_0) (z_var n_is_between_2_2)))) sub_nil))
theorem at_is_between_2 {G : Gx} {D : Cl} (T : Txt G D) : FnAt false G "is_between" 2 ["thing", "low", "high"] (spZ G (fun _ : Unit => noE) (fun (q : Unit) (p : (Int × Int × Int)) => [rInt.pr p.1, rInt.pr p.2.1, rInt.pr p.2.2]) m_is_between_2 rBl) :=
  let ⟨f, fd, h1, h2, h3, h4⟩ := T.d_is_between; ⟨f, fd, h1, h2, h3, f_is_between_2 T h4⟩

def k_is_price_2 : Sc := ⟨["thing"], defScope t_is_price, 2, true, fun _ => true, false⟩
theorem sc_is_price_2 : FnScope ["thing"] ["thing"] (defScope t_is_price) := ⟨rfl, rfl, rfl, by decide +kernel, rfl, by decide +kernel, by decide +kernel⟩
theorem n_is_price_2_0 : Nm k_is_price_2 0 "thing" := nm_of (by decide +kernel)
noncomputable def b_is_price_2 (p : Int) : M Unit (Fl Unit Empty Bool) :=
  (zrt (zapp (fun x => lft (m_is_between_2 x)) (zpair (ret p) (zpair (ret (0 : Int)) (ret c_MOST_PRICE)))))
noncomputable def m_is_price_2 (p : Int) : M Unit Bool := zbody (b_is_price_2 p)
theorem f_is_price_2 {G : Gx} {D : Cl} (T : Txt G D) {f : Addr} {fd : FuncData} (F : Fun G.K "is_price" "is_price" t_is_price f fd) : FnG false G.P G.w G.K G.mg G.base 3 f fd ["thing"] (spZ G (fun _ : Unit => noE) (fun (q : Unit) (p : Int) => [rInt.pr p]) m_is_price_2 rBl) :=
  fn_ok (g := false) (k := 2) (mb := b_is_price_2) (n := fun _ _ => stk) (Γn := fun _ _ _ => []) F sc_is_price_2 (fun _ _ => rfl) (fun _ => rfl) (.inl fun _ _ => rfl) fun q p W =>
  show ZB G k_is_price_2 _ W _ [.st (rInt.pr p)] _ (b_is_price_2 p) _ from
  (zb_one (zs_ret (z_callP (q := ()) (at_is_between_2 T) (by decide) (by decide) (by exact rfl) (za_cons (z_var n_is_price_2_0) (za_cons z_int (za_one (z_gintE (by exact rfl) T.c_MOST_PRICE))))) sub_nil))
theorem at_is_price_2 {G : Gx} {D : Cl} (T : Txt G D) : FnAt false G "is_price" 3 ["thing"] (spZ G (fun _ : Unit => noE) (fun (q : Unit) (p : Int) => [rInt.pr p]) m_is_price_2 rBl) :=
  let ⟨f, fd, h1, h2, h3, h4⟩ := T.d_is_price; ⟨f, fd, h1, h2, h3, f_is_price_2 T h4⟩

def k_are_prices_2 : Sc := ⟨["thing", "least", "most", "one"], defScope t_are_prices, 3, true, fun _ => true, false⟩
theorem sc_are_prices_2 : FnScope ["thing", "least", "most", "one"] ["thing", "least", "most"] (defScope t_are_prices) := ⟨rfl, rfl, rfl, by decide +kernel, rfl, by decide +kernel, by decide +kernel⟩
theorem n_are_prices_2_0 : Nm k_are_prices_2 0 "thing" := nm_of (by decide +kernel)
theorem n_are_prices_2_1 : Nm k_are_prices_2 1 "least" := nm_of (by decide +kernel)
theorem n_are_prices_2_2 : Nm k_are_prices_2 2 "most" := nm_of (by decide +kernel)
noncomputable def b_are_prices_2 (p : ((List Int) × Int × Int)) : M Unit (Fl Unit Empty Bool) :=
  (zseq (zifS (zor (znot (zis true (ret p.1))) (znot (zchain ile ile (ret p.2.1) (zapp flen (ret p.1)) (ret p.2.2))))
    (zrt (ret false))
    (znx ())) fun _ =>
  (zrt (zapp fall (zlc (fun e1 => (ret true)) (fun e1 => (zapp (fun x => lft (m_is_price_2 x)) (ret e1))) (ret p.1)))))
noncomputable def m_are_prices_2 (p : ((List Int) × Int × Int)) : M Unit Bool := zbody (b_are_prices_2 p)
theorem f_are_prices_2 {G : Gx} {D : Cl} (T : Txt G D) {f : Addr} {fd : FuncData} (F : Fun G.K "are_prices" "are_prices" t_are_prices f fd) : FnG false G.P G.w G.K G.mg G.base 4 f fd ["thing", "least", "most"] (spZ G (fun _ : Unit => noE) (fun (q : Unit) (p : ((List Int) × Int × Int)) => [(rLst rInt).pr p.1, rInt.pr p.2.1, rInt.pr p.2.2]) m_are_prices_2 rBl) :=
  fn_ok (g := false) (k := 3) (mb := b_are_prices_2) (n := fun _ _ => stk) (Γn := fun _ _ _ => []) F sc_are_prices_2 (fun _ _ => rfl) (fun _ => rfl) (.inl fun _ _ => rfl) fun q p W =>
  show ZB G k_are_prices_2 _ W _ [.st ((rLst rInt).pr p.1), .st (rInt.pr p.2.1), .st (rInt.pr p.2.2), .no] _ (b_are_prices_2 p) _ from
  (zb_cons (zs_if (Γn := fun _ : Unit => [.st ((rLst rInt).pr p.1), .st (rInt.pr p.2.1), .st (rInt.pr p.2.2), .no]) (zw_t (zw_or (zt_not (zt_val (z_isi (blt_of (u := .builtin "isinstance") T.b_isinstance (by decide +kernel)) isL (blt_of (u := .type "list") T.b_list (by decide +kernel)) rfl (z_var n_are_prices_2_0)))) (zw_or1 (zt_not (zt_chI ci_le ci_le (z_var n_are_prices_2_1) (z_lenL (blt_of (u := .builtin "len") T.b_len (by decide +kernel)) (z_var n_are_prices_2_0)) (z_var n_are_prices_2_2))))))
    (zb_one (zs_ret z_bl sub_nil))
    (zb_nil (SubL.sub (.keep (.keep (.keep (.keep SubL.nil)))))) sub_nil) fun _ =>
  (zb_one (zs_ret (z_all (blt_of (u := .builtin "all") T.b_all (by decide +kernel)) (z_lc (Lc.mk (own := [("one", 3)]) (blk_of rfl (by decide +kernel)) (zi_list (z_var n_are_prices_2_0)) (zg_name (ns_of (i := 3) (by decide +kernel)) (by decide)) (fun e1 => zts_nil) (fun e1 => (z_callP (q := ()) (at_is_price_2 T) (by decide) (by decide) (by exact rfl) (za_one (z_var (nm_of (i := 3) (by decide +kernel)))))) (lc_no ⟨rfl, trivial⟩) (fun _ _ => rfl)))) sub_nil)))
theorem at_are_prices_2 {G : Gx} {D : Cl} (T : Txt G D) : FnAt false G "are_prices" 4 ["thing", "least", "most"] (spZ G (fun _ : Unit => noE) (fun (q : Unit) (p : ((List Int) × Int × Int)) => [(rLst rInt).pr p.1, rInt.pr p.2.1, rInt.pr p.2.2]) m_are_prices_2 rBl) :=
  let ⟨f, fd, h1, h2, h3, h4⟩ := T.d_are_prices; ⟨f, fd, h1, h2, h3, f_are_prices_2 T h4⟩

def k_Ladder_init_2 : Sc := ⟨["self", "below", "row", "above", "at", "bounds", "place", "prices", "least", "most"], defScope t_Ladder_init, 4, true, fun _ => true, false⟩
theorem sc_Ladder_init_2 : FnScope ["self", "below", "row", "above", "at", "bounds", "place", "prices", "least", "most"] ["self", "below", "row", "above", "at"] (defScope t_Ladder_init) := ⟨rfl, rfl, rfl, by decide +kernel, rfl, by decide +kernel, by decide +kernel⟩
theorem n_Ladder_init_2_0 : Nm k_Ladder_init_2 0 "self" := nm_of (by decide +kernel)
theorem n_Ladder_init_2_1 : Nm k_Ladder_init_2 1 "below" := nm_of (by decide +kernel)
theorem n_Ladder_init_2_2 : Nm k_Ladder_init_2 2 "row" := nm_of (by decide +kernel)
theorem n_Ladder_init_2_3 : Nm k_Ladder_init_2 3 "above" := nm_of (by decide +kernel)
theorem n_Ladder_init_2_4 : Nm k_Ladder_init_2 4 "at" := nm_of (by decide +kernel)
theorem n_Ladder_init_2_5 : Nm k_Ladder_init_2 5 "bounds" := nm_of (by decide +kernel)
theorem s_Ladder_init_2_5 : Ns k_Ladder_init_2 5 "bounds" := ns_of (by decide +kernel)
theorem n_Ladder_init_2_6 : Nm k_Ladder_init_2 6 "place" := nm_of (by decide +kernel)
theorem s_Ladder_init_2_6 : Ns k_Ladder_init_2 6 "place" := ns_of (by decide +kernel)
theorem n_Ladder_init_2_7 : Nm k_Ladder_init_2 7 "prices" := nm_of (by decide +kernel)
theorem s_Ladder_init_2_7 : Ns k_Ladder_init_2 7 "prices" := ns_of (by decide +kernel)
theorem n_Ladder_init_2_8 : Nm k_Ladder_init_2 8 "least" := nm_of (by decide +kernel)
theorem s_Ladder_init_2_8 : Ns k_Ladder_init_2 8 "least" := ns_of (by decide +kernel)
theorem n_Ladder_init_2_9 : Nm k_Ladder_init_2 9 "most" := nm_of (by decide +kernel)
theorem s_Ladder_init_2_9 : Ns k_Ladder_init_2 9 "most" := ns_of (by decide +kernel)
noncomputable def b_Ladder_init_2 (p : ((List Int) × (List Int) × (List Int) × Int)) : M Unit (Fl ((List Int) × (List Int) × (List Int) × Int × (List Int) × (List Int) × (List Int)) Empty Empty) :=
  (zseq (zset (zlist (zcons (zpair (ret p.1) (zpair (ret (1 : Int)) (ret c_MOST_REPEATED))) (zcons (zpair (ret p.2.1) (zpair (ret (0 : Int)) (ret c_MOST_ROW))) (zcons (zpair (ret p.2.2.1) (zpair (ret (1 : Int)) (ret c_MOST_REPEATED))) (ret [])))))) fun bounds1 =>
  (zseq (zforI (zenum (ret bounds1)) () fun _ x2 =>
    (zseq (zifS (znot (zapp (fun x => lft (m_are_prices_2 x)) (zpair (ret x2.2.1) (zpair (ret x2.2.2.1) (ret x2.2.2.2)))))
      (zraise "Wrong" "at" V.int (ret x2.1))
      (znx ())) fun _ =>
    (znx ()))) fun _ =>
  (zseq (zifS (znot (zapp (fun x => lft (m_is_between_2 x)) (zpair (ret p.2.2.2) (zpair (zop2 isub (ret (0 : Int)) (ret c_FARTHEST_AT)) (ret c_FARTHEST_AT)))))
    (zraise "Wrong" "at" V.int (ret (3 : Int)))
    (znx ())) fun _ =>
  (zseq (zset (zpair (zapp ret (ret p.1)) (zpair (zapp ret (ret p.2.1)) (zapp ret (ret p.2.2.1))))) fun w3 =>
  (zseq (zset (ret p.2.2.2)) fun begin4 =>
  (zseq (zset (zpair (zapp (fun x => lft (m_sums_of x)) (ret p.1)) (zpair (zapp (fun x => lft (m_sums_of x)) (ret p.2.1)) (zapp (fun x => lft (m_sums_of x)) (ret p.2.2.1))))) fun w5 =>
  (znx (w3.1, w3.2.1, w3.2.2, begin4, w5.1, w5.2.1, w5.2.2))))))))
def y_Ladder_init_2 (_ : ((List Int) × (List Int) × (List Int) × Int)) (y : ((List Int) × (List Int) × (List Int) × Int × (List Int) × (List Int) × (List Int))) : XLadder := ⟨y.1, y.2.1, y.2.2.1, y.2.2.2.1, y.2.2.2.2.1, y.2.2.2.2.2.1, y.2.2.2.2.2.2⟩
noncomputable def m_Ladder_init_2 (p : ((List Int) × (List Int) × (List Int) × Int)) : M Unit XLadder := zini (y_Ladder_init_2 p) (b_Ladder_init_2 p)
theorem f_Ladder_init_2 {G : Gx} {D : Cl} (T : Txt G D) {f : Addr} {fd : FuncData} (F : FunD G.K "__init__" "Ladder.__init__" (defArgs t_Ladder_init) (defBody t_Ladder_init) (defScope t_Ladder_init) [] [("at", .int 0)] f fd) : FnG false G.P G.w G.K G.mg G.base 5 f fd ["self", "below", "row", "above", "at"] (spI G D.Ladder (fun (p : ((List Int) × (List Int) × (List Int) × Int)) => [(rLst rInt).pr p.1, (rLst rInt).pr p.2.1, (rLst rInt).pr p.2.2.1, rInt.pr p.2.2.2]) m_Ladder_init_2 (fs_Ladder D)) :=
  init_ok (g := false) (k := 4) (C := D.Ladder) (Γn := fun l a y => .ow (ownO (fun x => x = l) D.Ladder (fs_Ladder D (y_Ladder_init_2 a y))) :: [.no, .no, .no, .no, .no, .no, .no, .no, .no]) F sc_Ladder_init_2 (fun _ => rfl) (fun _ _ _ => rfl) fun l p W =>
  show ZB G k_Ladder_init_2 _ W _ [.ow (ownO (fun x => x = l) D.Ladder []), .st ((rLst rInt).pr p.1), .st ((rLst rInt).pr p.2.1), .st ((rLst rInt).pr p.2.2.1), .st (rInt.pr p.2.2.2), .no, .no, .no, .no, .no] _ (b_Ladder_init_2 p) _ from
  (zb_cons (zs_set s_Ladder_init_2_5 (z_list (zl_cons (z_tup3 (za_cons (z_var n_Ladder_init_2_1) (za_cons z_int (za_one (z_gintE (by exact rfl) T.c_MOST_REPEATED))))) (zl_cons (z_tup3 (za_cons (z_var n_Ladder_init_2_2) (za_cons z_int (za_one (z_gintE (by exact rfl) T.c_MOST_ROW))))) (zl_cons (z_tup3 (za_cons (z_var n_Ladder_init_2_3) (za_cons z_int (za_one (z_gintE (by exact rfl) T.c_MOST_REPEATED))))) zl_nil)))) sub_nil) fun bounds1 =>
  (zb_cons (zs_for (vs := [6, 7, 8, 9]) (Γh := fun _ : Unit => [.ow (ownO (fun x => x = l) D.Ladder []), .st ((rLst rInt).pr p.1), .st ((rLst rInt).pr p.2.1), .st ((rLst rInt).pr p.2.2.1), .st (rInt.pr p.2.2.2), .st ((rLst (rT3 (rLst rInt) rInt rInt)).pr bounds1), .no, .no, .no, .no]) (zi_enum (by exact rfl) T.b_enumerate (z_var n_Ladder_init_2_5)) (SubL.sub (.keep (.keep (.keep (.keep (.keep (.keep (.keep (.keep (.keep (.keep SubL.nil))))))))))) (fun _ => (zg_tup to2 (zgs_cons (zg_name s_Ladder_init_2_6 (by decide)) fun _ => (zgs_one (zg_tup to3 (zgs_cons (zg_name s_Ladder_init_2_7 (by decide)) fun _ => (zgs_cons (zg_name s_Ladder_init_2_8 (by decide)) fun _ => (zgs_one (zg_name s_Ladder_init_2_9 (by decide)))))))))) (fun _ x2 =>
    (zb_cons (zs_if (Γn := fun _ : Unit => [.ow (ownO (fun x => x = l) D.Ladder []), .st ((rLst rInt).pr p.1), .st ((rLst rInt).pr p.2.1), .st ((rLst rInt).pr p.2.2.1), .st (rInt.pr p.2.2.2), .st ((rLst (rT3 (rLst rInt) rInt rInt)).pr bounds1), .st (rInt.pr x2.1), .st ((rLst rInt).pr x2.2.1), .st (rInt.pr x2.2.2.1), .st (rInt.pr x2.2.2.2)]) (zt_not (zt_val (z_callP (q := ()) (at_are_prices_2 T) (by decide) (by decide) (by exact rfl) (za_cons (z_var n_Ladder_init_2_7) (za_cons (z_var n_Ladder_init_2_8) (za_one (z_var n_Ladder_init_2_9)))))))
      (zb_one (zs_raise1 (x_Wrong T) T.xf_Wrong (by decide) rfl scI (z_var n_Ladder_init_2_6) sub_nil))
      (zb_nil (SubL.sub (.keep (.keep (.keep (.keep (.keep (.keep (.keep (.keep (.keep (.keep SubL.nil)))))))))))) sub_nil) fun _ =>
    (zb_nil (SubL.sub (.keep (.keep (.keep (.keep (.keep (.keep (.drop (.drop (.drop (.drop SubL.nil)))))))))))))) sub_nil) fun _ =>
  (zb_cons (zs_if (Γn := fun _ : Unit => [.ow (ownO (fun x => x = l) D.Ladder []), .st ((rLst rInt).pr p.1), .st ((rLst rInt).pr p.2.1), .st ((rLst rInt).pr p.2.2.1), .st (rInt.pr p.2.2.2), .st ((rLst (rT3 (rLst rInt) rInt rInt)).pr bounds1), .no, .no, .no, .no]) (zt_not (zt_val (z_callP (q := ()) (at_is_between_2 T) (by decide) (by decide) (by exact rfl) (za_cons (z_var n_Ladder_init_2_4) (za_cons (z_sub z_int (z_gintE (by exact rfl) T.c_FARTHEST_AT)) (za_one (z_gintE (by exact rfl) T.c_FARTHEST_AT)))))))
    (zb_one (zs_raise1 (x_Wrong T) T.xf_Wrong (by decide) rfl scI z_int sub_nil))
    (zb_nil (SubL.sub (.keep (.keep (.keep (.keep (.keep (.keep (.keep (.keep (.keep (.keep SubL.nil)))))))))))) sub_nil) fun _ =>
  (zb_cons (zs_fldT (n := 3) (.cons (.cons (.cons (.nil)))) n_Ladder_init_2_0 rfl T.cl_Ladder (nas_cons T.na_Ladder_low (nas_cons T.na_Ladder_middle (nas_cons T.na_Ladder_high nas_nil))) (by exact of_decide_eq_true rfl) rfl (by exact fun _ => rfl) (by decide) (za_cons (z_tupL (blt_of (u := .type "tuple") T.b_tuple (by decide +kernel)) (z_var n_Ladder_init_2_1)) (za_cons (z_tupL (blt_of (u := .type "tuple") T.b_tuple (by decide +kernel)) (z_var n_Ladder_init_2_2)) (za_one (z_tupL (blt_of (u := .type "tuple") T.b_tuple (by decide +kernel)) (z_var n_Ladder_init_2_3))))) sub_nil) fun w3 =>
  (zb_cons (zs_fld n_Ladder_init_2_0 rfl T.cl_Ladder T.na_Ladder_begin (by exact of_decide_eq_true rfl) (z_var n_Ladder_init_2_4) sub_nil) fun begin4 =>
  (zb_cons (zs_fldT (n := 3) (.cons (.cons (.cons (.nil)))) n_Ladder_init_2_0 rfl T.cl_Ladder (nas_cons T.na_Ladder_low_sums (nas_cons T.na_Ladder_middle_sums (nas_cons T.na_Ladder_high_sums nas_nil))) (by exact of_decide_eq_true rfl) rfl (by exact fun _ => rfl) (by decide) (za_cons (z_callP (q := ()) (at_sums_of T) (by decide) (by decide) (by exact rfl) (za_one (z_var n_Ladder_init_2_1))) (za_cons (z_callP (q := ()) (at_sums_of T) (by decide) (by decide) (by exact rfl) (za_one (z_var n_Ladder_init_2_2))) (za_one (z_callP (q := ()) (at_sums_of T) (by decide) (by decide) (by exact rfl) (za_one (z_var n_Ladder_init_2_3)))))) sub_nil) fun w5 =>
  (zb_nil (a := (w3.1, w3.2.1, w3.2.2, begin4, w5.1, w5.2.1, w5.2.2)) (SubL.sub (.keep (.drop (.drop (.drop (.drop (.drop (.keep (.keep (.keep (.keep SubL.nil))))))))))))))))))
theorem mk_Ladder_init_2_K {G : Gx} {D : Cl} (T : Txt G D) : MkAtK false G D.Ladder 5 3 ["self", "below", "row", "above", "at"] ["at"] (spI G D.Ladder (fun (p : ((List Int) × (List Int) × (List Int) × Int)) => [(rLst rInt).pr p.1, (rLst rInt).pr p.2.1, (rLst rInt).pr p.2.2.1, rInt.pr p.2.2.2]) m_Ladder_init_2 (fs_Ladder D)) (fun vs zs => vs ++ zs) := by
  obtain ⟨f, fd, h1, h2⟩ := T.d_Ladder_init
  obtain ⟨mv, hb⟩ := h2.kbinds0 (ps := ["self", "below", "row", "above", "at"]) 4 ["at"] [] (fun us mv ws => us ++ ws) (by simp) (by simp) (fun r1 _ r3 => r1.append r3) (by
    intro D doc pm an cdv ct us mv ws l1 l2 l3
    match us, mv, ws, l1, l2, l3 with
    | [a0, a1, a2, a3], [], [w], _, _, _ => rfl)
  exact ⟨f, fd, _, h1, hb, f_Ladder_init_2 T h2⟩
theorem mk_Ladder_init_2_0 {G : Gx} {D : Cl} (T : Txt G D) : MkAtK false G D.Ladder 5 3 ["self", "below", "row", "above", "at"] [] (spI G D.Ladder (fun (p : ((List Int) × (List Int) × (List Int) × Int)) => [(rLst rInt).pr p.1, (rLst rInt).pr p.2.1, (rLst rInt).pr p.2.2.1, rInt.pr p.2.2.2]) m_Ladder_init_2 (fs_Ladder D)) (fun vs _ => vs ++ [.int 0]) := by
  obtain ⟨f, fd, h1, h2⟩ := T.d_Ladder_init
  obtain ⟨mv, hb⟩ := h2.kbinds0 (ps := ["self", "below", "row", "above", "at"]) 4 [] [("at", .int 0)] (fun us mv ws => us ++ mv) (by simp) (by simp) (fun r1 r2 _ => r1.append r2) (by
    intro D doc pm an cdv ct us mv ws l1 l2 l3
    match us, mv, ws, l1, l2, l3 with
    | [a0, a1, a2, a3], [w], [], _, _, _ => exact ⟨_, _, _, _, _, _, rfl, rfl, rfl⟩)
  exact ⟨f, fd, _, h1, hb, f_Ladder_init_2 T h2⟩

def k_w_ladder : Sc := ⟨["_law_plan", "_law_begin", "_law_row", "_law_below", "_law_above"], defScope t_w_ladder, 6, true, fun _ => true, false⟩
theorem sc_w_ladder : FnScope ["_law_plan", "_law_begin", "_law_row", "_law_below", "_law_above"] ["_law_plan"] (defScope t_w_ladder) := ⟨rfl, rfl, rfl, by decide +kernel, rfl, by decide +kernel, by decide +kernel⟩
theorem n_w_ladder_0 : Nm k_w_ladder 0 "_law_plan" := nm_of (by decide +kernel)
theorem n_w_ladder_1 : Nm k_w_ladder 1 "_law_begin" := nm_of (by decide +kernel)
theorem s_w_ladder_1 : Ns k_w_ladder 1 "_law_begin" := ns_of (by decide +kernel)
theorem n_w_ladder_2 : Nm k_w_ladder 2 "_law_row" := nm_of (by decide +kernel)
theorem s_w_ladder_2 : Ns k_w_ladder 2 "_law_row" := ns_of (by decide +kernel)
theorem n_w_ladder_3 : Nm k_w_ladder 3 "_law_below" := nm_of (by decide +kernel)
theorem s_w_ladder_3 : Ns k_w_ladder 3 "_law_below" := ns_of (by decide +kernel)
theorem n_w_ladder_4 : Nm k_w_ladder 4 "_law_above" := nm_of (by decide +kernel)
theorem s_w_ladder_4 : Ns k_w_ladder 4 "_law_above" := ns_of (by decide +kernel)
noncomputable def b_w_ladder (p : (Int × (List Int) × (List Int) × (List Int))) : M Unit (Fl Unit Empty XLadder) :=
  (zseq (zset (ret p)) fun w1 =>
  (zrt (bnd (zpair (zapp ret (ret w1.2.2.1)) (zpair (zapp ret (ret w1.2.1)) (zapp ret (ret w1.2.2.2)))) fun y => bnd (ret w1.1) fun z => lft (m_Ladder_init_2 (y.1, y.2.1, y.2.2, z)))))
noncomputable def m_w_ladder (p : (Int × (List Int) × (List Int) × (List Int))) : M Unit XLadder := zbody (b_w_ladder p)
theorem f_w_ladder {G : Gx} {D : Cl} (T : Txt G D) {f : Addr} {fd : FuncData} (F : Fun G.K "_law_ladder" "_law_ladder" t_w_ladder f fd) : FnG false G.P G.w G.K G.mg G.base 7 f fd ["_law_plan"] (spZ G (fun _ : Unit => noE) (fun (q : Unit) (p : (Int × (List Int) × (List Int) × (List Int))) => [(rT4 rInt (rLst rInt) (rLst rInt) (rLst rInt)).pr p]) m_w_ladder (rLadder D)) :=
  fn_ok (g := false) (k := 6) (mb := b_w_ladder) (n := fun _ _ => stk) (Γn := fun _ _ _ => []) F sc_w_ladder (fun _ _ => rfl) (fun _ => rfl) (.inl fun _ _ => rfl) fun q p W =>
  show ZB G k_w_ladder _ W _ [.st ((rT4 rInt (rLst rInt) (rLst rInt) (rLst rInt)).pr p), .no, .no, .no, .no] _ (b_w_ladder p) _ from
  (zb_cons (zs_asgS (vs := [1, 2, 3, 4]) (z_var n_w_ladder_0) (zg_tup to4 (zgs_cons (zg_name s_w_ladder_1 (by decide)) fun _ => (zgs_cons (zg_name s_w_ladder_2 (by decide)) fun _ => (zgs_cons (zg_name s_w_ladder_3 (by decide)) fun _ => (zgs_one (zg_name s_w_ladder_4 (by decide))))))) sub_nil) fun w1 =>
  (zb_eq (Γ' := [.st ((rT4 rInt (rLst rInt) (rLst rInt) (rLst rInt)).pr p), .st (rInt.pr w1.1), .st ((rLst rInt).pr w1.2.1), .st ((rLst rInt).pr w1.2.2.1), .st ((rLst rInt).pr w1.2.2.2)]) rfl (zb_one (zs_ret (z_obj (fs_Ladder D) (zf_makeK (f := m_Ladder_init_2) (g := fun (y : ((List Int) × (List Int) × (List Int)) × Int) => (y.1.1, y.1.2.1, y.1.2.2, y.2)) (mk_Ladder_init_2_K T) T.g_Ladder (by decide) (by decide) rfl (by exact fun _ => rfl) (by exact gv3) (za_cons (z_listL (blt_of (u := .type "list") T.b_list (by decide +kernel)) (z_var n_w_ladder_3)) (za_cons (z_listL (blt_of (u := .type "list") T.b_list (by decide +kernel)) (z_var n_w_ladder_2)) (za_one (z_listL (blt_of (u := .type "list") T.b_list (by decide +kernel)) (z_var n_w_ladder_4))))) (z_var n_w_ladder_1))) sub_nil))))
theorem at_w_ladder {G : Gx} {D : Cl} (T : Txt G D) : FnAt false G "_law_ladder" 7 ["_law_plan"] (spZ G (fun _ : Unit => noE) (fun (q : Unit) (p : (Int × (List Int) × (List Int) × (List Int))) => [(rT4 rInt (rLst rInt) (rLst rInt) (rLst rInt)).pr p]) m_w_ladder (rLadder D)) :=
  let ⟨f, fd, h1, h2, h3, h4⟩ := T.d_w_ladder; ⟨f, fd, h1, h2, h3, f_w_ladder T h4⟩

def k_Ladder_price_at : Sc := ⟨["self", "d", "steps"], defScope t_Ladder_price_at, 0, true, fun _ => true, false⟩
theorem sc_Ladder_price_at : FnScope ["self", "d", "steps"] ["self", "d"] (defScope t_Ladder_price_at) := ⟨rfl, rfl, rfl, by decide +kernel, rfl, by decide +kernel, by decide +kernel⟩
theorem n_Ladder_price_at_0 : Nm k_Ladder_price_at 0 "self" := nm_of (by decide +kernel)
theorem n_Ladder_price_at_1 : Nm k_Ladder_price_at 1 "d" := nm_of (by decide +kernel)
theorem n_Ladder_price_at_2 : Nm k_Ladder_price_at 2 "steps" := nm_of (by decide +kernel)
theorem s_Ladder_price_at_2 : Ns k_Ladder_price_at 2 "steps" := ns_of (by decide +kernel)
noncomputable def b_Ladder_price_at (p : (XLadder × PyData)) : M Unit (Fl Unit Empty Int) :=
  (zseq (zset (zop2 isub (zgetP asI (ret p.2)) (zget XLadder.begin_ (ret p.1)))) fun steps1 =>
  (zseq (zifS (zop2 ilt (ret steps1) (ret (0 : Int)))
    (zrt (zop2 ixat (zget XLadder.low_ (ret p.1)) (zop2 imod (zop2 isub (zop2 isub (ret (0 : Int)) (ret (1 : Int))) (ret steps1)) (zapp flen (zget XLadder.low_ (ret p.1))))))
    (znx ())) fun _ =>
  (zseq (zifS (zop2 ilt (ret steps1) (zapp flen (zget XLadder.middle_ (ret p.1))))
    (zrt (zop2 ixat (zget XLadder.middle_ (ret p.1)) (ret steps1)))
    (znx ())) fun _ =>
  (zrt (zop2 ixat (zget XLadder.high_ (ret p.1)) (zop2 imod (zop2 isub (ret steps1) (zapp flen (zget XLadder.middle_ (ret p.1)))) (zapp flen (zget XLadder.high_ (ret p.1)))))))))
noncomputable def m_Ladder_price_at (p : (XLadder × PyData)) : M Unit Int := zbody (b_Ladder_price_at p)
theorem f_Ladder_price_at {G : Gx} {D : Cl} (T : Txt G D) {f : Addr} {fd : FuncData} (F : Fun G.K "price_at" "Ladder.price_at" t_Ladder_price_at f fd) : FnG false G.P G.w G.K G.mg G.base 1 f fd ["self", "d"] (spZ G (fun _ : Unit => noE) (fun (q : Unit) (p : (XLadder × PyData)) => [(rLadder D).pr p.1, rQ.pr p.2]) m_Ladder_price_at rInt) :=
  fn_ok (g := false) (k := 0) (mb := b_Ladder_price_at) (n := fun _ _ => stk) (Γn := fun _ _ _ => []) F sc_Ladder_price_at (fun _ _ => rfl) (fun _ => rfl) (.inl fun _ _ => rfl) fun q p W =>
  show ZB G k_Ladder_price_at _ W _ [.st ((rLadder D).pr p.1), .st (rQ.pr p.2), .no] _ (b_Ladder_price_at p) _ from
  (zb_cons (zs_set s_Ladder_price_at_2 (z_sub (z_as as_I (z_var n_Ladder_price_at_1)) (z_attr (fld_at fun _ => rfl) T.cl_Ladder T.na_Ladder_begin (z_var n_Ladder_price_at_0))) sub_nil) fun steps1 =>
  (zb_cons (zs_if (Γn := fun _ : Unit => [.st ((rLadder D).pr p.1), .st (rQ.pr p.2), .st (rInt.pr steps1)]) (zt_lt (z_var n_Ladder_price_at_2) z_int)
    (zb_one (zs_ret (z_ixV (z_attr (fld_at fun _ => rfl) T.cl_Ladder T.na_Ladder_low (z_var n_Ladder_price_at_0)) (z_mod (z_sub (z_sub z_int z_int) (z_var n_Ladder_price_at_2)) (z_lenV (blt_of (u := .builtin "len") T.b_len (by decide +kernel)) (z_attr (fld_at fun _ => rfl) T.cl_Ladder T.na_Ladder_low (z_var n_Ladder_price_at_0))))) sub_nil))
    (zb_nil (SubL.sub (.keep (.keep (.keep SubL.nil))))) sub_nil) fun _ =>
  (zb_cons (zs_if (Γn := fun _ : Unit => [.st ((rLadder D).pr p.1), .st (rQ.pr p.2), .st (rInt.pr steps1)]) (zt_lt (z_var n_Ladder_price_at_2) (z_lenV (blt_of (u := .builtin "len") T.b_len (by decide +kernel)) (z_attr (fld_at fun _ => rfl) T.cl_Ladder T.na_Ladder_middle (z_var n_Ladder_price_at_0))))
    (zb_one (zs_ret (z_ixV (z_attr (fld_at fun _ => rfl) T.cl_Ladder T.na_Ladder_middle (z_var n_Ladder_price_at_0)) (z_var n_Ladder_price_at_2)) sub_nil))
    (zb_nil (SubL.sub (.keep (.keep (.keep SubL.nil))))) sub_nil) fun _ =>
  (zb_one (zs_ret (z_ixV (z_attr (fld_at fun _ => rfl) T.cl_Ladder T.na_Ladder_high (z_var n_Ladder_price_at_0)) (z_mod (z_sub (z_var n_Ladder_price_at_2) (z_lenV (blt_of (u := .builtin "len") T.b_len (by decide +kernel)) (z_attr (fld_at fun _ => rfl) T.cl_Ladder T.na_Ladder_middle (z_var n_Ladder_price_at_0)))) (z_lenV (blt_of (u := .builtin "len") T.b_len (by decide +kernel)) (z_attr (fld_at fun _ => rfl) T.cl_Ladder T.na_Ladder_high (z_var n_Ladder_price_at_0))))) sub_nil)))))
theorem at_Ladder_price_at {G : Gx} {D : Cl} (T : Txt G D) : MethAt false G D.Ladder "price_at" 1 ["self", "d"] (spZ G (fun _ : Unit => noE) (fun (q : Unit) (p : (XLadder × PyData)) => [(rLadder D).pr p.1, rQ.pr p.2]) m_Ladder_price_at rInt) :=
  let ⟨f, fd, h1, h2, h3⟩ := T.d_Ladder_price_at; ⟨f, fd, h1, h2, f_Ladder_price_at T h3⟩

def k_Ladder_rung : Sc := ⟨["self", "d"], defScope t_Ladder_rung, 2, true, fun _ => true, false⟩
theorem sc_Ladder_rung : FnScope ["self", "d"] ["self", "d"] (defScope t_Ladder_rung) := ⟨rfl, rfl, rfl, by decide +kernel, rfl, by decide +kernel, by decide +kernel⟩
theorem n_Ladder_rung_0 : Nm k_Ladder_rung 0 "self" := nm_of (by decide +kernel)
theorem n_Ladder_rung_1 : Nm k_Ladder_rung 1 "d" := nm_of (by decide +kernel)
noncomputable def b_Ladder_rung (p : (XLadder × PyData)) : M Unit (Fl Unit Empty Int) :=
  (zseq (zifS (znot (zapp (fun x => lft (m_is_whole x)) (ret p.2)))
    (zraise "Wrong" "at" V.int (ret (0 : Int)))
    (znx ())) fun _ =>
  (zrt (zmeth (fun x => lft (m_Ladder_price_at x)) (ret p.1) (ret p.2))))
noncomputable def m_Ladder_rung (p : (XLadder × PyData)) : M Unit Int := zbody (b_Ladder_rung p)
theorem f_Ladder_rung {G : Gx} {D : Cl} (T : Txt G D) {f : Addr} {fd : FuncData} (F : Fun G.K "rung" "Ladder.rung" t_Ladder_rung f fd) : FnG false G.P G.w G.K G.mg G.base 3 f fd ["self", "d"] (spZ G (fun _ : Unit => noE) (fun (q : Unit) (p : (XLadder × PyData)) => [(rLadder D).pr p.1, rQ.pr p.2]) m_Ladder_rung rInt) :=
  fn_ok (g := false) (k := 2) (mb := b_Ladder_rung) (n := fun _ _ => stk) (Γn := fun _ _ _ => []) F sc_Ladder_rung (fun _ _ => rfl) (fun _ => rfl) (.inl fun _ _ => rfl) fun q p W =>
  show ZB G k_Ladder_rung _ W _ [.st ((rLadder D).pr p.1), .st (rQ.pr p.2)] _ (b_Ladder_rung p) _ from
  (zb_cons (zs_if (Γn := fun _ : Unit => [.st ((rLadder D).pr p.1), .st (rQ.pr p.2)]) (zt_not (zt_val (z_callP (q := ()) (at_is_whole T) (by decide) (by decide) (by exact rfl) (za_one (z_var n_Ladder_rung_1)))))
    (zb_one (zs_raise1 (x_Wrong T) T.xf_Wrong (by decide) rfl scI z_int sub_nil))
    (zb_nil (SubL.sub (.keep (.keep SubL.nil)))) sub_nil) fun _ =>
  (zb_one (zs_ret (z_methP (A := (fun y => [rQ.pr y])) (at_Ladder_price_at T) T.cl_Ladder (ins_at fun _ => rfl) (by decide) (by decide) (z_var n_Ladder_rung_0) (za_one (z_var n_Ladder_rung_1))) sub_nil)))
theorem at_Ladder_rung {G : Gx} {D : Cl} (T : Txt G D) : MethAt false G D.Ladder "rung" 3 ["self", "d"] (spZ G (fun _ : Unit => noE) (fun (q : Unit) (p : (XLadder × PyData)) => [(rLadder D).pr p.1, rQ.pr p.2]) m_Ladder_rung rInt) :=
  let ⟨f, fd, h1, h2, h3⟩ := T.d_Ladder_rung; ⟨f, fd, h1, h2, f_Ladder_rung T h3⟩

def k_repeated : Sc := ⟨["sums", "many", "rounds", "more"], defScope t_repeated, 0, true, fun _ => true, false⟩
theorem sc_repeated : FnScope ["sums", "many", "rounds", "more"] ["sums", "many"] (defScope t_repeated) := ⟨rfl, rfl, rfl, by decide +kernel, rfl, by decide +kernel, by decide +kernel⟩
theorem n_repeated_0 : Nm k_repeated 0 "sums" := nm_of (by decide +kernel)
theorem n_repeated_1 : Nm k_repeated 1 "many" := nm_of (by decide +kernel)
theorem n_repeated_2 : Nm k_repeated 2 "rounds" := nm_of (by decide +kernel)
theorem s_repeated_2 : Ns k_repeated 2 "rounds" := ns_of (by decide +kernel)
theorem n_repeated_3 : Nm k_repeated 3 "more" := nm_of (by decide +kernel)
theorem s_repeated_3 : Ns k_repeated 3 "more" := ns_of (by decide +kernel)
noncomputable def b_repeated (p : ((List Int) × Int)) : M Unit (Fl Unit Empty Int) :=
  (zseq (zset (zapp (fun x : Int × Int => fdivmod x.1 x.2) (zpair (ret p.2) (zop2 isub (zapp flen (ret p.1)) (ret (1 : Int)))))) fun w1 =>
  (zrt (zop2 iadd (zop2 imul (ret w1.1) (zop2 ixat (ret p.1) (zop1 ineg (ret (1 : Int))))) (zop2 ixat (ret p.1) (ret w1.2)))))
noncomputable def m_repeated (p : ((List Int) × Int)) : M Unit Int := zbody (b_repeated p)
theorem f_repeated {G : Gx} {D : Cl} (T : Txt G D) {f : Addr} {fd : FuncData} (F : Fun G.K "repeated" "repeated" t_repeated f fd) : FnG false G.P G.w G.K G.mg G.base 1 f fd ["sums", "many"] (spZ G (fun _ : Unit => noE) (fun (q : Unit) (p : ((List Int) × Int)) => [(rLst rInt).pr p.1, rInt.pr p.2]) m_repeated rInt) :=
  fn_ok (g := false) (k := 0) (mb := b_repeated) (n := fun _ _ => stk) (Γn := fun _ _ _ => []) F sc_repeated (fun _ _ => rfl) (fun _ => rfl) (.inl fun _ _ => rfl) fun q p W =>
  show ZB G k_repeated _ W _ [.st ((rLst rInt).pr p.1), .st (rInt.pr p.2), .no, .no] _ (b_repeated p) _ from
  (zb_cons (zs_asgS (vs := [2, 3]) (z_divmod (blt_of (u := .builtin "divmod") T.b_divmod (by decide +kernel)) (z_var n_repeated_1) (z_sub (z_lenL (blt_of (u := .builtin "len") T.b_len (by decide +kernel)) (z_var n_repeated_0)) z_int)) (zg_tup to2 (zgs_cons (zg_name s_repeated_2 (by decide)) fun _ => (zgs_one (zg_name s_repeated_3 (by decide))))) sub_nil) fun w1 =>
  (zb_eq (Γ' := [.st ((rLst rInt).pr p.1), .st (rInt.pr p.2), .st (rInt.pr w1.1), .st (rInt.pr w1.2)]) rfl (zb_one (zs_ret (z_add (z_mul (z_var n_repeated_2) (z_ixL (z_var n_repeated_0) (z_neg z_int))) (z_ixL (z_var n_repeated_0) (z_var n_repeated_3))) sub_nil))))
theorem at_repeated {G : Gx} {D : Cl} (T : Txt G D) : FnAt false G "repeated" 1 ["sums", "many"] (spZ G (fun _ : Unit => noE) (fun (q : Unit) (p : ((List Int) × Int)) => [(rLst rInt).pr p.1, rInt.pr p.2]) m_repeated rInt) :=
  let ⟨f, fd, h1, h2, h3, h4⟩ := T.d_repeated; ⟨f, fd, h1, h2, h3, f_repeated T h4⟩

def k_Ladder_height : Sc := ⟨["self", "d", "steps"], defScope t_Ladder_height, 1, true, fun _ => true, false⟩
theorem sc_Ladder_height : FnScope ["self", "d", "steps"] ["self", "d"] (defScope t_Ladder_height) := ⟨rfl, rfl, rfl, by decide +kernel, rfl, by decide +kernel, by decide +kernel⟩
theorem n_Ladder_height_0 : Nm k_Ladder_height 0 "self" := nm_of (by decide +kernel)
theorem n_Ladder_height_1 : Nm k_Ladder_height 1 "d" := nm_of (by decide +kernel)
theorem n_Ladder_height_2 : Nm k_Ladder_height 2 "steps" := nm_of (by decide +kernel)
theorem s_Ladder_height_2 : Ns k_Ladder_height 2 "steps" := ns_of (by decide +kernel)
noncomputable def b_Ladder_height (p : (XLadder × PyData)) : M Unit (Fl Unit Empty Int) :=
  (zseq (zset (zop2 isub (zgetP asI (ret p.2)) (zget XLadder.begin_ (ret p.1)))) fun steps1 =>
  (zseq (zifS (zop2 ilt (ret steps1) (ret (0 : Int)))
    (zrt (zop2 isub (ret (0 : Int)) (zapp (fun x => lft (m_repeated x)) (zpair (zget XLadder.low_sums_ (ret p.1)) (zop2 isub (ret (0 : Int)) (ret steps1))))))
    (znx ())) fun _ =>
  (zseq (zifS (zop2 ile (ret steps1) (zapp flen (zget XLadder.middle_ (ret p.1))))
    (zrt (zop2 ixat (zget XLadder.middle_sums_ (ret p.1)) (ret steps1)))
    (znx ())) fun _ =>
  (zrt (zop2 iadd (zop2 ixat (zget XLadder.middle_sums_ (ret p.1)) (zop1 ineg (ret (1 : Int)))) (zapp (fun x => lft (m_repeated x)) (zpair (zget XLadder.high_sums_ (ret p.1)) (zop2 isub (ret steps1) (zapp flen (zget XLadder.middle_ (ret p.1)))))))))))
noncomputable def m_Ladder_height (p : (XLadder × PyData)) : M Unit Int := zbody (b_Ladder_height p)
theorem f_Ladder_height {G : Gx} {D : Cl} (T : Txt G D) {f : Addr} {fd : FuncData} (F : Fun G.K "height" "Ladder.height" t_Ladder_height f fd) : FnG false G.P G.w G.K G.mg G.base 2 f fd ["self", "d"] (spZ G (fun _ : Unit => noE) (fun (q : Unit) (p : (XLadder × PyData)) => [(rLadder D).pr p.1, rQ.pr p.2]) m_Ladder_height rInt) :=
  fn_ok (g := false) (k := 1) (mb := b_Ladder_height) (n := fun _ _ => stk) (Γn := fun _ _ _ => []) F sc_Ladder_height (fun _ _ => rfl) (fun _ => rfl) (.inl fun _ _ => rfl) fun q p W =>
  show ZB G k_Ladder_height _ W _ [.st ((rLadder D).pr p.1), .st (rQ.pr p.2), .no] _ (b_Ladder_height p) _ from
  (zb_cons (zs_set s_Ladder_height_2 (z_sub (z_as as_I (z_var n_Ladder_height_1)) (z_attr (fld_at fun _ => rfl) T.cl_Ladder T.na_Ladder_begin (z_var n_Ladder_height_0))) sub_nil) fun steps1 =>
  (zb_cons (zs_if (Γn := fun _ : Unit => [.st ((rLadder D).pr p.1), .st (rQ.pr p.2), .st (rInt.pr steps1)]) (zt_lt (z_var n_Ladder_height_2) z_int)
    (zb_one (zs_ret (z_sub z_int (z_callP (q := ()) (at_repeated T) (by decide) (by decide) (by exact rfl) (za_cons (z_attr (fld_at fun _ => rfl) T.cl_Ladder T.na_Ladder_low_sums (z_var n_Ladder_height_0)) (za_one (z_sub z_int (z_var n_Ladder_height_2)))))) sub_nil))
    (zb_nil (SubL.sub (.keep (.keep (.keep SubL.nil))))) sub_nil) fun _ =>
  (zb_cons (zs_if (Γn := fun _ : Unit => [.st ((rLadder D).pr p.1), .st (rQ.pr p.2), .st (rInt.pr steps1)]) (zt_le (z_var n_Ladder_height_2) (z_lenV (blt_of (u := .builtin "len") T.b_len (by decide +kernel)) (z_attr (fld_at fun _ => rfl) T.cl_Ladder T.na_Ladder_middle (z_var n_Ladder_height_0))))
    (zb_one (zs_ret (z_ixL (z_attr (fld_at fun _ => rfl) T.cl_Ladder T.na_Ladder_middle_sums (z_var n_Ladder_height_0)) (z_var n_Ladder_height_2)) sub_nil))
    (zb_nil (SubL.sub (.keep (.keep (.keep SubL.nil))))) sub_nil) fun _ =>
  (zb_one (zs_ret (z_add (z_ixL (z_attr (fld_at fun _ => rfl) T.cl_Ladder T.na_Ladder_middle_sums (z_var n_Ladder_height_0)) (z_neg z_int)) (z_callP (q := ()) (at_repeated T) (by decide) (by decide) (by exact rfl) (za_cons (z_attr (fld_at fun _ => rfl) T.cl_Ladder T.na_Ladder_high_sums (z_var n_Ladder_height_0)) (za_one (z_sub (z_var n_Ladder_height_2) (z_lenV (blt_of (u := .builtin "len") T.b_len (by decide +kernel)) (z_attr (fld_at fun _ => rfl) T.cl_Ladder T.na_Ladder_middle (z_var n_Ladder_height_0)))))))) sub_nil)))))
theorem at_Ladder_height {G : Gx} {D : Cl} (T : Txt G D) : MethAt false G D.Ladder "height" 2 ["self", "d"] (spZ G (fun _ : Unit => noE) (fun (q : Unit) (p : (XLadder × PyData)) => [(rLadder D).pr p.1, rQ.pr p.2]) m_Ladder_height rInt) :=
  let ⟨f, fd, h1, h2, h3⟩ := T.d_Ladder_height; ⟨f, fd, h1, h2, f_Ladder_height T h3⟩

def k_Ladder_total : Sc := ⟨["self", "low", "high"], defScope t_Ladder_total, 2, true, fun _ => true, false⟩
theorem sc_Ladder_total : FnScope ["self", "low", "high"] ["self", "low", "high"] (defScope t_Ladder_total) := ⟨rfl, rfl, rfl, by decide +kernel, rfl, by decide +kernel, by decide +kernel⟩
theorem n_Ladder_total_0 : Nm k_Ladder_total 0 "self" := nm_of (by decide +kernel)
theorem n_Ladder_total_1 : Nm k_Ladder_total 1 "low" := nm_of (by decide +kernel)
theorem n_Ladder_total_2 : Nm k_Ladder_total 2 "high" := nm_of (by decide +kernel)
noncomputable def b_Ladder_total (p : (XLadder × PyData × PyData)) : M Unit (Fl Unit Empty Int) :=
  (zseq (zifS (znot (zapp (fun x => lft (m_is_whole x)) (ret p.2.1)))
    (zraise "Wrong" "at" V.int (ret (0 : Int)))
    (znx ())) fun _ =>
  (zseq (zifS (zor (znot (zapp (fun x => lft (m_is_whole x)) (ret p.2.2))) (zop2 ilt (zgetP asI (ret p.2.2)) (zgetP asI (ret p.2.1))))
    (zraise "Wrong" "at" V.int (ret (1 : Int)))
    (znx ())) fun _ =>
  (zrt (zop2 isub (zmeth (fun x => lft (m_Ladder_height x)) (ret p.1) (ret p.2.2)) (zmeth (fun x => lft (m_Ladder_height x)) (ret p.1) (ret p.2.1))))))
noncomputable def m_Ladder_total (p : (XLadder × PyData × PyData)) : M Unit Int := zbody (b_Ladder_total p)
theorem f_Ladder_total {G : Gx} {D : Cl} (T : Txt G D) {f : Addr} {fd : FuncData} (F : Fun G.K "total" "Ladder.total" t_Ladder_total f fd) : FnG false G.P G.w G.K G.mg G.base 3 f fd ["self", "low", "high"] (spZ G (fun _ : Unit => noE) (fun (q : Unit) (p : (XLadder × PyData × PyData)) => [(rLadder D).pr p.1, rQ.pr p.2.1, rQ.pr p.2.2]) m_Ladder_total rInt) :=
  fn_ok (g := false) (k := 2) (mb := b_Ladder_total) (n := fun _ _ => stk) (Γn := fun _ _ _ => []) F sc_Ladder_total (fun _ _ => rfl) (fun _ => rfl) (.inl fun _ _ => rfl) fun q p W =>
  show ZB G k_Ladder_total _ W _ [.st ((rLadder D).pr p.1), .st (rQ.pr p.2.1), .st (rQ.pr p.2.2)] _ (b_Ladder_total p) _ from
  (zb_cons (zs_if (Γn := fun _ : Unit => [.st ((rLadder D).pr p.1), .st (rQ.pr p.2.1), .st (rQ.pr p.2.2)]) (zt_not (zt_val (z_callP (q := ()) (at_is_whole T) (by decide) (by decide) (by exact rfl) (za_one (z_var n_Ladder_total_1)))))
    (zb_one (zs_raise1 (x_Wrong T) T.xf_Wrong (by decide) rfl scI z_int sub_nil))
    (zb_nil (SubL.sub (.keep (.keep (.keep SubL.nil))))) sub_nil) fun _ =>
  (zb_cons (zs_if (Γn := fun _ : Unit => [.st ((rLadder D).pr p.1), .st (rQ.pr p.2.1), .st (rQ.pr p.2.2)]) (zw_t (zw_or (zt_not (zt_val (z_callP (q := ()) (at_is_whole T) (by decide) (by decide) (by exact rfl) (za_one (z_var n_Ladder_total_2))))) (zw_or1 (zt_lt (z_as as_I (z_var n_Ladder_total_2)) (z_as as_I (z_var n_Ladder_total_1))))))
    (zb_one (zs_raise1 (x_Wrong T) T.xf_Wrong (by decide) rfl scI z_int sub_nil))
    (zb_nil (SubL.sub (.keep (.keep (.keep SubL.nil))))) sub_nil) fun _ =>
  (zb_one (zs_ret (z_sub (z_methP (A := (fun y => [rQ.pr y])) (at_Ladder_height T) T.cl_Ladder (ins_at fun _ => rfl) (by decide) (by decide) (z_var n_Ladder_total_0) (za_one (z_var n_Ladder_total_2))) (z_methP (A := (fun y => [rQ.pr y])) (at_Ladder_height T) T.cl_Ladder (ins_at fun _ => rfl) (by decide) (by decide) (z_var n_Ladder_total_0) (za_one (z_var n_Ladder_total_1)))) sub_nil))))
theorem at_Ladder_total {G : Gx} {D : Cl} (T : Txt G D) : MethAt false G D.Ladder "total" 3 ["self", "low", "high"] (spZ G (fun _ : Unit => noE) (fun (q : Unit) (p : (XLadder × PyData × PyData)) => [(rLadder D).pr p.1, rQ.pr p.2.1, rQ.pr p.2.2]) m_Ladder_total rInt) :=
  let ⟨f, fd, h1, h2, h3⟩ := T.d_Ladder_total; ⟨f, fd, h1, h2, f_Ladder_total T h3⟩

def k_plain : Sc := ⟨["price"], defScope t_plain, 6, true, fun _ => true, false⟩
theorem sc_plain : FnScope ["price"] ["price"] (defScope t_plain) := ⟨rfl, rfl, rfl, by decide +kernel, rfl, by decide +kernel, by decide +kernel⟩
theorem n_plain_0 : Nm k_plain 0 "price" := nm_of (by decide +kernel)
noncomputable def b_plain (p : PyData) : M Unit (Fl Unit Empty XLadder) :=
  (zseq (zifS (znot (zapp (fun x => lft (m_is_price x)) (ret p)))
    (zraise "Wrong" "at" V.int (ret (0 : Int)))
    (znx ())) fun _ =>
  (zrt (bnd (zpair (zlist (zcons (zgetP asI (ret p)) (ret []))) (zpair (zlist ((ret []) : M _ (List Int))) (zlist (zcons (zgetP asI (ret p)) (ret []))))) fun y => lft (m_Ladder_init_2 (y.1, y.2.1, y.2.2, (0 : Int))))))
noncomputable def m_plain (p : PyData) : M Unit XLadder := zbody (b_plain p)
theorem f_plain {G : Gx} {D : Cl} (T : Txt G D) {f : Addr} {fd : FuncData} (F : Fun G.K "plain" "plain" t_plain f fd) : FnG false G.P G.w G.K G.mg G.base 7 f fd ["price"] (spZ G (fun _ : Unit => noE) (fun (q : Unit) (p : PyData) => [rQ.pr p]) m_plain (rLadder D)) :=
  fn_ok (g := false) (k := 6) (mb := b_plain) (n := fun _ _ => stk) (Γn := fun _ _ _ => []) F sc_plain (fun _ _ => rfl) (fun _ => rfl) (.inl fun _ _ => rfl) fun q p W =>
  show ZB G k_plain _ W _ [.st (rQ.pr p)] _ (b_plain p) _ from
  (zb_cons (zs_if (Γn := fun _ : Unit => [.st (rQ.pr p)]) (zt_not (zt_val (z_callP (q := ()) (at_is_price T) (by decide) (by decide) (by exact rfl) (za_one (z_var n_plain_0)))))
    (zb_one (zs_raise1 (x_Wrong T) T.xf_Wrong (by decide) rfl scI z_int sub_nil))
    (zb_nil (SubL.sub (.keep SubL.nil))) sub_nil) fun _ =>
  (zb_one (zs_ret (z_obj (fs_Ladder D) (zf_makeK0 (f := m_Ladder_init_2) (g := fun (y : ((List Int) × (List Int) × (List Int))) => (y.1, y.2.1, y.2.2, (0 : Int))) (mk_Ladder_init_2_0 T) T.g_Ladder (by decide) (by decide) rfl (by exact fun _ => rfl) (by exact gw3) (za_cons (z_list (zl_cons (z_as as_I (z_var n_plain_0)) zl_nil)) (za_cons (z_list zl_nil) (za_one (z_list (zl_cons (z_as as_I (z_var n_plain_0)) zl_nil))))))) sub_nil)))
theorem at_plain {G : Gx} {D : Cl} (T : Txt G D) : FnAt false G "plain" 7 ["price"] (spZ G (fun _ : Unit => noE) (fun (q : Unit) (p : PyData) => [rQ.pr p]) m_plain (rLadder D)) :=
  let ⟨f, fd, h1, h2, h3, h4⟩ := T.d_plain; ⟨f, fd, h1, h2, h3, f_plain T h4⟩

def k_w_asked : Sc := ⟨["_law_ladder_here", "_law_way", "_law_things", "_law_e"], defScope t_w_asked, 7, true, fun _ => true, false⟩
theorem sc_w_asked : FnScope ["_law_ladder_here", "_law_way", "_law_things", "_law_e"] ["_law_ladder_here", "_law_way", "_law_things"] (defScope t_w_asked) := ⟨rfl, rfl, rfl, by decide +kernel, rfl, by decide +kernel, by decide +kernel⟩
theorem n_w_asked_0 : Nm k_w_asked 0 "_law_ladder_here" := nm_of (by decide +kernel)
theorem n_w_asked_1 : Nm k_w_asked 1 "_law_way" := nm_of (by decide +kernel)
theorem n_w_asked_2 : Nm k_w_asked 2 "_law_things" := nm_of (by decide +kernel)
theorem n_w_asked_3 : Nm k_w_asked 3 "_law_e" := nm_of (by decide +kernel)
theorem s_w_asked_3 : Ns k_w_asked 3 "_law_e" := ns_of (by decide +kernel)
noncomputable def b_w_asked (p : (XLadder × Int × (List PyData))) : M Unit (Fl Unit Empty ((Str × (Str ⊕ Int)) ⊕ (Str × Unit))) :=
  (zseq (ztryX (fun n => if n = ("Wrong" : Str) then some true else none)
    (zseq (zifS (zop2 feq (ret p.2.1) (ret (0 : Int)))
      (zseq (zdrop (zmeth (fun x => lft (m_Ladder_rung x)) (ret p.1) (zop2 ixat (ret p.2.2) (ret (0 : Int))))) fun _ =>
      (znx ()))
      (zseq (zifS (zop2 feq (ret p.2.1) (ret (1 : Int)))
        (zseq (zdrop (zmeth (fun x => lft (m_Ladder_total x)) (ret p.1) (zpair (zop2 ixat (ret p.2.2) (ret (0 : Int))) (zop2 ixat (ret p.2.2) (ret (1 : Int)))))) fun _ =>
        (znx ()))
        (zseq (zdrop (zapp (fun x => lft (m_plain x)) (zop2 ixat (ret p.2.2) (ret (0 : Int))))) fun _ =>
        (znx ()))) fun _ =>
      (znx ()))) fun _ =>
    (znx ()))
    (fun x => bnd (mopt (((some ("refused" : Str)).bind fun y => (okOf (m_w_place x)).bind fun z => some (y, z)).map Sum.inl)) fun r => ret (.rt r))) fun _ =>
  (zrt (zget Sum.inr (zpair (ret ("made" : Str)) (ret ())))))
noncomputable def m_w_asked (p : (XLadder × Int × (List PyData))) : M Unit ((Str × (Str ⊕ Int)) ⊕ (Str × Unit)) := zbody (b_w_asked p)
theorem f_w_asked {G : Gx} {D : Cl} (T : Txt G D) {f : Addr} {fd : FuncData} (F : Fun G.K "_law_asked" "_law_asked" t_w_asked f fd) : FnG false G.P G.w G.K G.mg G.base 8 f fd ["_law_ladder_here", "_law_way", "_law_things"] (spZ G (fun _ : Unit => noE) (fun (q : Unit) (p : (XLadder × Int × (List PyData))) => [(rLadder D).pr p.1, rInt.pr p.2.1, (rLst rQ).pr p.2.2]) m_w_asked (rSum (rT2 rStr (rSum rStr rInt)) (rT2 rStr rNon))) :=
  fn_ok (g := false) (k := 7) (mb := b_w_asked) (n := fun _ _ => stk) (Γn := fun _ _ _ => []) F sc_w_asked (fun _ _ => rfl) (fun _ => rfl) (.inl fun _ _ => rfl) fun q p W =>
  show ZB G k_w_asked _ W _ [.st ((rLadder D).pr p.1), .st (rInt.pr p.2.1), .st ((rLst rQ).pr p.2.2), .no] _ (b_w_asked p) _ from
  (zb_cons (zs_tryG (Γx := [.st ((rLadder D).pr p.1), .st (rInt.pr p.2.1), .st ((rLst rQ).pr p.2.2), .no]) (Γn := fun _ : Unit => [.st ((rLadder D).pr p.1), .st (rInt.pr p.2.1), .st ((rLst rQ).pr p.2.2), .no]) (onlySt_st (onlySt_st (onlySt_st (onlySt_no onlySt_nil)))) s_w_asked_3 (by decide +kernel) (by exact rfl) T.g_AheadError (by decide) rfl (cat_cons T.g_Wrong T.em_Wrong_AheadError cat_nil) (sx_of sub_nil) (unk_at (.inl rfl)) (fun _ => unk_at (.inl rfl)) (fun a => nomatch a) (fun _ =>
    (zb_cons (zs_if (Γn := fun _ : Unit => [.st ((rLadder D).pr p.1), .st (rInt.pr p.2.1), .st ((rLst rQ).pr p.2.2), .no]) (zt_eq scI (z_var n_w_asked_1) z_int)
      (zb_cons (zs_expr (z_methP (A := (fun y => [rQ.pr y])) (at_Ladder_rung T) T.cl_Ladder (ins_at fun _ => rfl) (by decide) (by decide) (z_var n_w_asked_0) (za_one (z_ixL (z_var n_w_asked_2) z_int))) (SubL.sub (.keep (.keep (.keep (.keep SubL.nil)))))) fun _ =>
      (zb_nil (SubL.sub (.keep (.keep (.keep (.keep SubL.nil)))))))
      (zb_cons (zs_if (Γn := fun _ : Unit => [.st ((rLadder D).pr p.1), .st (rInt.pr p.2.1), .st ((rLst rQ).pr p.2.2), .no]) (zt_eq scI (z_var n_w_asked_1) z_int)
        (zb_cons (zs_expr (z_methP (A := (fun y => [rQ.pr y.1, rQ.pr y.2])) (at_Ladder_total T) T.cl_Ladder (ins_at fun _ => rfl) (by decide) (by decide) (z_var n_w_asked_0) (za_cons (z_ixL (z_var n_w_asked_2) z_int) (za_one (z_ixL (z_var n_w_asked_2) z_int)))) (SubL.sub (.keep (.keep (.keep (.keep SubL.nil)))))) fun _ =>
        (zb_nil (SubL.sub (.keep (.keep (.keep (.keep SubL.nil)))))))
        (zb_cons (zs_expr (z_callP (q := ()) (at_plain T) (by decide) (by decide) (by exact rfl) (za_one (z_ixL (z_var n_w_asked_2) z_int))) (SubL.sub (.keep (.keep (.keep (.keep SubL.nil)))))) fun _ =>
        (zb_nil (SubL.sub (.keep (.keep (.keep (.keep SubL.nil))))))) (SubL.sub (.keep (.keep (.keep (.keep SubL.nil)))))) fun _ =>
      (zb_nil (SubL.sub (.keep (.keep (.keep (.keep SubL.nil))))))) (SubL.sub (.keep (.keep (.keep (.keep SubL.nil)))))) fun _ =>
    (zb_nil (SubL.sub (.keep (.keep (.keep (.keep SubL.nil))))))))
    (hb_one (hs_ret (he_map (he_tup2E ha_str (he_callE (i := 3) (at_w_place T) (by decide) (by decide) (by exact rfl) n_w_asked_3 (by decide)) (fun _ _ => rfl)) fun _ _ _ r => r)))) fun _ =>
  (zb_one (zs_ret (z_inr (z_tup2 (za_cons z_str (za_one z_non)))) sub_nil)))
theorem at_w_asked {G : Gx} {D : Cl} (T : Txt G D) : FnAt false G "_law_asked" 8 ["_law_ladder_here", "_law_way", "_law_things"] (spZ G (fun _ : Unit => noE) (fun (q : Unit) (p : (XLadder × Int × (List PyData))) => [(rLadder D).pr p.1, rInt.pr p.2.1, (rLst rQ).pr p.2.2]) m_w_asked (rSum (rT2 rStr (rSum rStr rInt)) (rT2 rStr rNon))) :=
  let ⟨f, fd, h1, h2, h3, h4⟩ := T.d_w_asked; ⟨f, fd, h1, h2, h3, f_w_asked T h4⟩

def k_w_asked_due : Sc := ⟨["_law_way", "_law_things", "_law_whole", "_law_thing"], defScope t_w_asked_due, 1, true, fun _ => true, false⟩
theorem sc_w_asked_due : FnScope ["_law_way", "_law_things", "_law_whole", "_law_thing"] ["_law_way", "_law_things"] (defScope t_w_asked_due) := ⟨rfl, rfl, rfl, by decide +kernel, rfl, by decide +kernel, by decide +kernel⟩
theorem n_w_asked_due_0 : Nm k_w_asked_due 0 "_law_way" := nm_of (by decide +kernel)
theorem n_w_asked_due_1 : Nm k_w_asked_due 1 "_law_things" := nm_of (by decide +kernel)
theorem n_w_asked_due_2 : Nm k_w_asked_due 2 "_law_whole" := nm_of (by decide +kernel)
noncomputable def b_w_asked_due (p : (Int × (List PyData))) : M Unit (Fl Unit Empty PyData) :=
  (zseq (zset (zlc (fun e2 => (ret true)) (fun e2 => (zapp (fun x => lft (m_w_within x)) (zpair (ret e2) (zpair (zop1 ineg (zop2 ipow (ret (10 : Int)) (ret (50 : Int)))) (zop2 ipow (ret (10 : Int)) (ret (50 : Int))))))) (ret p.2))) fun whole1 =>
  (zseq (zifS (zop2 feq (ret p.1) (ret (2 : Int)))
    (zrt (zop2 ixat (zlist (zcons (zget ((Zk.q2 qS qI) : DaQ (rT2 rStr rInt)).d (zpair (ret ("refused" : Str)) (ret (0 : Int)))) (zcons (zget ((Zk.q2 qS qN) : DaQ (rT2 rStr rNon)).d (zpair (ret ("made" : Str)) (ret ()))) (ret [])))) (zapp fint (zapp (fun x => lft (m_w_within x)) (zpair (zop2 ixat (ret p.2) (ret (0 : Int))) (zpair (ret (0 : Int)) (zop2 ipow (ret (10 : Int)) (ret (20 : Int)))))))))
    (znx ())) fun _ =>
  (zseq (zifS (znot (zop2 ixat (ret whole1) (ret (0 : Int))))
    (zrt (zget ((Zk.q2 qS qI) : DaQ (rT2 rStr rInt)).d (zpair (ret ("refused" : Str)) (ret (0 : Int)))))
    (znx ())) fun _ =>
  (zseq (zifS (zand (zop2 feq (ret p.1) (ret (1 : Int))) (zor (znot (zop2 ixat (ret whole1) (ret (1 : Int)))) (zop2 ilt (zgetP asI (zop2 ixat (ret p.2) (ret (1 : Int)))) (zgetP asI (zop2 ixat (ret p.2) (ret (0 : Int)))))))
    (zrt (zget ((Zk.q2 qS qI) : DaQ (rT2 rStr rInt)).d (zpair (ret ("refused" : Str)) (ret (1 : Int)))))
    (znx ())) fun _ =>
  (zrt (zget ((Zk.q2 qS qN) : DaQ (rT2 rStr rNon)).d (zpair (ret ("made" : Str)) (ret ()))))))))
noncomputable def m_w_asked_due (p : (Int × (List PyData))) : M Unit PyData := zbody (b_w_asked_due p)
theorem f_w_asked_due {G : Gx} {D : Cl} (T : Txt G D) {f : Addr} {fd : FuncData} (F : Fun G.K "_law_asked_due" "_law_asked_due" t_w_asked_due f fd) : FnG false G.P G.w G.K G.mg G.base 2 f fd ["_law_way", "_law_things"] (spZ G (fun _ : Unit => noE) (fun (q : Unit) (p : (Int × (List PyData))) => [rInt.pr p.1, (rLst rQ).pr p.2]) m_w_asked_due rQ) :=
  fn_ok (g := false) (k := 1) (mb := b_w_asked_due) (n := fun _ _ => stk) (Γn := fun _ _ _ => []) F sc_w_asked_due (fun _ _ => rfl) (fun _ => rfl) (.inl fun _ _ => rfl) fun q p W =>
  show ZB G k_w_asked_due _ W _ [.st (rInt.pr p.1), .st ((rLst rQ).pr p.2), .no, .no] _ (b_w_asked_due p) _ from
  (zb_cons (zs_setLc (i := 2) (Lc.mk (own := [("_law_thing", 3)]) (blk_of rfl (by decide +kernel)) (zi_list (z_var n_w_asked_due_1)) (zg_name (ns_of (i := 3) (by decide +kernel)) (by decide)) (fun e2 => zts_nil) (fun e2 => (z_callP (q := ()) (at_w_within T) (by decide) (by decide) (by exact rfl) (za_cons (z_var (nm_of (i := 3) (by decide +kernel))) (za_cons (z_neg (z_pow z_int z_int)) (za_one (z_pow z_int z_int)))))) (lc_no ⟨rfl, trivial⟩) (fun _ _ => rfl)) rfl rfl rfl sub_nil rfl rfl) fun whole1 =>
  (zb_cons (zs_if (Γn := fun _ : Unit => [.st (rInt.pr p.1), .st ((rLst rQ).pr p.2), .st ((rLst rBl).pr whole1), .no]) (zt_eq scI (z_var n_w_asked_due_0) z_int)
    (zb_one (zs_ret (z_ixL (z_list (zl_cons (z_q (Zk.q2 qS qI) (z_tup2 (za_cons z_str (za_one z_int)))) (zl_cons (z_q (Zk.q2 qS qN) (z_tup2 (za_cons z_str (za_one z_non)))) zl_nil))) (z_intB (blt_of (u := .type "int") T.b_int (by decide +kernel)) (z_callP (q := ()) (at_w_within T) (by decide) (by decide) (by exact rfl) (za_cons (z_ixL (z_var n_w_asked_due_1) z_int) (za_cons z_int (za_one (z_pow z_int z_int))))))) sub_nil))
    (zb_nil (SubL.sub (.keep (.keep (.keep (.keep SubL.nil)))))) sub_nil) fun _ =>
  (zb_cons (zs_if (Γn := fun _ : Unit => [.st (rInt.pr p.1), .st ((rLst rQ).pr p.2), .st ((rLst rBl).pr whole1), .no]) (zt_not (zt_val (z_ixL (z_var n_w_asked_due_2) z_int)))
    (zb_one (zs_ret (z_q (Zk.q2 qS qI) (z_tup2 (za_cons z_str (za_one z_int)))) sub_nil))
    (zb_nil (SubL.sub (.keep (.keep (.keep (.keep SubL.nil)))))) sub_nil) fun _ =>
  (zb_cons (zs_if (Γn := fun _ : Unit => [.st (rInt.pr p.1), .st ((rLst rQ).pr p.2), .st ((rLst rBl).pr whole1), .no]) (zw_t (zw_and (zt_eq scI (z_var n_w_asked_due_0) z_int) (zw_and1 (zw_t (zw_or (zt_not (zt_val (z_ixL (z_var n_w_asked_due_2) z_int))) (zw_or1 (zt_lt (z_as as_I (z_ixL (z_var n_w_asked_due_1) z_int)) (z_as as_I (z_ixL (z_var n_w_asked_due_1) z_int)))))))))
    (zb_one (zs_ret (z_q (Zk.q2 qS qI) (z_tup2 (za_cons z_str (za_one z_int)))) sub_nil))
    (zb_nil (SubL.sub (.keep (.keep (.keep (.keep SubL.nil)))))) sub_nil) fun _ =>
  (zb_one (zs_ret (z_q (Zk.q2 qS qN) (z_tup2 (za_cons z_str (za_one z_non)))) sub_nil))))))
theorem at_w_asked_due {G : Gx} {D : Cl} (T : Txt G D) : FnAt false G "_law_asked_due" 2 ["_law_way", "_law_things"] (spZ G (fun _ : Unit => noE) (fun (q : Unit) (p : (Int × (List PyData))) => [rInt.pr p.1, (rLst rQ).pr p.2]) m_w_asked_due rQ) :=
  let ⟨f, fd, h1, h2, h3, h4⟩ := T.d_w_asked_due; ⟨f, fd, h1, h2, h3, f_w_asked_due T h4⟩

def k_law : Sc := ⟨["_law_script", "_law_bag_here", "_law_k", "_law_plan", "_law_things", "_law_j", "_law_due", "_law_ladder_here", "_law_numbers", "_law_spot", "_law_way", "_law_wrong_here", "_law_shown"], defScope t_law, 8, true, fun _ => true, true⟩
theorem sc_law : FnScope ["_law_script", "_law_bag_here", "_law_k", "_law_plan", "_law_things", "_law_j", "_law_due", "_law_ladder_here", "_law_numbers", "_law_spot", "_law_way", "_law_wrong_here", "_law_shown"] ["_law_script"] (defScope t_law) := ⟨rfl, rfl, rfl, by decide +kernel, rfl, by decide +kernel, by decide +kernel⟩
theorem n_law_0 : Nm k_law 0 "_law_script" := nm_of (by decide +kernel)
theorem n_law_1 : Nm k_law 1 "_law_bag_here" := nm_of (by decide +kernel)
theorem s_law_1 : Ns k_law 1 "_law_bag_here" := ns_of (by decide +kernel)
theorem s_law_2 : Ns k_law 2 "_law_k" := ns_of (by decide +kernel)
theorem n_law_3 : Nm k_law 3 "_law_plan" := nm_of (by decide +kernel)
theorem s_law_3 : Ns k_law 3 "_law_plan" := ns_of (by decide +kernel)
theorem n_law_4 : Nm k_law 4 "_law_things" := nm_of (by decide +kernel)
theorem s_law_4 : Ns k_law 4 "_law_things" := ns_of (by decide +kernel)
theorem s_law_5 : Ns k_law 5 "_law_j" := ns_of (by decide +kernel)
theorem n_law_6 : Nm k_law 6 "_law_due" := nm_of (by decide +kernel)
theorem s_law_6 : Ns k_law 6 "_law_due" := ns_of (by decide +kernel)
theorem n_law_7 : Nm k_law 7 "_law_ladder_here" := nm_of (by decide +kernel)
theorem s_law_7 : Ns k_law 7 "_law_ladder_here" := ns_of (by decide +kernel)
theorem n_law_8 : Nm k_law 8 "_law_numbers" := nm_of (by decide +kernel)
theorem s_law_8 : Ns k_law 8 "_law_numbers" := ns_of (by decide +kernel)
theorem n_law_9 : Nm k_law 9 "_law_spot" := nm_of (by decide +kernel)
theorem s_law_9 : Ns k_law 9 "_law_spot" := ns_of (by decide +kernel)
theorem n_law_10 : Nm k_law 10 "_law_way" := nm_of (by decide +kernel)
theorem s_law_10 : Ns k_law 10 "_law_way" := ns_of (by decide +kernel)
theorem n_law_11 : Nm k_law 11 "_law_wrong_here" := nm_of (by decide +kernel)
theorem s_law_11 : Ns k_law 11 "_law_wrong_here" := ns_of (by decide +kernel)
theorem n_law_12 : Nm k_law 12 "_law_shown" := nm_of (by decide +kernel)
theorem s_law_12 : Ns k_law 12 "_law_shown" := ns_of (by decide +kernel)
noncomputable def r_law (p : List Int) : M Bag (Fl Unit Empty Bool) :=
  (zseq (zforI (zapp frA1 (ret (6 : Int))) () fun _ x1 =>
    (zseq (zset (zapp m_w_any_plan (ret ()))) fun plan2 =>
    (zseq (zset (zlist (zcons (zget ((qL qI) : DaQ (rLst rInt)).d (zget (fun x => x.2.2.1) (ret plan2))) (zcons (zget ((qL qI) : DaQ (rLst rInt)).d (zget (fun x => x.2.1) (ret plan2))) (zcons (zget ((qL qI) : DaQ (rLst rInt)).d (zget (fun x => x.2.2.2) (ret plan2))) (zcons (zget (qI : DaQ rInt).d (zget Prod.fst (ret plan2))) (ret []))))))) fun things3 =>
    (zseq (zforI (zapp frA1 (zapp m_w_take (zpair (ret ()) (ret (3 : Int))))) things3 fun c5 x6 =>
      (zseq (bnd (zcallH (zpair (ret ()) (ret ())) c5 m_w_bent) fun r => ret (.nx r.2)) fun gh7 =>
      (znx gh7))) fun c5 =>
    (zseq (zset (zpair (zapp (fun x => lft (m_w_wrong x)) (ret c5)) (zapp freprY (zget ((qL qQ) : DaQ (rLst rQ)).d (ret c5))))) fun w8 =>
    (zseq (zset (zop2 ixat (zlist (zcons (zget ((Zk.q2 qS (qO qI)) : DaQ (rT2 rStr (rOpt rInt))).d (zpair (ret ("refused" : Str)) (ret w8.1))) (zcons (zget ((Zk.q2 qS qN) : DaQ (rT2 rStr rNon)).d (zpair (ret ("made" : Str)) (ret ()))) (ret [])))) (zapp fint (zget Option.isNone (ret w8.1))))) fun due9 =>
    (zseq (zifS (zor (zop2 fne (zapp (freprW (datU (dat2w (DatR.w datS) (datU (DatR.w datS) (DatR.w datI))) (DatR.w (dat2 datS datN)))) (zapp (fun x => lft (m_w_made x)) (ret c5))) (zapp freprY (ret due9))) (zop2 fne (zapp freprY (zget ((qL qQ) : DaQ (rLst rQ)).d (ret c5))) (ret w8.2)))
      (zrt (ret false))
      (znx ())) fun _ =>
    (zseq (zset (zapp (fun x => lft (m_w_ladder x)) (ret plan2))) fun ladderhere10 =>
    (zseq (zset (zlist (zcons (zget (qI : DaQ rInt).d (zop2 isub (zapp m_w_take (zpair (ret ()) (ret (9 : Int)))) (ret (4 : Int)))) (zcons (zget (qI : DaQ rInt).d (zop2 isub (zapp m_w_take (zpair (ret ()) (ret (9 : Int)))) (ret (4 : Int)))) (ret []))))) fun numbers11 =>
    (zseq (zforI (zapp frA1 (ret (2 : Int))) numbers11 fun c12 x13 =>
      (zseq (zifS (zop2 feq (zapp m_w_take (zpair (ret ()) (ret (3 : Int)))) (ret (0 : Int)))
        (zseq (putM c12 (zapp m_w_odd (ret ())) (ret x13)) fun numbers15 =>
        (znx numbers15))
        (znx c12)) fun j14 =>
      (znx j14))) fun c12 =>
    (zseq (zset (zapp m_w_take (zpair (ret ()) (ret (3 : Int))))) fun way16 =>
    (zseq (zifS (zop2 fne (zapp (freprW (datU (dat2w (DatR.w datS) (datU (DatR.w datS) (DatR.w datI))) (DatR.w (dat2 datS datN)))) (zapp (fun x => lft (m_w_asked x)) (zpair (ret ladderhere10) (zpair (ret way16) (ret c12))))) (zapp freprY (zapp (fun x => lft (m_w_asked_due x)) (zpair (ret way16) (ret c12)))))
      (zrt (ret false))
      (znx ())) fun _ =>
    (znx ()))))))))))))) fun _ =>
  (zrt (ret true)))
noncomputable def m_law (p : List Int) : M Unit Bool := zbody (zbag w_cells p (r_law p))
theorem f_law {G : Gx} {D : Cl} (T : Txt G D) {f : Addr} {fd : FuncData} (F : Fun G.K "law" "law" t_law f fd) : FnG true G.P G.w G.K G.mg G.base 9 f fd ["_law_script"] (spZ G (fun _ : Unit => noE) (fun (q : Unit) (p : List Int) => [(rSc G.K rInt).pr p]) m_law rBl) :=
  fn_ok (g := true) (k := 8) (mb := fun p => zbag w_cells p (r_law p)) (Γn := fun _ _ _ => []) F sc_law (fun _ _ => rfl) (fun _ => rfl) (.inl fun _ _ => rfl) fun q p W =>
  zb_bag (c := k_law) (at_w_bag T) (by decide) (by decide) rfl n_law_0 rfl s_law_1 fun q1 q2 =>
  show ZB G k_law _ W _ [.st ((rSc G.K rInt).pr p), .st ((rRef q1).pr ()), .no, .no, .no, .no, .no, .no, .no, .no, .no, .no, .no] _ (r_law p) _ from
  zb_wk (Γ' := [.st ((rSc G.K rInt).pr p), .st ((rRef q1).pr ()), .no, .no, .no, .no, .no, .no, .no, .no, .no, .no, .no, .no]) (sub_more 1) <|
  (zb_cons (zs_for (vs := [2]) (Γh := fun _ : Unit => [.st ((rSc G.K rInt).pr p), .st ((rRef q1).pr ()), .no, .no, .no, .no, .no, .no, .no, .no, .no, .no, .no, .no]) (zi_r1 (blt_of (u := .type "range") T.b_range (by decide +kernel)) z_int) (SubL.sub (.keep (.keep (.keep (.keep (.keep (.keep (.keep (.keep (.keep (.keep (.keep (.keep (.keep (.keep SubL.nil))))))))))))))) (fun _ => (zg_name s_law_2 (by decide))) (fun _ x1 =>
    (zb_cons (zs_set s_law_3 (z_call (q := (q1, q2)) (at_w_any_plan T) rfl (by decide) (by decide) (by exact rfl) (za_one (z_var n_law_1))) sub_nil) fun plan2 =>
    (zb_cons (zs_setF (P := ownL rQ) s_law_4 (zf_list (zl_cons (z_q (qL qI) (z_at t4_2 (z_var n_law_3))) (zl_cons (z_q (qL qI) (z_at t4_1 (z_var n_law_3))) (zl_cons (z_q (qL qI) (z_at t4_3 (z_var n_law_3))) (zl_cons (z_q qI (z_at t4_0 (z_var n_law_3))) zl_nil))))) sub_nil) fun things3 =>
    (zb_gh (i := 4) (g := 13) rfl rfl opn_L fun l4 =>
    (zb_cons (zs_for (vs := [5]) (Γh := fun c5 : (List PyData) => [.st ((rSc G.K rInt).pr p), .st ((rRef q1).pr ()), .st (rInt.pr x1), .st ((rT4 rInt (rLst rInt) (rLst rInt) (rLst rInt)).pr plan2), .st ((rRef l4).pr ()), .no, .no, .no, .no, .no, .no, .no, .no, .gh (ownLa rQ l4 c5)]) (zi_r1 (blt_of (u := .type "range") T.b_range (by decide +kernel)) (z_call (q := (q1, q2)) (at_w_take T) rfl (by decide) (by decide) (by exact rfl) (za_cons (z_var n_law_1) (za_one z_int)))) (SubL.sub (.keep (.keep (.keep (.keep (.keep (.keep (.keep (.keep (.keep (.keep (.keep (.keep (.keep (.keep SubL.nil))))))))))))))) (fun c5 => (zg_name s_law_5 (by decide))) (fun c5 x6 =>
      (zb_cons (zs_callH (fun X C => zh_call (idx := [13]) (y := c5) (q := ((q1, q2), l4)) (at_w_bent T) rfl (by decide) (by decide) (by exact rfl) ⟨rfl, trivial⟩ (by decide) (fun _ => rfl) (za_cons (z_var n_law_1) (za_one (z_var n_law_4))) sub_nil rfl (by decide) (by intro _; rfl) (by intro _; rfl) C)) fun gh7 =>
      (zb_eq (Γ' := [.st ((rSc G.K rInt).pr p), .st ((rRef q1).pr ()), .st (rInt.pr x1), .st ((rT4 rInt (rLst rInt) (rLst rInt) (rLst rInt)).pr plan2), .st ((rRef l4).pr ()), .st (rInt.pr x6), .no, .no, .no, .no, .no, .no, .no, .gh (ownLa rQ l4 gh7)]) rfl (zb_nil (SubL.sub (.keep (.keep (.keep (.keep (.keep (.drop (.keep (.keep (.keep (.keep (.keep (.keep (.keep (.keep SubL.nil))))))))))))))))))) sub_nil) fun c5 =>
    (zb_cons (zs_par2 s_law_11.n s_law_12.n rfl rfl (by decide) (za_cons (z_close (Γ := [.st ((rSc G.K rInt).pr p), .st ((rRef q1).pr ()), .st (rInt.pr x1), .st ((rT4 rInt (rLst rInt) (rLst rInt) (rLst rInt)).pr plan2), .st ((rRef l4).pr ()), .no, .no, .no, .no, .no, .no, .no, .no, .gh (ownLa rQ l4 c5)]) (i := 4) (g := 13) rfl rfl (z_lendN (tg_opt tg_int) (freeL_of free_bag) (.st (.st (.st (.st (.ow (.no (.no (.no (.no (.no (.no (.no (.no (.no .nil)))))))))))))) fun _ => (z_callP (q := ()) (at_w_wrong T) (by decide) (by decide) (by exact rfl) (za_one (z_var n_law_4))))) (za_one (z_close (Γ := [.st ((rSc G.K rInt).pr p), .st ((rRef q1).pr ()), .st (rInt.pr x1), .st ((rT4 rInt (rLst rInt) (rLst rInt) (rLst rInt)).pr plan2), .st ((rRef l4).pr ()), .no, .no, .no, .no, .no, .no, .no, .no, .gh (ownLa rQ l4 c5)]) (i := 4) (g := 13) rfl rfl (z_lend (.st (.st (.st (.st (.ow one_L (.no (.no (.no (.no (.no (.no (.no (.no (.no .nil)))))))))))))) free_bag fl_str (z_reprY rfl (blt_of (u := .builtin "repr") T.b_repr (by decide +kernel)) (z_q (qL qQ) (z_var n_law_4))))))) sub_nil) fun w8 =>
    (zb_eq (Γ' := [.st ((rSc G.K rInt).pr p), .st ((rRef q1).pr ()), .st (rInt.pr x1), .st ((rT4 rInt (rLst rInt) (rLst rInt) (rLst rInt)).pr plan2), .st ((rRef l4).pr ()), .no, .no, .no, .no, .no, .no, .st ((rOpt rInt).pr w8.1), .st (rStr.pr w8.2), .gh (ownLa rQ l4 c5)]) rfl (zb_cons (zs_set s_law_6 (z_ixL (z_list (zl_cons (z_q (Zk.q2 qS (qO qI)) (z_tup2 (za_cons z_str (za_one (z_var n_law_11))))) (zl_cons (z_q (Zk.q2 qS qN) (z_tup2 (za_cons z_str (za_one z_non)))) zl_nil))) (z_intB (blt_of (u := .type "int") T.b_int (by decide +kernel)) (z_isN nn_int (z_var n_law_11)))) sub_nil) fun due9 =>
    (zb_cons (zs_if (Γn := fun _ : Unit => [.st ((rSc G.K rInt).pr p), .st ((rRef q1).pr ()), .st (rInt.pr x1), .st ((rT4 rInt (rLst rInt) (rLst rInt) (rLst rInt)).pr plan2), .st ((rRef l4).pr ()), .no, .st (rQ.pr due9), .no, .no, .no, .no, .st ((rOpt rInt).pr w8.1), .st (rStr.pr w8.2), .gh (ownLa rQ l4 c5)]) (zt_close (i := 4) (g := 13) rfl rfl (zt_lend (.st (.st (.st (.st (.ow one_L (.no (.st (.no (.no (.no (.no (.st (.st (.no .nil)))))))))))))) free_bag (zw_t (zw_or (zt_ne scS (z_reprW (datU (dat2w (DatR.w datS) (datU (DatR.w datS) (DatR.w datI))) (DatR.w (dat2 datS datN))) (rf_sum rf2 rf2) rfl (blt_of (u := .builtin "repr") T.b_repr (by decide +kernel)) (z_callP (q := ()) (at_w_made T) (by decide) (by decide) (by exact rfl) (za_one (z_var n_law_4)))) (z_reprY rfl (blt_of (u := .builtin "repr") T.b_repr (by decide +kernel)) (z_var n_law_6))) (zw_or1 (zt_ne scS (z_reprY rfl (blt_of (u := .builtin "repr") T.b_repr (by decide +kernel)) (z_q (qL qQ) (z_var n_law_4))) (z_var n_law_12)))))))
      (zb_one (zs_ret z_bl sub_nil))
      (zb_nil (SubL.sub (.keep (.keep (.keep (.keep (.keep (.keep (.keep (.keep (.keep (.keep (.keep (.keep (.keep (.keep SubL.nil)))))))))))))))) sub_nil) fun _ =>
    (zb_cons (zs_set s_law_7 (z_callP (q := ()) (at_w_ladder T) (by decide) (by decide) (by exact rfl) (za_one (z_var n_law_3))) sub_nil) fun ladderhere10 =>
    (zb_cons (zs_setF s_law_8 (zf_list (zl_cons (z_q qI (z_sub (z_call (q := (q1, q2)) (at_w_take T) rfl (by decide) (by decide) (by exact rfl) (za_cons (z_var n_law_1) (za_one z_int))) z_int)) (zl_cons (z_q qI (z_sub (z_call (q := (q1, q2)) (at_w_take T) rfl (by decide) (by decide) (by exact rfl) (za_cons (z_var n_law_1) (za_one z_int))) z_int)) zl_nil))) sub_nil) fun numbers11 =>
    (zb_cons (zs_for (vs := [9]) (Γh := fun c12 : (List PyData) => [.st ((rSc G.K rInt).pr p), .st ((rRef q1).pr ()), .st (rInt.pr x1), .st ((rT4 rInt (rLst rInt) (rLst rInt) (rLst rInt)).pr plan2), .st ((rRef l4).pr ()), .no, .st (rQ.pr due9), .st ((rLadder D).pr ladderhere10), .ow (ownL rQ c12), .no, .no, .st ((rOpt rInt).pr w8.1), .st (rStr.pr w8.2), .gh (ownLa rQ l4 c5)]) (zi_r1 (blt_of (u := .type "range") T.b_range (by decide +kernel)) z_int) (SubL.sub (.keep (.keep (.keep (.keep (.keep (.keep (.keep (.keep (.keep (.keep (.keep (.keep (.keep (.keep SubL.nil))))))))))))))) (fun c12 => (zg_name s_law_9 (by decide))) (fun c12 x13 =>
      (zb_cons (zs_if (Γn := fun j14 : (List PyData) => [.st ((rSc G.K rInt).pr p), .st ((rRef q1).pr ()), .st (rInt.pr x1), .st ((rT4 rInt (rLst rInt) (rLst rInt) (rLst rInt)).pr plan2), .st ((rRef l4).pr ()), .no, .st (rQ.pr due9), .st ((rLadder D).pr ladderhere10), .ow (ownL rQ j14), .st (rInt.pr x13), .no, .st ((rOpt rInt).pr w8.1), .st (rStr.pr w8.2), .gh (ownLa rQ l4 c5)]) (zt_eq scI (z_call (q := (q1, q2)) (at_w_take T) rfl (by decide) (by decide) (by exact rfl) (za_cons (z_var n_law_1) (za_one z_int))) z_int)
        (zb_cons (zs_put n_law_8 rfl (z_var n_law_9) (z_call (q := (q1, q2)) (at_w_odd T) rfl (by decide) (by decide) (by exact rfl) (za_one (z_var n_law_1))) sub_nil) fun numbers15 =>
        (zb_nil (SubL.sub (.keep (.keep (.keep (.keep (.keep (.keep (.keep (.keep (.keep (.keep (.keep (.keep (.keep (.keep SubL.nil)))))))))))))))))
        (zb_nil (SubL.sub (.keep (.keep (.keep (.keep (.keep (.keep (.keep (.keep (.keep (.keep (.keep (.keep (.keep (.keep SubL.nil)))))))))))))))) sub_nil) fun j14 =>
      (zb_nil (SubL.sub (.keep (.keep (.keep (.keep (.keep (.keep (.keep (.keep (.keep (.drop (.keep (.keep (.keep (.keep SubL.nil)))))))))))))))))) sub_nil) fun c12 =>
    (zb_wk (sub_frz (i := 8) one_L) <| zb_cons (zs_set s_law_10 (z_call (q := (q1, q2)) (at_w_take T) rfl (by decide) (by decide) (by exact rfl) (za_cons (z_var n_law_1) (za_one z_int))) sub_nil) fun way16 =>
    (zb_cons (zs_if (Γn := fun _ : Unit => [.st ((rSc G.K rInt).pr p), .st ((rRef q1).pr ()), .st (rInt.pr x1), .st ((rT4 rInt (rLst rInt) (rLst rInt) (rLst rInt)).pr plan2), .st ((rRef l4).pr ()), .no, .st (rQ.pr due9), .st ((rLadder D).pr ladderhere10), .st ((rLst rQ).pr c12), .no, .st (rInt.pr way16), .st ((rOpt rInt).pr w8.1), .st (rStr.pr w8.2), .gh (ownLa rQ l4 c5)]) (zt_ne scS (z_reprW (datU (dat2w (DatR.w datS) (datU (DatR.w datS) (DatR.w datI))) (DatR.w (dat2 datS datN))) (rf_sum rf2 rf2) rfl (blt_of (u := .builtin "repr") T.b_repr (by decide +kernel)) (z_callP (q := ()) (at_w_asked T) (by decide) (by decide) (by exact rfl) (za_cons (z_var n_law_7) (za_cons (z_var n_law_10) (za_one (z_var n_law_8)))))) (z_reprY rfl (blt_of (u := .builtin "repr") T.b_repr (by decide +kernel)) (z_callP (q := ()) (at_w_asked_due T) (by decide) (by decide) (by exact rfl) (za_cons (z_var n_law_10) (za_one (z_var n_law_8))))))
      (zb_one (zs_ret z_bl sub_nil))
      (zb_nil (SubL.sub (.keep (.keep (.keep (.keep (.keep (.keep (.keep (.keep (.keep (.keep (.keep (.keep (.keep (.keep SubL.nil)))))))))))))))) sub_nil) fun _ =>
    (zb_nil (SubL.sub (.keep (.keep (.drop (.drop (.drop (.keep (.drop (.drop (.drop (.keep (.drop (.drop (.drop (.drop SubL.nil)))))))))))))))))))))))))))))) sub_nil) fun _ =>
  (zb_one (zs_ret z_bl sub_nil)))
end Zk

namespace Zk
open PySem L2
theorem ok_cellat {n : M Bag Int} : Ok Bok (zifS (zop2 ilt (bget Bag.pos) (zapp blen (ret ()))) (zseq (zset (bcell (ret ()) (bget Bag.pos))) fun c => znx c) (znx (0 : Int)) : M Bag (Fl Int Empty Int)) (fun o => match o with | .nx v => 0 ≤ v | _ => False) := fun s hs => by
  obtain ⟨h1, h2, h3, h4⟩ := id hs
  by_cases hp : s.pos < s.cells.length
  · have e : atI s.cells s.pos = some (s.cells[s.pos.toNat]'(by omega)) := atI_nat h3 (by omega)
    refine ⟨.nx _, s, ?_, hs, h4 _ (List.getElem_mem (by omega : s.pos.toNat < s.cells.length))⟩
    simp only [zifS, zop2, bnd, bget, zapp, ret, blen, ilt, hp, decide_true, if_true, zseq, zset, bcell, e, znx]
  · refine ⟨.nx 0, s, ?_, hs, Int.le_refl 0⟩
    simp only [zifS, zop2, bnd, bget, zapp, ret, blen, ilt, hp, decide_false, znx]
    rfl
theorem ok_take {n : Int} (h1 : 1 ≤ n) (h2 : n < 2 ^ 9000) : Ok Bok (m_w_take ((), n)) (fun v => 0 ≤ v ∧ v < n) := by
  unfold m_w_take b_w_take
  refine ok_body ?_
  refine oks_seq (N := fun _ => True) (oks_if (P := fun _ => True) (ok_op2 (P1 := fun _ => True) (P2 := fun _ => True) (ok_bget fun _ _ => trivial) (ok_ret trivial) fun a b _ _ => ok_ret trivial) (fun _ => ?_) (fun _ => oks_nx trivial)) fun _ _ => ?_
  · refine oks_seq (N := fun v => v = 0) (oks_set (ok_ret rfl)) fun c hc => ?_
    subst hc
    refine oks_seq (N := fun v => 0 ≤ v) (fun s hs => ?_) fun j hj => ?_
    · obtain ⟨o, s', e, i, p⟩ := ok_cellat (n := ret 0) s hs
      cases o with
      | nx a => exact ⟨_, _, e, i, p⟩
      | rt a => exact p.elim
      | bk a => exact p.elim
      | ct a => exact p.elim
    refine oks_seq (oks_bput (P := fun v => 0 ≤ v) (ok_op2 (P1 := fun v => 0 ≤ v) (P2 := fun v => v = 1) (ok_bget fun s hs => hs.2.2.1) (ok_ret rfl) fun a b ha hb => ok_ret (by omega)) fun s v hs hv => ⟨hs.1, hs.2.1, hv, hs.2.2.2⟩) fun _ _ => ?_
    refine oks_seq (N := fun _ => True) (oks_if (P := fun _ => True) (ok_ret trivial) (fun _ => ?_) (fun _ => oks_nx trivial)) fun _ _ => ?_
    · exact oks_seq (oks_bput (P := fun v => 0 ≤ v) (ok_ret hj) fun s v hs hv => ⟨hv, hs.2.1, hs.2.2.1, hs.2.2.2⟩) fun _ _ => oks_nx trivial
    refine oks_seq (oks_bput (P := fun v => 0 ≤ v) ?_ fun s v hs hv => ⟨hs.1, hv, hs.2.2.1, hs.2.2.2⟩) fun _ _ => oks_nx trivial
    refine ok_op2 (P1 := fun v => 0 ≤ v) (P2 := fun v => v = 2147483647) ?_ (ok_ret rfl) fun a b ha hb => ?_
    · refine ok_op2 (P1 := fun v => 0 ≤ v) (P2 := fun v => 0 ≤ v) (ok_op2 (P1 := fun v => 0 ≤ v) (P2 := fun v => 0 ≤ v) ?_ ?_ fun a b ha hb => ok_ret (by omega)) ?_ fun a b ha hb => ok_ret (by omega)
      · refine ok_op2 (P1 := fun v => 0 ≤ v) (P2 := fun v => v = 48271) (ok_bget fun s hs => hs.2.1) (ok_ret rfl) fun a b ha hb => ?_
        subst hb; rw [imul_eq (mul_small (by omega))]; exact ok_ret (by omega)
      · rw [zop2_ret, imod_eq (by omega)]; exact ok_ret (by omega)
      · refine ok_op2 (P1 := fun v => v = 7919) (P2 := fun v => 0 ≤ v) (ok_ret rfl) (ok_bget fun s hs => hs.2.2.1) fun a b ha hb => ?_
        subst ha; rw [imul_eq (mul_smallL (by omega))]; exact ok_ret (by omega)
    · subst hb; rw [imod_eq (by omega)]; exact ok_ret (by omega)
  refine oks_seq (N := fun _ => True) (oks_if (P := fun _ => True) (ok_op2 (P1 := fun _ => True) (P2 := fun _ => True) (ok_bget fun _ _ => trivial) (ok_ret trivial) fun a b _ _ => ok_ret trivial) (fun _ => ?_) (fun _ => oks_nx trivial)) fun _ _ => ?_
  · refine oks_seq (N := fun v => 0 ≤ v ∧ v < n) (oks_set (ok_op2 (P1 := fun v => 0 ≤ v) (P2 := fun v => v = n) (ok_bget fun s hs => hs.1) (ok_ret rfl) fun a b ha hb => ?_)) fun v hv => ?_
    · subst hb; rw [imod_eq (by omega)]; exact ok_ret ⟨Int.emod_nonneg _ (by omega), Int.emod_lt_of_pos _ (by omega)⟩
    · refine oks_seq (oks_bput (P := fun v => 0 ≤ v) (ok_op2 (P1 := fun v => 0 ≤ v) (P2 := fun v => v = n) (ok_bget fun s hs => hs.1) (ok_ret rfl) fun a b ha hb => ?_) fun s v hs hv => ⟨hv, hs.2.1, hs.2.2.1, hs.2.2.2⟩) fun _ _ => oks_rt (ok_ret hv)
      subst hb; rw [idiv_eq (div_ok (by omega) h2)]; exact ok_ret (Int.ediv_nonneg ha (by omega))
  refine oks_seq (N := fun v => 0 ≤ v ∧ v < 1000000007) (oks_set (ok_op2 (P1 := fun v => 0 ≤ v) (P2 := fun v => v = 1000000007) ?_ (ok_ret rfl) fun a b ha hb => ?_)) fun f hf => ?_
  · refine ok_op2 (P1 := fun v => 0 ≤ v) (P2 := fun v => v = 39373) (ok_op2 (P1 := fun v => 0 ≤ v) (P2 := fun v => v = 1) (ok_bget fun s hs => hs.2.1) (ok_ret rfl) fun a b ha hb => ok_ret (by omega)) (ok_ret rfl) fun a b ha hb => ?_
    subst hb; rw [imul_eq (mul_small (by omega))]; exact ok_ret (by omega)
  · subst hb; rw [imod_eq (by omega)]; exact ok_ret (by omega)
  have e1 : (zop2 imod (zop2 imul (zop2 imod (zop2 imul (ret f) (ret f)) (ret (998244353 : Int))) (ret (30011 : Int))) (ret (998244353 : Int)) : M Bag Int) = ret (f * f % 998244353 * 30011 % 998244353) := by
    rw [zop2_ret, imul_eq (mul_small (by omega)), zop2_ret, imod_eq (by omega), zop2_ret, imul_eq (mul_small (by omega)), zop2_ret, imod_eq (by omega)]
  rw [e1, zset_ret, zseq_nx]
  have hs : 0 ≤ f * f % 998244353 * 30011 % 998244353 ∧ f * f % 998244353 * 30011 % 998244353 < 998244353 := by omega
  generalize f * f % 998244353 * 30011 % 998244353 = g at hs
  rw [zop2_ret, igt_eq, zifS_ret]
  split
  · rw [zop2_ret, imul_eq (mul_small (by omega)), zop2_ret, iadd_eq, zop2_ret, imod_eq (by omega), zrt_ret, zseq_rt]
    exact oks_rt (ok_ret ⟨Int.emod_nonneg _ (by omega), Int.emod_lt_of_pos _ (by omega)⟩)
  · rw [znx_ret, zseq_nx, zop2_ret, idiv_eq (div_ok (by omega) (by omega)), zop2_ret, imod_eq (by omega), zrt_ret]
    exact oks_rt (ok_ret ⟨Int.emod_nonneg _ (by omega), Int.emod_lt_of_pos _ (by omega)⟩)
end Zk

namespace Zk
open PySem L2
/-! ### texts by their signs -/
abbrev Ls_ (x : Str) : List Nat := x.cps.toList
section
variable {τ : Type}
end
/-! ### names -/
def abc : Str := "abcdefghijklmnopqrstuvwxyz"
structure NameOk (n : Str) : Prop where
  len : 1 ≤ (Ls_ n).length ∧ (Ls_ n).length ≤ 8
  abc : ∀ c ∈ Ls_ n, 97 ≤ c ∧ c ≤ 122
end Zk

namespace Zk
open PySem L2
/-! ### what the things are -/
def wholeF : PyData → Bool | .int _ => true | _ => false
def betwF (lo hi : Int) : PyData → Bool | .int i => decide (lo ≤ i) && decide (i ≤ hi) | _ => false
structure SOk (x : Str) : Prop where
  l : x.length ≤ 100000
  o : PyData.strOk x = true
structure EOk (e : PyData) : Prop where
  c : e.canLay0 = true
  d : e.depth ≤ 10
  s : ∀ x, e = .str x → SOk x
structure GOk (d : PyData) : Prop where
  s : ∀ x, d = .str x → SOk x
  l : ∀ ds, d = .list ds → ds.length ≤ 100000 ∧ ∀ e ∈ ds, EOk e
section
variable {ns : List Str} {d : PyData} {lo hi : Int}
theorem zand_ff {τ : Type} {n : M τ Bool} : zand (ret false : M τ Bool) n = ret false := rfl
theorem zand_tt {τ : Type} {n : M τ Bool} : zand (ret true : M τ Bool) n = n := rfl
theorem zor_ff {τ : Type} {n : M τ Bool} : zor (ret false : M τ Bool) n = n := rfl
theorem whole_eq : m_is_whole d = ret (wholeF d) := by cases d <;> rfl
theorem within_eq : m_w_within (d, lo, hi) = ret (betwF lo hi d) := by
  unfold m_w_within b_w_within
  cases d with
  | int i =>
    show zbody (zrt (zchain ile ile (ret lo) (ret i) (ret hi))) = ret (betwF lo hi (.int i))
    rw [zchain_ll, zrt_ret, zbody_rt]; rfl
  | _ => rfl
theorem between_eq : m_is_between (d, lo, hi) = ret (betwF lo hi d) := by
  unfold m_is_between b_is_between
  rw [zapp_ret, whole_eq, lft_ret]
  cases d with
  | int i =>
    show zbody (zrt (zchain ile ile (ret lo) (ret i) (ret hi))) = ret (betwF lo hi (.int i))
    rw [zchain_ll, zrt_ret, zbody_rt]; rfl
  | _ => rfl
/-! ### groups -/
section
variable {α : Type}
end
end
end Zk

namespace Zk
open PySem L2
/-! ### things whose texts are short -/
structure Sh (N D : Nat) (d : PyData) : Prop where
  w : d.showable = true
  dd : d.depth ≤ D
  t : d.leavesShort 1921 = true
  b : d.bulk ≤ N
theorem Sh.mono {N N' D D' : Nat} {d : PyData} (h : Sh N D d) (h1 : N ≤ N') (h2 : D ≤ D') : Sh N' D' d := ⟨h.w, Nat.le_trans h.dd h2, h.t, Nat.le_trans h.b h1⟩
theorem sh_all {N D : Nat} {xs : List PyData} (h : ∀ e ∈ xs, Sh N D e) : PyData.showableAll xs = true ∧ PyData.depthAll xs ≤ D ∧ PyData.leavesShortAll 1921 xs = true ∧ PyData.bulkAll xs ≤ (N + 1) * xs.length := by
  induction xs with
  | nil => exact ⟨by simp [PyData.showableAll], by simp [PyData.depthAll], rfl, by simp [PyData.bulkAll]⟩
  | cons x xs ih =>
    obtain ⟨h1, h3, h4, h5⟩ := ih fun e he => h e (by simp [he])
    have hx := h x (by simp)
    refine ⟨by rw [PyData.showableAll, hx.w, h1]; rfl, ?_, by rw [PyData.leavesShortAll, hx.t, h4]; rfl, ?_⟩
    · have := hx.dd
      simp only [PyData.depthAll]; omega
    · have := hx.b
      rw [PyData.bulkAll, List.length_cons, Nat.mul_add]; omega
theorem sh_list {N D m : Nat} {xs : List PyData} (h : ∀ e ∈ xs, Sh N D e) (hl : xs.length ≤ m) : Sh ((N + 1) * m) (D + 1) (.list xs) := by
  obtain ⟨h1, h3, h4, h5⟩ := sh_all h
  exact ⟨by rw [PyData.showable]; exact h1, by rw [PyData.depth]; omega, by rw [PyData.leavesShort]; exact h4, by rw [PyData.bulk]; exact Nat.le_trans h5 (Nat.mul_le_mul_left _ hl)⟩
theorem sh_tup {N D m : Nat} {xs : List PyData} (h : ∀ e ∈ xs, Sh N D e) (hl : xs.length ≤ m) : Sh ((N + 1) * m) (D + 1) (.tuple xs) := by
  obtain ⟨h1, h3, h4, h5⟩ := sh_all h
  exact ⟨by rw [PyData.showable]; exact h1, by rw [PyData.depth]; omega, by rw [PyData.leavesShort]; exact h4, by rw [PyData.bulk]; exact Nat.le_trans h5 (Nat.mul_le_mul_left _ hl)⟩
theorem sh_int {i : Int} (h : i.natAbs < 2 ^ 1900) : Sh 1 0 (.int i) := by
  have s1 := int_small h
  refine ⟨by simp [PyData.showable, s1], by simp [PyData.depth], ?_, by simp [PyData.bulk]⟩
  simp only [PyData.leavesShort]
  exact decide_eq_true (show_int h)
theorem sh_non : Sh 1 0 .none := ⟨by simp [PyData.showable], by simp [PyData.depth], by simp [PyData.leavesShort], by simp [PyData.bulk]⟩
theorem sh_bl {b : Bool} : Sh 1 0 (.bool b) := ⟨by simp [PyData.showable], by simp [PyData.depth], by simp [PyData.leavesShort], by simp [PyData.bulk]⟩
theorem repr_sh {τ : Type} {d : PyData} (h : Sh 8000 50 d) : (freprY d : M τ Str) = ret d.shown := by
  refine chk_pos ⟨h.w, Nat.le_trans h.dd (by omega), ?_⟩
  rw [show sizeLine = 16777216 by decide]
  have := PyData.shown_le_bulk 1921 (by omega) d h.t
  have := h.b
  have : (1921 + 2) * d.bulk ≤ (1921 + 2) * 8000 := Nat.mul_le_mul_left _ h.b
  omega
end Zk

namespace Zk
open PySem L2
/-! ### ladders, plainly -/
abbrev Plan := Int × List Int × List Int × List Int
def PriceOk (x : Int) : Prop := 0 ≤ x ∧ x ≤ 100000000000000000000
structure Valid (p : Plan) : Prop where
  b : -100 ≤ p.1 ∧ p.1 ≤ 100
  r : p.2.1.length ≤ 40
  l : 1 ≤ p.2.2.1.length ∧ p.2.2.1.length ≤ 4
  h : 1 ≤ p.2.2.2.length ∧ p.2.2.2.length ≤ 4
  rp : ∀ x ∈ p.2.1, PriceOk x
  lp : ∀ x ∈ p.2.2.1, PriceOk x
  hp : ∀ x ∈ p.2.2.2, PriceOk x
/-- a plan as it may be turned -/
structure Wd (p : Plan) : Prop where
  b : -200 ≤ p.1 ∧ p.1 + p.2.1.length ≤ 200
  r : p.2.1.length ≤ 40
  l : 1 ≤ p.2.2.1.length ∧ p.2.2.1.length ≤ 4
  h : 1 ≤ p.2.2.2.length ∧ p.2.2.2.length ≤ 4
  rp : ∀ x ∈ p.2.1, PriceOk x
  lp : ∀ x ∈ p.2.2.1, PriceOk x
  hp : ∀ x ∈ p.2.2.2, PriceOk x
theorem Valid.w {p : Plan} (v : Valid p) : Wd p := ⟨by have := v.b; have := v.r; omega, v.r, v.l, v.h, v.rp, v.lp, v.hp⟩
def at0 (xs : List Int) (i : Int) : Int := xs.getD i.toNat 0
theorem at0_ok {xs : List Int} {i : Int} (h0 : 0 ≤ i) (h : i < xs.length) : (ixat xs i : M Unit Int) = ret (at0 xs i) := by
  rw [ixat_nat h0 (by omega)]
  unfold at0
  rw [List.getD_eq_getElem?_getD, List.getElem?_eq_getElem (by omega)]; rfl
def rungF (p : Plan) (d : Int) : Int :=
  if d < p.1 then at0 p.2.2.1 ((p.1 - 1 - d) % p.2.2.1.length)
  else if d < p.1 + p.2.1.length then at0 p.2.1 (d - p.1)
  else at0 p.2.2.2 ((d - p.1 - p.2.1.length) % p.2.2.2.length)
/-- the sums of a list's beginnings -/
def sumsF (xs : List Int) : List Int := (List.range (xs.length + 1)).map fun i => (xs.take i).sum
theorem sumsF_length (xs : List Int) : (sumsF xs).length = xs.length + 1 := by simp [sumsF]
theorem sumsF_get {xs : List Int} {i : Nat} (h : i ≤ xs.length) : (sumsF xs)[i]? = some (xs.take i).sum := by
  unfold sumsF
  rw [List.getElem?_map, List.getElem?_range (by omega)]; rfl
theorem sumsF_snoc (xs : List Int) (x : Int) : sumsF (xs ++ [x]) = sumsF xs ++ [xs.sum + x] := by
  unfold sumsF
  rw [List.length_append, List.length_singleton, List.range_succ, List.map_append, List.map_singleton]
  congr 1
  · refine List.map_congr_left fun i hi => ?_
    have : i ≤ xs.length := by simp at hi; omega
    rw [List.take_append_of_le_length this]
  · rw [List.take_of_length_le (by simp), List.sum_append]; simp
theorem sumsF_ne (xs : List Int) : sumsF xs ≠ [] := by
  intro e
  have := sumsF_length xs
  rw [e] at this; simp at this
theorem sumsF_last (xs : List Int) : (sumsF xs).getLast (sumsF_ne xs) = xs.sum := by
  have h := sumsF_get (xs := xs) (i := xs.length) (Nat.le_refl _)
  rw [List.take_length] at h
  rw [List.getLast_eq_getElem]
  have e : (sumsF xs).length - 1 = xs.length := by rw [sumsF_length]; omega
  have h2 := (List.getElem?_eq_some_iff.mp h).2
  rw [← h2]
  congr 1
theorem sums_loop {f : List Int → Int → M Unit (Fl (List Int) (List Int) (List Int))} (hf : ∀ pre x, pre.length < 1000 → f (sumsF pre) x = ret (.nx (sumsF (pre ++ [x])))) : ∀ (xs pre : List Int), pre.length + xs.length < 1000 → (zfor f (sumsF pre) xs : M Unit (Fl (List Int) Empty (List Int))) = ret (.nx (sumsF (pre ++ xs)))
  | [], pre, _ => by rw [List.append_nil]; rfl
  | x :: xs, pre, h => by
    simp only [List.length_cons] at h
    rw [zfor_cons_nx (hf pre x (by omega)), sums_loop hf xs (pre ++ [x]) (by simp; omega)]
    simp
theorem sums_eq {xs : List Int} (h : xs.length < 900) : m_sums_of xs = ret (sumsF xs) := by
  unfold m_sums_of b_sums_of
  rw [show zcons (ret 0) (ret []) = (ret [0] : M Unit (List Int)) from rfl, zlist_ret (by decide), zset_ret, zseq_nx, zforI_ret, show [(0 : Int)] = sumsF [] from rfl]
  rw [sums_loop (fun pre x hp => ?_) xs [] (by simp; omega)]
  · rfl
  · rw [show zop1 ineg (ret 1) = (ret (-1) : M Unit Int) from rfl, zop2_ret, ixat_last (sumsF_ne pre), sumsF_last, zop2_ret, iadd_eq, bnd_ret, chk_pos (by rw [sumsF_length]; exact Nat.lt_of_lt_of_le (by omega : pre.length + 1 < 1001) (by decide)), zseq_nx, znx_ret, sumsF_snoc]
/-- rungs that are repeated, k of them -/
def repF (xs : List Int) (k : Int) : Int := k / xs.length * xs.sum + (xs.take (k % xs.length).toNat).sum
def heightF (p : Plan) (d : Int) : Int :=
  if d - p.1 < 0 then 0 - repF p.2.2.1 (0 - (d - p.1))
  else if d - p.1 ≤ p.2.1.length then (p.2.1.take (d - p.1).toNat).sum
  else p.2.1.sum + repF p.2.2.2 (d - p.1 - p.2.1.length)
/-! ### the ladder made of a plan -/
theorem is_whole_eq (x : Int) : m_is_whole_2 x = ret true := rfl
theorem is_between_eq (x lo hi : Int) : m_is_between_2 (x, lo, hi) = ret (decide (lo ≤ x) && decide (x ≤ hi)) := by
  unfold m_is_between_2 b_is_between_2
  simp [is_whole_eq]
theorem is_price_eq (x : Int) : m_is_price_2 x = ret (decide (0 ≤ x) && decide (x ≤ 100000000000000000000)) := by
  unfold m_is_price_2 b_is_price_2
  simp [is_between_eq, c_MOST_PRICE]
theorem are_prices_eq {xs : List Int} {lo hi : Int} (hl : xs.length ≤ 1000) : m_are_prices_2 (xs, lo, hi) = ret (decide (lo ≤ xs.length) && decide ((xs.length : Int) ≤ hi) && xs.all fun x => decide (0 ≤ x) && decide (x ≤ 100000000000000000000)) := by
  unfold m_are_prices_2 b_are_prices_2
  rw [zlc_map (g := fun x => decide (0 ≤ x) && decide (x ≤ 100000000000000000000)) (fun x _ => by simp [is_price_eq]) (Nat.le_trans hl (by decide))]
  simp only [zis_ret, znot_ret, Bool.not_true, zor_f, zapp_ret, flen_eq, zchain_ll, zifS_ret, fall_eq, zrt_ret, znx_ret]
  by_cases h : (decide (lo ≤ (xs.length : Int)) && decide ((xs.length : Int) ≤ hi)) = true
  · rw [h]; simp [List.all_map]
  · rw [Bool.eq_false_iff.mpr h]; rfl
theorem prices_true {xs : List Int} {lo hi : Int} (h1 : lo ≤ xs.length) (h2 : (xs.length : Int) ≤ hi) (h3 : ∀ x ∈ xs, PriceOk x) (hl : xs.length ≤ 1000) : m_are_prices_2 (xs, lo, hi) = ret true := by
  rw [are_prices_eq hl, decide_eq_true h1, decide_eq_true h2]
  have : (xs.all fun x => decide (0 ≤ x) && decide (x ≤ 100000000000000000000)) = true := by
    rw [List.all_eq_true]
    intro x hx
    have := h3 x hx
    rw [decide_eq_true this.1, decide_eq_true this.2]; rfl
  rw [this]; rfl
def ladF (p : Plan) : XLadder := ⟨p.2.2.1, p.2.1, p.2.2.2, p.1, sumsF p.2.2.1, sumsF p.2.1, sumsF p.2.2.2⟩
theorem init_eq {p : Plan} (v : Valid p) : m_Ladder_init_2 (p.2.2.1, p.2.1, p.2.2.2, p.1) = ret (ladF p) := by
  obtain ⟨hl1, hl2⟩ := v.l
  obtain ⟨hh1, hh2⟩ := v.h
  obtain ⟨hb1, hb2⟩ := v.b
  have hr := v.r
  unfold m_Ladder_init_2 b_Ladder_init_2
  simp only [zpair_ret, zcons_ret]
  rw [zlist_ret (by show 3 ≤ sizeLine; decide), zset_ret, zseq_nx, zenum_ret, zforI_ret]
  have e : fenum [(p.2.2.1, (1 : Int), c_MOST_REPEATED), (p.2.1, 0, c_MOST_ROW), (p.2.2.2, 1, c_MOST_REPEATED)] = [(0, p.2.2.1, 1, 4), (1, p.2.1, 0, 40), (2, p.2.2.2, 1, 4)] := rfl
  rw [e, zfor_cons_nx (a' := ()), zfor_cons_nx (a' := ()), zfor_cons_nx (a' := ()), zfor_nil, zseq_nx]
  · rw [show (zop2 isub (ret 0) (ret c_FARTHEST_AT) : M Unit Int) = ret (-100) from rfl]
    simp only [zpair_ret, zapp_ret, lft_ret, is_between_eq, c_FARTHEST_AT, sums_eq (show p.2.2.1.length < 900 by omega), sums_eq (show p.2.1.length < 900 by omega), sums_eq (show p.2.2.2.length < 900 by omega)]
    rw [decide_eq_true hb1, decide_eq_true hb2]
    rfl
  all_goals
    simp only [zpair_ret, zapp_ret, lft_ret]
    rw [prices_true (by omega) (by omega) (by first | exact v.lp | exact v.rp | exact v.hp) (by omega)]
    rfl
theorem sum_bound {xs : List Int} (h : ∀ x ∈ xs, PriceOk x) : 0 ≤ xs.sum ∧ xs.sum ≤ xs.length * 100000000000000000000 := by
  induction xs with
  | nil => simp
  | cons x xs ih =>
    have := ih fun y hy => h y (by simp [hy])
    have := h x (by simp)
    unfold PriceOk at this
    simp only [List.sum_cons, List.length_cons]
    push_cast
    omega
theorem repeated_eq {xs : List Int} {k : Int} (h1 : 1 ≤ xs.length) (h2 : xs.length ≤ 1000) (h3 : ∀ x ∈ xs, PriceOk x) (hk : 0 ≤ k ∧ k < 2 ^ 1000) : m_repeated (sumsF xs, k) = ret (repF xs k) := by
  have hn : (0 : Int) < xs.length := by omega
  have m0 := Int.emod_nonneg k (Int.ne_of_gt hn)
  have m1 := Int.emod_lt_of_pos k hn
  have sb := sum_bound h3
  have d0 := Int.ediv_nonneg hk.1 (Int.le_of_lt hn)
  have d1 : k / xs.length ≤ k := Int.ediv_le_self _ hk.1
  unfold m_repeated b_repeated repF
  simp only [zapp_ret, flen_eq, sumsF_length, zop2_ret, isub_eq, zpair_ret]
  rw [show ((xs.length + 1 : Nat) : Int) - 1 = xs.length by push_cast; omega, fdivmod_eq (by omega), zset_ret, zseq_nx, show zop1 ineg (ret 1) = (ret (-1) : M Unit Int) from rfl, zop2_ret, ixat_last (sumsF_ne xs), sumsF_last]
  rw [zop2_ret, imul_eq (mul_wide (by omega) (by omega)), ixat_eq (x := (xs.take (k % xs.length).toNat).sum) (by
    rw [atI_nat m0 (by rw [sumsF_length]; omega)]
    have := sumsF_get (xs := xs) (i := (k % xs.length).toNat) (by omega)
    rw [List.getElem?_eq_getElem (by rw [sumsF_length]; omega)] at this
    exact this), zop2_ret, iadd_eq, zrt_ret, zbody_rt]
theorem height_eqW {p : Plan} (v : Wd p) {d : Int} (hd : d.natAbs < 2 ^ 900) : m_Ladder_height (ladF p, PyData.int d) = ret (heightF p d) := by
  obtain ⟨hl1, hl2⟩ := v.l
  obtain ⟨hh1, hh2⟩ := v.h
  obtain ⟨hb1, hb2⟩ := v.b
  have hr := v.r
  unfold m_Ladder_height b_Ladder_height heightF
  dsimp only
  rw [show (zgetP asI (ret (PyData.int d)) : M Unit Int) = ret d from rfl]
  simp only [zget_ret, ladF, zop2_ret, isub_eq, zset_ret, zseq_nx, ilt_eq, zifS_ret, decide_eq_true_eq, zpair_ret, zapp_ret, flen_eq, ile_eq]
  by_cases h1 : d - p.1 < 0
  · rw [if_pos h1, if_pos h1, repeated_eq hl1 (by omega) v.lp (by omega)]; rfl
  · rw [if_neg h1, if_neg h1, znx_ret, zseq_nx]
    by_cases h2 : d - p.1 ≤ p.2.1.length
    · rw [if_pos h2, if_pos h2, ixat_eq (x := (p.2.1.take (d - p.1).toNat).sum) (by
        rw [atI_nat (by omega) (by rw [sumsF_length]; omega)]
        have := sumsF_get (xs := p.2.1) (i := (d - p.1).toNat) (by omega)
        rw [List.getElem?_eq_getElem (by rw [sumsF_length]; omega)] at this
        exact this)]
      rfl
    · rw [if_neg h2, if_neg h2, zseq_nx, show zop1 ineg (ret 1) = (ret (-1) : M Unit Int) from rfl, zop2_ret, ixat_last (sumsF_ne _), sumsF_last, repeated_eq hh1 (by omega) v.hp (by omega)]; rfl
theorem height_eq {p : Plan} (v : Valid p) {d : Int} (hd : d.natAbs < 2 ^ 900) : m_Ladder_height (ladF p, PyData.int d) = ret (heightF p d) := height_eqW v.w hd
end Zk

namespace Zk
open PySem L2
theorem powB {a b : Int} (h : powOk a b) : (zop2 ipow (ret a) (ret b) : M Bag Int) = ret (a ^ b.toNat) := by rw [zop2_ret]; exact chk_pos h
theorem powU {a b : Int} (h : powOk a b) : (zop2 ipow (ret a) (ret b) : M Unit Int) = ret (a ^ b.toNat) := by rw [zop2_ret]; exact chk_pos h
theorem lrep_eq {τ α : Type} {xs : List α} {n : Nat} (hn : n ≤ 1000) (h : xs.length * n ≤ 16777216) : (lrep xs (n : Int) : M τ (List α)) = ret (List.replicate n xs).flatten := by
  unfold lrep
  exact chk_pos ⟨by omega, by omega, by rw [show sizeLine = 16777216 by decide, Int.toNat_natCast]; exact h⟩
/-- a drawn thing of the four -/
structure Th (n : Nat) (d : PyData) : Prop where
  s : Sh (6 * n) 4 d
  l : ∀ xs, d = .list xs → xs.length ≤ n ∧ ∀ e ∈ xs, Sh 5 3 e
theorem Th.mono {n n' : Nat} {d : PyData} (h : Th n d) (k : n ≤ n') : Th n' d := ⟨h.s.mono (by omega) (Nat.le_refl _), fun xs e => ⟨Nat.le_trans (h.l xs e).1 k, (h.l xs e).2⟩⟩
theorem th_list {n : Nat} {xs : List PyData} (h : ∀ e ∈ xs, Sh 5 3 e) (hl : xs.length ≤ n) : Th n (.list xs) := ⟨sh_list h hl, fun ys e => by cases e; exact ⟨hl, h⟩⟩
theorem th_tup {n : Nat} {xs : List PyData} (h : ∀ e ∈ xs, Sh 5 3 e) (hl : xs.length ≤ n) : Th n (.tuple xs) := ⟨sh_tup h hl, fun ys e => by cases e⟩
theorem th_ints {n : Nat} {xs : List Int} (h : ∀ x ∈ xs, x.natAbs < 2 ^ 1900) (hl : xs.length ≤ n) : Th n (.list (xs.map PyData.int)) := th_list (fun e he => by
  obtain ⟨x, hx, rfl⟩ := List.mem_map.mp he
  exact (sh_int (h x hx)).mono (by omega) (by omega)) (by rw [List.length_map]; exact hl)
/-- what odd things are: within the bounds of numbers too -/
structure Od (d : PyData) : Prop where
  e : Sh 5 3 d
  t : Th 41 d
  n : betwF (-(10 ^ 50)) (10 ^ 50) d = wholeF d
theorem od_of {d : PyData} (e : Sh 5 3 d) (l : ∀ xs, d = .list xs → xs.length ≤ 41 ∧ ∀ e ∈ xs, Sh 5 3 e) (n : betwF (-(10 ^ 50)) (10 ^ 50) d = wholeF d) : Od d := ⟨e, ⟨e.mono (by omega) (by omega), l⟩, n⟩
theorem e50 : (10 : Int) ^ 50 < 2 ^ 1900 := by decide +kernel
theorem od_int {i : Int} (h : -(10 ^ 50) ≤ i ∧ i ≤ 10 ^ 50) : Od (.int i) := by
  have hn : i.natAbs < 2 ^ 1900 := by
    have := e50
    omega
  refine od_of ((sh_int hn).mono (by omega) (by omega)) (fun xs e => by cases e) ?_
  show (decide (-(10 ^ 50) ≤ i) && decide (i ≤ 10 ^ 50)) = true
  rw [decide_eq_true h.1, decide_eq_true h.2]; rfl
theorem el_1 : Sh 1 0 (.int 1) := sh_int (by decide)
theorem od_l0 : Od (.list []) := od_of ⟨by decide +kernel, by decide +kernel, by decide +kernel, by decide +kernel⟩ (fun xs e => by cases e; exact ⟨by decide, fun e he => by cases he⟩) rfl
theorem od_l1 : Od (.list [.int 1]) := od_of ⟨by decide +kernel, by decide +kernel, by decide +kernel, by decide +kernel⟩ (fun xs e => by
  cases e
  exact ⟨by decide, fun e he => by rw [List.mem_singleton.mp he]; exact el_1.mono (by omega) (by omega)⟩) rfl
theorem od_ll : Od (.list [.list [.int 1]]) := od_of ⟨by decide +kernel, by decide +kernel, by decide +kernel, by decide +kernel⟩ (fun xs e => by
  cases e
  exact ⟨by decide, fun e he => by rw [List.mem_singleton.mp he]; exact od_l1.e⟩) rfl
theorem od_t1 : Od (.tuple [.int 1]) := od_of ⟨by decide +kernel, by decide +kernel, by decide +kernel, by decide +kernel⟩ (fun xs e => by cases e) rfl
theorem od_d0 : Od (.dict []) := od_of ⟨by decide +kernel, by decide +kernel, by decide +kernel, by decide +kernel⟩ (fun xs e => by cases e) rfl
theorem od_non : Od .none := od_of (sh_non.mono (by omega) (by omega)) (fun xs e => by cases e) rfl
theorem od_bl {b : Bool} : Od (.bool b) := od_of (sh_bl.mono (by omega) (by omega)) (fun xs e => by cases e) rfl
theorem od_s1 : Od (.str ("1" : Str)) := od_of ⟨by decide +kernel, by decide +kernel, by decide +kernel, by decide +kernel⟩ (fun xs e => by cases e) rfl
theorem od_s0 : Od (.str ("0" : Str)) := od_of ⟨by decide +kernel, by decide +kernel, by decide +kernel, by decide +kernel⟩ (fun xs e => by cases e) rfl
theorem ok_tkU {u : Unit} {n : Int} (h1 : 1 ≤ n) (h2 : n < 2 ^ 9000) : Ok Bok (zapp m_w_take (zpair (ret u) (ret n))) (fun v => 0 ≤ v ∧ v < n) := ok_take h1 h2
theorem big (v : Int) (h : v ≤ 10000) : v < 2 ^ 9000 := Int.lt_of_le_of_lt h (by decide +kernel)
theorem ok_odd {u : Unit} : Ok Bok (m_w_odd u) Od := by
  unfold m_w_odd b_w_odd
  refine ok_body ?_
  rw [powB (show powOk 10 20 by unfold powOk CPow; decide), powB (show powOk 10 40 by unfold powOk CPow; decide)]
  refine oks_seq (N := LOf 12 Od) (oks_set (ok_listN (ok_cons (show Ok Bok (ret (PyData.none)) Od from ok_ret od_non) (ok_cons (show Ok Bok (ret (PyData.int (-1))) Od from ok_ret (od_int (by decide))) (ok_cons (show Ok Bok (ret (PyData.int (10 ^ 20 + 1))) Od from ok_ret (od_int (by decide)))
    (ok_cons (show Ok Bok (ret (PyData.bool true)) Od from ok_ret od_bl) (ok_cons (show Ok Bok (ret (PyData.str ("1" : Str))) Od from ok_ret od_s1) (ok_cons (show Ok Bok (ret (PyData.list [])) Od from ok_ret od_l0) (ok_cons (show Ok Bok (ret (PyData.tuple [.int 1])) Od from ok_ret od_t1)
    (ok_cons (show Ok Bok (ret (PyData.dict [])) Od from ok_ret od_d0) (ok_cons (show Ok Bok (ret (PyData.list [.int 1])) Od from ok_ret od_l1) (ok_cons (show Ok Bok (ret (PyData.bool false)) Od from ok_ret od_bl) (ok_cons (show Ok Bok (ret (PyData.int (10 ^ 40))) Od from ok_ret (od_int (by decide)))
    (ok_cons (show Ok Bok (ret (PyData.list [.list [.int 1]])) Od from ok_ret od_ll) ok_nil)))))))))))) (by decide))) fun xs hxs => ?_
  exact oks_rt (ok_ix (k := 12) (ok_ret hxs) (ok_tkU (by omega) (by decide +kernel)))
/-! ### bent -/
theorem ok_finH {τ γ ρ : Type} {I : τ → Prop} {n : γ → Option ρ} {r : ρ} {m : M τ (Fl γ Empty (ρ × γ))} {R : ρ × γ → Prop} (h : OkS I m (fun z => n z = some r ∧ R (r, z)) R (fun _ => False) (fun _ => False)) : Ok I (zfinH n m) R := fun s hs => by
  obtain ⟨o, s', e, i, p⟩ := h s hs
  unfold zfinH
  rw [e]
  cases o with
  | nx z => dsimp only; rw [p.1]; exact ⟨(r, z), s', rfl, i, p.2⟩
  | rt r => exact ⟨r, s', rfl, i, p⟩
  | bk k => exact p.elim
  | ct k => exact p.elim
theorem oks_putQ {τ α κ ρ : Type} {I : τ → Prop} {xs : List α} {m : M τ α} {k : Int} {Q : α → Prop} {n : Nat} {R : ρ → Prop} {Kb Kc : κ → Prop} (hx : LOf n Q xs) (hk : 0 ≤ k ∧ k < n) (hm : Ok I m Q) : OkS I (putM xs m (ret k) : M τ (Fl (List α) κ ρ)) (LOf n Q) R Kb Kc := fun s hs => by
  obtain ⟨v, s', e, i, q⟩ := hm s hs
  obtain ⟨j, rfl⟩ := Int.eq_ofNat_of_zero_le hk.1
  have hj : j < xs.length := by rw [hx.1]; omega
  have ep : putI xs (j : Int) v = some (xs.set j v) := by
    unfold putI ixN
    rw [if_pos (by omega), if_pos (by omega)]; rfl
  refine ⟨.nx (xs.set j v), s', ?_, i, by rw [List.length_set]; exact hx.1, fun x hx' => ?_⟩
  · unfold putM bnd
    rw [e]
    simp only [ret, ep]
  · rcases List.mem_or_eq_of_mem_set hx' with h | h
    · exact hx.2 x h
    · rw [h]; exact q
theorem not_list {d : PyData} (h : isD "list" d = true) : ∃ xs, d = .list xs := by
  cases d with
  | list xs => exact ⟨xs, rfl⟩
  | none => exact absurd h (by decide)
  | bool b => rw [show isD "list" (PyData.bool b) = false from rfl] at h; cases h
  | int b => rw [show isD "list" (PyData.int b) = false from rfl] at h; cases h
  | str b => rw [show isD "list" (PyData.str b) = false from rfl] at h; cases h
  | tuple b => rw [show isD "list" (PyData.tuple b) = false from rfl] at h; cases h
  | dict b => rw [show isD "list" (PyData.dict b) = false from rfl] at h; cases h
theorem dL (xs : List PyData) : ((qL qQ) : DaQ (rLst rQ)).d xs = .list xs := congrArg PyData.list (List.map_id' xs)
theorem dV (xs : List PyData) : ((qV qQ) : DaQ (rVT rQ)).d xs = .tuple xs := congrArg PyData.tuple (List.map_id' xs)
theorem ok_bent {u v : Unit} {n : Nat} {ys : List PyData} (hn : 41 ≤ n) (hn2 : n ≤ 1000) (hy : LOf 4 (Th n) ys) : Ok Bok (m_w_bent ((u, v), ys)) (fun r => LOf 4 (Th (2 * n)) r.2) := by
  have hy2 : LOf 4 (Th (2 * n)) ys := ⟨hy.1, fun x hx => (hy.2 x hx).mono (by omega)⟩
  have od2 : ∀ d, Od d → Th (2 * n) d := fun d h => h.t.mono (by omega)
  unfold m_w_bent b_w_bent
  dsimp only
  refine ok_finH (r := ()) ?_
  refine oks_seq (N := fun k : Int => 0 ≤ k ∧ k < 4) (oks_set (ok_tkU (by omega) (by decide +kernel))) fun pl hpl => ?_
  refine oks_seq (N := Th n) (oks_set (ok_ix (k := 4) (ok_ret hy) (ok_ret hpl))) fun th hth => ?_
  refine oks_seq (N := fun k : Int => 0 ≤ k ∧ k < 4) (oks_set (ok_tkU (by omega) (by decide +kernel))) fun way hway => ?_
  refine oks_seq (N := LOf 4 (Th (2 * n))) ?_ fun zs hz => oks_nx ⟨rfl, hz⟩
  rw [zop2_ret, feq_eq, zifS_ret]
  by_cases c : pl = 3
  · rw [if_pos (decide_eq_true c)]
    refine oks_seq (N := LOf 9 (Th (2 * n))) (oks_set (ok_listN (ok_cons (show Ok Bok (ret (PyData.int 101)) _ from ok_ret (od2 _ (od_int (by decide)))) (ok_cons (show Ok Bok (ret (PyData.int (-101))) _ from ok_ret (od2 _ (od_int (by decide)))) (ok_cons (show Ok Bok (ret (PyData.int 100)) _ from ok_ret (od2 _ (od_int (by decide))))
      (ok_cons (show Ok Bok (ret (PyData.int (-100))) _ from ok_ret (od2 _ (od_int (by decide)))) (ok_cons (show Ok Bok (ret (PyData.bool true)) _ from ok_ret (od2 _ od_bl)) (ok_cons (show Ok Bok (ret (PyData.none)) _ from ok_ret (od2 _ od_non)) (ok_cons (show Ok Bok (ret (PyData.str ("0" : Str))) _ from ok_ret (od2 _ od_s0))
      (ok_cons (show Ok Bok (ret (PyData.list [.int 0])) _ from ok_ret (th_list (fun e he => by rw [List.mem_singleton.mp he]; exact (sh_int (by decide)).mono (by omega) (by omega)) (by simp; omega))) (ok_cons (show Ok Bok (ret (PyData.int 0)) _ from ok_ret (od2 _ (od_int (by decide)))) ok_nil))))))))) (by decide))) fun xs hxs => ?_
    exact oks_seq (oks_putQ hy2 (by decide) (ok_ix (k := 9) (ok_ret hxs) (ok_tkU (by omega) (by decide +kernel)))) fun zs hz => oks_nx hz
  · rw [if_neg (by rw [decide_eq_true_iff]; exact c)]
    refine oks_seq (N := LOf 4 (Th (2 * n))) ?_ fun zs hz => oks_nx hz
    rw [show (zget (isD "list") (zget (qQ : DaQ rQ).d (ret th)) : M Bag Bool) = ret (isD "list" th) from rfl, znot_ret, zop2_ret, feq_eq, zor_rr, zifS_ret]
    have rep : ∀ (x : Int) (k : Nat), x.natAbs < 100 → k ≤ 41 → Ok Bok (zget ((qL qI) : DaQ (rLst rInt)).d (zop2 lrep (zlist (zcons (ret x) (ret []))) (ret (k : Int)))) (Th (2 * n)) := fun x k hx hk => by
      rw [show zcons (ret x) (ret []) = (ret [x] : M Bag (List Int)) from rfl, zlist_eq (by simp), zop2_ret, lrep_eq (by omega) (by simp; omega), zget_ret]
      refine ok_ret ?_
      have : (List.replicate k [x]).flatten = List.replicate k x := by
        induction k with
        | zero => rfl
        | succ k ih => rw [List.replicate_succ, List.flatten_cons, ih (by omega)]; rfl
      rw [this]
      exact th_ints (fun y hy => by
        rw [List.eq_of_mem_replicate hy]
        exact Nat.lt_trans hx (by decide)) (by rw [List.length_replicate]; omega)
    by_cases c1 : (!isD "list" th || decide (way = 0)) = true
    · rw [if_pos c1]
      refine oks_seq (N := LOf 5 (Th (2 * n))) (oks_set (ok_listN (ok_cons (ok_odd.mono od2) (ok_cons (rep 1 5 (by decide) (by decide)) (ok_cons (rep 0 41 (by decide) (by decide)) (ok_cons (show Ok Bok (ret (PyData.list [])) _ from ok_ret (od2 _ od_l0)) (ok_cons (rep 3 40 (by decide) (by decide)) ok_nil))))) (by decide))) fun xs hxs => ?_
      exact oks_seq (oks_putQ hy2 hpl (ok_ix (k := 5) (ok_ret hxs) (ok_tkU (by omega) (by decide +kernel)))) fun zs hz => oks_nx hz
    · rw [if_neg c1]
      have hl : isD "list" th = true := by
        cases e : isD "list" th with
        | true => rfl
        | false => rw [e] at c1; exact absurd rfl c1
      obtain ⟨xs, rfl⟩ := not_list hl
      obtain ⟨hx1, hx2⟩ := hth.l xs rfl
      refine oks_seq (N := LOf 4 (Th (2 * n))) ?_ fun zs hz => oks_nx hz
      rw [zop2_ret, feq_eq, zifS_ret, show (zgetP asL (ret (PyData.list xs)) : M Bag (List PyData)) = ret xs from rfl]
      by_cases c2 : way = 1
      · rw [if_pos (decide_eq_true c2)]
        refine oks_seq (N := LOf 4 (Th (2 * n))) (oks_set (ok_listN (ok_cons (by rw [zapp_ret, zget_ret, dV]; exact ok_ret (th_tup hx2 (by omega))) (ok_cons (show Ok Bok (ret (PyData.dict [])) _ from ok_ret (od2 _ od_d0)) (ok_cons ?_ (ok_cons ?_ ok_nil)))) (by decide))) fun ws hws => ?_
        · rw [show zcons (zget (qI : DaQ rInt).d (ret (0 : Int))) (ret []) = (ret [PyData.int 0] : M Bag (List PyData)) from rfl, zlist_eq (by simp), zop2_ret, show (40 : Int) = ((40 : Nat) : Int) from rfl, lrep_eq (by omega) (by simp), zop2_ret, lcat_eq (by simp; omega), zget_ret, dL]
          refine ok_ret (th_list (fun e he => ?_) (by simp; omega))
          rcases List.mem_append.mp he with he | he
          · exact hx2 e he
          · have : e = .int 0 := by
              simp only [List.mem_flatten, List.mem_replicate] at he
              obtain ⟨l, ⟨_, rfl⟩, h⟩ := he
              exact List.mem_singleton.mp h
            rw [this]; exact (sh_int (by decide)).mono (by omega) (by omega)
        · rw [zop2_ret, show (2 : Int) = ((2 : Nat) : Int) from rfl, lrep_eq (by omega) (by omega), zget_ret, dL]
          refine ok_ret (th_list (fun e he => ?_) ?_)
          · simp only [List.mem_flatten, List.mem_replicate] at he
            obtain ⟨l, ⟨_, rfl⟩, h⟩ := he
            exact hx2 e h
          · simp [List.replicate]; omega
        · exact oks_seq (oks_putQ hy2 hpl (ok_ix (k := 4) (ok_ret hws) (ok_tkU (by omega) (by decide +kernel)))) fun zs hz => oks_nx hz
      · rw [if_neg (by rw [decide_eq_true_iff]; exact c2)]
        have w0 : way ≠ 0 := fun z => c1 (by rw [decide_eq_true z]; simp)
        rw [zapp_ret (f := flen), flen_eq, zop2_ret, iadd_eq]
        refine oks_seq (N := fun k : Int => 0 ≤ k ∧ k < xs.length + 1) (oks_set (ok_tkU (by omega) (big _ (by omega)))) fun sp hsp => ?_
        rw [zsome_ret, zsl_ret, cut_hi' hsp.1]
        refine oks_seq (N := fun f : List PyData => f.length ≤ sp.toNat + 1 ∧ ∀ e ∈ f, Sh 5 3 e) (oks_set (ok_op2 (P1 := fun f => f = xs.take sp.toNat) (P2 := LOf 1 (fun e => Sh 5 3 e)) (ok_ret rfl) (ok_listN (ok_cons (ok_odd.mono fun d h => h.e) ok_nil) (by decide)) fun a b ha hb => ?_)) fun f hf => ?_
        · rw [lcat_eq (by rw [ha, hb.1, List.length_take]; omega)]
          refine ok_ret ⟨by rw [ha, List.length_append, hb.1, List.length_take]; omega, fun e he => ?_⟩
          rcases List.mem_append.mp he with he | he
          · rw [ha] at he; exact hx2 e (List.mem_of_mem_take he)
          · exact hb.2 e he
        · rw [zop2_ret, iadd_eq, zop2_ret, isub_eq, zsome_ret, zsl_ret, cut_lo' (by omega), zop2_ret, lcat_eq (by rw [List.length_drop]; omega), zget_ret, dL]
          refine oks_seq (oks_putQ hy2 hpl (ok_ret (th_list (fun e he => ?_) (by rw [List.length_append, List.length_drop]; omega)))) fun zs hz => oks_nx hz
          rcases List.mem_append.mp he with he | he
          · exact hf.2 e he
          · exact hx2 e (List.mem_of_mem_drop he)
end Zk

namespace Zk
open PySem L2
def pricesF (lo hi : Int) : PyData → Bool
  | .list xs => (decide (lo ≤ (xs.length : Int)) && decide ((xs.length : Int) ≤ hi)) && xs.all (betwF 0 (10 ^ 20))
  | _ => false
def Sz (d : PyData) : Prop := ∀ xs, d = .list xs → xs.length ≤ 100000
theorem price_eq {d : PyData} : m_is_price d = ret (betwF 0 (10 ^ 20) d) := by
  unfold m_is_price b_is_price
  rw [zpair_ret, zpair_ret, zapp_ret, between_eq, lft_ret, zrt_ret, zbody_rt]; rfl
theorem filt_all {α : Type} {p : α → Bool} : ∀ xs : List α, (xs.filter fun e => !p e).isEmpty = xs.all p
  | [] => rfl
  | x :: xs => by
    have ih := filt_all (p := p) xs
    cases h : p x with
    | true => simp only [List.filter_cons, h, Bool.not_true, List.all_cons, Bool.true_and]; exact ih
    | false => simp only [List.filter_cons, h, Bool.not_false, List.all_cons, Bool.false_and]; rfl
theorem prices_own {d : PyData} {lo hi : Int} (h : Sz d) : m_w_are_prices (d, lo, hi) = ret (pricesF lo hi d) := by
  unfold m_w_are_prices b_w_are_prices
  cases d with
  | list xs =>
    have hl := h xs rfl
    rw [show (zget (isD "list") (zget (qQ : DaQ rQ).d (ret (PyData.list xs))) : M Unit Bool) = ret true from rfl, znot_ret, show (!true) = false from rfl, zor_ff, show (zgetP asL (ret (PyData.list xs)) : M Unit (List PyData)) = ret xs from rfl, zapp_ret, flen_eq, zchain_ll, znot_ret, zifS_ret]
    have e0 : pricesF lo hi (.list xs) = ((decide (lo ≤ (xs.length : Int)) && decide ((xs.length : Int) ≤ hi)) && xs.all (betwF 0 (10 ^ 20))) := rfl
    rw [e0]
    cases (decide (lo ≤ (xs.length : Int)) && decide ((xs.length : Int) ≤ hi)) with
    | false => rfl
    | true =>
      rw [show (!true) = false from rfl, if_neg (by decide), znx_ret, zseq_nx, powU (show powOk 10 20 by unfold powOk CPow; decide)]
      rw [zlc_filter (p := fun e => !betwF 0 (10 ^ 20) e) (g := fun e => e) (fun e _ => ?_) (fun _ _ => rfl) (Nat.le_trans hl (by decide)), List.map_id', zlist_eq (by simp), zop2_ret, show ∀ ys : List PyData, (feqNil ys ([] : List Int) : M Unit Bool) = ret ys.isEmpty from fun _ => rfl, zrt_ret, zbody_rt, filt_all, Bool.true_and]
      rw [zpair_ret, zpair_ret, zapp_ret, within_eq, lft_ret, znot_ret]; rfl
  | _ => rfl
theorem prices_prog {d : PyData} {lo hi : Int} (h : Sz d) : m_are_prices (d, lo, hi) = ret (pricesF lo hi d) := by
  unfold m_are_prices b_are_prices
  cases d with
  | list xs =>
    have hl := h xs rfl
    rw [show (zget (isD "list") (zget (qQ : DaQ rQ).d (ret (PyData.list xs))) : M Unit Bool) = ret true from rfl, znot_ret, show (!true) = false from rfl, zor_ff, show (zgetP asL (ret (PyData.list xs)) : M Unit (List PyData)) = ret xs from rfl, zapp_ret, flen_eq, zchain_ll, znot_ret, zifS_ret]
    have e0 : pricesF lo hi (.list xs) = ((decide (lo ≤ (xs.length : Int)) && decide ((xs.length : Int) ≤ hi)) && xs.all (betwF 0 (10 ^ 20))) := rfl
    rw [e0]
    cases (decide (lo ≤ (xs.length : Int)) && decide ((xs.length : Int) ≤ hi)) with
    | false => rfl
    | true =>
      rw [show (!true) = false from rfl, if_neg (by decide), znx_ret, zseq_nx, zlc_map (g := betwF 0 (10 ^ 20)) (fun e _ => by rw [zapp_ret, price_eq, lft_ret]) (Nat.le_trans hl (by decide)), zapp_ret, fall_eq, zrt_ret, zbody_rt, List.all_map, Bool.true_and]; rfl
  | _ => rfl
/-- the first of the four that isn't as told -/
def wrongF (a b c d : PyData) : Option Int := if pricesF 1 4 a = true then if pricesF 0 40 b = true then if pricesF 1 4 c = true then if betwF (-100) 100 d = true then none else some 3 else some 2 else some 1 else some 0
theorem wrong_eq {a b c d : PyData} (ha : Sz a) (hb : Sz b) (hc : Sz c) : m_w_wrong [a, b, c, d] = ret (wrongF a b c d) := by
  unfold m_w_wrong b_w_wrong
  rw [show (zop2 ixat (ret [a, b, c, d]) (ret (0 : Int)) : M Unit PyData) = ret a from rfl, show (zop2 ixat (ret [a, b, c, d]) (ret (1 : Int)) : M Unit PyData) = ret b from rfl, show (zop2 ixat (ret [a, b, c, d]) (ret (2 : Int)) : M Unit PyData) = ret c from rfl, show (zop2 ixat (ret [a, b, c, d]) (ret (3 : Int)) : M Unit PyData) = ret d from rfl, show (zop1 ineg (ret (100 : Int)) : M Unit Int) = ret (-100) from rfl]
  simp only [zpair_ret, zapp_ret, prices_own ha, prices_own hb, prices_own hc, within_eq, lft_ret, zcons_ret]
  rw [zlist_eq (by simp), zset_ret, zseq_nx, zlist_eq (by simp), zop2_ret, lcat_eq (by simp), zset_ret, zseq_nx]
  unfold wrongF
  cases pricesF 1 4 a <;> cases pricesF 0 40 b <;> cases pricesF 1 4 c <;> cases betwF (-100) 100 d <;> rfl
/-! ### the ladder made of things -/
theorem zfor_cons_rse' {τ α β κ ρ : Type} {f : α → β → M τ (Fl α α ρ)} {a : α} {x : β} {xs : List β} {e : Exc} (h : f a x = rse e) : zfor f a (x :: xs) = (rse e : M τ (Fl α κ ρ)) := by
  funext s; conv => lhs; unfold zfor
  rw [h]; rfl
def wr (k : Int) : Exc := ⟨"Wrong", [("at", .int k)]⟩
theorem loop3 {κ ρ : Type} {a b c : PyData} {f : Unit → (Int × PyData × Int × Int) → M Unit (Fl Unit Unit ρ)} (ha : Sz a) (hb : Sz b) (hc : Sz c) (hf : ∀ k x lo hi, Sz x → f () (k, x, lo, hi) = if pricesF lo hi x = true then ret (.nx ()) else rse (wr k)) :
    (zfor f () [(0, a, 1, 4), (1, b, 0, 40), (2, c, 1, 4)] : M Unit (Fl Unit κ ρ)) = if pricesF 1 4 a = true then if pricesF 0 40 b = true then if pricesF 1 4 c = true then ret (.nx ()) else rse (wr 2) else rse (wr 1) else rse (wr 0) := by
  have f1 := hf 0 a 1 4 ha
  have f2 := hf 1 b 0 40 hb
  have f3 := hf 2 c 1 4 hc
  by_cases p1 : pricesF 1 4 a = true
  · rw [if_pos p1] at f1 ⊢
    rw [zfor_cons_nx f1]
    by_cases p2 : pricesF 0 40 b = true
    · rw [if_pos p2] at f2 ⊢
      rw [zfor_cons_nx f2]
      by_cases p3 : pricesF 1 4 c = true
      · rw [if_pos p3] at f3 ⊢
        rw [zfor_cons_nx f3, zfor_nil]
      · rw [if_neg p3] at f3 ⊢
        exact zfor_cons_rse' f3
    · rw [if_neg p2] at f2 ⊢
      exact zfor_cons_rse' f2
  · rw [if_neg p1] at f1 ⊢
    exact zfor_cons_rse' f1
theorem ints_all : ∀ {xs : List PyData} {lo hi : Int}, xs.all (betwF lo hi) = true → ∃ is, intsOf xs = some is ∧ is.length = xs.length
  | [], _, _, _ => ⟨[], rfl, rfl⟩
  | x :: xs, lo, hi, h => by
    rw [List.all_cons, Bool.and_eq_true] at h
    obtain ⟨is, e, l⟩ := ints_all h.2
    cases x with
    | int i => exact ⟨i :: is, by unfold intsOf; rw [show asI (.int i) = some i from rfl, e]; rfl, by simp [l]⟩
    | _ => exact absurd h.1 (by intro z; cases z)
theorem asLI_ok {d : PyData} {lo hi : Int} (h : pricesF lo hi d = true) (hh : hi ≤ 40) : ∃ is, (zgetP asLI (ret d) : M Unit (List Int)) = ret is ∧ is.length < 900 := by
  cases d with
  | list xs =>
    unfold pricesF at h
    rw [Bool.and_eq_true, Bool.and_eq_true, decide_eq_true_iff, decide_eq_true_iff] at h
    obtain ⟨is, e, l⟩ := ints_all h.2
    refine ⟨is, ?_, by omega⟩
    show mopt (asLI (.list xs)) = _
    unfold asLI
    rw [show asL (.list xs) = some xs from rfl, Option.bind_some, e]; rfl
  | _ => cases h
theorem asI_ok {d : PyData} {lo hi : Int} (h : betwF lo hi d = true) : ∃ i, d = .int i ∧ lo ≤ i ∧ i ≤ hi := by
  cases d with
  | int i =>
    have h : (decide (lo ≤ i) && decide (i ≤ hi)) = true := h
    rw [Bool.and_eq_true, decide_eq_true_iff, decide_eq_true_iff] at h
    exact ⟨i, rfl, h⟩
  | _ => cases h
theorem init_any {a b c d : PyData} (ha : Sz a) (hb : Sz b) (hc : Sz c) : (∃ L, wrongF a b c d = none ∧ m_Ladder_init (a, b, c, d) = ret L) ∨ ∃ k, wrongF a b c d = some k ∧ (0 ≤ k ∧ k < 4) ∧ m_Ladder_init (a, b, c, d) = rse (wr k) := by
  unfold m_Ladder_init b_Ladder_init wrongF
  dsimp only
  simp only [zpair_ret, zcons_ret]
  rw [zlist_eq (by simp), zset_ret, zseq_nx, zenum_ret, zforI_ret]
  have e : fenum [(a, (1 : Int), c_MOST_REPEATED), (b, 0, c_MOST_ROW), (c, 1, c_MOST_REPEATED)] = [(0, a, 1, 4), (1, b, 0, 40), (2, c, 1, 4)] := rfl
  rw [e, loop3 ha hb hc (fun k x lo hi hx => by
    dsimp only
    rw [zapp_ret, prices_prog hx, lft_ret, znot_ret, zifS_ret]
    cases pricesF lo hi x <;> rfl)]
  by_cases p1 : pricesF 1 4 a = true
  · rw [if_pos p1, if_pos p1]
    by_cases p2 : pricesF 0 40 b = true
    · rw [if_pos p2, if_pos p2]
      by_cases p3 : pricesF 1 4 c = true
      · rw [if_pos p3, if_pos p3, zseq_nx, show (zop2 isub (ret 0) (ret c_FARTHEST_AT) : M Unit Int) = ret (-100) from rfl, show c_FARTHEST_AT = 100 from rfl, zpair_ret, zpair_ret, zapp_ret, between_eq, lft_ret, znot_ret, zifS_ret]
        by_cases p4 : betwF (-100) 100 d = true
        · rw [if_pos p4, p4, show (!true) = false from rfl, if_neg (by decide), znx_ret, zseq_nx]
          obtain ⟨xs, ex, lx⟩ := asLI_ok p1 (by omega)
          obtain ⟨ys, ey, ly⟩ := asLI_ok p2 (by omega)
          obtain ⟨zs, ez, lz⟩ := asLI_ok p3 (by omega)
          obtain ⟨i, rfl, _⟩ := asI_ok p4
          rw [ex, ey, ez, show (zgetP asI (ret (PyData.int i)) : M Unit Int) = ret i from rfl]
          simp only [zapp_ret, zpair_ret, sums_eq lx, sums_eq ly, sums_eq lz, lft_ret, zset_ret, zseq_nx]
          exact .inl ⟨_, trivial, rfl⟩
        · rw [if_neg p4, Bool.eq_false_iff.mpr p4]
          exact .inr ⟨3, rfl, by decide, rfl⟩
      · rw [if_neg p3, if_neg p3]; exact .inr ⟨2, rfl, by decide, rfl⟩
    · rw [if_neg p2, if_neg p2]; exact .inr ⟨1, rfl, by decide, rfl⟩
  · rw [if_neg p1, if_neg p1]; exact .inr ⟨0, rfl, by decide, rfl⟩
def toldF : Option Int → (Str × (Str ⊕ Int)) ⊕ (Str × Unit)
  | some k => .inl ("refused", .inr k)
  | none => .inr ("made", ())
theorem place_eq {k : Int} : okOf (m_w_place (wr k)) = some (.inr k) := rfl
theorem suite_eq {κ : Type} {k : Int} (f : Option (Str × (Str ⊕ Int)) → Option ((Str × (Str ⊕ Int)) ⊕ (Str × Unit))) (hf : f = fun o => o.map Sum.inl) : (bnd (mopt (f ((some ("refused" : Str)).bind fun y => (okOf (m_w_place (wr k))).bind fun z => some (y, z)))) fun r => ret (.rt r) : M Unit (Fl Unit κ ((Str × (Str ⊕ Int)) ⊕ (Str × Unit)))) = ret (.rt (toldF (some k))) := by
  subst hf
  rw [place_eq]; rfl
theorem made_eq {a b c d : PyData} (ha : Sz a) (hb : Sz b) (hc : Sz c) : m_w_made [a, b, c, d] = ret (toldF (wrongF a b c d)) := by
  unfold m_w_made b_w_made
  rw [show (zop2 ixat (ret [a, b, c, d]) (ret (0 : Int)) : M Unit PyData) = ret a from rfl, show (zop2 ixat (ret [a, b, c, d]) (ret (1 : Int)) : M Unit PyData) = ret b from rfl, show (zop2 ixat (ret [a, b, c, d]) (ret (2 : Int)) : M Unit PyData) = ret c from rfl, show (zop2 ixat (ret [a, b, c, d]) (ret (3 : Int)) : M Unit PyData) = ret d from rfl]
  rw [zpair_ret, zpair_ret, bnd_ret, bnd_ret]
  dsimp only
  rcases init_any ha hb hc (d := d) with ⟨L, e1, e2⟩ | ⟨k, e1, hk, e2⟩
  · rw [e1, e2]; rfl
  · rw [e1, e2]
    have : ∀ hm : Exc → M Unit (Fl Unit Empty ((Str × (Str ⊕ Int)) ⊕ (Str × Unit))), ztryX (fun n => if n = ("Wrong" : Str) then some true else none) (zseq (zdrop (lft (rse (wr k) : M Unit XLadder))) fun _ => znx ()) hm = hm (wr k) := fun hm => rfl
    rw [this, suite_eq _ rfl]; rfl
end Zk

namespace Zk
open PySem L2
theorem pow_ok {k : Nat} {a b : Int} (h : powOk a b) : (ipow a b : M Bag Int) = ret (a ^ b.toNat) := chk_pos h
theorem p20 : (zop2 ipow (ret (10 : Int)) (ret (20 : Int)) : M Bag Int) = ret 100000000000000000000 := by
  rw [zop2_ret, pow_ok (k := 0) (by unfold powOk CPow; decide)]; rfl
theorem ok_takeU {u : Unit} {n : Int} (h1 : 1 ≤ n) (h2 : n < 2 ^ 9000) : Ok Bok (zapp m_w_take (zpair (ret u) (ret n))) (fun v => 0 ≤ v ∧ v < n) := ok_take h1 h2
theorem ok_prices {n : Int} (h : 0 ≤ n ∧ n ≤ 1000) : Ok Bok (m_w_prices ((), n)) (fun xs => xs.length = n.toNat ∧ ∀ x ∈ xs, PriceOk x) := by
  unfold m_w_prices b_w_prices
  rw [p20, zop2_ret, iadd_eq]
  refine ok_body ?_
  refine oks_seq (oks_set (ok_takeU (by omega) (by omega))) fun way hw => ?_
  refine oks_seq (N := PriceOk) (oks_set (ok_ix (k := 4) (Q := PriceOk) (ok_listN (ok_cons (ok_ret (by unfold PriceOk; omega)) (ok_cons (ok_ret (by unfold PriceOk; omega)) (ok_cons (ok_ret (by unfold PriceOk; omega)) (ok_cons ((ok_takeU (by omega) (by omega)).mono fun v hv => by unfold PriceOk; omega) ok_nil)))) (by omega)) (ok_takeU (by omega) (by omega)))) fun one ho => ?_
  rw [zlist_ret (by decide), zset_ret, zseq_nx, zapp_ret, frA1_eq]
  refine oks_seq (N := fun xs => xs.length = n.toNat ∧ ∀ x ∈ xs, PriceOk x) (oks_for (J := fun r xs => xs.length + r.length = n.toNat ∧ ∀ x ∈ xs, PriceOk x) (by simp [rng]) (fun x r a hj => ?_) fun a h => by simpa using h) fun xs hx => oks_rt (ok_ret hx)
  refine oks_seq (N := PriceOk) (oks_app (ok_ix (k := 4) (Q := PriceOk) (ok_listN (ok_cons (ok_ret ho) (ok_cons ((ok_takeU (by omega) (by omega)).mono fun v hv => by unfold PriceOk; omega) (ok_cons ((ok_takeU (by omega) (by omega)).mono fun v hv => by unfold PriceOk; omega) (ok_cons ((ok_takeU (by omega) (by omega)).mono fun v hv => by unfold PriceOk; omega) ok_nil)))) (by omega)) (ok_ret hw)) (by
    have := hj.1
    have : sizeLine = 16777216 := by decide
    simp only [List.length_cons] at *
    omega) fun a h => h) fun v hv => oks_nx ⟨by have := hj.1; simp only [List.length_append, List.length_cons, List.length_nil] at *; omega, fun x hx => by
    rcases List.mem_append.mp hx with q | q
    · exact hj.2 x q
    · simp at q; rw [q]; exact hv⟩
theorem ok_any_plan : Ok Bok (m_w_any_plan ()) Valid := by
  unfold m_w_any_plan b_w_any_plan
  refine ok_body ?_
  refine oks_seq (N := fun b => -100 ≤ b ∧ b ≤ 100) (oks_set (ok_ix (k := 5) (Q := fun b => -100 ≤ b ∧ b ≤ 100) (ok_listN (ok_cons (ok_ret (by omega)) (ok_cons (ok_ret (by omega)) (ok_cons (ok_ret (by omega)) (ok_cons (ok_op2 (ok_takeU (by omega) (by omega)) (P2 := fun v => v = 100) (ok_ret rfl) fun a b ha hb => ok_ret (by omega)) (ok_cons (ok_op2 (ok_takeU (by omega) (by omega)) (P2 := fun v => v = 3) (ok_ret rfl) fun a b ha hb => ok_ret (by omega)) ok_nil))))) (by omega)) (ok_takeU (by omega) (by omega)))) fun b hb => ?_
  refine oks_seq (N := fun xs => xs.length ≤ 40 ∧ ∀ x ∈ xs, PriceOk x) (oks_set (ok_app (ok_pair (P1 := fun _ => True) (ok_ret trivial) (ok_ix (k := 4) (Q := fun v => 0 ≤ v ∧ v ≤ 40) (ok_listN (ok_cons (ok_ret (by omega)) (ok_cons ((ok_takeU (by omega) (by omega)).mono fun v hv => by omega) (ok_cons (ok_ret (by omega)) (ok_cons ((ok_takeU (by omega) (by omega)).mono fun v hv => by omega) ok_nil)))) (by omega)) (ok_takeU (by omega) (by omega)))) fun a ha => (ok_prices (by omega)).mono fun xs hx => ⟨by omega, hx.2⟩)) fun row hr => ?_
  refine oks_seq (N := fun xs => (1 ≤ xs.length ∧ xs.length ≤ 4) ∧ ∀ x ∈ xs, PriceOk x) (oks_set (ok_app (ok_pair (P1 := fun _ => True) (P2 := fun v => 1 ≤ v ∧ v ≤ 4) (ok_ret trivial) (ok_op2 (P1 := fun v => v = 1) (ok_ret rfl) (ok_takeU (by omega) (by omega)) fun a b ha hb => ok_ret (by omega))) fun a ha => (ok_prices (by omega)).mono fun xs hx => ⟨by omega, hx.2⟩)) fun below hl => ?_
  refine oks_rt ((ok_pair (P1 := fun v => v = b) (ok_ret rfl) (ok_pair (P1 := fun v => v = row) (ok_ret rfl) (ok_pair (P1 := fun v => v = below) (P2 := fun xs => (1 ≤ xs.length ∧ xs.length ≤ 4) ∧ ∀ x ∈ xs, PriceOk x) (ok_ret rfl) (ok_app (ok_pair (P1 := fun _ => True) (P2 := fun v => 1 ≤ v ∧ v ≤ 4) (ok_ret trivial) (ok_op2 (P1 := fun v => v = 1) (ok_ret rfl) (ok_takeU (by omega) (by omega)) fun a b ha hb => ok_ret (by omega))) fun a ha => (ok_prices (by omega)).mono fun xs hx => ⟨by omega, hx.2⟩)))).mono fun p hp => ?_)
  obtain ⟨h1, h2, h3, h4, h5⟩ := hp
  exact ⟨by omega, by rw [h2]; exact hr.1, by rw [h3]; exact hl.1, h4, by rw [h2]; exact hr.2, by rw [h3]; exact hl.2, h5⟩
end Zk

namespace Zk
open PySem L2
/-! ### what is due, shown -/
def dueD : Option Int → PyData
  | some k => .tuple [.str "refused", .int k]
  | none => .tuple [.str "made", .none]
theorem due_sh {o : Option Int} (h : ∀ k, o = some k → 0 ≤ k ∧ k < 4) : Sh 22 1 (dueD o) ∧ (dueD o).canLay0 = true := by
  cases o with
  | none => exact ⟨⟨by decide +kernel, by decide +kernel, by decide +kernel, by decide +kernel⟩, by decide +kernel⟩
  | some k =>
    have hk := h k rfl
    have : k = 0 ∨ k = 1 ∨ k = 2 ∨ k = 3 := by omega
    rcases this with rfl | rfl | rfl | rfl <;> exact ⟨⟨by decide +kernel, by decide +kernel, by decide +kernel, by decide +kernel⟩, by decide +kernel⟩
theorem repr_told {τ : Type} {o : Option Int} (h : ∀ k, o = some k → 0 ≤ k ∧ k < 4) : (freprW (datU (dat2w (DatR.w datS) (datU (DatR.w datS) (DatR.w datI))) (DatR.w (dat2 datS datN))) (toldF o) : M τ Str) = ret (dueD o).shown := by
  obtain ⟨h1, h2⟩ := due_sh h
  have e : (datU (dat2w (DatR.w datS) (datU (DatR.w datS) (DatR.w datI))) (DatR.w (dat2 datS datN))).d (toldF o) = dueD o := by cases o <;> rfl
  unfold freprW
  rw [e]
  refine chk_pos ⟨h1.w, h2, by decide, ?_⟩
  have := PyData.shown_le_bulk 1921 (by omega) _ h1.t
  have := h1.b
  have : (1921 + 2) * (dueD o).bulk ≤ (1921 + 2) * 22 := Nat.mul_le_mul_left _ h1.b
  rw [show sizeLine = 16777216 by decide]; omega
theorem repr_due {τ : Type} {o : Option Int} (h : ∀ k, o = some k → 0 ≤ k ∧ k < 4) : (freprY (dueD o) : M τ Str) = ret (dueD o).shown := repr_sh ((due_sh h).1.mono (by omega) (by omega))
/-! ### asked -/
theorem price_at_eq {p : Plan} (v : Wd p) (d : Int) : m_Ladder_price_at (ladF p, PyData.int d) = ret (rungF p d) := by
  obtain ⟨hl, _⟩ := v.l
  obtain ⟨hh, _⟩ := v.h
  unfold m_Ladder_price_at b_Ladder_price_at rungF ladF
  dsimp only
  rw [show (zgetP asI (ret (PyData.int d)) : M Unit Int) = ret d from rfl]
  simp only [zget_ret, zset_ret, zseq_nx, zop2_ret, ilt_eq, zifS_ret, decide_eq_true_eq, zapp_ret, flen_eq, iadd_eq, isub_eq]
  by_cases h1 : d < p.1
  · rw [if_pos (by omega : d - p.1 < 0), if_pos h1, imod_eq (by omega), zop2_ret, show 0 - 1 - (d - p.1) = p.1 - 1 - d by omega, at0_ok (Int.emod_nonneg _ (by omega)) (Int.emod_lt_of_pos _ (by omega))]; rfl
  · rw [if_neg (by omega : ¬ d - p.1 < 0), if_neg h1, znx_ret, zseq_nx]
    by_cases h2 : d < p.1 + p.2.1.length
    · rw [if_pos (by omega : d - p.1 < (p.2.1.length : Int)), if_pos h2, at0_ok (by omega) (by omega)]; rfl
    · rw [if_neg (by omega : ¬ d - p.1 < (p.2.1.length : Int)), if_neg h2, zseq_nx, imod_eq (by omega), zop2_ret, at0_ok (Int.emod_nonneg _ (by omega)) (Int.emod_lt_of_pos _ (by omega))]; rfl
structure Nu (d : PyData) : Prop where
  n : betwF (-(10 ^ 50)) (10 ^ 50) d = wholeF d
theorem nu_lt {i : Int} (h : Nu (.int i)) : i.natAbs < 2 ^ 900 := by
  obtain ⟨j, e, h1, h2⟩ := asI_ok (d := .int i) (lo := -(10 ^ 50)) (hi := 10 ^ 50) h.n
  cases e
  have : (10 : Int) ^ 50 < 2 ^ 900 := by decide +kernel
  omega
def ltD : PyData → PyData → Bool | .int y, .int x => decide (y < x) | _, _ => false
def askedO (way : Int) (x y : PyData) : Option Int :=
  if way = 2 then if betwF 0 (10 ^ 20) x = true then none else some 0
  else if wholeF x = true then if way = 1 then if wholeF y = true then if ltD y x = true then some 1 else none else some 1 else none else some 0
theorem asked_lt {way : Int} {x y : PyData} : ∀ k, askedO way x y = some k → 0 ≤ k ∧ k < 4 := fun k => by
  unfold askedO
  repeat' split
  all_goals intro e; cases e
  all_goals omega
theorem due_asked {way : Int} {x y : PyData} (hx : Nu x) (hy : Nu y) (hw : 0 ≤ way ∧ way < 3) : m_w_asked_due (way, [x, y]) = ret (dueD (askedO way x y)) := by
  unfold m_w_asked_due b_w_asked_due
  dsimp only
  rw [powU (show powOk 10 50 by unfold powOk CPow; decide), powU (show powOk 10 20 by unfold powOk CPow; decide), show (zop1 ineg (ret ((10 : Int) ^ (50 : Int).toNat)) : M Unit Int) = ret (-(10 ^ 50)) from rfl]
  rw [zlc_map (xs := [x, y]) (g := wholeF) (fun e he => by
    rw [zpair_ret, zpair_ret, zapp_ret, within_eq, lft_ret]
    have : e = x ∨ e = y := by simpa using he
    rcases this with rfl | rfl
    · exact congrArg ret hx.n
    · exact congrArg ret hy.n) (show (2 : Nat) ≤ sizeLine by decide), zset_ret, zseq_nx]
  rw [show (zop2 ixat (ret [x, y]) (ret (0 : Int)) : M Unit PyData) = ret x from rfl, show (zop2 ixat (ret [x, y]) (ret (1 : Int)) : M Unit PyData) = ret y from rfl, show List.map wholeF [x, y] = [wholeF x, wholeF y] from rfl, show (zop2 ixat (ret [wholeF x, wholeF y]) (ret (0 : Int)) : M Unit Bool) = ret (wholeF x) from rfl, show (zop2 ixat (ret [wholeF x, wholeF y]) (ret (1 : Int)) : M Unit Bool) = ret (wholeF y) from rfl]
  unfold askedO
  rw [zop2_ret, feq_eq, zifS_ret]
  by_cases w2 : way = 2
  · rw [if_pos (decide_eq_true w2), if_pos w2, zpair_ret, zpair_ret, zpair_ret, zpair_ret, zget_ret, zget_ret, zapp_ret, within_eq, lft_ret]
    rw [show (10 : Int) ^ (20 : Int).toNat = 10 ^ 20 from rfl]
    cases betwF 0 (10 ^ 20) x <;> rfl
  · rw [if_neg (by rw [decide_eq_true_iff]; exact w2), if_neg w2, znx_ret, zseq_nx, znot_ret, zifS_ret]
    cases ex : wholeF x with
    | false => rfl
    | true =>
      rw [show (!true) = false from rfl, if_neg (by decide), if_pos rfl, zseq_nx, zop2_ret, feq_eq]
      by_cases w1 : way = 1
      · rw [decide_eq_true w1, if_pos w1, zand_tt, znot_ret]
        cases ey : wholeF y with
        | false => rfl
        | true =>
          rw [show (!true) = false from rfl, zor_ff, if_pos rfl]
          cases x with
          | int i =>
            cases y with
            | int j =>
              rw [show (zgetP asI (ret (PyData.int i)) : M Unit Int) = ret i from rfl, show (zgetP asI (ret (PyData.int j)) : M Unit Int) = ret j from rfl, zop2_ret, ilt_eq, zifS_ret, show ltD (.int j) (.int i) = decide (j < i) from rfl]
              cases decide (j < i) <;> rfl
            | _ => cases ey
          | _ => cases ex
      · rw [show decide (way = 1) = false from decide_eq_false w1, if_neg w1, zand_ff, zifS_ret]; rfl
theorem plain_valid {i : Int} (h : 0 ≤ i ∧ i ≤ 10 ^ 20) : Valid (0, [], [i], [i]) := by
  have hp : PriceOk i := ⟨h.1, by have := h.2; rw [show (10 : Int) ^ 20 = 100000000000000000000 by decide] at this; exact this⟩
  exact ⟨by simp, by simp, by simp, by simp, by simp, fun x hx => by rw [List.mem_singleton.mp hx]; exact hp, fun x hx => by rw [List.mem_singleton.mp hx]; exact hp⟩
theorem rung_any {p : Plan} {x : PyData} (v : Valid p) : (∃ w, m_Ladder_rung (ladF p, x) = ret w ∧ (if wholeF x = true then none else some (0 : Int)) = none) ∨ ∃ k, m_Ladder_rung (ladF p, x) = rse (wr k) ∧ (if wholeF x = true then none else some (0 : Int)) = some k := by
  unfold m_Ladder_rung b_Ladder_rung
  dsimp only
  rw [zapp_ret, whole_eq, lft_ret, znot_ret, zifS_ret]
  cases x with
  | int i => exact .inl ⟨_, by rw [show wholeF (.int i) = true from rfl, show (!true) = false from rfl, if_neg (by decide), znx_ret, zseq_nx, zmeth_ret, price_at_eq v.w, lft_ret, zrt_ret, zbody_rt], rfl⟩
  | _ => exact .inr ⟨0, rfl, rfl⟩
theorem total_any {p : Plan} {x y : PyData} (v : Valid p) (hx : Nu x) (hy : Nu y) : (∃ w, m_Ladder_total (ladF p, x, y) = ret w ∧ (if wholeF x = true then if wholeF y = true then if ltD y x = true then some (1 : Int) else none else some 1 else some 0) = none) ∨ ∃ k, m_Ladder_total (ladF p, x, y) = rse (wr k) ∧ (if wholeF x = true then if wholeF y = true then if ltD y x = true then some (1 : Int) else none else some 1 else some 0) = some k := by
  unfold m_Ladder_total b_Ladder_total
  dsimp only
  rw [zapp_ret, whole_eq, lft_ret, znot_ret, zifS_ret, zapp_ret, whole_eq, lft_ret, znot_ret]
  cases x with
  | int i =>
    cases y with
    | int j =>
      rw [show (zgetP asI (ret (PyData.int i)) : M Unit Int) = ret i from rfl, show (zgetP asI (ret (PyData.int j)) : M Unit Int) = ret j from rfl, zop2_ret, ilt_eq, show ltD (.int j) (.int i) = decide (j < i) from rfl]
      cases decide (j < i) with
      | true => exact .inr ⟨1, rfl, rfl⟩
      | false =>
        refine .inl ⟨heightF p j - heightF p i, ?_, rfl⟩
        rw [show wholeF (.int i) = true from rfl, show wholeF (.int j) = true from rfl, show (!true) = false from rfl, if_neg (by decide), znx_ret, zseq_nx, zor_ff, zifS_ret, if_neg (by decide), zseq_nx, zmeth_ret, zmeth_ret, height_eq v (nu_lt hx), height_eq v (nu_lt hy), lft_ret, lft_ret, zop2_ret, isub_eq, zrt_ret, zbody_rt]
    | _ => exact .inr ⟨1, rfl, rfl⟩
  | _ => exact .inr ⟨0, rfl, rfl⟩
theorem plain_any {x : PyData} : (∃ w, m_plain x = ret w ∧ (if betwF 0 (10 ^ 20) x = true then none else some (0 : Int)) = none) ∨ ∃ k, m_plain x = rse (wr k) ∧ (if betwF 0 (10 ^ 20) x = true then none else some (0 : Int)) = some k := by
  unfold m_plain b_plain
  rw [zapp_ret, price_eq, lft_ret, znot_ret, zifS_ret]
  cases e : betwF 0 (10 ^ 20) x with
  | false => exact .inr ⟨0, rfl, rfl⟩
  | true =>
    obtain ⟨i, rfl, h1, h2⟩ := asI_ok e
    refine .inl ⟨ladF (0, [], [i], [i]), ?_, rfl⟩
    rw [show (!true) = false from rfl, if_neg (by decide), znx_ret, zseq_nx, show (zgetP asI (ret (PyData.int i)) : M Unit Int) = ret i from rfl, zcons_ret, zlist_eq (by simp), zlist_eq (by simp), zpair_ret, zpair_ret, bnd_ret]
    have := init_eq (plain_valid ⟨h1, h2⟩)
    dsimp only at this ⊢
    rw [this, lft_ret, zrt_ret, zbody_rt]
abbrev T16 : Type := (Str × (Str ⊕ Int)) ⊕ (Str × Unit)
theorem try_told {b : M Unit (Fl Unit Empty T16)} {sm : Exc → M Unit (Fl Unit Empty T16)} {o : Option Int} (h1 : ∀ k, sm (wr k) = ret (.rt (toldF (some k)))) (h2 : b = match o with | some k => rse (wr k) | none => ret (.nx ())) : zbody (zseq (ztryX (fun n => if n = ("Wrong" : Str) then some true else none) b sm) fun _ => zrt (zget Sum.inr (zpair (ret ("made" : Str)) (ret ()))) : M Unit (Fl Unit Empty T16)) = ret (toldF o) := by
  subst h2
  cases o with
  | none => rfl
  | some k =>
    have e : ztryX (fun n => if n = ("Wrong" : Str) then some true else none) (rse (wr k) : M Unit (Fl Unit Empty T16)) sm = sm (wr k) := rfl
    show zbody (zseq (ztryX (fun n => if n = ("Wrong" : Str) then some true else none) (rse (wr k) : M Unit (Fl Unit Empty T16)) sm) fun _ => zrt (zget Sum.inr (zpair (ret ("made" : Str)) (ret ()))) : M Unit (Fl Unit Empty T16)) = _
    rw [e, h1]; rfl
theorem asked_eq {p : Plan} {way : Int} {x y : PyData} (v : Valid p) (hx : Nu x) (hy : Nu y) (hw : 0 ≤ way ∧ way < 3) : m_w_asked (ladF p, way, [x, y]) = ret (toldF (askedO way x y)) := by
  unfold m_w_asked b_w_asked
  refine try_told (fun k => suite_eq _ rfl) ?_
  dsimp only
  rw [show (zop2 ixat (ret [x, y]) (ret (0 : Int)) : M Unit PyData) = ret x from rfl, show (zop2 ixat (ret [x, y]) (ret (1 : Int)) : M Unit PyData) = ret y from rfl, zpair_ret, zmeth_ret, zmeth_ret, zapp_ret, zop2_ret, feq_eq, zop2_ret, feq_eq, zifS_ret, zifS_ret]
  unfold askedO
  have dr : ∀ {α : Type} {m : M Unit α} {o : Option Int}, ((∃ w, m = ret w ∧ o = none) ∨ ∃ k, m = rse (wr k) ∧ o = some k) → (zseq (zdrop (lft m)) fun _ => znx () : M Unit (Fl Unit Empty T16)) = match o with | some k => rse (wr k) | none => ret (.nx ()) := fun {α m o} h => by
    rcases h with ⟨w, rfl, rfl⟩ | ⟨k, rfl, rfl⟩ <;> rfl
  have mm : ∀ o : Option Int, (zseq (match o with | some k => rse (wr k) | none => ret (.nx ())) fun _ => znx () : M Unit (Fl Unit Empty T16)) = match o with | some k => rse (wr k) | none => ret (.nx ()) := fun o => by cases o <;> rfl
  by_cases w0 : way = 0
  · rw [if_pos (decide_eq_true w0), if_neg (by omega : ¬ way = 2), if_neg (by omega : ¬ way = 1)]
    rw [dr (o := if wholeF x = true then none else some 0) (rung_any v), mm]
  · rw [if_neg (by rw [decide_eq_true_iff]; exact w0)]
    by_cases w1 : way = 1
    · rw [if_pos (decide_eq_true w1), if_neg (by omega : ¬ way = 2), if_pos w1]
      rw [dr (o := if wholeF x = true then if wholeF y = true then if ltD y x = true then some 1 else none else some 1 else some 0) (total_any v hx hy), mm, mm]
    · rw [if_neg (by rw [decide_eq_true_iff]; exact w1), if_pos (by omega : way = 2)]
      rw [dr (o := if betwF 0 (10 ^ 20) x = true then none else some 0) plain_any, mm, mm]
theorem ladder_eq {p : Plan} (v : Valid p) : m_w_ladder p = ret (ladF p) := by
  have hinit := init_eq v
  unfold m_w_ladder b_w_ladder
  simp only [zset_ret, zseq_nx, zapp_ret, zpair_ret, bnd_ret, hinit, lft_ret, zrt_ret, zbody_rt]
theorem w_cells_ok (ns : List Int) (h : ns.length ≤ 63) : ∃ cs, w_cells ns = ret cs ∧ ∀ x ∈ cs, 0 ≤ x := by
  refine ⟨((ns.take 63).map fun x => if x < 0 then -x else x), ?_, fun x hx => ?_⟩
  · unfold w_cells
    rw [zsome_ret, zsl_ret, show cut ns none (some (63 : Int)) = ns.take 63 from cut_hi 63, zlc_map (g := fun x => if x < 0 then -x else x) (fun x _ => by rw [zapp_ret, fabs_eq]) (by rw [List.length_take, show sizeLine = 16777216 by decide]; omega)]
  · obtain ⟨y, _, rfl⟩ := List.mem_map.mp hx
    split <;> omega
theorem price_lt {x : Int} (h : PriceOk x) : x.natAbs < 2 ^ 1900 := by
  have h1 := h.1
  have h2 := h.2
  have : (100000000000000000000 : Int) < 2 ^ 1900 := by decide +kernel
  omega
theorem four {Q : PyData → Prop} {xs : List PyData} (h : LOf 4 Q xs) : ∃ a b c d, xs = [a, b, c, d] ∧ Q a ∧ Q b ∧ Q c ∧ Q d := by
  match xs, h.1 with
  | [a, b, c, d], _ => exact ⟨a, b, c, d, rfl, h.2 a (by simp), h.2 b (by simp), h.2 c (by simp), h.2 d (by simp)⟩
theorem two {Q : PyData → Prop} {xs : List PyData} (h : LOf 2 Q xs) : ∃ a b, xs = [a, b] ∧ Q a ∧ Q b := by
  match xs, h.1 with
  | [a, b], _ => exact ⟨a, b, rfl, h.2 a (by simp), h.2 b (by simp)⟩
theorem rng_02 {t : Int} (h : 0 ≤ t ∧ t < 3) : rng 0 t.toNat = [] ∨ rng 0 t.toNat = [0] ∨ rng 0 t.toNat = [0, 1] := by
  have : t = 0 ∨ t = 1 ∨ t = 2 := by omega
  rcases this with rfl | rfl | rfl
  · exact .inl rfl
  · exact .inr (.inl rfl)
  · exact .inr (.inr rfl)
/-! ### the law -/
theorem law_true : ∀ ns : List Int, ns.length ≤ 63 → m_law ns () = .ok true () := fun xs hx => by
  obtain ⟨cs, ec, hc⟩ := w_cells_ok xs hx
  unfold m_law
  refine law_end (I := Bok) ec ⟨Int.le_refl 0, (by decide : (0 : Int) ≤ 1234567891), Int.le_refl 0, hc⟩ ?_
  unfold r_law
  rw [zapp_ret, frA1_eq]
  refine oks_seq (N := fun _ => True) (oks_for (J := fun _ _ => True) trivial (fun _ _ _ _ => ?_) fun _ _ => trivial) fun _ _ => oks_rt (ok_ret rfl)
  refine oks_seq (N := Valid) (oks_set (by rw [zapp_ret]; exact ok_any_plan)) fun p vp => ?_
  have t1 : Th 41 (.list (p.2.2.1.map PyData.int)) := th_ints (fun x hx => price_lt (vp.lp x hx)) (by have := vp.l; omega)
  have t2 : Th 41 (.list (p.2.1.map PyData.int)) := th_ints (fun x hx => price_lt (vp.rp x hx)) (by have := vp.r; omega)
  have t3 : Th 41 (.list (p.2.2.2.map PyData.int)) := th_ints (fun x hx => price_lt (vp.hp x hx)) (by have := vp.h; omega)
  have t4 : Th 41 (.int p.1) := (od_int (by have := vp.b; omega)).t
  refine oks_seq (N := LOf 4 (Th 41)) (oks_set (ok_listN (ok_cons (show Ok Bok (ret (PyData.list (p.2.2.1.map PyData.int))) _ from ok_ret t1) (ok_cons (show Ok Bok (ret (PyData.list (p.2.1.map PyData.int))) _ from ok_ret t2) (ok_cons (show Ok Bok (ret (PyData.list (p.2.2.2.map PyData.int))) _ from ok_ret t3) (ok_cons (show Ok Bok (ret (PyData.int p.1)) _ from ok_ret t4) ok_nil)))) (by decide))) fun ths hths => ?_
  refine oks_seq (N := LOf 4 (Th 164)) (oks_forB (P := fun js => js = [] ∨ js = [0] ∨ js = [0, 1]) (ok_app (ok_tkU (by omega) (by decide +kernel)) fun t ht => by rw [frA1_eq]; exact ok_ret (rng_02 ht)) fun js hjs => ?_) fun qs hqs => ?_
  · have one : ∀ (n : Nat) (ys : List PyData), 41 ≤ n → n ≤ 1000 → LOf 4 (Th n) ys → ∀ {κ ρ : Type} {N : List PyData → Prop} {R : ρ → Prop} {Kb Kc : κ → Prop}, (∀ z, LOf 4 (Th (2 * n)) z → N z) → OkS Bok (zseq (bnd (zcallH (zpair (ret ()) (ret ())) ys m_w_bent) fun r => ret (.nx r.2)) fun gh7 => znx gh7 : M Bag (Fl (List PyData) κ ρ)) N R Kb Kc := fun n ys h1 h2 h3 κ ρ N R Kb Kc hN => by
      refine oks_seq (N := LOf 4 (Th (2 * n))) (fun s hs => ?_) fun zs hz => oks_nx (hN zs hz)
      obtain ⟨r, s', e, i, q⟩ := ok_bent (u := ()) (v := ()) h1 h2 h3 s hs
      refine ⟨.nx r.2, s', ?_, i, q⟩
      rw [zpair_ret, show (zcallH (ret ((), ())) ys m_w_bent : M Bag _) = m_w_bent (((), ()), ys) from rfl]
      unfold bnd
      rw [e]; rfl
    refine oks_zfor (J := fun js ys => (js = [] ∧ LOf 4 (Th 164) ys) ∨ (js = [1] ∧ LOf 4 (Th 82) ys) ∨ (js = [0] ∧ LOf 4 (Th 82) ys) ∨ (js = [0, 1] ∧ LOf 4 (Th 41) ys)) (fun x xs ys hJ => ?_) (fun ys hJ => ?_) js ths ?_
    · rcases hJ with ⟨e, h⟩ | ⟨e, h⟩ | ⟨e, h⟩ | ⟨e, h⟩
      · cases e
      · cases e; exact one 82 ys (by decide) (by decide) h fun z hz => .inl ⟨rfl, hz⟩
      · cases e; exact one 82 ys (by decide) (by decide) h fun z hz => .inl ⟨rfl, hz⟩
      · cases e; exact one 41 ys (by decide) (by decide) h fun z hz => .inr (.inl ⟨rfl, hz⟩)
    · rcases hJ with ⟨e, h⟩ | ⟨e, h⟩ | ⟨e, h⟩ | ⟨e, h⟩
      · exact h
      all_goals cases e
    · rcases hjs with e | e | e
      · exact .inl ⟨e, hths.1, fun x hx => (hths.2 x hx).mono (by omega)⟩
      · exact .inr (.inr (.inl ⟨e, hths.1, fun x hx => (hths.2 x hx).mono (by omega)⟩))
      · exact .inr (.inr (.inr ⟨e, hths⟩))
  obtain ⟨a, b, c, d, rfl, ha, hb, hc', hd⟩ := four hqs
  have sz : ∀ {x : PyData}, Th 164 x → Sz x := fun {x} h ys e => Nat.le_trans (h.l ys e).1 (by omega)
  have sh : Sh 8000 50 (.list [a, b, c, d]) := (sh_list (N := 984) (D := 4) (m := 4) (fun e he => by
    have : e = a ∨ e = b ∨ e = c ∨ e = d := by simpa using he
    rcases this with rfl | rfl | rfl | rfl
    · exact ha.s
    · exact hb.s
    · exact hc'.s
    · exact hd.s) (by simp)).mono (by omega) (by omega)
  have hw : ∀ k, wrongF a b c d = some k → 0 ≤ k ∧ k < 4 := fun k e => by
    rcases init_any (sz ha) (sz hb) (sz hc') (d := d) with ⟨L, e1, _⟩ | ⟨k', e1, hk, _⟩
    · rw [e1] at e; cases e
    · rw [e1] at e; cases e; exact hk
  have er : (zapp freprY (zget ((qL qQ) : DaQ (rLst rQ)).d (ret [a, b, c, d])) : M Bag Str) = ret (PyData.list [a, b, c, d]).shown := by
    rw [zget_ret, zapp_ret, dL, repr_sh sh]
  rw [er, zapp_ret, wrong_eq (sz ha) (sz hb) (sz hc'), lft_ret, zpair_ret, zset_ret, zseq_nx]
  dsimp only
  have ed : (zop2 ixat (zlist (zcons (zget ((q2 qS (qO qI)) : DaQ (rT2 rStr (rOpt rInt))).d (zpair (ret ("refused" : Str)) (ret (wrongF a b c d)))) (zcons (zget ((q2 qS qN) : DaQ (rT2 rStr rNon)).d (zpair (ret ("made" : Str)) (ret ()))) (ret [])))) (zapp fint (zget Option.isNone (ret (wrongF a b c d)))) : M Bag PyData) = ret (dueD (wrongF a b c d)) := by
    cases wrongF a b c d <;> rfl
  rw [ed, zset_ret, zseq_nx, zapp_ret (f := fun x => lft (m_w_made x)), made_eq (sz ha) (sz hb) (sz hc'), lft_ret, zapp_ret, repr_told hw, zapp_ret, repr_due hw, zop2_ret, fne_eq, zop2_ret, fne_eq, decide_eq_true rfl, decide_eq_true rfl, zor_rr, zifS_ret, show (!true || !true) = false from rfl, if_neg (by decide), znx_ret, zseq_nx]
  rw [zapp_ret, ladder_eq vp, lft_ret, zset_ret, zseq_nx]
  have dn : ∀ d, Od d → Nu d := fun d h => ⟨h.n⟩
  refine oks_seq (N := LOf 2 Nu) (oks_set (ok_listN (ok_cons ?_ (ok_cons ?_ ok_nil)) (by decide))) fun num hnum => ?_
  · refine ok_bnd (P := fun v : Int => -4 ≤ v ∧ v ≤ 4) (ok_op2 (P1 := fun v => 0 ≤ v ∧ v < 9) (P2 := fun v => v = 4) (ok_tkU (by omega) (by decide +kernel)) (ok_ret rfl) fun x y hx hy => by rw [isub_eq]; exact ok_ret (by omega)) fun v hv => ok_ret (dn _ (od_int (by omega)))
  · refine ok_bnd (P := fun v : Int => -4 ≤ v ∧ v ≤ 4) (ok_op2 (P1 := fun v => 0 ≤ v ∧ v < 9) (P2 := fun v => v = 4) (ok_tkU (by omega) (by decide +kernel)) (ok_ret rfl) fun x y hx hy => by rw [isub_eq]; exact ok_ret (by omega)) fun v hv => ok_ret (dn _ (od_int (by omega)))
  rw [zapp_ret (f := frA1), frA1_eq]
  refine oks_seq (N := LOf 2 Nu) (oks_for (J := fun js ys => LOf 2 Nu ys ∧ ∀ j ∈ js, 0 ≤ j ∧ j < 2) ⟨hnum, fun j hj => by
    have : j = 0 ∨ j = 1 := by simpa [rng, List.range_succ] using hj
    omega⟩ (fun j js ys hJ => ?_) fun ys hJ => hJ.1) fun ns2 hns2 => ?_
  · refine oks_seq (N := LOf 2 Nu) ?_ fun zs hz => oks_nx ⟨hz, fun k hk => hJ.2 k (by simp [hk])⟩
    refine oks_if (P := fun _ => True) (ok_eqk (ok_any (ok_tkU (by omega) (by decide +kernel)))) (fun _ => ?_) (fun _ => oks_nx hJ.1)
    exact oks_seq (oks_putQ hJ.1 (hJ.2 j (by simp)) (by rw [zapp_ret]; exact ok_odd.mono dn)) fun zs hz => oks_nx hz
  obtain ⟨x, y, rfl, hx, hy⟩ := two hns2
  refine oks_seq (N := fun w : Int => 0 ≤ w ∧ w < 3) (oks_set (ok_tkU (by omega) (by decide +kernel))) fun way hway => ?_
  simp only [zpair_ret]
  rw [zapp_ret (f := fun x => lft (m_w_asked x)), asked_eq vp hx hy hway, lft_ret, zapp_ret, repr_told asked_lt, zapp_ret (f := fun x => lft (m_w_asked_due x)), due_asked hx hy hway, lft_ret, zapp_ret, repr_due asked_lt, zop2_ret, fne_eq, decide_eq_true rfl, zifS_ret, show (!true) = false from rfl, if_neg (by decide), zseq_nx]
  exact oks_nx trivial
end Zk

namespace Zk
open PySem L2

theorem all_mk {P : Program} {w : World} {K : PySem.W.Frag} {h : Heap} {mg : Str → Option Value} {fa C_AheadError C_Wrong f_Wrong_init C_NoText C_TooMany C_Twice C_Ladder f_w_bag f_w_take f_w_prices f_w_any_plan f_w_odd f_w_bent f_w_within f_w_are_prices f_w_wrong f_is_whole f_is_between f_is_price f_are_prices f_sums_of f_Ladder_init D_Ladder_init f_w_place f_w_made f_w_ladder f_Ladder_price_at f_Ladder_rung f_repeated f_Ladder_height f_Ladder_total f_plain f_w_asked f_w_asked_due f_law : Addr} (X : K.In h) (G : h.Ns mainGlobals mg) (hfa : mg "law" = some (.ref fa))
    {u_FARTHEST_AT : Value}
    {u_MOST_PRICE : Value}
    {u_MOST_REPEATED : Value}
    {u_MOST_ROW : Value}
    {nm_Wrong q_Wrong : Str} {N_Wrong : Addr} {bs_Wrong bm_Wrong : List Value} {sn_Wrong : List Str} {sub_Wrong : List Value} {ab_Wrong : Bool} {col_Wrong : Option Bool} {dd_Wrong : Option Addr} {m0_Wrong m1_Wrong m2_Wrong m3_Wrong m5_Wrong : Option Value}
    {od_Wrong_init an_Wrong_init : Option Addr} {sl_Wrong_init : Array (Option Value)} {oc_Wrong_init kV_Wrong_init dc_Wrong_init pm_Wrong_init cd_Wrong_init ct_Wrong_init : Value}
    {od_w_bag an_w_bag : Option Addr} {sl_w_bag : Array (Option Value)} {oc_w_bag kV_w_bag dc_w_bag pm_w_bag cd_w_bag ct_w_bag : Value}
    {od_w_take an_w_take : Option Addr} {sl_w_take : Array (Option Value)} {oc_w_take kV_w_take dc_w_take pm_w_take cd_w_take ct_w_take : Value}
    {od_w_prices an_w_prices : Option Addr} {sl_w_prices : Array (Option Value)} {oc_w_prices kV_w_prices dc_w_prices pm_w_prices cd_w_prices ct_w_prices : Value}
    {od_w_any_plan an_w_any_plan : Option Addr} {sl_w_any_plan : Array (Option Value)} {oc_w_any_plan kV_w_any_plan dc_w_any_plan pm_w_any_plan cd_w_any_plan ct_w_any_plan : Value}
    {od_w_odd an_w_odd : Option Addr} {sl_w_odd : Array (Option Value)} {oc_w_odd kV_w_odd dc_w_odd pm_w_odd cd_w_odd ct_w_odd : Value}
    {od_w_bent an_w_bent : Option Addr} {sl_w_bent : Array (Option Value)} {oc_w_bent kV_w_bent dc_w_bent pm_w_bent cd_w_bent ct_w_bent : Value}
    {od_w_within an_w_within : Option Addr} {sl_w_within : Array (Option Value)} {oc_w_within kV_w_within dc_w_within pm_w_within cd_w_within ct_w_within : Value}
    {od_w_are_prices an_w_are_prices : Option Addr} {sl_w_are_prices : Array (Option Value)} {oc_w_are_prices kV_w_are_prices dc_w_are_prices pm_w_are_prices cd_w_are_prices ct_w_are_prices : Value}
    {od_w_wrong an_w_wrong : Option Addr} {sl_w_wrong : Array (Option Value)} {oc_w_wrong kV_w_wrong dc_w_wrong pm_w_wrong cd_w_wrong ct_w_wrong : Value}
    {od_is_whole an_is_whole : Option Addr} {sl_is_whole : Array (Option Value)} {oc_is_whole kV_is_whole dc_is_whole pm_is_whole cd_is_whole ct_is_whole : Value}
    {od_is_between an_is_between : Option Addr} {sl_is_between : Array (Option Value)} {oc_is_between kV_is_between dc_is_between pm_is_between cd_is_between ct_is_between : Value}
    {od_is_price an_is_price : Option Addr} {sl_is_price : Array (Option Value)} {oc_is_price kV_is_price dc_is_price pm_is_price cd_is_price ct_is_price : Value}
    {od_are_prices an_are_prices : Option Addr} {sl_are_prices : Array (Option Value)} {oc_are_prices kV_are_prices dc_are_prices pm_are_prices cd_are_prices ct_are_prices : Value}
    {od_sums_of an_sums_of : Option Addr} {sl_sums_of : Array (Option Value)} {oc_sums_of kV_sums_of dc_sums_of pm_sums_of cd_sums_of ct_sums_of : Value}
    {od_Ladder_init an_Ladder_init : Option Addr} {sl_Ladder_init : Array (Option Value)} {oc_Ladder_init dc_Ladder_init pm_Ladder_init cd_Ladder_init ct_Ladder_init : Value}
    {w_Ladder_init_at : Tok}
    {od_w_place an_w_place : Option Addr} {sl_w_place : Array (Option Value)} {oc_w_place kV_w_place dc_w_place pm_w_place cd_w_place ct_w_place : Value}
    {od_w_made an_w_made : Option Addr} {sl_w_made : Array (Option Value)} {oc_w_made kV_w_made dc_w_made pm_w_made cd_w_made ct_w_made : Value}
    {od_w_ladder an_w_ladder : Option Addr} {sl_w_ladder : Array (Option Value)} {oc_w_ladder kV_w_ladder dc_w_ladder pm_w_ladder cd_w_ladder ct_w_ladder : Value}
    {od_Ladder_price_at an_Ladder_price_at : Option Addr} {sl_Ladder_price_at : Array (Option Value)} {oc_Ladder_price_at kV_Ladder_price_at dc_Ladder_price_at pm_Ladder_price_at cd_Ladder_price_at ct_Ladder_price_at : Value}
    {od_Ladder_rung an_Ladder_rung : Option Addr} {sl_Ladder_rung : Array (Option Value)} {oc_Ladder_rung kV_Ladder_rung dc_Ladder_rung pm_Ladder_rung cd_Ladder_rung ct_Ladder_rung : Value}
    {od_repeated an_repeated : Option Addr} {sl_repeated : Array (Option Value)} {oc_repeated kV_repeated dc_repeated pm_repeated cd_repeated ct_repeated : Value}
    {od_Ladder_height an_Ladder_height : Option Addr} {sl_Ladder_height : Array (Option Value)} {oc_Ladder_height kV_Ladder_height dc_Ladder_height pm_Ladder_height cd_Ladder_height ct_Ladder_height : Value}
    {od_Ladder_total an_Ladder_total : Option Addr} {sl_Ladder_total : Array (Option Value)} {oc_Ladder_total kV_Ladder_total dc_Ladder_total pm_Ladder_total cd_Ladder_total ct_Ladder_total : Value}
    {od_plain an_plain : Option Addr} {sl_plain : Array (Option Value)} {oc_plain kV_plain dc_plain pm_plain cd_plain ct_plain : Value}
    {od_w_asked an_w_asked : Option Addr} {sl_w_asked : Array (Option Value)} {oc_w_asked kV_w_asked dc_w_asked pm_w_asked cd_w_asked ct_w_asked : Value}
    {od_w_asked_due an_w_asked_due : Option Addr} {sl_w_asked_due : Array (Option Value)} {oc_w_asked_due kV_w_asked_due dc_w_asked_due pm_w_asked_due cd_w_asked_due ct_w_asked_due : Value}
    {od_law an_law : Option Addr} {sl_law : Array (Option Value)} {oc_law kV_law dc_law pm_law cd_law ct_law : Value}
    (z_ValueError : PySem.W.nsIn K mainGlobals "ValueError" = some none)
    (z_abs : PySem.W.nsIn K mainGlobals "abs" = some none)
    (z_all : PySem.W.nsIn K mainGlobals "all" = some none)
    (z_bool : PySem.W.nsIn K mainGlobals "bool" = some none)
    (z_divmod : PySem.W.nsIn K mainGlobals "divmod" = some none)
    (z_enumerate : PySem.W.nsIn K mainGlobals "enumerate" = some none)
    (z_int : PySem.W.nsIn K mainGlobals "int" = some none)
    (z_isinstance : PySem.W.nsIn K mainGlobals "isinstance" = some none)
    (z_len : PySem.W.nsIn K mainGlobals "len" = some none)
    (z_list : PySem.W.nsIn K mainGlobals "list" = some none)
    (z_range : PySem.W.nsIn K mainGlobals "range" = some none)
    (z_repr : PySem.W.nsIn K mainGlobals "repr" = some none)
    (z_tuple : PySem.W.nsIn K mainGlobals "tuple" = some none)
    (m_FARTHEST_AT : PySem.W.nsIn K mainGlobals "FARTHEST_AT" = some (some u_FARTHEST_AT))
    (r_FARTHEST_AT : RelV (.int c_FARTHEST_AT) u_FARTHEST_AT)
    (m_MOST_PRICE : PySem.W.nsIn K mainGlobals "MOST_PRICE" = some (some u_MOST_PRICE))
    (r_MOST_PRICE : RelV (.int c_MOST_PRICE) u_MOST_PRICE)
    (m_MOST_REPEATED : PySem.W.nsIn K mainGlobals "MOST_REPEATED" = some (some u_MOST_REPEATED))
    (r_MOST_REPEATED : RelV (.int c_MOST_REPEATED) u_MOST_REPEATED)
    (m_MOST_ROW : PySem.W.nsIn K mainGlobals "MOST_ROW" = some (some u_MOST_ROW))
    (r_MOST_ROW : RelV (.int c_MOST_ROW) u_MOST_ROW)
    (g_AheadError : PySem.W.nsIn K mainGlobals "AheadError" = some (some (.ref C_AheadError)))
    (rd_AheadError : PySem.W.readsIn K C_AheadError (.type "type") = true)
    (ga_AheadError : PySem.W.specialIn K (.ref C_AheadError) "__getattribute__" = some (some (.builtin "type.__getattribute__")))
    (at_AheadError : PySem.W.findCls K (.ref C_AheadError) (.type "type") "__init__" = some (.val (.builtin "ValueError.__init__")))
    (g_Wrong : PySem.W.nsIn K mainGlobals "Wrong" = some (some (.ref C_Wrong)))
    (xl_Wrong : K.lookup C_Wrong = some (excClassObj nm_Wrong q_Wrong C_Wrong N_Wrong bs_Wrong bm_Wrong true sn_Wrong sub_Wrong ab_Wrong col_Wrong dd_Wrong m0_Wrong m1_Wrong m2_Wrong m3_Wrong m5_Wrong "ValueError.__new__"))
    (bm_Wrong : PySem.HandSPX.refsVE bm_Wrong = true)
    (sa_Wrong : PySem.W.findIn K (.ref C_Wrong) "__setattr__" = some (some (.builtin "object.__setattr__")))
    (ex_Wrong : PySem.W.subIn K (.ref C_Wrong) (.type "BaseException") = some true)
    (ty_Wrong : PySem.W.typeIn K (.ref C_Wrong) = some (.type "type"))
    (kc_Wrong : PySem.W.keepIn K (.ref C_Wrong) = true)
    (xf_Wrong : PySem.W.findIn K (.ref C_Wrong) "at" = some none)
    (a_Wrong_init : PySem.W.findIn K (.ref C_Wrong) "__init__" = some (some (.ref f_Wrong_init)))
    (t_Wrong_init_ : PySem.W.typeIn K (.ref f_Wrong_init) = some (.type "function"))
    (l_Wrong_init : K.lookup f_Wrong_init = some ⟨oc_Wrong_init, od_Wrong_init, .func (PySem.W.fnOf "__init__" "Wrong.__init__" (defArgs t_Wrong_init) (defBody t_Wrong_init) (defScope t_Wrong_init) .none kV_Wrong_init dc_Wrong_init pm_Wrong_init an_Wrong_init cd_Wrong_init ct_Wrong_init), sl_Wrong_init⟩)
    (c_Wrong_init : PySem.W.codeIn K cd_Wrong_init "Wrong.__init__" = true)
    (k_Wrong_init : PySem.W.keepIn K (.ref f_Wrong_init) = true)
    (g_NoText : PySem.W.nsIn K mainGlobals "NoText" = some (some (.ref C_NoText)))
    (g_TooMany : PySem.W.nsIn K mainGlobals "TooMany" = some (some (.ref C_TooMany)))
    (g_Twice : PySem.W.nsIn K mainGlobals "Twice" = some (some (.ref C_Twice)))
    (hx_AheadError : PySem.W.hasDictIn K C_AheadError = true)
    (hx_Wrong : PySem.W.hasDictIn K C_Wrong = true)
    (ex_AheadError : PySem.W.subIn K (.ref C_AheadError) (.type "BaseException") = some true)
    (ty_AheadError : PySem.W.typeIn K (.ref C_AheadError) = some (.type "type"))
    (xg_Wrong : PySem.W.findIn K (.ref C_Wrong) "__getattribute__" = some (some (.builtin "BaseException.__getattribute__")))
    (xk_Wrong : PySem.W.findIn K (.ref C_Wrong) "__getattr__" = some none)
    (xa_Wrong : PySem.W.findIn K (.ref C_Wrong) "__class__" = some (some (.builtin "object.__class__")))
    (xn_Wrong : PySem.W.specialIn K (.builtin "object.__class__") "__get__" = some (some (.builtin "getset_descriptor.__get__")))
    (xt_Wrong : PySem.W.takesIn K (.builtin "object.__class__") = some true)
    (xm_Wrong : PySem.W.mroIn K C_Wrong (.type "object") = some true)
    (cx_NoText : PySem.W.isClsIn K C_NoText = true)
    (ty_NoText : PySem.W.typeIn K (.ref C_NoText) = some (.type "type"))
    (ss_NoText : PySem.W.subIn K (.ref C_NoText) (.ref C_NoText) = some true)
    (sb_Wrong_NoText : PySem.W.subIn K (.ref C_Wrong) (.ref C_NoText) = some false)
    (cx_TooMany : PySem.W.isClsIn K C_TooMany = true)
    (ty_TooMany : PySem.W.typeIn K (.ref C_TooMany) = some (.type "type"))
    (ss_TooMany : PySem.W.subIn K (.ref C_TooMany) (.ref C_TooMany) = some true)
    (sb_Wrong_TooMany : PySem.W.subIn K (.ref C_Wrong) (.ref C_TooMany) = some false)
    (cx_Twice : PySem.W.isClsIn K C_Twice = true)
    (ty_Twice : PySem.W.typeIn K (.ref C_Twice) = some (.type "type"))
    (ss_Twice : PySem.W.subIn K (.ref C_Twice) (.ref C_Twice) = some true)
    (sb_Wrong_Twice : PySem.W.subIn K (.ref C_Wrong) (.ref C_Twice) = some false)
    (st_Wrong_ValueError : PySem.W.subIn K (.ref C_Wrong) (.type "ValueError") = some true)
    (sb_Wrong_AheadError : PySem.W.subIn K (.ref C_Wrong) (.ref C_AheadError) = some true)
    (g_Ladder : PySem.W.nsIn K mainGlobals "Ladder" = some (some (.ref C_Ladder)))
    (pg_Ladder : PySem.W.plainGet K C_Ladder Str.empty = true)
    (hd_Ladder : PySem.W.hasDictIn K C_Ladder = true)
    (po_Ladder : PySem.W.plainOver K C_Ladder = true)
    (sa_Ladder : PySem.W.findIn K (.ref C_Ladder) "__setattr__" = some (some (.builtin "object.__setattr__")))
    (mk_Ladder_ : PySem.W.makesIn K C_Ladder = true)
    (kc_Ladder : PySem.W.keepIn K (.ref C_Ladder) = true)
    (na_Ladder_low : PySem.W.findIn K (.ref C_Ladder) "low" = some none)
    (na_Ladder_middle : PySem.W.findIn K (.ref C_Ladder) "middle" = some none)
    (na_Ladder_high : PySem.W.findIn K (.ref C_Ladder) "high" = some none)
    (na_Ladder_begin : PySem.W.findIn K (.ref C_Ladder) "begin" = some none)
    (na_Ladder_low_sums : PySem.W.findIn K (.ref C_Ladder) "low_sums" = some none)
    (na_Ladder_middle_sums : PySem.W.findIn K (.ref C_Ladder) "middle_sums" = some none)
    (na_Ladder_high_sums : PySem.W.findIn K (.ref C_Ladder) "high_sums" = some none)
    (a_w_bag : PySem.W.nsIn K mainGlobals "_law_bag" = some (some (.ref f_w_bag)))
    (l_w_bag : K.lookup f_w_bag = some ⟨oc_w_bag, od_w_bag, .func (PySem.W.fnOf "_law_bag" "_law_bag" (defArgs t_w_bag) (defBody t_w_bag) (defScope t_w_bag) .none kV_w_bag dc_w_bag pm_w_bag an_w_bag cd_w_bag ct_w_bag), sl_w_bag⟩)
    (c_w_bag : PySem.W.codeIn K cd_w_bag "_law_bag" = true)
    (k_w_bag : PySem.W.keepIn K (.ref f_w_bag) = true)
    (a_w_take : PySem.W.nsIn K mainGlobals "_law_take" = some (some (.ref f_w_take)))
    (l_w_take : K.lookup f_w_take = some ⟨oc_w_take, od_w_take, .func (PySem.W.fnOf "_law_take" "_law_take" (defArgs t_w_take) (defBody t_w_take) (defScope t_w_take) .none kV_w_take dc_w_take pm_w_take an_w_take cd_w_take ct_w_take), sl_w_take⟩)
    (c_w_take : PySem.W.codeIn K cd_w_take "_law_take" = true)
    (k_w_take : PySem.W.keepIn K (.ref f_w_take) = true)
    (a_w_prices : PySem.W.nsIn K mainGlobals "_law_prices" = some (some (.ref f_w_prices)))
    (l_w_prices : K.lookup f_w_prices = some ⟨oc_w_prices, od_w_prices, .func (PySem.W.fnOf "_law_prices" "_law_prices" (defArgs t_w_prices) (defBody t_w_prices) (defScope t_w_prices) .none kV_w_prices dc_w_prices pm_w_prices an_w_prices cd_w_prices ct_w_prices), sl_w_prices⟩)
    (c_w_prices : PySem.W.codeIn K cd_w_prices "_law_prices" = true)
    (k_w_prices : PySem.W.keepIn K (.ref f_w_prices) = true)
    (a_w_any_plan : PySem.W.nsIn K mainGlobals "_law_any_plan" = some (some (.ref f_w_any_plan)))
    (l_w_any_plan : K.lookup f_w_any_plan = some ⟨oc_w_any_plan, od_w_any_plan, .func (PySem.W.fnOf "_law_any_plan" "_law_any_plan" (defArgs t_w_any_plan) (defBody t_w_any_plan) (defScope t_w_any_plan) .none kV_w_any_plan dc_w_any_plan pm_w_any_plan an_w_any_plan cd_w_any_plan ct_w_any_plan), sl_w_any_plan⟩)
    (c_w_any_plan : PySem.W.codeIn K cd_w_any_plan "_law_any_plan" = true)
    (k_w_any_plan : PySem.W.keepIn K (.ref f_w_any_plan) = true)
    (a_w_odd : PySem.W.nsIn K mainGlobals "_law_odd" = some (some (.ref f_w_odd)))
    (l_w_odd : K.lookup f_w_odd = some ⟨oc_w_odd, od_w_odd, .func (PySem.W.fnOf "_law_odd" "_law_odd" (defArgs t_w_odd) (defBody t_w_odd) (defScope t_w_odd) .none kV_w_odd dc_w_odd pm_w_odd an_w_odd cd_w_odd ct_w_odd), sl_w_odd⟩)
    (c_w_odd : PySem.W.codeIn K cd_w_odd "_law_odd" = true)
    (k_w_odd : PySem.W.keepIn K (.ref f_w_odd) = true)
    (a_w_bent : PySem.W.nsIn K mainGlobals "_law_bent" = some (some (.ref f_w_bent)))
    (l_w_bent : K.lookup f_w_bent = some ⟨oc_w_bent, od_w_bent, .func (PySem.W.fnOf "_law_bent" "_law_bent" (defArgs t_w_bent) (defBody t_w_bent) (defScope t_w_bent) .none kV_w_bent dc_w_bent pm_w_bent an_w_bent cd_w_bent ct_w_bent), sl_w_bent⟩)
    (c_w_bent : PySem.W.codeIn K cd_w_bent "_law_bent" = true)
    (k_w_bent : PySem.W.keepIn K (.ref f_w_bent) = true)
    (a_w_within : PySem.W.nsIn K mainGlobals "_law_within" = some (some (.ref f_w_within)))
    (l_w_within : K.lookup f_w_within = some ⟨oc_w_within, od_w_within, .func (PySem.W.fnOf "_law_within" "_law_within" (defArgs t_w_within) (defBody t_w_within) (defScope t_w_within) .none kV_w_within dc_w_within pm_w_within an_w_within cd_w_within ct_w_within), sl_w_within⟩)
    (c_w_within : PySem.W.codeIn K cd_w_within "_law_within" = true)
    (k_w_within : PySem.W.keepIn K (.ref f_w_within) = true)
    (a_w_are_prices : PySem.W.nsIn K mainGlobals "_law_are_prices" = some (some (.ref f_w_are_prices)))
    (l_w_are_prices : K.lookup f_w_are_prices = some ⟨oc_w_are_prices, od_w_are_prices, .func (PySem.W.fnOf "_law_are_prices" "_law_are_prices" (defArgs t_w_are_prices) (defBody t_w_are_prices) (defScope t_w_are_prices) .none kV_w_are_prices dc_w_are_prices pm_w_are_prices an_w_are_prices cd_w_are_prices ct_w_are_prices), sl_w_are_prices⟩)
    (c_w_are_prices : PySem.W.codeIn K cd_w_are_prices "_law_are_prices" = true)
    (k_w_are_prices : PySem.W.keepIn K (.ref f_w_are_prices) = true)
    (a_w_wrong : PySem.W.nsIn K mainGlobals "_law_wrong" = some (some (.ref f_w_wrong)))
    (l_w_wrong : K.lookup f_w_wrong = some ⟨oc_w_wrong, od_w_wrong, .func (PySem.W.fnOf "_law_wrong" "_law_wrong" (defArgs t_w_wrong) (defBody t_w_wrong) (defScope t_w_wrong) .none kV_w_wrong dc_w_wrong pm_w_wrong an_w_wrong cd_w_wrong ct_w_wrong), sl_w_wrong⟩)
    (c_w_wrong : PySem.W.codeIn K cd_w_wrong "_law_wrong" = true)
    (k_w_wrong : PySem.W.keepIn K (.ref f_w_wrong) = true)
    (a_is_whole : PySem.W.nsIn K mainGlobals "is_whole" = some (some (.ref f_is_whole)))
    (l_is_whole : K.lookup f_is_whole = some ⟨oc_is_whole, od_is_whole, .func (PySem.W.fnOf "is_whole" "is_whole" (defArgs t_is_whole) (defBody t_is_whole) (defScope t_is_whole) .none kV_is_whole dc_is_whole pm_is_whole an_is_whole cd_is_whole ct_is_whole), sl_is_whole⟩)
    (c_is_whole : PySem.W.codeIn K cd_is_whole "is_whole" = true)
    (k_is_whole : PySem.W.keepIn K (.ref f_is_whole) = true)
    (a_is_between : PySem.W.nsIn K mainGlobals "is_between" = some (some (.ref f_is_between)))
    (l_is_between : K.lookup f_is_between = some ⟨oc_is_between, od_is_between, .func (PySem.W.fnOf "is_between" "is_between" (defArgs t_is_between) (defBody t_is_between) (defScope t_is_between) .none kV_is_between dc_is_between pm_is_between an_is_between cd_is_between ct_is_between), sl_is_between⟩)
    (c_is_between : PySem.W.codeIn K cd_is_between "is_between" = true)
    (k_is_between : PySem.W.keepIn K (.ref f_is_between) = true)
    (a_is_price : PySem.W.nsIn K mainGlobals "is_price" = some (some (.ref f_is_price)))
    (l_is_price : K.lookup f_is_price = some ⟨oc_is_price, od_is_price, .func (PySem.W.fnOf "is_price" "is_price" (defArgs t_is_price) (defBody t_is_price) (defScope t_is_price) .none kV_is_price dc_is_price pm_is_price an_is_price cd_is_price ct_is_price), sl_is_price⟩)
    (c_is_price : PySem.W.codeIn K cd_is_price "is_price" = true)
    (k_is_price : PySem.W.keepIn K (.ref f_is_price) = true)
    (a_are_prices : PySem.W.nsIn K mainGlobals "are_prices" = some (some (.ref f_are_prices)))
    (l_are_prices : K.lookup f_are_prices = some ⟨oc_are_prices, od_are_prices, .func (PySem.W.fnOf "are_prices" "are_prices" (defArgs t_are_prices) (defBody t_are_prices) (defScope t_are_prices) .none kV_are_prices dc_are_prices pm_are_prices an_are_prices cd_are_prices ct_are_prices), sl_are_prices⟩)
    (c_are_prices : PySem.W.codeIn K cd_are_prices "are_prices" = true)
    (k_are_prices : PySem.W.keepIn K (.ref f_are_prices) = true)
    (a_sums_of : PySem.W.nsIn K mainGlobals "sums_of" = some (some (.ref f_sums_of)))
    (l_sums_of : K.lookup f_sums_of = some ⟨oc_sums_of, od_sums_of, .func (PySem.W.fnOf "sums_of" "sums_of" (defArgs t_sums_of) (defBody t_sums_of) (defScope t_sums_of) .none kV_sums_of dc_sums_of pm_sums_of an_sums_of cd_sums_of ct_sums_of), sl_sums_of⟩)
    (c_sums_of : PySem.W.codeIn K cd_sums_of "sums_of" = true)
    (k_sums_of : PySem.W.keepIn K (.ref f_sums_of) = true)
    (a_Ladder_init : PySem.W.findIn K (.ref C_Ladder) "__init__" = some (some (.ref f_Ladder_init)))
    (i_Ladder_init : PySem.W.isFn K (.ref f_Ladder_init) = true)
    (l_Ladder_init : K.lookup f_Ladder_init = some ⟨oc_Ladder_init, od_Ladder_init, .func (PySem.W.fnOf "__init__" "Ladder.__init__" (defArgs t_Ladder_init) (defBody t_Ladder_init) (defScope t_Ladder_init) .none (.ref D_Ladder_init) dc_Ladder_init pm_Ladder_init an_Ladder_init cd_Ladder_init ct_Ladder_init), sl_Ladder_init⟩)
    (c_Ladder_init : PySem.W.codeIn K cd_Ladder_init "Ladder.__init__" = true)
    (k_Ladder_init : PySem.W.keepIn K (.ref f_Ladder_init) = true)
    (d_Ladder_init_at : PySem.W.nsIn K D_Ladder_init "at" = some (some (.int 0 w_Ladder_init_at)))
    (a_w_place : PySem.W.nsIn K mainGlobals "_law_place" = some (some (.ref f_w_place)))
    (l_w_place : K.lookup f_w_place = some ⟨oc_w_place, od_w_place, .func (PySem.W.fnOf "_law_place" "_law_place" (defArgs t_w_place) (defBody t_w_place) (defScope t_w_place) .none kV_w_place dc_w_place pm_w_place an_w_place cd_w_place ct_w_place), sl_w_place⟩)
    (c_w_place : PySem.W.codeIn K cd_w_place "_law_place" = true)
    (k_w_place : PySem.W.keepIn K (.ref f_w_place) = true)
    (a_w_made : PySem.W.nsIn K mainGlobals "_law_made" = some (some (.ref f_w_made)))
    (l_w_made : K.lookup f_w_made = some ⟨oc_w_made, od_w_made, .func (PySem.W.fnOf "_law_made" "_law_made" (defArgs t_w_made) (defBody t_w_made) (defScope t_w_made) .none kV_w_made dc_w_made pm_w_made an_w_made cd_w_made ct_w_made), sl_w_made⟩)
    (c_w_made : PySem.W.codeIn K cd_w_made "_law_made" = true)
    (k_w_made : PySem.W.keepIn K (.ref f_w_made) = true)
    (a_w_ladder : PySem.W.nsIn K mainGlobals "_law_ladder" = some (some (.ref f_w_ladder)))
    (l_w_ladder : K.lookup f_w_ladder = some ⟨oc_w_ladder, od_w_ladder, .func (PySem.W.fnOf "_law_ladder" "_law_ladder" (defArgs t_w_ladder) (defBody t_w_ladder) (defScope t_w_ladder) .none kV_w_ladder dc_w_ladder pm_w_ladder an_w_ladder cd_w_ladder ct_w_ladder), sl_w_ladder⟩)
    (c_w_ladder : PySem.W.codeIn K cd_w_ladder "_law_ladder" = true)
    (k_w_ladder : PySem.W.keepIn K (.ref f_w_ladder) = true)
    (a_Ladder_price_at : PySem.W.findIn K (.ref C_Ladder) "price_at" = some (some (.ref f_Ladder_price_at)))
    (i_Ladder_price_at : PySem.W.isFn K (.ref f_Ladder_price_at) = true)
    (l_Ladder_price_at : K.lookup f_Ladder_price_at = some ⟨oc_Ladder_price_at, od_Ladder_price_at, .func (PySem.W.fnOf "price_at" "Ladder.price_at" (defArgs t_Ladder_price_at) (defBody t_Ladder_price_at) (defScope t_Ladder_price_at) .none kV_Ladder_price_at dc_Ladder_price_at pm_Ladder_price_at an_Ladder_price_at cd_Ladder_price_at ct_Ladder_price_at), sl_Ladder_price_at⟩)
    (c_Ladder_price_at : PySem.W.codeIn K cd_Ladder_price_at "Ladder.price_at" = true)
    (k_Ladder_price_at : PySem.W.keepIn K (.ref f_Ladder_price_at) = true)
    (a_Ladder_rung : PySem.W.findIn K (.ref C_Ladder) "rung" = some (some (.ref f_Ladder_rung)))
    (i_Ladder_rung : PySem.W.isFn K (.ref f_Ladder_rung) = true)
    (l_Ladder_rung : K.lookup f_Ladder_rung = some ⟨oc_Ladder_rung, od_Ladder_rung, .func (PySem.W.fnOf "rung" "Ladder.rung" (defArgs t_Ladder_rung) (defBody t_Ladder_rung) (defScope t_Ladder_rung) .none kV_Ladder_rung dc_Ladder_rung pm_Ladder_rung an_Ladder_rung cd_Ladder_rung ct_Ladder_rung), sl_Ladder_rung⟩)
    (c_Ladder_rung : PySem.W.codeIn K cd_Ladder_rung "Ladder.rung" = true)
    (k_Ladder_rung : PySem.W.keepIn K (.ref f_Ladder_rung) = true)
    (a_repeated : PySem.W.nsIn K mainGlobals "repeated" = some (some (.ref f_repeated)))
    (l_repeated : K.lookup f_repeated = some ⟨oc_repeated, od_repeated, .func (PySem.W.fnOf "repeated" "repeated" (defArgs t_repeated) (defBody t_repeated) (defScope t_repeated) .none kV_repeated dc_repeated pm_repeated an_repeated cd_repeated ct_repeated), sl_repeated⟩)
    (c_repeated : PySem.W.codeIn K cd_repeated "repeated" = true)
    (k_repeated : PySem.W.keepIn K (.ref f_repeated) = true)
    (a_Ladder_height : PySem.W.findIn K (.ref C_Ladder) "height" = some (some (.ref f_Ladder_height)))
    (i_Ladder_height : PySem.W.isFn K (.ref f_Ladder_height) = true)
    (l_Ladder_height : K.lookup f_Ladder_height = some ⟨oc_Ladder_height, od_Ladder_height, .func (PySem.W.fnOf "height" "Ladder.height" (defArgs t_Ladder_height) (defBody t_Ladder_height) (defScope t_Ladder_height) .none kV_Ladder_height dc_Ladder_height pm_Ladder_height an_Ladder_height cd_Ladder_height ct_Ladder_height), sl_Ladder_height⟩)
    (c_Ladder_height : PySem.W.codeIn K cd_Ladder_height "Ladder.height" = true)
    (k_Ladder_height : PySem.W.keepIn K (.ref f_Ladder_height) = true)
    (a_Ladder_total : PySem.W.findIn K (.ref C_Ladder) "total" = some (some (.ref f_Ladder_total)))
    (i_Ladder_total : PySem.W.isFn K (.ref f_Ladder_total) = true)
    (l_Ladder_total : K.lookup f_Ladder_total = some ⟨oc_Ladder_total, od_Ladder_total, .func (PySem.W.fnOf "total" "Ladder.total" (defArgs t_Ladder_total) (defBody t_Ladder_total) (defScope t_Ladder_total) .none kV_Ladder_total dc_Ladder_total pm_Ladder_total an_Ladder_total cd_Ladder_total ct_Ladder_total), sl_Ladder_total⟩)
    (c_Ladder_total : PySem.W.codeIn K cd_Ladder_total "Ladder.total" = true)
    (k_Ladder_total : PySem.W.keepIn K (.ref f_Ladder_total) = true)
    (a_plain : PySem.W.nsIn K mainGlobals "plain" = some (some (.ref f_plain)))
    (l_plain : K.lookup f_plain = some ⟨oc_plain, od_plain, .func (PySem.W.fnOf "plain" "plain" (defArgs t_plain) (defBody t_plain) (defScope t_plain) .none kV_plain dc_plain pm_plain an_plain cd_plain ct_plain), sl_plain⟩)
    (c_plain : PySem.W.codeIn K cd_plain "plain" = true)
    (k_plain : PySem.W.keepIn K (.ref f_plain) = true)
    (a_w_asked : PySem.W.nsIn K mainGlobals "_law_asked" = some (some (.ref f_w_asked)))
    (l_w_asked : K.lookup f_w_asked = some ⟨oc_w_asked, od_w_asked, .func (PySem.W.fnOf "_law_asked" "_law_asked" (defArgs t_w_asked) (defBody t_w_asked) (defScope t_w_asked) .none kV_w_asked dc_w_asked pm_w_asked an_w_asked cd_w_asked ct_w_asked), sl_w_asked⟩)
    (c_w_asked : PySem.W.codeIn K cd_w_asked "_law_asked" = true)
    (k_w_asked : PySem.W.keepIn K (.ref f_w_asked) = true)
    (a_w_asked_due : PySem.W.nsIn K mainGlobals "_law_asked_due" = some (some (.ref f_w_asked_due)))
    (l_w_asked_due : K.lookup f_w_asked_due = some ⟨oc_w_asked_due, od_w_asked_due, .func (PySem.W.fnOf "_law_asked_due" "_law_asked_due" (defArgs t_w_asked_due) (defBody t_w_asked_due) (defScope t_w_asked_due) .none kV_w_asked_due dc_w_asked_due pm_w_asked_due an_w_asked_due cd_w_asked_due ct_w_asked_due), sl_w_asked_due⟩)
    (c_w_asked_due : PySem.W.codeIn K cd_w_asked_due "_law_asked_due" = true)
    (k_w_asked_due : PySem.W.keepIn K (.ref f_w_asked_due) = true)
    (a_law : PySem.W.nsIn K mainGlobals "law" = some (some (.ref f_law)))
    (l_law : K.lookup f_law = some ⟨oc_law, od_law, .func (PySem.W.fnOf "law" "law" (defArgs t_law) (defBody t_law) (defScope t_law) .none kV_law dc_law pm_law an_law cd_law ct_law), sl_law⟩)
    (c_law : PySem.W.codeIn K cd_law "law" = true)
    (k_law : PySem.W.keepIn K (.ref f_law) = true) :
    ∃ fd : FuncData, (∀ (s : Shared) (v : Value), BindsTo s fd ⟨[v], []⟩ [("_law_script", v)]) ∧ ∀ base : Heap, K.In base → base.Ns mainGlobals mg → FnG true P w K mg base 9 fa fd ["_law_script"] (spZ ⟨P, w, K, mg, base⟩ (fun _ : Unit => noE) (fun (_ : Unit) (p : List Int) => [(rSc K rInt).pr p]) m_law rBl) := by
  have e := hfa.symm.trans (PySem.W.mg_of X G a_law)
  cases e
  have F_Wrong_init := fun_mk (st := t_Wrong_init) l_Wrong_init c_Wrong_init k_Wrong_init
  have B_Wrong_init := F_Wrong_init.binds (ps := ["self", "at"]) fun _ _ _ _ _ _ us hl => match us, hl with | [_, _], _ => rfl
  have F_w_bag := fun_mk (st := t_w_bag) l_w_bag c_w_bag k_w_bag
  have B_w_bag := F_w_bag.binds (ps := ["_law_script"]) fun _ _ _ _ _ _ us hl => match us, hl with | [_], _ => rfl
  have F_w_take := fun_mk (st := t_w_take) l_w_take c_w_take k_w_take
  have B_w_take := F_w_take.binds (ps := ["_law_bag_here", "_law_many"]) fun _ _ _ _ _ _ us hl => match us, hl with | [_, _], _ => rfl
  have F_w_prices := fun_mk (st := t_w_prices) l_w_prices c_w_prices k_w_prices
  have B_w_prices := F_w_prices.binds (ps := ["_law_bag_here", "_law_many"]) fun _ _ _ _ _ _ us hl => match us, hl with | [_, _], _ => rfl
  have F_w_any_plan := fun_mk (st := t_w_any_plan) l_w_any_plan c_w_any_plan k_w_any_plan
  have B_w_any_plan := F_w_any_plan.binds (ps := ["_law_bag_here"]) fun _ _ _ _ _ _ us hl => match us, hl with | [_], _ => rfl
  have F_w_odd := fun_mk (st := t_w_odd) l_w_odd c_w_odd k_w_odd
  have B_w_odd := F_w_odd.binds (ps := ["_law_bag_here"]) fun _ _ _ _ _ _ us hl => match us, hl with | [_], _ => rfl
  have F_w_bent := fun_mk (st := t_w_bent) l_w_bent c_w_bent k_w_bent
  have B_w_bent := F_w_bent.binds (ps := ["_law_bag_here", "_law_things"]) fun _ _ _ _ _ _ us hl => match us, hl with | [_, _], _ => rfl
  have F_w_within := fun_mk (st := t_w_within) l_w_within c_w_within k_w_within
  have B_w_within := F_w_within.binds (ps := ["_law_thing", "_law_low", "_law_high"]) fun _ _ _ _ _ _ us hl => match us, hl with | [_, _, _], _ => rfl
  have F_w_are_prices := fun_mk (st := t_w_are_prices) l_w_are_prices c_w_are_prices k_w_are_prices
  have B_w_are_prices := F_w_are_prices.binds (ps := ["_law_thing", "_law_low", "_law_high"]) fun _ _ _ _ _ _ us hl => match us, hl with | [_, _, _], _ => rfl
  have F_w_wrong := fun_mk (st := t_w_wrong) l_w_wrong c_w_wrong k_w_wrong
  have B_w_wrong := F_w_wrong.binds (ps := ["_law_things"]) fun _ _ _ _ _ _ us hl => match us, hl with | [_], _ => rfl
  have F_is_whole := fun_mk (st := t_is_whole) l_is_whole c_is_whole k_is_whole
  have B_is_whole := F_is_whole.binds (ps := ["thing"]) fun _ _ _ _ _ _ us hl => match us, hl with | [_], _ => rfl
  have F_is_between := fun_mk (st := t_is_between) l_is_between c_is_between k_is_between
  have B_is_between := F_is_between.binds (ps := ["thing", "low", "high"]) fun _ _ _ _ _ _ us hl => match us, hl with | [_, _, _], _ => rfl
  have F_is_price := fun_mk (st := t_is_price) l_is_price c_is_price k_is_price
  have B_is_price := F_is_price.binds (ps := ["thing"]) fun _ _ _ _ _ _ us hl => match us, hl with | [_], _ => rfl
  have F_are_prices := fun_mk (st := t_are_prices) l_are_prices c_are_prices k_are_prices
  have B_are_prices := F_are_prices.binds (ps := ["thing", "least", "most"]) fun _ _ _ _ _ _ us hl => match us, hl with | [_, _, _], _ => rfl
  have F_sums_of := fun_mk (st := t_sums_of) l_sums_of c_sums_of k_sums_of
  have B_sums_of := F_sums_of.binds (ps := ["prices"]) fun _ _ _ _ _ _ us hl => match us, hl with | [_], _ => rfl
  have F_Ladder_init : FunD K "__init__" "Ladder.__init__" (defArgs t_Ladder_init) (defBody t_Ladder_init) (defScope t_Ladder_init) [] [("at", .int 0)] f_Ladder_init _ := ⟨⟨_, _, _, _, _, _, _, _, _, _, rfl, l_Ladder_init, c_Ladder_init, .inl ⟨rfl, rfl⟩, .inr ⟨D_Ladder_init, rfl, fun q hq => by simp only [List.mem_cons, List.not_mem_nil, or_false] at hq; rcases hq with rfl; exact ⟨_, d_Ladder_init_at, ⟨_, rfl⟩⟩⟩⟩, k_Ladder_init⟩
  have F_w_place := fun_mk (st := t_w_place) l_w_place c_w_place k_w_place
  have B_w_place := F_w_place.binds (ps := ["_law_e"]) fun _ _ _ _ _ _ us hl => match us, hl with | [_], _ => rfl
  have F_w_made := fun_mk (st := t_w_made) l_w_made c_w_made k_w_made
  have B_w_made := F_w_made.binds (ps := ["_law_things"]) fun _ _ _ _ _ _ us hl => match us, hl with | [_], _ => rfl
  have F_w_ladder := fun_mk (st := t_w_ladder) l_w_ladder c_w_ladder k_w_ladder
  have B_w_ladder := F_w_ladder.binds (ps := ["_law_plan"]) fun _ _ _ _ _ _ us hl => match us, hl with | [_], _ => rfl
  have F_Ladder_price_at := fun_mk (st := t_Ladder_price_at) l_Ladder_price_at c_Ladder_price_at k_Ladder_price_at
  have B_Ladder_price_at := F_Ladder_price_at.binds (ps := ["self", "d"]) fun _ _ _ _ _ _ us hl => match us, hl with | [_, _], _ => rfl
  have F_Ladder_rung := fun_mk (st := t_Ladder_rung) l_Ladder_rung c_Ladder_rung k_Ladder_rung
  have B_Ladder_rung := F_Ladder_rung.binds (ps := ["self", "d"]) fun _ _ _ _ _ _ us hl => match us, hl with | [_, _], _ => rfl
  have F_repeated := fun_mk (st := t_repeated) l_repeated c_repeated k_repeated
  have B_repeated := F_repeated.binds (ps := ["sums", "many"]) fun _ _ _ _ _ _ us hl => match us, hl with | [_, _], _ => rfl
  have F_Ladder_height := fun_mk (st := t_Ladder_height) l_Ladder_height c_Ladder_height k_Ladder_height
  have B_Ladder_height := F_Ladder_height.binds (ps := ["self", "d"]) fun _ _ _ _ _ _ us hl => match us, hl with | [_, _], _ => rfl
  have F_Ladder_total := fun_mk (st := t_Ladder_total) l_Ladder_total c_Ladder_total k_Ladder_total
  have B_Ladder_total := F_Ladder_total.binds (ps := ["self", "low", "high"]) fun _ _ _ _ _ _ us hl => match us, hl with | [_, _, _], _ => rfl
  have F_plain := fun_mk (st := t_plain) l_plain c_plain k_plain
  have B_plain := F_plain.binds (ps := ["price"]) fun _ _ _ _ _ _ us hl => match us, hl with | [_], _ => rfl
  have F_w_asked := fun_mk (st := t_w_asked) l_w_asked c_w_asked k_w_asked
  have B_w_asked := F_w_asked.binds (ps := ["_law_ladder_here", "_law_way", "_law_things"]) fun _ _ _ _ _ _ us hl => match us, hl with | [_, _, _], _ => rfl
  have F_w_asked_due := fun_mk (st := t_w_asked_due) l_w_asked_due c_w_asked_due k_w_asked_due
  have B_w_asked_due := F_w_asked_due.binds (ps := ["_law_way", "_law_things"]) fun _ _ _ _ _ _ us hl => match us, hl with | [_, _], _ => rfl
  refine ⟨PySem.W.fnOf "law" "law" (defArgs t_law) (defBody t_law) (defScope t_law) .none kV_law dc_law pm_law an_law cd_law ct_law, fun s v => .of_eq rfl, fun base _ _ => ?_⟩
  have T : Txt ⟨P, w, K, mg, base⟩ ⟨C_Ladder, C_Wrong, C_AheadError, C_NoText, C_TooMany, C_Twice⟩ := {
    b_ValueError := PySem.W.mg_none_of X G z_ValueError,
    b_abs := PySem.W.mg_none_of X G z_abs,
    b_all := PySem.W.mg_none_of X G z_all,
    b_bool := PySem.W.mg_none_of X G z_bool,
    b_divmod := PySem.W.mg_none_of X G z_divmod,
    b_enumerate := PySem.W.mg_none_of X G z_enumerate,
    b_int := PySem.W.mg_none_of X G z_int,
    b_isinstance := PySem.W.mg_none_of X G z_isinstance,
    b_len := PySem.W.mg_none_of X G z_len,
    b_list := PySem.W.mg_none_of X G z_list,
    b_range := PySem.W.mg_none_of X G z_range,
    b_repr := PySem.W.mg_none_of X G z_repr,
    b_tuple := PySem.W.mg_none_of X G z_tuple,
    c_FARTHEST_AT := ⟨u_FARTHEST_AT, PySem.W.mg_of X G m_FARTHEST_AT, r_FARTHEST_AT⟩,
    c_MOST_PRICE := ⟨u_MOST_PRICE, PySem.W.mg_of X G m_MOST_PRICE, r_MOST_PRICE⟩,
    c_MOST_REPEATED := ⟨u_MOST_REPEATED, PySem.W.mg_of X G m_MOST_REPEATED, r_MOST_REPEATED⟩,
    c_MOST_ROW := ⟨u_MOST_ROW, PySem.W.mg_of X G m_MOST_ROW, r_MOST_ROW⟩,
    g_AheadError := PySem.W.mg_of X G g_AheadError,
    ain_AheadError := ⟨.type "type", ⟨rd_AheadError, ga_AheadError⟩, at_AheadError⟩,
    g_Wrong := PySem.W.mg_of X G g_Wrong,
    ox_Wrong := ⟨⟨_, _, _, _, _, _, _, _, _, _, _, _, _, _, _, xl_Wrong, bm_Wrong⟩, sa_Wrong, ex_Wrong, ty_Wrong, kc_Wrong⟩,
    xi_Wrong := ⟨f_Wrong_init, _, a_Wrong_init, t_Wrong_init_, B_Wrong_init, F_Wrong_init⟩,
    xf_Wrong := xf_Wrong,
    g_NoText := PySem.W.mg_of X G g_NoText,
    g_TooMany := PySem.W.mg_of X G g_TooMany,
    g_Twice := PySem.W.mg_of X G g_Twice,
    xc_Wrong := ⟨xg_Wrong, xk_Wrong, ex_Wrong, hx_Wrong, xa_Wrong, xn_Wrong, xt_Wrong, xm_Wrong⟩,
    ki_Wrong_NoText := kit_ref cx_NoText ty_NoText ss_NoText sb_Wrong_NoText,
    ki_Wrong_TooMany := kit_ref cx_TooMany ty_TooMany ss_TooMany sb_Wrong_TooMany,
    ki_Wrong_Twice := kit_ref cx_Twice ty_Twice ss_Twice sb_Wrong_Twice,
    ki_Wrong_ValueError := kit_ty (by decide) st_Wrong_ValueError,
    ki_Wrong_Wrong := kit_self,
    em_Wrong_AheadError := PySem.W.exm_ref ex_AheadError hx_AheadError ty_AheadError sb_Wrong_AheadError,
    g_Ladder := PySem.W.mg_of X G g_Ladder,
    cl_Ladder := ⟨pg_Ladder, hd_Ladder, po_Ladder, sa_Ladder⟩,
    na_Ladder_low := na_Ladder_low,
    na_Ladder_middle := na_Ladder_middle,
    na_Ladder_high := na_Ladder_high,
    na_Ladder_begin := na_Ladder_begin,
    na_Ladder_low_sums := na_Ladder_low_sums,
    na_Ladder_middle_sums := na_Ladder_middle_sums,
    na_Ladder_high_sums := na_Ladder_high_sums,
    d_w_bag := ⟨f_w_bag, _, PySem.W.mg_of X G a_w_bag, k_w_bag, B_w_bag, F_w_bag⟩,
    d_w_take := ⟨f_w_take, _, PySem.W.mg_of X G a_w_take, k_w_take, B_w_take, F_w_take⟩,
    d_w_prices := ⟨f_w_prices, _, PySem.W.mg_of X G a_w_prices, k_w_prices, B_w_prices, F_w_prices⟩,
    d_w_any_plan := ⟨f_w_any_plan, _, PySem.W.mg_of X G a_w_any_plan, k_w_any_plan, B_w_any_plan, F_w_any_plan⟩,
    d_w_odd := ⟨f_w_odd, _, PySem.W.mg_of X G a_w_odd, k_w_odd, B_w_odd, F_w_odd⟩,
    d_w_bent := ⟨f_w_bent, _, PySem.W.mg_of X G a_w_bent, k_w_bent, B_w_bent, F_w_bent⟩,
    d_w_within := ⟨f_w_within, _, PySem.W.mg_of X G a_w_within, k_w_within, B_w_within, F_w_within⟩,
    d_w_are_prices := ⟨f_w_are_prices, _, PySem.W.mg_of X G a_w_are_prices, k_w_are_prices, B_w_are_prices, F_w_are_prices⟩,
    d_w_wrong := ⟨f_w_wrong, _, PySem.W.mg_of X G a_w_wrong, k_w_wrong, B_w_wrong, F_w_wrong⟩,
    d_is_whole := ⟨f_is_whole, _, PySem.W.mg_of X G a_is_whole, k_is_whole, B_is_whole, F_is_whole⟩,
    d_is_between := ⟨f_is_between, _, PySem.W.mg_of X G a_is_between, k_is_between, B_is_between, F_is_between⟩,
    d_is_price := ⟨f_is_price, _, PySem.W.mg_of X G a_is_price, k_is_price, B_is_price, F_is_price⟩,
    d_are_prices := ⟨f_are_prices, _, PySem.W.mg_of X G a_are_prices, k_are_prices, B_are_prices, F_are_prices⟩,
    d_sums_of := ⟨f_sums_of, _, PySem.W.mg_of X G a_sums_of, k_sums_of, B_sums_of, F_sums_of⟩,
    d_Ladder_init := ⟨f_Ladder_init, _, ⟨mk_Ladder_, a_Ladder_init, i_Ladder_init, kc_Ladder⟩, F_Ladder_init⟩,
    d_w_place := ⟨f_w_place, _, PySem.W.mg_of X G a_w_place, k_w_place, B_w_place, F_w_place⟩,
    d_w_made := ⟨f_w_made, _, PySem.W.mg_of X G a_w_made, k_w_made, B_w_made, F_w_made⟩,
    d_w_ladder := ⟨f_w_ladder, _, PySem.W.mg_of X G a_w_ladder, k_w_ladder, B_w_ladder, F_w_ladder⟩,
    d_Ladder_price_at := ⟨f_Ladder_price_at, _, ⟨a_Ladder_price_at, i_Ladder_price_at, k_Ladder_price_at⟩, B_Ladder_price_at, F_Ladder_price_at⟩,
    d_Ladder_rung := ⟨f_Ladder_rung, _, ⟨a_Ladder_rung, i_Ladder_rung, k_Ladder_rung⟩, B_Ladder_rung, F_Ladder_rung⟩,
    d_repeated := ⟨f_repeated, _, PySem.W.mg_of X G a_repeated, k_repeated, B_repeated, F_repeated⟩,
    d_Ladder_height := ⟨f_Ladder_height, _, ⟨a_Ladder_height, i_Ladder_height, k_Ladder_height⟩, B_Ladder_height, F_Ladder_height⟩,
    d_Ladder_total := ⟨f_Ladder_total, _, ⟨a_Ladder_total, i_Ladder_total, k_Ladder_total⟩, B_Ladder_total, F_Ladder_total⟩,
    d_plain := ⟨f_plain, _, PySem.W.mg_of X G a_plain, k_plain, B_plain, F_plain⟩,
    d_w_asked := ⟨f_w_asked, _, PySem.W.mg_of X G a_w_asked, k_w_asked, B_w_asked, F_w_asked⟩,
    d_w_asked_due := ⟨f_w_asked_due, _, PySem.W.mg_of X G a_w_asked_due, k_w_asked_due, B_w_asked_due, F_w_asked_due⟩ }
  exact (f_law T (fun_mk (st := t_law) l_law c_law k_law)).up fun _ => rfl
end Zk
open PySem PySem.W PyProof.Rows in
set_option maxRecDepth 100000 in
set_option maxHeartbeats 0 in
theorem PySem.Challenge.cw_aheadpays_k16_ladders_refused_holds : PySem.Challenge.rw_aheadpays_k16_ladders_refused.Holds := by
  w_on; o_law; k_head; (case hw => w_witness2)
  k_fill
  refine Zk.walk_G (l := PySem.Challenge.rw_aheadpays_k16_ladders_refused) (n := 63) (k := 9) (x := "_law_script") (m := Zk.m_law) rfl (by decide) rfl ⟨rfl, by decide, by decide⟩ (fun w h Y => PySem.W.kIn_of Y) ?F Zk.law_true
  case F =>
    intro w mg fa h KX G hmg
    refine' Zk.all_mk KX G hmg ?z_ValueError ?z_abs ?z_all ?z_bool ?z_divmod ?z_enumerate ?z_int ?z_isinstance ?z_len ?z_list ?z_range ?z_repr ?z_tuple ?m_FARTHEST_AT ?r_FARTHEST_AT ?m_MOST_PRICE ?r_MOST_PRICE ?m_MOST_REPEATED ?r_MOST_REPEATED ?m_MOST_ROW ?r_MOST_ROW ?g_AheadError ?rd_AheadError ?ga_AheadError ?at_AheadError ?g_Wrong ?xl_Wrong ?bm_Wrong ?sa_Wrong ?ex_Wrong ?ty_Wrong ?kc_Wrong ?xf_Wrong ?a_Wrong_init ?t_Wrong_init_ ?l_Wrong_init ?c_Wrong_init ?k_Wrong_init ?g_NoText ?g_TooMany ?g_Twice ?hx_AheadError ?hx_Wrong ?ex_AheadError ?ty_AheadError ?xg_Wrong ?xk_Wrong ?xa_Wrong ?xn_Wrong ?xt_Wrong ?xm_Wrong ?cx_NoText ?ty_NoText ?ss_NoText ?sb_Wrong_NoText ?cx_TooMany ?ty_TooMany ?ss_TooMany ?sb_Wrong_TooMany ?cx_Twice ?ty_Twice ?ss_Twice ?sb_Wrong_Twice ?st_Wrong_ValueError ?sb_Wrong_AheadError ?g_Ladder ?pg_Ladder ?hd_Ladder ?po_Ladder ?sa_Ladder ?mk_Ladder_ ?kc_Ladder ?na_Ladder_low ?na_Ladder_middle ?na_Ladder_high ?na_Ladder_begin ?na_Ladder_low_sums ?na_Ladder_middle_sums ?na_Ladder_high_sums ?a_w_bag ?l_w_bag ?c_w_bag ?k_w_bag ?a_w_take ?l_w_take ?c_w_take ?k_w_take ?a_w_prices ?l_w_prices ?c_w_prices ?k_w_prices ?a_w_any_plan ?l_w_any_plan ?c_w_any_plan ?k_w_any_plan ?a_w_odd ?l_w_odd ?c_w_odd ?k_w_odd ?a_w_bent ?l_w_bent ?c_w_bent ?k_w_bent ?a_w_within ?l_w_within ?c_w_within ?k_w_within ?a_w_are_prices ?l_w_are_prices ?c_w_are_prices ?k_w_are_prices ?a_w_wrong ?l_w_wrong ?c_w_wrong ?k_w_wrong ?a_is_whole ?l_is_whole ?c_is_whole ?k_is_whole ?a_is_between ?l_is_between ?c_is_between ?k_is_between ?a_is_price ?l_is_price ?c_is_price ?k_is_price ?a_are_prices ?l_are_prices ?c_are_prices ?k_are_prices ?a_sums_of ?l_sums_of ?c_sums_of ?k_sums_of ?a_Ladder_init ?i_Ladder_init ?l_Ladder_init ?c_Ladder_init ?k_Ladder_init ?d_Ladder_init_at ?a_w_place ?l_w_place ?c_w_place ?k_w_place ?a_w_made ?l_w_made ?c_w_made ?k_w_made ?a_w_ladder ?l_w_ladder ?c_w_ladder ?k_w_ladder ?a_Ladder_price_at ?i_Ladder_price_at ?l_Ladder_price_at ?c_Ladder_price_at ?k_Ladder_price_at ?a_Ladder_rung ?i_Ladder_rung ?l_Ladder_rung ?c_Ladder_rung ?k_Ladder_rung ?a_repeated ?l_repeated ?c_repeated ?k_repeated ?a_Ladder_height ?i_Ladder_height ?l_Ladder_height ?c_Ladder_height ?k_Ladder_height ?a_Ladder_total ?i_Ladder_total ?l_Ladder_total ?c_Ladder_total ?k_Ladder_total ?a_plain ?l_plain ?c_plain ?k_plain ?a_w_asked ?l_w_asked ?c_w_asked ?k_w_asked ?a_w_asked_due ?l_w_asked_due ?c_w_asked_due ?k_w_asked_due ?a_law ?l_law ?c_law ?k_law
    (case z_ValueError => k_is)
    (case z_abs => k_is)
    (case z_all => k_is)
    (case z_bool => k_is)
    (case z_divmod => k_is)
    (case z_enumerate => k_is)
    (case z_int => k_is)
    (case z_isinstance => k_is)
    (case z_len => k_is)
    (case z_list => k_is)
    (case z_range => k_is)
    (case z_repr => k_is)
    (case z_tuple => k_is)
    (case m_FARTHEST_AT => k_is)
    (case r_FARTHEST_AT => exact ⟨_, rfl⟩)
    (case m_MOST_PRICE => k_is)
    (case r_MOST_PRICE => exact ⟨_, rfl⟩)
    (case m_MOST_REPEATED => k_is)
    (case r_MOST_REPEATED => exact ⟨_, rfl⟩)
    (case m_MOST_ROW => k_is)
    (case r_MOST_ROW => exact ⟨_, rfl⟩)
    (case g_AheadError => k_is)
    (case rd_AheadError => k_is)
    (case ga_AheadError => k_is)
    (case at_AheadError => k_is)
    (case g_Wrong => k_is)
    (case xl_Wrong => k_is)
    (case bm_Wrong => decide +kernel)
    (case sa_Wrong => k_is)
    (case ex_Wrong => k_is)
    (case ty_Wrong => k_is)
    (case kc_Wrong => k_is)
    (case xf_Wrong => k_is)
    (case a_Wrong_init => k_is)
    (case t_Wrong_init_ => k_is)
    (case l_Wrong_init => k_is)
    (case c_Wrong_init => k_is)
    (case k_Wrong_init => k_is)
    (case g_NoText => k_is)
    (case g_TooMany => k_is)
    (case g_Twice => k_is)
    (case hx_AheadError => k_is)
    (case hx_Wrong => k_is)
    (case ex_AheadError => k_is)
    (case ty_AheadError => k_is)
    (case xg_Wrong => k_is)
    (case xk_Wrong => k_is)
    (case xa_Wrong => k_is)
    (case xn_Wrong => k_is)
    (case xt_Wrong => k_is)
    (case xm_Wrong => k_is)
    (case cx_NoText => k_is)
    (case ty_NoText => k_is)
    (case ss_NoText => k_is)
    (case sb_Wrong_NoText => k_is)
    (case cx_TooMany => k_is)
    (case ty_TooMany => k_is)
    (case ss_TooMany => k_is)
    (case sb_Wrong_TooMany => k_is)
    (case cx_Twice => k_is)
    (case ty_Twice => k_is)
    (case ss_Twice => k_is)
    (case sb_Wrong_Twice => k_is)
    (case st_Wrong_ValueError => k_is)
    (case sb_Wrong_AheadError => k_is)
    (case g_Ladder => k_is)
    (case pg_Ladder => k_is)
    (case hd_Ladder => k_is)
    (case po_Ladder => k_is)
    (case sa_Ladder => k_is)
    (case mk_Ladder_ => k_is)
    (case kc_Ladder => k_is)
    (case na_Ladder_low => k_is)
    (case na_Ladder_middle => k_is)
    (case na_Ladder_high => k_is)
    (case na_Ladder_begin => k_is)
    (case na_Ladder_low_sums => k_is)
    (case na_Ladder_middle_sums => k_is)
    (case na_Ladder_high_sums => k_is)
    (case a_w_bag => k_is)
    (case l_w_bag => k_is)
    (case c_w_bag => k_is)
    (case k_w_bag => k_is)
    (case a_w_take => k_is)
    (case l_w_take => k_is)
    (case c_w_take => k_is)
    (case k_w_take => k_is)
    (case a_w_prices => k_is)
    (case l_w_prices => k_is)
    (case c_w_prices => k_is)
    (case k_w_prices => k_is)
    (case a_w_any_plan => k_is)
    (case l_w_any_plan => k_is)
    (case c_w_any_plan => k_is)
    (case k_w_any_plan => k_is)
    (case a_w_odd => k_is)
    (case l_w_odd => k_is)
    (case c_w_odd => k_is)
    (case k_w_odd => k_is)
    (case a_w_bent => k_is)
    (case l_w_bent => k_is)
    (case c_w_bent => k_is)
    (case k_w_bent => k_is)
    (case a_w_within => k_is)
    (case l_w_within => k_is)
    (case c_w_within => k_is)
    (case k_w_within => k_is)
    (case a_w_are_prices => k_is)
    (case l_w_are_prices => k_is)
    (case c_w_are_prices => k_is)
    (case k_w_are_prices => k_is)
    (case a_w_wrong => k_is)
    (case l_w_wrong => k_is)
    (case c_w_wrong => k_is)
    (case k_w_wrong => k_is)
    (case a_is_whole => k_is)
    (case l_is_whole => k_is)
    (case c_is_whole => k_is)
    (case k_is_whole => k_is)
    (case a_is_between => k_is)
    (case l_is_between => k_is)
    (case c_is_between => k_is)
    (case k_is_between => k_is)
    (case a_is_price => k_is)
    (case l_is_price => k_is)
    (case c_is_price => k_is)
    (case k_is_price => k_is)
    (case a_are_prices => k_is)
    (case l_are_prices => k_is)
    (case c_are_prices => k_is)
    (case k_are_prices => k_is)
    (case a_sums_of => k_is)
    (case l_sums_of => k_is)
    (case c_sums_of => k_is)
    (case k_sums_of => k_is)
    (case a_Ladder_init => k_is)
    (case i_Ladder_init => k_is)
    (case l_Ladder_init => k_is)
    (case c_Ladder_init => k_is)
    (case k_Ladder_init => k_is)
    (case d_Ladder_init_at => k_is)
    (case a_w_place => k_is)
    (case l_w_place => k_is)
    (case c_w_place => k_is)
    (case k_w_place => k_is)
    (case a_w_made => k_is)
    (case l_w_made => k_is)
    (case c_w_made => k_is)
    (case k_w_made => k_is)
    (case a_w_ladder => k_is)
    (case l_w_ladder => k_is)
    (case c_w_ladder => k_is)
    (case k_w_ladder => k_is)
    (case a_Ladder_price_at => k_is)
    (case i_Ladder_price_at => k_is)
    (case l_Ladder_price_at => k_is)
    (case c_Ladder_price_at => k_is)
    (case k_Ladder_price_at => k_is)
    (case a_Ladder_rung => k_is)
    (case i_Ladder_rung => k_is)
    (case l_Ladder_rung => k_is)
    (case c_Ladder_rung => k_is)
    (case k_Ladder_rung => k_is)
    (case a_repeated => k_is)
    (case l_repeated => k_is)
    (case c_repeated => k_is)
    (case k_repeated => k_is)
    (case a_Ladder_height => k_is)
    (case i_Ladder_height => k_is)
    (case l_Ladder_height => k_is)
    (case c_Ladder_height => k_is)
    (case k_Ladder_height => k_is)
    (case a_Ladder_total => k_is)
    (case i_Ladder_total => k_is)
    (case l_Ladder_total => k_is)
    (case c_Ladder_total => k_is)
    (case k_Ladder_total => k_is)
    (case a_plain => k_is)
    (case l_plain => k_is)
    (case c_plain => k_is)
    (case k_plain => k_is)
    (case a_w_asked => k_is)
    (case l_w_asked => k_is)
    (case c_w_asked => k_is)
    (case k_w_asked => k_is)
    (case a_w_asked_due => k_is)
    (case l_w_asked_due => k_is)
    (case c_w_asked_due => k_is)
    (case k_w_asked_due => k_is)
    (case a_law => k_is)
    (case l_law => k_is)
    (case c_law => k_is)
    (case k_law => k_is)
#print axioms PySem.Challenge.cw_aheadpays_k16_ladders_refused_holds
