import PyProof.Rows.All
import Wide.All
import OpenK.AllK
import Wide.FinOn
import HandS.ForMost
import HandS.ForExc
import HandS.ExcInit
import HandS.CallSlots
import HandS.WordsExc
import HandS.Wide
import HandS.IsInst
import HandS.Defaults
import HandS.More
import HandS.ClsMeth
import HandS.MakeKwOnly
import PyProof.LongRange
import HandS.Style
import HandS.SortInts
import HandS.TupAny
import HandS.TryOnly
import PyProof.ReprRoads
import HandS.RaiseMore
import HandS.Words
import HandS.OwnEq
import HandS.Rev
import HandS.FStr
import HandS.SetFor
import HandS.RevTup
import HandS.Flow
import KE.SortData
import HandS.Codes
import PyProof.StrBlock2
import KE.KDictKeyed
import HandS.Dict
import HandS.Conv
import HandS.DictEq
import HandS.DictComp
import HandS.Zip
import HandS.SortKw
import KE.KDictDisplayH
import HandS.TupLen
import HandS.Strs
import HandS.Deep
import HandS.ExcField
import KE.KExcIs
import HandS.ExcIs
import KE.DataMinMax
import KE.SortKeyHeap
import HandS.Lambda
import HandS.EndTab
import KE.KNestM
import KE.KDictPairs
import KE.KDictCopyH
import HandS.List
import KE.KDictZip
import HandS.ExcValue
import KE.GoesMore
import HandS.Small
import KE.KEqDict
import KE.GoesComp
import KE.GoesRaise
import HandS.Text
import HandS.HotCalls
import PySem.Challenge.RW_aheadpays_k17_refusals_apart
set_option Elab.async false
set_option linter.all false
set_option maxRecDepth 100000
set_option maxHeartbeats 4000000
namespace Zk
open PySem L2

/-! ### what stands for what -/
structure Pr where
  p : Hp → V → Prop
  mono : ∀ {S S' : Hp} {v : V}, Same S S' → p S v → p S' v
/-- a thing of the def's own, at the addresses F, that may still change: S what is stable, H the heap -/
structure PrO where
  p : Hp → Hp → V → (Addr → Prop) → Prop
  mono : ∀ {S S' H H' : Hp} {v : V} {F : Addr → Prop}, Same S S' → (∀ a o, F a → H a = some o → H' a = some o) → p S H v F → p S' H' v F
structure Rel (α : Type) where
  is : α → Hp → V → Prop
  mono : ∀ {x : α} {S S' : Hp} {v : V}, Same S S' → is x S v → is x S' v
abbrev Rel.pr {α : Type} (R : Rel α) (x : α) : Pr := ⟨R.is x, R.mono⟩
def All2 {α β : Type} (r : α → β → Prop) : List α → List β → Prop
  | [], [] => True
  | x :: xs, y :: ys => r x y ∧ All2 r xs ys
  | _, _ => False
section
variable {α β : Type} {r q : α → β → Prop}
theorem All2.imp (h : ∀ x y, r x y → q x y) : ∀ {xs : List α} {ys : List β}, All2 r xs ys → All2 q xs ys
  | [], [], _ => trivial
  | _ :: _, _ :: _, ⟨a, b⟩ => ⟨h _ _ a, All2.imp h b⟩
  | [], _ :: _, h => h.elim
  | _ :: _, [], h => h.elim
theorem All2.length : ∀ {xs : List α} {ys : List β}, All2 r xs ys → xs.length = ys.length
  | [], [], _ => rfl
  | _ :: _, _ :: _, ⟨_, b⟩ => by simp [All2.length b]
  | [], _ :: _, h => h.elim
  | _ :: _, [], h => h.elim
theorem All2.append : ∀ {xs : List α} {ys : List β} {xs' : List α} {ys' : List β}, All2 r xs ys → All2 r xs' ys' → All2 r (xs ++ xs') (ys ++ ys')
  | [], [], _, _, _, h => h
  | _ :: _, _ :: _, _, _, ⟨a, b⟩, h => ⟨a, All2.append b h⟩
  | [], _ :: _, _, _, h, _ => h.elim
  | _ :: _, [], _, _, h, _ => h.elim
theorem All2.get : ∀ {xs : List α} {ys : List β} {i : Nat} {x : α}, All2 r xs ys → xs[i]? = some x → ∃ y, ys[i]? = some y ∧ r x y
  | [], [], _, _, _, h => by simp at h
  | _ :: _, _ :: _, 0, _, ⟨a, _⟩, h => by simp at h; subst h; exact ⟨_, rfl, a⟩
  | _ :: _, _ :: _, i + 1, _, ⟨_, b⟩, h => by
    obtain ⟨y, h1, h2⟩ := All2.get (i := i) b (by simpa using h)
    exact ⟨y, by simpa using h1, h2⟩
  | [], _ :: _, _, _, h, _ => h.elim
  | _ :: _, [], _, _, h, _ => h.elim
theorem All2.get' : ∀ {xs : List α} {ys : List β} {i : Nat} {y : β}, All2 r xs ys → ys[i]? = some y → ∃ x, xs[i]? = some x ∧ r x y
  | [], [], _, _, _, h => by simp at h
  | _ :: _, _ :: _, 0, _, ⟨a, _⟩, h => by simp at h; subst h; exact ⟨_, rfl, a⟩
  | _ :: _, _ :: _, i + 1, _, ⟨_, b⟩, h => by
    obtain ⟨y, h1, h2⟩ := All2.get' (i := i) b (by simpa using h)
    exact ⟨y, by simpa using h1, h2⟩
  | [], _ :: _, _, _, h, _ => h.elim
  | _ :: _, [], _, _, h, _ => h.elim
theorem All2.take : ∀ {xs : List α} {ys : List β} (n : Nat), All2 r xs ys → All2 r (xs.take n) (ys.take n)
  | _, _, 0, _ => by simp [All2]
  | [], [], n + 1, _ => by simp [All2]
  | _ :: _, _ :: _, n + 1, ⟨a, b⟩ => ⟨a, All2.take n b⟩
  | [], _ :: _, _, h => h.elim
  | _ :: _, [], _, h => h.elim
theorem All2.drop : ∀ {xs : List α} {ys : List β} (n : Nat), All2 r xs ys → All2 r (xs.drop n) (ys.drop n)
  | _, _, 0, h => h
  | [], [], n + 1, _ => by simp [All2]
  | _ :: _, _ :: _, n + 1, ⟨_, b⟩ => All2.drop n b
  | [], _ :: _, _, h => h.elim
  | _ :: _, [], _, h => h.elim
theorem All2.set {x : α} {y : β} (h : r x y) : ∀ {xs : List α} {ys : List β} (i : Nat), All2 r xs ys → All2 r (xs.set i x) (ys.set i y)
  | [], [], _, _ => by simp [All2]
  | _ :: _, _ :: _, 0, ⟨_, b⟩ => ⟨h, b⟩
  | _ :: _, _ :: _, i + 1, ⟨a, b⟩ => ⟨a, All2.set h i b⟩
  | [], _ :: _, _, h => h.elim
  | _ :: _, [], _, h => h.elim
theorem All2.map {γ : Type} {f : γ → β} {g : γ → α} : ∀ (l : List γ), (∀ z ∈ l, r (g z) (f z)) → All2 r (l.map g) (l.map f)
  | [], _ => trivial
  | _ :: l, h => ⟨h _ (by simp), All2.map l fun z hz => h z (by simp [hz])⟩
end
theorem All2.ints : ∀ {xs : List Int} {vs : List V}, All2 (fun n v => v = V.int n) xs vs → vs = xs.map V.int
  | [], [], _ => rfl
  | _ :: _, _ :: _, ⟨a, b⟩ => by rw [a, All2.ints b]; rfl
  | [], _ :: _, h => h.elim
  | _ :: _, [], h => h.elim
theorem All2.of_ints : ∀ (xs : List Int), All2 (fun n v => v = V.int n) xs (xs.map V.int)
  | [] => trivial
  | _ :: xs => ⟨rfl, All2.of_ints xs⟩
/-! ### the kinds -/
def rInt : Rel Int := ⟨fun x _ v => v = .int x, fun _ h => h⟩
def rBl : Rel Bool := ⟨fun x _ v => v = .bl x, fun _ h => h⟩
def rStr : Rel Str := ⟨fun x _ v => v = .str x, fun _ h => h⟩
def rNon : Rel Unit := ⟨fun _ _ v => v = .non, fun _ h => h⟩
def rRef (a : Addr) : Rel Unit := ⟨fun _ _ v => v = .ref a, fun _ h => h⟩
def rLst {α : Type} (R : Rel α) : Rel (List α) :=
  ⟨fun xs S v => ∃ a vs, v = .ref a ∧ S a = some (.lst vs) ∧ All2 (fun x v => R.is x S v) xs vs,
   fun s ⟨a, vs, e, h, q⟩ => ⟨a, vs, e, s _ _ h, q.imp fun _ _ h => R.mono s h⟩⟩
/-- a list that is only read: the script -/
def rSc {α : Type} (K : PySem.W.Frag) (R : Rel α) : Rel (List α) :=
  ⟨fun xs S v => ∃ a vs, v = .ref a ∧ SqL K S a vs ∧ All2 (fun x v => R.is x S v) xs vs,
   fun s ⟨a, vs, e, h, q⟩ => ⟨a, vs, e, h.elim (fun h => .inl (h.elim (fun h => .inl (s _ _ h)) fun ⟨o, h⟩ => .inr ⟨o, s _ _ h⟩)) .inr, q.imp fun _ _ h => R.mono s h⟩⟩
def rT2 {α β : Type} (R : Rel α) (R2 : Rel β) : Rel (α × β) :=
  ⟨fun x S v => ∃ a u w, v = .ref a ∧ S a = some (.tup [u, w]) ∧ R.is x.1 S u ∧ R2.is x.2 S w,
   fun s ⟨a, u, w, e, h, q, q2⟩ => ⟨a, u, w, e, s _ _ h, R.mono s q, R2.mono s q2⟩⟩
def rT3 {α β γ : Type} (R : Rel α) (R2 : Rel β) (R3 : Rel γ) : Rel (α × β × γ) :=
  ⟨fun x S v => ∃ a u w z, v = .ref a ∧ S a = some (.tup [u, w, z]) ∧ R.is x.1 S u ∧ R2.is x.2.1 S w ∧ R3.is x.2.2 S z,
   fun s ⟨a, u, w, z, e, h, q, q2, q3⟩ => ⟨a, u, w, z, e, s _ _ h, R.mono s q, R2.mono s q2, R3.mono s q3⟩⟩
def rT4 {α β γ δ : Type} (R : Rel α) (R2 : Rel β) (R3 : Rel γ) (R4 : Rel δ) : Rel (α × β × γ × δ) :=
  ⟨fun x S v => ∃ a u w z y, v = .ref a ∧ S a = some (.tup [u, w, z, y]) ∧ R.is x.1 S u ∧ R2.is x.2.1 S w ∧ R3.is x.2.2.1 S z ∧ R4.is x.2.2.2 S y,
   fun s ⟨a, u, w, z, y, e, h, q, q2, q3, q4⟩ => ⟨a, u, w, z, y, e, s _ _ h, R.mono s q, R2.mono s q2, R3.mono s q3, R4.mono s q4⟩⟩
/-! ### the mirror's monad -/
structure Exc where
  cls : Str
  fs : List (Str × V)
inductive Out (τ α : Type) where
  | ok (a : α) (s : τ) | exc (e : Exc) (s : τ) | stuck
def M (τ α : Type) : Type := τ → Out τ α
section
variable {τ α β : Type}
def ret (a : α) : M τ α := fun s => .ok a s
def bnd (m : M τ α) (f : α → M τ β) : M τ β := fun s => match m s with | .ok a s' => f a s' | .exc e s' => .exc e s' | .stuck => .stuck
def stk : M τ α := fun _ => .stuck
def rse (e : Exc) : M τ α := fun s => .exc e s
def lft (m : M Unit α) : M τ α := fun s => match m () with | .ok a _ => .ok a s | .exc e _ => .exc e s | .stuck => .stuck
instance : Monad (M τ) where
  pure := ret
  bind := bnd
/-- only where c -/
def chk (c : Prop) [Decidable c] (m : M τ α) : M τ α := if c then m else stk
end

/-! ### the world, a def's names, slots -/
structure Gx where
  P : Program
  w : World
  K : PySem.W.Frag
  mg : Str → Option Value
  base : Heap
structure Sc where
  N : List Str
  sc : Scope
  k : Nat
  fn : Bool
  fx : Str → Bool
  gd : Bool
structure CtxOk (G : Gx) (c : Sc) (W : WX) (X : Cx) : Prop where
  prog : X.prog = G.P
  w : X.w = G.w
  K : X.K = G.K
  mg : X.mg = G.mg
  base : X.base = G.base
  N : X.N = c.N
  nd : c.N.Nodup
  sc : X.env.scope = c.sc
  calm : X.calm = true
  room : Room c.k X.A
  gds : c.gd = true → X.A.guards = some []
  takes : Takes X W
  owns : PassesOwn (model X.prog X.w) X.A X.env X.xe
  fx : X.fn = c.fx
  isfn : c.fn = true → X.stack = X.env :: X.outer ∧ X.env.frame = some X.env.locals
inductive Sl where
  | no | st (p : Pr) | ow (p : PrO) | gh (p : PrO)
abbrev Env := List Sl
structure Eff (τ : Type) where
  own : Addr → Prop
  is : τ → Hp → Hp → Prop
  mono : ∀ {β : τ} {S H S' H' : Hp}, Same S S' → (∀ a, own a → S a = none → S' a = none) → (∀ a o, own a → H a = some o → H' a = some o) → is β S H → is β S' H'
  th : ∀ {β : τ} {S H : Hp} {a : Addr}, is β S H → own a → S a = none ∧ ∃ o, H a = some o
structure Bs where
  S : Hp
  H : Hp
structure Keep (own : Addr → Prop) (B : Bs) (S H : Hp) : Prop where
  same : Same S H
  up : Same B.S S
  kp : ∀ a o, B.S a = none → B.H a = some o → ¬ own a → S a = none ∧ H a = some o
def slOk (S H : Hp) (v : Option V) (F : Addr → Prop) : Sl → Prop
  | .no => True
  | .st p => ∃ x, v = some x ∧ p.p S x
  | .ow p => ∃ x, v = some x ∧ p.p S H x F
  | .gh p => p.p S H .non F
structure Feet {τ : Type} (E : Eff τ) (B : Bs) (S H : Hp) (Fs : Nat → Addr → Prop) : Prop where
  at_ : ∀ i a, Fs i a → S a = none ∧ B.H a = none ∧ ¬ E.own a ∧ ∃ o, H a = some o
  ds : ∀ i j a, Fs i a → Fs j a → i = j
structure Hold {τ : Type} (E : Eff τ) (B : Bs) (Γ : Env) (β : τ) (σ : St) (S H : Hp) : Prop where
  kp : Keep E.own B S H
  ef : E.is β S H
  sl : ∃ Fs, Feet E B S H Fs ∧ ∀ (i : Nat) s, Γ[i]? = some s → slOk S H (σ[i]?.join) (Fs i) s
def XAt (G : Gx) (x : Exc) (H : Hp) (c : Value) (d : Option Addr) : Prop :=
  ∃ C, G.mg x.cls = some (.ref C) ∧ c = .ref C ∧ ((x.fs = [] ∧ d = none) ∨ ∃ dd, d = some dd ∧ H dd = some (.xd x.fs))

section
variable {τ α β κ ρ : Type}
def aft (G : Gx) (E : Eff τ) (W : WX) (B : Bs) (Γ : Env) (σ : St) (S : Hp) (R : Rel α) (Q : VK) : Out τ α → Prop
  | .ok a b' => ∀ v S' H', Same S S' → Hold E B Γ b' σ S' H' → R.is a S' v → Q v H'
  | .exc x b' => ∀ c d S' H', Same S S' → Hold E B Γ b' σ S' H' → XAt G x H' c d → W c d σ H'
  | .stuck => False
def aftT (G : Gx) (E : Eff τ) (W : WX) (B : Bs) (Γ : Env) (σ : St) (S : Hp) (Q : Bool → Hp → Prop) : Out τ Bool → Prop
  | .ok a b' => ∀ S' H', Same S S' → Hold E B Γ b' σ S' H' → Q a H'
  | .exc x b' => ∀ c d S' H', Same S S' → Hold E B Γ b' σ S' H' → XAt G x H' c d → W c d σ H'
  | .stuck => False
def aftA (G : Gx) (E : Eff τ) (W : WX) (B : Bs) (Γ : Env) (σ : St) (S : Hp) (A : α → List Pr) (Q : List V → Hp → Prop) : Out τ α → Prop
  | .ok a b' => ∀ vs S' H', Same S S' → Hold E B Γ b' σ S' H' → All2 (fun (p : Pr) v => p.p S' v) (A a) vs → Q vs H'
  | .exc x b' => ∀ c d S' H', Same S S' → Hold E B Γ b' σ S' H' → XAt G x H' c d → W c d σ H'
  | .stuck => False
def tzE (G : Gx) (E : Eff τ) (W : WX) (Γ : Env) (m : M τ α) (R : Rel α) : TE := fun σ H Q => ∃ B S b, Hold E B Γ b σ S H ∧ aft G E W B Γ σ S R Q (m b)
def tzT (G : Gx) (E : Eff τ) (W : WX) (Γ : Env) (m : M τ Bool) : TT := fun σ H Q => ∃ B S b, Hold E B Γ b σ S H ∧ aftT G E W B Γ σ S Q (m b)
def tzA (G : Gx) (E : Eff τ) (W : WX) (Γ : Env) (m : M τ α) (A : α → List Pr) : TA := fun σ H Q => ∃ B S b, Hold E B Γ b σ S H ∧ aftA G E W B Γ σ S A Q (m b)
inductive Fl (α κ ρ : Type) where
  | nx (a : α) | rt (r : ρ) | bk (k : κ) | ct (k : κ)
/-- what is wanted behind statements but the next one: of break and continue, of an exception, of what is handed back -/
structure Ls (κ ρ : Type) where
  k : κ → Env
  x : Env
  R : Rel ρ
  o : ρ → V → Env := fun _ _ => []
def aftS (G : Gx) (E : Eff τ) (W : WX) (L : Ls κ ρ) (B : Bs) (S : Hp) (Γn : α → Env) (D : Ends) : Out τ (Fl α κ ρ) → Prop
  | .ok (.nx a) b' => ∀ σ' S' H', Same S S' → Hold E B (Γn a) b' σ' S' H' → D.nx σ' H'
  | .ok (.rt r) b' => ∀ v σ' S' H', Hold E B (L.o r v) b' σ' S' H' → L.R.is r S' v → D.rt v H'
  | .ok (.bk a) b' => ∀ σ' S' H', Same S S' → Hold E B (L.k a) b' σ' S' H' → D.bk σ' H'
  | .ok (.ct a) b' => ∀ σ' S' H', Same S S' → Hold E B (L.k a) b' σ' S' H' → D.ct σ' H'
  | .exc x b' => ∀ c d σ' S' H', Hold E B L.x b' σ' S' H' → XAt G x H' c d → W c d σ' H'
  | .stuck => False
def tzS (G : Gx) (E : Eff τ) (W : WX) (L : Ls κ ρ) (Γ : Env) (m : M τ (Fl α κ ρ)) (Γn : α → Env) : TS := fun D σ H => ∃ B S b, Hold E B Γ b σ S H ∧ aftS G E W L B S Γn D (m b)
def ZE (G : Gx) (c : Sc) (E : Eff τ) (W : WX) (Γ : Env) (e : Expr) (m : M τ α) (R : Rel α) : Prop := ∀ X, CtxOk G c W X → PE X e (tzE G E W Γ m R)
def ZT (G : Gx) (c : Sc) (E : Eff τ) (W : WX) (Γ : Env) (e : Expr) (m : M τ Bool) : Prop := ∀ X, CtxOk G c W X → PT X e (tzT G E W Γ m)
def ZA (G : Gx) (c : Sc) (E : Eff τ) (W : WX) (Γ : Env) (es : List Expr) (m : M τ α) (A : α → List Pr) : Prop := ∀ X, CtxOk G c W X → PA X es (tzA G E W Γ m A)
def ZS (G : Gx) (c : Sc) (E : Eff τ) (W : WX) (L : Ls κ ρ) (Γ : Env) (st : Stmt) (m : M τ (Fl α κ ρ)) (Γn : α → Env) : Prop := ∀ X, CtxOk G c W X → PS X st (tzS G E W L Γ m Γn)
def ZB (G : Gx) (c : Sc) (E : Eff τ) (W : WX) (L : Ls κ ρ) (Γ : Env) (st : List Stmt) (m : M τ (Fl α κ ρ)) (Γn : α → Env) : Prop := ∀ X, CtxOk G c W X → PSs X st (tzS G E W L Γ m Γn)
end

/-! ### readings weakened -/
section
variable {X : Cx} {e : Expr} {st : Stmt} {sts : List Stmt}
theorem pe_wk {t t' : TE} (h : PE X e t) (w : ∀ σ H Q, σ.length = X.N.length → t' σ H Q → t σ H Q) : PE X e t' := ⟨fun pins s σ H Q I q => h.run pins s σ H Q I (w σ H Q I.len q)⟩
theorem pt_wk {t t' : TT} (h : PT X e t) (w : ∀ σ H Q, σ.length = X.N.length → t' σ H Q → t σ H Q) : PT X e t' := ⟨fun pins s σ H Q I q => h.run pins s σ H Q I (w σ H Q I.len q)⟩
theorem pa_wk {es : List Expr} {t t' : TA} (h : PA X es t) (w : ∀ σ H Q, σ.length = X.N.length → t' σ H Q → t σ H Q) : PA X es t' := ⟨fun pos pins s σ H Q I q => h.run pos pins s σ H Q I (w σ H Q I.len q)⟩
theorem ps_wk {t t' : TS} (h : PS X st t) (w : ∀ D σ H, σ.length = X.N.length → t' D σ H → t D σ H) : PS X st t' := ⟨fun pins s σ H D I q => h.run pins s σ H D I (w D σ H I.len q)⟩
theorem pss_wk {t t' : TS} (h : PSs X sts t) (w : ∀ D σ H, σ.length = X.N.length → t' D σ H → t D σ H) : PSs X sts t' := ⟨fun pins s σ H D I q => h.run pins s σ H D I (w D σ H I.len q)⟩
theorem pss_ex {ι : Type} {t : ι → TS} (h : ∀ i, PSs X sts (t i)) : PSs X sts (fun D σ H => ∃ i, t i D σ H) := ⟨fun pins s σ H D I ⟨i, q⟩ => (h i).run pins s σ H D I q⟩
theorem pe_ex {ι : Type} {t : ι → TE} (h : ∀ i, PE X e (t i)) : PE X e (fun σ H Q => ∃ i, t i σ H Q) := ⟨fun pins s σ H Q I ⟨i, q⟩ => (h i).run pins s σ H Q I q⟩
end

/-! ### the state goes on -/
section
variable {τ α β : Type} {E : Eff τ} {B : Bs} {Γ Γ' : Env} {b : τ} {σ : St} {S S' H H' : Hp}
theorem Hold.same (h : Hold E B Γ b σ S H) : Same S H := h.kp.same
theorem same_new {S : Hp} {p : Addr} {o : HO} (h : S p = none) : Same S (upd S p o) := fun a u e => by rw [upd_ne (ne_of_none e h)]; exact e
theorem same_upd2 {S H : Hp} {p : Addr} {o : HO} (h : Same S H) : Same (upd S p o) (upd H p o) := fun a u e => by
  unfold upd at *
  split
  · next q => rw [if_pos q] at e; exact e
  · next q => rw [if_neg q] at e; exact h _ _ e
/-- more is stable, nothing else has changed -/
theorem Hold.grow (h : Hold E B Γ b σ S H) (s1 : Same S S') (s2 : Same S' H') (k : ∀ a o, S a = none → H a = some o → S' a = none ∧ H' a = some o) (f : ∀ a, E.own a → S a = none → S' a = none) : Hold E B Γ b σ S' H' := by
  have kk : ∀ a o, H a = some o → H' a = some o := fun a o e => by
    cases q : S a with
    | none => exact (k a o q e).2
    | some u =>
      have := h.same _ _ q
      rw [e] at this; cases this
      exact s2 _ _ (s1 _ _ q)
  obtain ⟨Fs, hF, hs⟩ := h.sl
  refine ⟨⟨s2, h.kp.up.trans s1, fun a o h1 h2 h3 => ?_⟩, E.mono s1 f (fun a o _ e => kk a o e) h.ef, Fs, ⟨fun i a e => ?_, hF.ds⟩, fun i s e => ?_⟩
  · obtain ⟨q1, q2⟩ := h.kp.kp a o h1 h2 h3
    exact k a o q1 q2
  · obtain ⟨q1, q2, q3, o, q4⟩ := hF.at_ i a e
    exact ⟨(k a o q1 q4).1, q2, q3, o, (k a o q1 q4).2⟩
  · have q := hs i s e
    cases s with
    | no => trivial
    | st p => obtain ⟨x, e1, e2⟩ := q; exact ⟨x, e1, p.mono s1 e2⟩
    | ow p => obtain ⟨x, e1, e2⟩ := q; exact ⟨x, e1, p.mono s1 (fun a o _ e => kk a o e) e2⟩
    | gh p => exact p.mono s1 (fun a o _ e => kk a o e) q
/-- a new stable object -/
theorem Hold.fr {p : Addr} (h : Hold E B Γ b σ S H) (hp : H p = none) : ¬ E.own p := fun z => by
  obtain ⟨_, o, e⟩ := E.th h.ef z
  rw [hp] at e; cases e
theorem Hold.new {p : Addr} {o : HO} (h : Hold E B Γ b σ S H) (hp : H p = none) : Hold E B Γ b σ (upd S p o) (upd H p o) := by
  have hf := h.fr hp
  have hs : S p = none := h.same.free hp
  refine h.grow (same_new hs) (same_upd2 h.same) (fun a u e1 e2 => ?_) fun a ha e => ?_
  · have n : a ≠ p := ne_of_none e2 hp
    rw [upd_ne n, upd_ne n]; exact ⟨e1, e2⟩
  · have n : a ≠ p := fun z => hf (z ▸ ha)
    rw [upd_ne n]; exact e
/-- fewer slots are known -/
theorem Hold.wk (h : Hold E B Γ b σ S H) (w : ∀ (i : Nat) s, Γ'[i]? = some s → s = .no ∨ Γ[i]? = some s) : Hold E B Γ' b σ S H := by
  obtain ⟨Fs, hF, hs⟩ := h.sl
  refine ⟨h.kp, h.ef, Fs, hF, fun i s e => ?_⟩
  rcases w i s e with r | r
  · subst r; trivial
  · exact hs i s r
theorem set_get {α : Type} {l : List α} {i j : Nat} {x y : α} (h : (l.set i x)[j]? = some y) : (j = i ∧ y = x) ∨ (j ≠ i ∧ l[j]? = some y) := by
  by_cases hj : i = j
  · subst hj
    rw [List.getElem?_set] at h
    simp only [if_true] at h
    split at h
    · cases h; exact .inl ⟨rfl, rfl⟩
    · cases h
  · rw [List.getElem?_set_ne hj] at h
    exact .inr ⟨Ne.symm hj, h⟩
/-- a slot is stored -/
theorem Hold.set {i : Nat} {v : V} {p : Pr} (h : Hold E B Γ b σ S H) (hi : i < σ.length) (hp : p.p S v) : Hold E B (Γ.set i (.st p)) b (σ.set i (some v)) S H := by
  obtain ⟨Fs, hF, hs⟩ := h.sl
  refine ⟨h.kp, h.ef, Fs, hF, fun j s e => ?_⟩
  rcases set_get e with ⟨rfl, rfl⟩ | ⟨n, e⟩
  · rw [List.getElem?_set_self hi]; exact ⟨v, rfl, hp⟩
  · rw [List.getElem?_set_ne (Ne.symm n)]; exact hs j s e
/-- a slot is wiped -/
theorem Hold.unset {i : Nat} {v : Option V} (h : Hold E B Γ b σ S H) : Hold E B (Γ.set i .no) b (σ.set i v) S H := by
  obtain ⟨Fs, hF, hs⟩ := h.sl
  refine ⟨h.kp, h.ef, Fs, hF, fun j s e => ?_⟩
  rcases set_get e with ⟨rfl, rfl⟩ | ⟨n, e⟩
  · trivial
  · rw [List.getElem?_set_ne (Ne.symm n)]; exact hs j s e
/-- what the slot i owns has changed (or is new), nothing else -/
theorem Hold.mut {i : Nat} {v : V} {p : PrO} {F' : Addr → Prop} (h : Hold E B Γ b σ S H) (hi : i < σ.length) (kc : ∀ a, ¬ F' a → H' a = H a)
    (hF' : ∀ a, F' a → (∃ o, H' a = some o) ∧ (H a = none ∧ ¬ E.own a ∨ ∀ Fs : Nat → Addr → Prop, Feet E B S H Fs → (∀ (j : Nat) s, Γ[j]? = some s → slOk S H (σ[j]?.join) (Fs j) s) → Fs i a)) (hp : p.p S H' v F') : Hold E B (Γ.set i (.ow p)) b (σ.set i (some v)) S H' := by
  obtain ⟨Fs, hF, hs⟩ := h.sl
  have nS : ∀ a, F' a → S a = none := fun a ha => by
    rcases (hF' a ha).2 with ⟨q, _⟩ | q
    · exact h.same.free q
    · exact (hF.at_ i a (q Fs hF hs)).1
  have nE : ∀ a, F' a → ¬ E.own a := fun a ha => by
    rcases (hF' a ha).2 with ⟨_, q⟩ | q
    · exact q
    · exact (hF.at_ i a (q Fs hF hs)).2.2.1
  have nB : ∀ a o, B.S a = none → B.H a = some o → ¬ E.own a → ¬ F' a := fun a o h1 h2 h3 ha => by
    rcases (hF' a ha).2 with ⟨q, _⟩ | q
    · have := (h.kp.kp a o h1 h2 h3).2
      rw [q] at this; cases this
    · have := (hF.at_ i a (q Fs hF hs)).2.1
      rw [h2] at this; cases this
  have ap : ∀ j a, j ≠ i → Fs j a → ¬ F' a := fun j a hj e ha => by
    rcases (hF' a ha).2 with ⟨q, _⟩ | q
    · obtain ⟨_, _, _, o, e4⟩ := hF.at_ j a e
      rw [q] at e4; cases e4
    · exact hj (hF.ds _ _ a e (q Fs hF hs))
  refine ⟨⟨fun a o e => ?_, h.kp.up, fun a o h1 h2 h3 => ?_⟩, E.mono (Same.refl _) (fun _ _ z => z) (fun a o ha e => ?_) h.ef, fun j a => if j = i then F' a else Fs j a, ⟨fun j a e => ?_, fun j k a e1 e2 => ?_⟩, fun j s e => ?_⟩
  · rw [kc a fun z => by rw [nS a z] at e; cases e]; exact h.same _ _ e
  · rw [kc a (nB a o h1 h2 h3)]; exact h.kp.kp a o h1 h2 h3
  · rw [kc a fun z => nE a z ha]; exact e
  · by_cases hj : j = i
    · simp only [if_pos hj] at e
      refine ⟨nS a e, ?_, nE a e, (hF' a e).1⟩
      rcases (hF' a e).2 with ⟨q, q2⟩ | q
      · cases z : B.H a with
        | none => rfl
        | some o =>
          cases y : B.S a with
          | none => have := (h.kp.kp a o y z q2).2; rw [q] at this; cases this
          | some u => have := h.same _ _ (h.kp.up _ _ y); rw [q] at this; cases this
      · exact (hF.at_ i a (q Fs hF hs)).2.1
    · simp only [if_neg hj] at e
      obtain ⟨e1, e2, e3, o, e4⟩ := hF.at_ j a e
      exact ⟨e1, e2, e3, o, by rw [kc a (ap j a hj e)]; exact e4⟩
  · by_cases hj : j = i
    · by_cases hk : k = i
      · rw [hj, hk]
      · simp only [if_pos hj] at e1; simp only [if_neg hk] at e2
        exact absurd e1 (ap k a hk e2)
    · by_cases hk : k = i
      · simp only [if_neg hj] at e1; simp only [if_pos hk] at e2
        exact absurd e2 (ap j a hj e1)
      · simp only [if_neg hj] at e1; simp only [if_neg hk] at e2
        exact hF.ds _ _ a e1 e2
  · rcases set_get e with ⟨rfl, rfl⟩ | ⟨n, e⟩
    · rw [List.getElem?_set_self hi]
      simp only [if_true]
      exact ⟨v, rfl, hp⟩
    · rw [List.getElem?_set_ne (Ne.symm n)]
      simp only [if_neg n]
      have q := hs j s e
      cases s with
      | no => trivial
      | st p => exact q
      | ow p => obtain ⟨x, e1, e2⟩ := q; exact ⟨x, e1, p.mono (Same.refl _) (fun a o ha e => by rw [kc a (ap j a n ha)]; exact e) e2⟩
      | gh p => exact p.mono (Same.refl _) (fun a o ha e => by rw [kc a (ap j a n ha)]; exact e) q
theorem Hold.nil (h : Hold E B Γ b σ S H) : Hold E B [] b σ S H := h.wk fun i s e => by simp at e
end
end Zk

namespace Zk
open PySem L2

section
variable {τ α β γ δ : Type} {G : Gx} {c : Sc} {E : Eff τ} {W : WX} {Γ : Env} {B : Bs} {σ : St} {S S1 H : Hp} {b : τ}
theorem aft.same {R : Rel α} {Q : VK} (s : Same S S1) : ∀ {o : Out τ α}, aft G E W B Γ σ S R Q o → aft G E W B Γ σ S1 R Q o
  | .ok _ _, h => fun v S' H' s2 => h v S' H' (s.trans s2)
  | .exc _ _, h => fun c d S' H' s2 => h c d S' H' (s.trans s2)
  | .stuck, h => h
theorem aftT.same {Q : Bool → Hp → Prop} (s : Same S S1) : ∀ {o : Out τ Bool}, aftT G E W B Γ σ S Q o → aftT G E W B Γ σ S1 Q o
  | .ok _ _, h => fun S' H' s2 => h S' H' (s.trans s2)
  | .exc _ _, h => fun c d S' H' s2 => h c d S' H' (s.trans s2)
  | .stuck, h => h
theorem aftA.same {A : α → List Pr} {Q : List V → Hp → Prop} (s : Same S S1) : ∀ {o : Out τ α}, aftA G E W B Γ σ S A Q o → aftA G E W B Γ σ S1 A Q o
  | .ok _ _, h => fun v S' H' s2 => h v S' H' (s.trans s2)
  | .exc _ _, h => fun c d S' H' s2 => h c d S' H' (s.trans s2)
  | .stuck, h => h
/-- a part is reckoned, then what follows -/
theorem tz_bnd {m : M τ α} {f : α → M τ β} {R : Rel α} {Q : VK} {Q' : VK} {R' : Rel β} (hh : Hold E B Γ b σ S H) (h : aft G E W B Γ σ S R' Q (bnd m f b))
    (k : ∀ x b1 v S1 H1, Same S S1 → Hold E B Γ b1 σ S1 H1 → R.is x S1 v → aft G E W B Γ σ S1 R' Q (f x b1) → Q' v H1) : tzE G E W Γ m R σ H Q' := by
  refine ⟨B, S, b, hh, ?_⟩
  unfold bnd at h
  cases e : m b with
  | ok a b1 => rw [e] at h; exact fun v S1 H1 s h1 r => k a b1 v S1 H1 s h1 r (h.same s)
  | exc x b1 => rw [e] at h; exact h
  | stuck => rw [e] at h; exact h.elim
theorem tz_bndA {m : M τ α} {f : α → M τ β} {R : Rel α} {A : β → List Pr} {Q : List V → Hp → Prop} {Q' : VK} (hh : Hold E B Γ b σ S H) (h : aftA G E W B Γ σ S A Q (bnd m f b))
    (k : ∀ x b1 v S1 H1, Same S S1 → Hold E B Γ b1 σ S1 H1 → R.is x S1 v → aftA G E W B Γ σ S1 A Q (f x b1) → Q' v H1) : tzE G E W Γ m R σ H Q' := by
  refine ⟨B, S, b, hh, ?_⟩
  unfold bnd at h
  cases e : m b with
  | ok a b1 => rw [e] at h; exact fun v S1 H1 s h1 r => k a b1 v S1 H1 s h1 r (h.same s)
  | exc x b1 => rw [e] at h; exact h
  | stuck => rw [e] at h; exact h.elim
theorem tz_TbndT {m : M τ Bool} {f : Bool → M τ Bool} {Q : Bool → Hp → Prop} {Q' : Bool → Hp → Prop} (hh : Hold E B Γ b σ S H) (h : aftT G E W B Γ σ S Q (bnd m f b))
    (k : ∀ x b1 S1 H1, Same S S1 → Hold E B Γ b1 σ S1 H1 → aftT G E W B Γ σ S1 Q (f x b1) → Q' x H1) : tzT G E W Γ m σ H Q' := by
  refine ⟨B, S, b, hh, ?_⟩
  unfold bnd at h
  cases e : m b with
  | ok a b1 => rw [e] at h; exact fun S1 H1 s h1 => k a b1 S1 H1 s h1 (h.same s)
  | exc x b1 => rw [e] at h; exact h
  | stuck => rw [e] at h; exact h.elim
theorem tz_Abnd {m : M τ α} {f : α → M τ β} {A : α → List Pr} {R' : Rel β} {Q : VK} {Q' : List V → Hp → Prop} (hh : Hold E B Γ b σ S H) (h : aft G E W B Γ σ S R' Q (bnd m f b))
    (k : ∀ x b1 vs S1 H1, Same S S1 → Hold E B Γ b1 σ S1 H1 → All2 (fun (p : Pr) v => p.p S1 v) (A x) vs → aft G E W B Γ σ S1 R' Q (f x b1) → Q' vs H1) : tzA G E W Γ m A σ H Q' := by
  refine ⟨B, S, b, hh, ?_⟩
  unfold bnd at h
  cases e : m b with
  | ok a b1 => rw [e] at h; exact fun v S1 H1 s h1 r => k a b1 v S1 H1 s h1 r (h.same s)
  | exc x b1 => rw [e] at h; exact h
  | stuck => rw [e] at h; exact h.elim

/-! ### names and constants -/
structure Nm (c : Sc) (i : Nat) (x : Str) : Prop where
  n : c.N[i]? = some x
  v : Vis c.sc x
  d : (x == ("__debug__" : Str)) = false
  cd : (x == ("__classdict__" : Str)) = false
theorem z_var {i : Nat} {x : Str} {pos : Pos} {R : Rel α} {a : α} (n : Nm c i x) (h : Γ[i]? = some (.st (R.pr a)) := by rfl) : ZE G c E W Γ (.Name x pos) (ret a) R := fun X C =>
  pe_wk (pe_var (by rw [C.N]; exact n.n) (by rw [C.sc]; exact n.v) n.d n.cd) fun σ H Q _ ⟨B, S, b, hh, q⟩ => by
    obtain ⟨Fs, hF, hs⟩ := hh.sl
    obtain ⟨v, e1, e2⟩ := hs i _ h
    have e : σ[i]? = some (some v) := by
      cases z : σ[i]? with
      | none => rw [z] at e1; cases e1
      | some o => rw [z] at e1; cases o with
        | none => cases e1
        | some u => cases e1; rfl
    exact ⟨v, e, q v S H (Same.refl _) hh e2⟩
theorem z_int {i : Int} {j : Nat} {pos : Pos} : ZE G c E W Γ (.Constant (.int i) j pos) (ret i) rInt := fun X C => pe_wk pe_int fun σ H Q _ ⟨B, S, b, hh, q⟩ => q _ S H (Same.refl _) hh rfl
theorem z_bl {i : Bool} {j : Nat} {pos : Pos} : ZE G c E W Γ (.Constant (.bool i) j pos) (ret i) rBl := fun X C => pe_wk pe_bl fun σ H Q _ ⟨B, S, b, hh, q⟩ => q _ S H (Same.refl _) hh rfl
theorem z_str {i : Str} {j : Nat} {pos : Pos} : ZE G c E W Γ (.Constant (.str i) j pos) (ret i) rStr := fun X C => pe_wk pe_str fun σ H Q _ ⟨B, S, b, hh, q⟩ => q _ S H (Same.refl _) hh rfl
theorem z_non {j : Nat} {pos : Pos} : ZE G c E W Γ (.Constant .none j pos) (ret ()) rNon := fun X C => pe_wk pe_non fun σ H Q _ ⟨B, S, b, hh, q⟩ => q _ S H (Same.refl _) hh rfl
/-- a global constant -/
def Gb (c : Sc) (x : Str) : Prop := c.sc.names.lookup x = some .globalImplicit
theorem CtxOk.gl {X : Cx} {x : Str} (C : CtxOk G c W X) (h : Gb c x) : Gl X x := by
  show X.env.scope.names.lookup x = some .globalImplicit
  rw [C.sc]; exact h
/-! ### what is done with values -/
def zop1 (f : α → M τ β) (m : M τ α) : M τ β := bnd m f
def zop2 (f : α → β → M τ γ) (m : M τ α) (n : M τ β) : M τ γ := bnd m fun x => bnd n fun y => f x y
/-- r, asked of what stands for x (x, y), answers as f does -/
def Op1 (G : Gx) (E : Eff τ) (W : WX) (Γ : Env) (r : V → Hp → VK → Prop) (Ra : Rel α) (f : α → M τ γ) (R : Rel γ) : Prop :=
  ∀ B σ S H b x v Q, Hold E B Γ b σ S H → Ra.is x S v → aft G E W B Γ σ S R Q (f x b) → r v H Q
def Op2 (G : Gx) (E : Eff τ) (W : WX) (Γ : Env) (r : R2) (Ra : Rel α) (Rb : Rel β) (f : α → β → M τ γ) (R : Rel γ) : Prop :=
  ∀ B σ S H b x y v w Q, Hold E B Γ b σ S H → Ra.is x S v → Rb.is y S w → aft G E W B Γ σ S R Q (f x y b) → r v w H Q
def OpA (G : Gx) (E : Eff τ) (W : WX) (Γ : Env) (r : List V → Hp → VK → Prop) (A : α → List Pr) (f : α → M τ γ) (R : Rel γ) : Prop :=
  ∀ B σ S H b x vs Q, Hold E B Γ b σ S H → All2 (fun (p : Pr) v => p.p S v) (A x) vs → aft G E W B Γ σ S R Q (f x b) → r vs H Q
theorem tz_op1 {e : TE → TE} {t : TE} {r : V → Hp → VK → Prop} {Ra : Rel α} {f : α → M τ γ} {R : Rel γ} {ma : M τ α} (h : Op1 G E W Γ r Ra f R) {σ : St} {H : Hp} {Q : VK} (q : tzE G E W Γ (zop1 f ma) R σ H Q) : tzE G E W Γ ma Ra σ H fun v H1 => r v H1 Q := by
  obtain ⟨B, S, b, hh, q⟩ := q
  exact tz_bnd hh q fun x b1 v S1 H1 s1 h1 r1 q1 => h B σ S1 H1 b1 x v Q h1 r1 q1
theorem tz_op2 {r : R2} {Ra : Rel α} {Rb : Rel β} {f : α → β → M τ γ} {R : Rel γ} {ma : M τ α} {mb : M τ β} (h : Op2 G E W Γ r Ra Rb f R) {σ : St} {H : Hp} {Q : VK} (q : tzE G E W Γ (zop2 f ma mb) R σ H Q) :
    tzE G E W Γ ma Ra σ H fun v H1 => tzE G E W Γ mb Rb σ H1 fun w H2 => r v w H2 Q := by
  obtain ⟨B, S, b, hh, q⟩ := q
  refine tz_bnd hh q fun x b1 v S1 H1 s1 h1 r1 q1 => ?_
  exact tz_bnd h1 q1 fun y b2 w S2 H2 s2 h2 r2 q2 => h B σ S2 H2 b2 x y v w Q h2 (Ra.mono s2 r1) r2 q2
theorem z_bin {op : Operator} {r : R2} {Ra : Rel α} {Rb : Rel β} {f : α → β → M τ γ} {R : Rel γ} {ma : M τ α} {mb : M τ β} {ea eb : Expr} {pos : Pos} (ho : ∀ X, CtxOk G c W X → OpR X (binaryOp op) r) (h : Op2 G E W Γ r Ra Rb f R)
    (ha : ZE G c E W Γ ea ma Ra) (hb : ZE G c E W Γ eb mb Rb) : ZE G c E W Γ (.BinOp ea op eb pos) (zop2 f ma mb) R := fun X C => pe_wk (pe_op (ho X C) (ha X C) (hb X C)) fun _ _ _ _ q => tz_op2 h q
theorem z_una {op : UnaryOp} {r : V → Hp → VK → Prop} {Ra : Rel α} {f : α → M τ γ} {R : Rel γ} {ma : M τ α} {ea : Expr} {pos : Pos} (ho : ∀ X, CtxOk G c W X → UnR X (unaryOp op) r) (h : Op1 G E W Γ r Ra f R)
    (ha : ZE G c E W Γ ea ma Ra) : ZE G c E W Γ (.UnaryOp op ea pos) (zop1 f ma) R := fun X C => pe_wk (pe_un (ho X C) (ha X C)) fun _ _ _ _ q => tz_op1 (e := id) (t := fun _ _ _ => True) h q
theorem z_cmp {op : CmpOp} {r : R2} {Ra : Rel α} {Rb : Rel β} {f : α → β → M τ Bool} {ma : M τ α} {mb : M τ β} {ea eb : Expr} {pos : Pos} (ho : ∀ X, CtxOk G c W X → OpR X (compareOp op) r) (h : Op2 G E W Γ r Ra Rb f rBl)
    (ha : ZE G c E W Γ ea ma Ra) (hb : ZE G c E W Γ eb mb Rb) (hm : behindInMarks op eb = false) : ZE G c E W Γ (.Compare ea [op] [eb] pos) (zop2 f ma mb) rBl := fun X C => pe_wk (pe_cmpR (ho X C) (ha X C) (hb X C) hm) fun _ _ _ _ q => tz_op2 h q
/-- a value's test: from what is wanted of a Bool to what is wanted of a value -/
theorem aft_T {B : Bs} {σ : St} {S : Hp} {Q : Bool → Hp → Prop} : ∀ {o : Out τ Bool}, aftT G E W B Γ σ S Q o → aft G E W B Γ σ S rBl (fun v H => ∃ k, v = .bl k ∧ Q k H) o
  | .ok a _, h => fun v S' H' s hh r => ⟨a, r, h S' H' s hh⟩
  | .exc _ _, h => h
  | .stuck, h => h
theorem zt_cmp {op : CmpOp} {r : R2} {Ra : Rel α} {Rb : Rel β} {f : α → β → M τ Bool} {ma : M τ α} {mb : M τ β} {ea eb : Expr} {pos : Pos} (ho : ∀ X, CtxOk G c W X → OpR X (compareOp op) r) (h : Op2 G E W Γ r Ra Rb f rBl)
    (ha : ZE G c E W Γ ea ma Ra) (hb : ZE G c E W Γ eb mb Rb) (hm : behindInMarks op eb = false) : ZT G c E W Γ (.Compare ea [op] [eb] pos) (zop2 f ma mb) := fun X C =>
  pt_wk (pt_cmpR (ho X C) (ha X C) (hb X C) hm) fun _ _ _ _ ⟨B, S, b, hh, q⟩ => tz_op2 h ⟨B, S, b, hh, aft_T q⟩
/-- an expression that gives a truth, as a test -/
theorem zt_val {e : Expr} {m : M τ Bool} (h : ZE G c E W Γ e m rBl) (he : ∀ (env : PySem.Env) whole, isTrue e env whole = (do let v ← whole; standAt e.pos; holding [v] (truthy v)) := by intro _ _; rfl) : ZT G c E W Γ e m := fun X C =>
  pt_wk (pt_val (h X C) (he X.env)) fun _ _ _ _ ⟨B, S, b, hh, q⟩ => ⟨B, S, b, hh, aft_T q⟩
def znot (m : M τ Bool) : M τ Bool := bnd m fun x => ret (!x)
def zand (m n : M τ Bool) : M τ Bool := bnd m fun x => if x = true then n else ret false
def zor (m n : M τ Bool) : M τ Bool := bnd m fun x => if x = true then ret true else n
theorem zt_not {e : Expr} {m : M τ Bool} {pos : Pos} (h : ZT G c E W Γ e m) : ZT G c E W Γ (.UnaryOp .Not e pos) (znot m) := fun X C => pt_wk (pt_not (h X C)) fun _ _ _ _ ⟨B, S, b, hh, q⟩ => by
  refine tz_TbndT hh q fun x b1 S1 H1 s1 h1 q1 => ?_
  exact q1 S1 H1 (Same.refl _) h1
/-- a test whatever its 'whole' is -/
def ZW (G : Gx) (c : Sc) (E : Eff τ) (W : WX) (Γ : Env) (e : Expr) (m : M τ Bool) : Prop := ∀ X, CtxOk G c W X → PW X e (tzT G E W Γ m)
theorem pw_wk {X : Cx} {e : Expr} {t t' : TT} (h : PW X e t) (w : ∀ σ H Q, t' σ H Q → t σ H Q) : PW X e t' := ⟨fun wh pins s σ H Q I q => h.run wh pins s σ H Q I (w σ H Q q)⟩
theorem zw_t {e : Expr} {m : M τ Bool} (h : ZW G c E W Γ e m) : ZT G c E W Γ e m := fun X C => (h X C).pt
theorem zw_or1 {e : Expr} {m : M τ Bool} {pos : Pos} (h : ZT G c E W Γ e m) : ZW G c E W Γ (.BoolOp .Or [e] pos) m := fun X C => pw_or1 (h X C)
theorem zw_or {a d : Expr} {rest : List Expr} {m n : M τ Bool} {pos : Pos} (h : ZT G c E W Γ a m) (h2 : ZW G c E W Γ (.BoolOp .Or (d :: rest) pos) n) : ZW G c E W Γ (.BoolOp .Or (a :: d :: rest) pos) (zor m n) := fun X C =>
  pw_wk (pw_or (h X C) (h2 X C)) fun _ _ _ ⟨B, S, b, hh, q⟩ => by
    refine tz_TbndT hh q fun x b1 S1 H1 s1 h1 q1 => ?_
    cases x with
    | true => exact q1 S1 H1 (Same.refl _) h1
    | false => exact ⟨B, S1, b1, h1, q1⟩
def zif (m : M τ Bool) (n o : M τ α) : M τ α := bnd m fun x => if x = true then n else o
/-! ### the operators on whole numbers -/
def iadd (x y : Int) : M τ Int := ret (x + y)
def isub (x y : Int) : M τ Int := ret (x - y)
def mulOk (x y : Int) : Prop := CMulW x y ∨ CMul x y
noncomputable instance {x y : Int} : Decidable (mulOk x y) := Classical.propDecidable _
noncomputable def imul (x y : Int) : M τ Int := chk (mulOk x y) (ret (x * y))
def divOk (x y : Int) : Prop := CDivW x y
noncomputable instance {x y : Int} : Decidable (divOk x y) := Classical.propDecidable _
noncomputable def idiv (x y : Int) : M τ Int := chk (divOk x y) (ret (x / y))
def imod (x y : Int) : M τ Int := chk (0 < y) (ret (x % y))
def powOk (x y : Int) : Prop := CPow x y
noncomputable instance {x y : Int} : Decidable (powOk x y) := Classical.propDecidable _
noncomputable def ipow (x y : Int) : M τ Int := chk (powOk x y) (ret (x ^ y.toNat))
def ineg (x : Int) : M τ Int := ret (-x)
def ilt (x y : Int) : M τ Bool := ret (decide (x < y))
def ile (x y : Int) : M τ Bool := ret (decide (x ≤ y))
def igt (x y : Int) : M τ Bool := ret (decide (y < x))
def ige (x y : Int) : M τ Bool := ret (decide (y ≤ x))
def feq [DecidableEq α] (x y : α) : M τ Bool := ret (decide (x = y))
def fne [DecidableEq α] (x y : α) : M τ Bool := ret (!decide (x = y))
theorem aft_ret {R : Rel α} {Q : VK} {a : α} (hh : Hold E B Γ b σ S H) (h : aft G E W B Γ σ S R Q (ret a b)) {v : V} (r : R.is a S v) : Q v H := h v S H (Same.refl _) hh r
theorem aft_chk {R : Rel α} {Q : VK} {p : Prop} [Decidable p] {m : M τ α} (h : aft G E W B Γ σ S R Q (chk p m b)) : p ∧ aft G E W B Γ σ S R Q (m b) := by
  unfold chk at h
  by_cases hp : p
  · rw [if_pos hp] at h; exact ⟨hp, h⟩
  · rw [if_neg hp] at h; exact h.elim
theorem opI2 {g : Int → Int → Int} : Op2 G E W Γ (rI0 fun i j => .int (g i j)) rInt rInt (fun x y => ret (g x y)) rInt := fun B σ S H b x y v w Q hh hx hy q => ⟨x, y, hx, hy, aft_ret hh q rfl⟩
theorem opB2 {g : Int → Int → Bool} : Op2 G E W Γ (rI0 fun i j => .bl (g i j)) rInt rInt (fun x y => ret (g x y)) rBl := fun B σ S H b x y v w Q hh hx hy q => ⟨x, y, hx, hy, aft_ret hh q rfl⟩
theorem opC2 {P : Int → Int → Prop} [∀ x y, Decidable (P x y)] {g : Int → Int → Int} : Op2 G E W Γ (rI P fun i j => .int (g i j)) rInt rInt (fun x y => chk (P x y) (ret (g x y))) rInt := fun B σ S H b x y v w Q hh hx hy q =>
  let ⟨p, q⟩ := aft_chk q
  ⟨x, y, hx, hy, p, aft_ret hh q rfl⟩
theorem op_mulA {X : Cx} : OpR X (binaryOp .Mult) (rI mulOk fun i j => .int (i * j)) := fun pins s σ H x y v u Q I rx ry ⟨i, j, e1, e2, hc, q⟩ => by
  rcases hc with hc | hc
  · exact op_mulW pins s σ H x y v u Q I rx ry ⟨i, j, e1, e2, hc, q⟩
  · exact op_mul pins s σ H x y v u Q I rx ry ⟨i, j, e1, e2, hc, q⟩
section
variable {ea eb : Expr} {pos : Pos} {ma mb : M τ Int}
theorem z_add (ha : ZE G c E W Γ ea ma rInt) (hb : ZE G c E W Γ eb mb rInt) : ZE G c E W Γ (.BinOp ea .Add eb pos) (zop2 iadd ma mb) rInt := z_bin (fun _ _ => op_add) opI2 ha hb
theorem z_mul (ha : ZE G c E W Γ ea ma rInt) (hb : ZE G c E W Γ eb mb rInt) : ZE G c E W Γ (.BinOp ea .Mult eb pos) (zop2 imul ma mb) rInt := z_bin (fun _ _ => op_mulA) opC2 ha hb
theorem z_div (ha : ZE G c E W Γ ea ma rInt) (hb : ZE G c E W Γ eb mb rInt) : ZE G c E W Γ (.BinOp ea .FloorDiv eb pos) (zop2 idiv ma mb) rInt := z_bin (r := rI divOk fun i j => .int (i / j)) (fun _ _ => op_fdivW) opC2 ha hb
theorem z_mod (ha : ZE G c E W Γ ea ma rInt) (hb : ZE G c E W Γ eb mb rInt) : ZE G c E W Γ (.BinOp ea .Mod eb pos) (zop2 imod ma mb) rInt := z_bin (fun _ _ => op_mod) opC2 ha hb
theorem z_pow (ha : ZE G c E W Γ ea ma rInt) (hb : ZE G c E W Γ eb mb rInt) : ZE G c E W Γ (.BinOp ea .Pow eb pos) (zop2 ipow ma mb) rInt := z_bin (r := rI powOk fun i j => .int (i ^ j.toNat)) (fun _ _ => op_pow) opC2 ha hb
theorem z_neg (ha : ZE G c E W Γ ea ma rInt) : ZE G c E W Γ (.UnaryOp .USub ea pos) (zop1 ineg ma) rInt := z_una (fun _ _ => un_neg) (fun B σ S H b x v Q hh hx q => ⟨x, hx, aft_ret hh q rfl⟩) ha
theorem zt_lt (ha : ZE G c E W Γ ea ma rInt) (hb : ZE G c E W Γ eb mb rInt) : ZT G c E W Γ (.Compare ea [.Lt] [eb] pos) (zop2 ilt ma mb) := zt_cmp (fun _ _ => op_lt) opB2 ha hb (nomark _)
theorem zt_gt (ha : ZE G c E W Γ ea ma rInt) (hb : ZE G c E W Γ eb mb rInt) : ZT G c E W Γ (.Compare ea [.Gt] [eb] pos) (zop2 igt ma mb) := zt_cmp (fun _ _ => op_gt) opB2 ha hb (nomark _)
theorem zt_ge (ha : ZE G c E W Γ ea ma rInt) (hb : ZE G c E W Γ eb mb rInt) : ZT G c E W Γ (.Compare ea [.GtE] [eb] pos) (zop2 ige ma mb) := zt_cmp (fun _ _ => op_ge) opB2 ha hb (nomark _)
end
/-- a < b < c and its like -/
def zchain (f : α → β → M τ Bool) (g : β → γ → M τ Bool) (ma : M τ α) (mb : M τ β) (mc : M τ γ) : M τ Bool := bnd ma fun x => bnd mb fun y => bnd (f x y) fun k => if k = true then bnd mc fun z => g y z else ret false
/-- the order of two whole numbers, for chains -/
structure CmpI (G : Gx) (E : Eff τ) (W : WX) (Γ : Env) (op : CmpOp) (f : Int → Int → M τ Bool) (r : R2) : Prop where
  o : ∀ X, OpR X (compareOp op) r
  h : Op2 G E W Γ r rInt rInt f rBl
/-! ### argument lists, displays -/
def zpair (m : M τ α) (n : M τ β) : M τ (α × β) := bnd m fun x => bnd n fun y => ret (x, y)
abbrev Star (e : Expr) (es : List Expr) : Prop := ∀ env : PySem.Env, starEach (e :: es) env = (false, eval e env) :: starEach es env
theorem za_one {e : Expr} {m : M τ α} {R : Rel α} (h : ZE G c E W Γ e m R) (hs : Star e [] := by intro _; rfl) : ZA G c E W Γ [e] m (fun x => [R.pr x]) := fun X C =>
  pa_wk (pa_cons (h X C) pa_nil (hs X.env)) fun σ H Q _ ⟨B, S, b, hh, q⟩ => by
    refine ⟨B, S, b, hh, ?_⟩
    cases e : m b with
    | ok a b1 => rw [e] at q; exact fun v S1 H1 s h1 r => q [v] S1 H1 s h1 ⟨r, trivial⟩
    | exc x b1 => rw [e] at q; exact q
    | stuck => rw [e] at q; exact q.elim
theorem za_cons {e : Expr} {es : List Expr} {m : M τ α} {n : M τ β} {R : Rel α} {A : β → List Pr} (h : ZE G c E W Γ e m R) (h2 : ZA G c E W Γ es n A) (hs : Star e es := by intro _; rfl) : ZA G c E W Γ (e :: es) (zpair m n) (fun x => R.pr x.1 :: A x.2) := fun X C =>
  pa_wk (pa_cons (h X C) (h2 X C) (hs X.env)) fun σ H Q _ ⟨B, S, b, hh, q⟩ => by
    refine tz_bndA hh q fun x b1 v S1 H1 s1 h1 r1 q1 => ?_
    refine ⟨B, S1, b1, h1, ?_⟩
    unfold bnd at q1
    cases e : n b1 with
    | ok a b2 => rw [e] at q1; exact fun vs S2 H2 s h2 r => q1 (v :: vs) S2 H2 s h2 ⟨R.mono s r1, r⟩
    | exc x b1 => rw [e] at q1; exact q1
    | stuck => rw [e] at q1; exact q1.elim
/-- a list of things of one kind, one by one -/
def zcons (m : M τ α) (n : M τ (List α)) : M τ (List α) := bnd m fun x => bnd n fun y => ret (x :: y)
abbrev Rel.all (R : Rel α) (xs : List α) : List Pr := xs.map fun x => R.pr x
theorem zl_nil {R : Rel α} : ZA G c E W Γ [] (ret []) R.all := fun X C => pa_wk pa_nil fun _ H _ _ ⟨B, S, b, hh, q⟩ => q [] S H (Same.refl _) hh trivial
theorem zl_cons {e : Expr} {es : List Expr} {m : M τ α} {n : M τ (List α)} {R : Rel α} (h : ZE G c E W Γ e m R) (h2 : ZA G c E W Γ es n R.all) (hs : Star e es := by intro _; rfl) : ZA G c E W Γ (e :: es) (zcons m n) R.all := fun X C =>
  pa_wk (pa_cons (h X C) (h2 X C) (hs X.env)) fun σ H Q _ ⟨B, S, b, hh, q⟩ => by
    refine tz_bndA hh q fun x b1 v S1 H1 s1 h1 r1 q1 => ?_
    refine ⟨B, S1, b1, h1, ?_⟩
    unfold bnd at q1
    cases e : n b1 with
    | ok a b2 => rw [e] at q1; exact fun vs S2 H2 s h2 r => q1 (v :: vs) S2 H2 s h2 ⟨R.mono s r1, r⟩
    | exc x b1 => rw [e] at q1; exact q1
    | stuck => rw [e] at q1; exact q1.elim
theorem all_of {R : Rel α} {S : Hp} : ∀ {xs : List α} {vs : List V}, All2 (fun (p : Pr) v => p.p S v) (R.all xs) vs → All2 (fun x v => R.is x S v) xs vs
  | [], [], _ => trivial
  | _ :: _, _ :: _, ⟨a, b⟩ => ⟨a, all_of b⟩
  | [], _ :: _, h => h.elim
  | _ :: _, [], h => h.elim
/-- what a new stable object is -/
theorem aft_new {R : Rel α} {Q : VK} {a : α} {p : Addr} {o : HO} (hh : Hold E B Γ b σ S H) (h : aft G E W B Γ σ S R Q (ret a b)) (hp : H p = none) (r : R.is a (upd S p o) (.ref p)) : Q (.ref p) (upd H p o) :=
  h _ (upd S p o) _ (same_new (hh.same.free hp)) (hh.new hp) r
def zlist (m : M τ (List α)) : M τ (List α) := bnd m fun xs => chk (xs.length ≤ sizeLine) (ret xs)
theorem All2.rel {R : Rel α} {S S' : Hp} (s : Same S S') {xs : List α} {vs : List V} (h : All2 (fun x v => R.is x S v) xs vs) : All2 (fun x v => R.is x S' v) xs vs := h.imp fun _ _ h => R.mono s h
theorem rLst_new {R : Rel α} {p : Addr} {xs : List α} {vs : List V} (s : S p = none) (h : All2 (fun x v => R.is x S v) xs vs) : (rLst R).is xs (upd S p (.lst vs)) (.ref p) := ⟨p, vs, rfl, upd_same, All2.rel (same_new s) h⟩
theorem z_list {es : List Expr} {m : M τ (List α)} {R : Rel α} {pos : Pos} (h : ZA G c E W Γ es m R.all) : ZE G c E W Γ (.List es pos) (zlist m) (rLst R) := fun X C => pe_wk (pe_lst (h X C)) fun σ H Q _ ⟨B, S, b, hh, q⟩ => by
  refine tz_Abnd hh q fun x b1 vs S1 H1 s1 h1 r1 q1 => ?_
  obtain ⟨hl, q2⟩ := aft_chk q1
  have r2 := all_of r1
  exact ⟨by rw [← r2.length]; exact hl, fun p hp => aft_new h1 q2 hp (rLst_new (h1.same.free hp) r2)⟩
theorem line4 {n : Nat} (h : n ≤ 4) : n ≤ sizeLine := Nat.le_trans h (by decide)
theorem z_tup2 {es : List Expr} {m : M τ (α × β)} {R : Rel α} {R2 : Rel β} {k} {pos : Pos} (h : ZA G c E W Γ es m (fun x => [R.pr x.1, R2.pr x.2])) : ZE G c E W Γ (.Tuple es k pos) m (rT2 R R2) := fun X C => pe_wk (pe_tup (h X C)) fun σ H Q _ ⟨B, S, b, hh, q⟩ => by
  refine ⟨B, S, b, hh, ?_⟩
  cases e : m b with
  | exc x b1 => rw [e] at q; exact q
  | stuck => rw [e] at q; exact q.elim
  | ok a b1 =>
    rw [e] at q
    intro vs S1 H1 s1 h1 r1
    match vs, r1 with
    | [u, w], ⟨r1, r2, _⟩ =>
      refine ⟨line4 (by simp), fun p hp => ?_⟩
      have s2 := same_new (o := HO.tup [u, w]) (h1.same.free hp)
      exact q _ (upd S1 p (.tup [u, w])) _ (s1.trans s2) (h1.new hp) ⟨p, u, w, rfl, upd_same, R.mono s2 r1, R2.mono s2 r2⟩
/-! ### calls of what is built in -/
def zapp (f : α → M τ γ) (m : M τ α) : M τ γ := bnd m f
structure Blt (G : Gx) (c : Sc) (x : Str) (u : Value) : Prop where
  g : Gb c x
  m : G.mg x = none
  v : bootBuiltins x = some u
  n : x ≠ "__name__"
  d : (x == ("__debug__" : Str)) = false
theorem z_callB {x : Str} {id : String} {e : Expr} {es : List Expr} {r : List V → Hp → VK → Prop} {A : α → List Pr} {f : α → M τ γ} {R : Rel γ} {m : M τ α} {p pos : Pos} (bl : Blt G c x (.builtin id)) (hc : ∀ X, CtxOk G c W X → CallR X (.builtin id) r) (h : OpA G E W Γ r A f R)
    (ha : ZA G c E W Γ (e :: es) m A) (he : Star e es := by intro _; rfl) (hpl : ∀ env : PySem.Env, (backTo pos (starEach es env)).any (·.1) = false := by intro _; rfl) : ZE G c E W Γ (.Call (.Name x p) (e :: es) [] pos) (zapp f m) R := fun X C =>
  pe_wk (pe_callB (hc X C) (C.gl bl.g) (by rw [C.mg]; exact bl.m) bl.v (ha X C) bl.n bl.d (he X.env) (hpl X.env)) fun σ H Q _ ⟨B, S, b, hh, q⟩ =>
    tz_Abnd hh q fun x b1 vs S1 H1 s1 h1 r1 q1 => h B σ S1 H1 b1 x vs Q h1 r1 q1
end
end Zk

namespace Zk
open PySem L2

section
variable {τ α β γ δ : Type} {G : Gx} {c : Sc} {E : Eff τ} {W : WX} {Γ : Env} {B : Bs} {σ : St} {S S1 H : Hp} {b : τ}
/-! ### data at any depth -/
structure DatR (R : Rel α) where
  d : α → PyData
  n : Nat
  dep : ∀ x, (d x).depth ≤ n
  dp : ∀ {K : PySem.W.Frag} {x : α} {S H : Hp} {v : V}, Same S H → R.is x S v → Dp K H v (d x)
  eq : ∀ x y, PyData.eqv (d x) (d y) = true ↔ x = y
def datB : DatR rBl := ⟨.bool, 0, fun _ => by simp [PyData.depth], fun _ h => by cases h; exact .bl _, fun x y => by simp [PyData.eqv]⟩
theorem dpAll {R : Rel α} (D : DatR R) {K : PySem.W.Frag} {S H : Hp} (s : Same S H) : ∀ {xs : List α} {vs : List V}, All2 (fun x v => R.is x S v) xs vs → DpAll K H vs (xs.map D.d)
  | [], [], _ => .nil
  | _ :: _, _ :: _, ⟨a, b⟩ => .cons (D.dp s a) (dpAll D s b)
  | [], _ :: _, h => h.elim
  | _ :: _, [], h => h.elim
theorem depAll {R : Rel α} (D : DatR R) : ∀ xs : List α, PyData.depthAll (xs.map D.d) ≤ D.n
  | [] => by simp [PyData.depthAll]
  | x :: xs => by
    have := depAll D xs
    have := D.dep x
    simp only [List.map_cons, PyData.depthAll]; omega
theorem eqAll {R : Rel α} (D : DatR R) : ∀ xs ys : List α, PyData.eqvAll (xs.map D.d) (ys.map D.d) = true ↔ xs = ys
  | [], [] => by simp [PyData.eqvAll]
  | [], _ :: _ => by simp [PyData.eqvAll]
  | _ :: _, [] => by simp [PyData.eqvAll]
  | x :: xs, y :: ys => by simp [PyData.eqvAll, D.eq, eqAll D xs ys]
def datL {R : Rel α} (D : DatR R) : DatR (rLst R) := ⟨fun xs => .list (xs.map D.d), D.n + 1, fun xs => by have := depAll D xs; simp only [PyData.depth]; omega, fun s ⟨a, vs, e, h, q⟩ => by cases e; exact .lst (.of (s _ _ h)) (dpAll D s q), fun x y => by simp [PyData.eqv, eqAll D]⟩
def deqOk {R : Rel α} (D : DatR R) (x y : α) : Prop := (D.d x).canLay0 = true ∧ (D.d y).canLay0 = true ∧ D.n ≤ 64
instance {R : Rel α} {D : DatR R} {x y : α} : Decidable (deqOk D x y) := inferInstanceAs (Decidable (_ ∧ _ ∧ _))
def deq {R : Rel α} (D : DatR R) [DecidableEq α] (x y : α) : M τ Bool := chk (deqOk D x y) (ret (decide (x = y)))
def dne {R : Rel α} (D : DatR R) [DecidableEq α] (x y : α) : M τ Bool := chk (deqOk D x y) (ret (!decide (x = y)))
theorem deq_sh {R : Rel α} {D : DatR R} {x : α} (h : (D.d x).canLay0 = true) (n : D.n ≤ 64) : SeqAt.shaped (D.d x) = true := by
  unfold SeqAt.shaped
  have := D.dep x
  simp only [h, Bool.true_and, decide_eq_true_eq]; omega
theorem deq_ev {R : Rel α} {D : DatR R} [DecidableEq α] (x y : α) : PyData.eqv (D.d x) (D.d y) = decide (x = y) := by
  by_cases e : x = y
  · rw [decide_eq_true e]; exact (D.eq x y).mpr e
  · rw [decide_eq_false e]
    cases q : PyData.eqv (D.d x) (D.d y) with
    | false => rfl
    | true => exact absurd ((D.eq x y).mp q) e
theorem op_deq {R : Rel α} {D : DatR R} [DecidableEq α] : Op2 G E W Γ (rEqD G.K) R R (deq D) rBl := fun B σ S H b x y v w Q hh hx hy q => by
  obtain ⟨⟨h1, h2, h3⟩, q⟩ := aft_chk q
  exact ⟨_, _, D.dp hh.same hx, D.dp hh.same hy, deq_sh h1 h3, deq_sh h2 h3, by rw [deq_ev]; exact aft_ret hh q rfl⟩
theorem op_dne {R : Rel α} {D : DatR R} [DecidableEq α] : Op2 G E W Γ (rNeD G.K) R R (dne D) rBl := fun B σ S H b x y v w Q hh hx hy q => by
  obtain ⟨⟨h1, h2, h3⟩, q⟩ := aft_chk q
  exact ⟨_, _, D.dp hh.same hx, D.dp hh.same hy, deq_sh h1 h3, deq_sh h2 h3, by rw [deq_ev]; exact aft_ret hh q rfl⟩
section
variable {ea eb : Expr} {pos : Pos}
theorem z_deq {R : Rel α} (D : DatR R) [DecidableEq α] {ma mb : M τ α} (ha : ZE G c E W Γ ea ma R) (hb : ZE G c E W Γ eb mb R) : ZE G c E W Γ (.Compare ea [.Eq] [eb] pos) (zop2 (deq D) ma mb) rBl := z_cmp (fun X C => by rw [← C.K]; exact op_eqD C.room.units) op_deq ha hb (nomark _)
theorem zt_dne {R : Rel α} (D : DatR R) [DecidableEq α] {ma mb : M τ α} (ha : ZE G c E W Γ ea ma R) (hb : ZE G c E W Γ eb mb R) : ZT G c E W Γ (.Compare ea [.NotEq] [eb] pos) (zop2 (dne D) ma mb) := zt_cmp (fun X C => by rw [← C.K]; exact op_neD C.room.units) op_dne ha hb (nomark _)
/-! scalars: no condition -/
structure ScalR (R : Rel α) (f : α → V) : Prop where
  is : ∀ {x : α} {S : Hp} {v : V}, R.is x S v → v = f x
  sc : ∀ x y, scal (f x) (f y) = true
  inj : ∀ x y, f x = f y ↔ x = y
theorem scI : ScalR rInt V.int := ⟨fun h => h, fun _ _ => rfl, fun x y => by simp⟩
theorem scB : ScalR rBl V.bl := ⟨fun h => h, fun _ _ => rfl, fun x y => by simp⟩
theorem op_seq {R : Rel α} {f : α → V} (D : ScalR R f) [DecidableEq α] : Op2 G E W Γ rEq R R feq rBl := fun B σ S H b x y v w Q hh hx hy q => by
  refine ⟨by rw [D.is hx, D.is hy]; exact D.sc x y, ?_⟩
  have e : decide (v = w) = decide (x = y) := by rw [D.is hx, D.is hy]; exact decide_eq_decide.mpr (D.inj x y)
  rw [e]; exact aft_ret hh q rfl
theorem z_eq {R : Rel α} {f : α → V} (D : ScalR R f) [DecidableEq α] {ma mb : M τ α} (ha : ZE G c E W Γ ea ma R) (hb : ZE G c E W Γ eb mb R) : ZE G c E W Γ (.Compare ea [.Eq] [eb] pos) (zop2 feq ma mb) rBl := z_cmp (fun X C => op_eq) (op_seq D) ha hb (nomark _)
theorem zt_eq {R : Rel α} {f : α → V} (D : ScalR R f) [DecidableEq α] {ma mb : M τ α} (ha : ZE G c E W Γ ea ma R) (hb : ZE G c E W Γ eb mb R) : ZT G c E W Γ (.Compare ea [.Eq] [eb] pos) (zop2 feq ma mb) := zt_cmp (fun X C => op_eq) (op_seq D) ha hb (nomark _)
end

/-! ### items -/
def ixat (xs : List α) (i : Int) : M τ α := match atI xs i with | some v => ret v | none => stk
theorem All2.atI {r : α → V → Prop} {xs : List α} {vs : List V} {i : Int} {x : α} (h : All2 r xs vs) (e : L2.atI xs i = some x) : ∃ v, L2.atI vs i = some v ∧ r x v := by
  unfold L2.atI at e ⊢
  rw [← h.length]
  cases q : ixN xs.length i with
  | none => rw [q] at e; cases e
  | some j => rw [q] at e; exact h.get e
theorem op_ixL {R : Rel α} : Op2 G E W Γ (rIxL G.K) (rLst R) rInt ixat R := fun B σ S H b xs i v w Q hh ⟨a, vs, e1, e2, e3⟩ e4 q => by
  unfold ixat at q
  cases z : atI xs i with
  | none => rw [z] at q; exact q.elim
  | some x =>
    rw [z] at q
    obtain ⟨u, h1, h2⟩ := e3.atI z
    exact ⟨a, vs, i, u, e1, e4, .of (hh.same _ _ e2), h1, aft_ret hh q h2⟩
abbrev PIx (e : Expr) : Prop := ∀ o i, subscripted e false o i = operate [o, i] (getItem o i)
theorem z_ixL {ea eb : Expr} {pos : Pos} {R : Rel α} {ma : M τ (List α)} {mb : M τ Int} (ha : ZE G c E W Γ ea ma (rLst R)) (hb : ZE G c E W Γ eb mb rInt) (hs : PIx eb := by intro _ _; rfl) : ZE G c E W Γ (.Subscript ea eb pos) (zop2 ixat ma mb) R := fun X C =>
  pe_wk (pe_ix ix_list (ha X C) (hb X C) hs) fun _ _ _ _ q => by rw [C.K]; exact tz_op2 op_ixL q
/-- a written place of a tuple of things of several kinds -/
structure TupAt (R : Rel α) (k : Int) (f : α → β) (R2 : Rel β) : Prop where
  h : ∀ {x : α} {S : Hp} {v : V}, R.is x S v → ∃ a vs u, v = .ref a ∧ S a = some (.tup vs) ∧ atI vs k = some u ∧ R2.is (f x) S u
def zget (f : α → β) (m : M τ α) : M τ β := bnd m fun x => ret (f x)
/-! ### built-in functions -/
theorem opA1 {r : List V → Hp → VK → Prop} {R : Rel α} {f : α → M τ γ} {R' : Rel γ} (h : Op1 G E W Γ (fun v H Q => r [v] H Q) R f R') : OpA G E W Γ r (fun x => [R.pr x]) f R' := fun B σ S H b x vs Q hh hv q => by
  match vs, hv with
  | [v], ⟨h1, _⟩ => exact h B σ S H b x v Q hh h1 q
section
variable {e e2 : Expr} {p pos : Pos} {x : Str}
abbrev Plain1 (es : List Expr) : Prop := ∀ (pos : Pos) (env : PySem.Env), (backTo pos (starEach es env)).any (·.1) = false
theorem z_b1 {id : String} {r : List V → Hp → VK → Prop} {R : Rel α} {f : α → M τ γ} {R' : Rel γ} {m : M τ α} (bl : Blt G c x (.builtin id)) (hc : ∀ X, CtxOk G c W X → CallR X (.builtin id) r) (h : Op1 G E W Γ (fun v H Q => r [v] H Q) R f R')
    (ha : ZE G c E W Γ e m R) (hs : Star e [] := by intro _; rfl) : ZE G c E W Γ (.Call (.Name x p) [e] [] pos) (zapp f m) R' := z_callB bl hc (opA1 h) (za_one ha hs) hs (fun _ => rfl)
def flen (xs : List α) : M τ Int := ret (xs.length : Int)
def fsum (xs : List Int) : M τ Int := ret xs.sum
def fabs (x : Int) : M τ Int := ret (if x < 0 then -x else x)
theorem z_abs {m : M τ Int} (bl : Blt G c x (.builtin "abs")) (ha : ZE G c E W Γ e m rInt) (hs : Star e [] := by intro _; rfl) : ZE G c E W Γ (.Call (.Name x p) [e] [] pos) (zapp fabs m) rInt :=
  z_b1 bl (fun X C => call_abs) (fun B σ S H b x v Q hh hx q => ⟨x, by rw [hx], aft_ret hh q rfl⟩) ha hs
def fall (xs : List Bool) : M τ Bool := ret (xs.all id)
def fany (xs : List Bool) : M τ Bool := ret (xs.any id)
/-! isinstance, both answers known by the kind -/
structure IsT (G : Gx) (R : Rel α) (t : Value) : Prop where
  h : ∀ {x : α} {S H : Hp} {v : V}, Same S H → R.is x S v → TyX G.K H v t
def zis (k : Bool) (m : M τ α) : M τ Bool := bnd m fun _ => ret k
end

/-! ### lists and tuples put together, cut -/
section
variable {ea eb : Expr} {pos : Pos}
def lcat (xs ys : List α) : M τ (List α) := chk (xs.length + ys.length ≤ sizeLine) (ret (xs ++ ys))
theorem z_catL {R : Rel α} {ma mb : M τ (List α)} (ha : ZE G c E W Γ ea ma (rLst R)) (hb : ZE G c E W Γ eb mb (rLst R)) : ZE G c E W Γ (.BinOp ea .Add eb pos) (zop2 lcat ma mb) (rLst R) :=
  z_bin (Ra := rLst R) (Rb := rLst R) (fun _ _ => op_cat) (fun B σ S H b x y v w Q hh ⟨a, vs, e1, e2, e3⟩ ⟨a', vs', e1', e2', e3'⟩ q => by
    obtain ⟨hl, q⟩ := aft_chk q
    exact ⟨a, a', vs, vs', e1, e1', hh.same _ _ e2, hh.same _ _ e2', by rw [← e3.length, ← e3'.length]; exact hl, fun p hp => aft_new hh q hp (rLst_new (hh.same.free hp) (e3.append e3'))⟩) ha hb
end
end
end Zk

namespace Zk
open PySem L2

section
variable {τ α β γ δ κ ρ ι : Type} {G : Gx} {c : Sc} {E : Eff τ} {W : WX} {Γ Γ' : Env} {B : Bs} {σ : St} {S S1 H H' : Hp} {b : τ} {L : Ls κ ρ}
theorem aftS.same {Γn : α → Env} {D : Ends} (s : Same S S1) : ∀ {o : Out τ (Fl α κ ρ)}, aftS G E W L B S Γn D o → aftS G E W L B S1 Γn D o
  | .ok (.nx _) _, h => fun σ' S' H' s2 => h σ' S' H' (s.trans s2)
  | .ok (.rt _) _, h => h
  | .ok (.bk _) _, h => fun σ' S' H' s2 => h σ' S' H' (s.trans s2)
  | .ok (.ct _) _, h => fun σ' S' H' s2 => h σ' S' H' (s.trans s2)
  | .exc _ _, h => h
  | .stuck, h => h
/-! ### fewer slots; what was one's own becomes stable -/
/-- what Γ tells Γ' tells too (perhaps more has become stable) -/
def Sub (E : Eff τ) (Γ Γ' : Env) : Prop := ∀ {B : Bs} {b : τ} {σ : St} {S H : Hp}, Hold E B Γ b σ S H → ∃ S', Same S S' ∧ Hold E B Γ' b σ S' H
theorem sub_nil : Sub E Γ [] := fun h => ⟨_, Same.refl _, h.nil⟩
theorem sub_wk (w : ∀ (i : Nat) s, Γ'[i]? = some s → s = .no ∨ Γ[i]? = some s) : Sub E Γ Γ' := fun h => ⟨_, Same.refl _, h.wk w⟩
inductive SubL : Env → Env → Prop
  | nil : SubL [] []
  | keep {s : Sl} {l l' : Env} : SubL l l' → SubL (s :: l) (s :: l')
  | drop {s : Sl} {l l' : Env} : SubL l l' → SubL (s :: l) (.no :: l')
theorem SubL.wk : ∀ {l l' : Env}, SubL l l' → ∀ (i : Nat) s, l'[i]? = some s → s = .no ∨ l[i]? = some s
  | _, _, .nil, _, _, h => by simp at h
  | _, _, .keep h, 0, s, e => .inr e
  | _, _, .keep h, i + 1, s, e => by simpa using SubL.wk h i s (by simpa using e)
  | _, _, .drop h, 0, s, e => by simp at e; exact .inl e.symm
  | _, _, .drop h, i + 1, s, e => by simpa using SubL.wk h i s (by simpa using e)
theorem SubL.sub (h : SubL Γ Γ') : Sub E Γ Γ' := sub_wk h.wk
theorem Sub.trans {Γ'' : Env} (h : Sub E Γ Γ') (h2 : Sub E Γ' Γ'') : Sub E Γ Γ'' := fun x => by
  obtain ⟨S1, s1, h1⟩ := h x
  obtain ⟨S2, s2, h3⟩ := h2 h1
  exact ⟨S2, s1.trans s2, h3⟩

/-! ### blocks -/
def zseq (m : M τ (Fl α κ ρ)) (f : α → M τ (Fl β κ ρ)) : M τ (Fl β κ ρ) := fun s => match m s with
  | .ok (.nx a) s' => f a s'
  | .ok (.rt r) s' => .ok (.rt r) s'
  | .ok (.bk k) s' => .ok (.bk k) s'
  | .ok (.ct k) s' => .ok (.ct k) s'
  | .exc e s' => .exc e s'
  | .stuck => .stuck
def znx (a : α) : M τ (Fl α κ ρ) := ret (.nx a)
theorem zb_nil {Γn : α → Env} {a : α} (h : Sub E Γ (Γn a)) : ZB G c E W L Γ [] (znx a) Γn := fun X C => pss_wk pss_nil fun D σ H _ ⟨B, S, b, hh, q⟩ => by
  obtain ⟨S', s', h'⟩ := h hh
  exact q σ S' H s' h'
theorem zb_cons {st : Stmt} {sts : List Stmt} {m : M τ (Fl α κ ρ)} {f : α → M τ (Fl β κ ρ)} {Γ1 : α → Env} {Γn : β → Env} (h1 : ZS G c E W L Γ st m Γ1) (h2 : ∀ a, ZB G c E W L (Γ1 a) sts (f a) Γn) : ZB G c E W L Γ (st :: sts) (zseq m f) Γn := fun X C =>
  pss_wk (pss_cons (h1 X C) (pss_ex fun a => h2 a X C)) fun D σ H _ ⟨B, S, b, hh, q⟩ => by
    refine ⟨B, S, b, hh, ?_⟩
    unfold zseq at q
    cases e : m b with
    | stuck => rw [e] at q; exact q.elim
    | exc x b1 => rw [e] at q; exact q
    | ok r b1 =>
      rw [e] at q
      cases r with
      | nx a => exact fun σ' S' H' s h => ⟨a, B, S', b1, h, q.same s⟩
      | rt r => exact q
      | bk k => exact q
      | ct k => exact q
/-- the last statement, which hands back or raises on every way, or what it tells is what the block tells -/
theorem zb_one {st : Stmt} {m : M τ (Fl α κ ρ)} {Γn : α → Env} (h1 : ZS G c E W L Γ st m Γn) : ZB G c E W L Γ [st] m Γn := fun X C => pss_wk (pss_one (h1 X C)) fun D σ H _ q => q
theorem zb_wk {st : List Stmt} {m : M τ (Fl α κ ρ)} {Γn : α → Env} (s : Sub E Γ Γ') (h1 : ZB G c E W L Γ' st m Γn) : ZB G c E W L Γ st m Γn := fun X C => pss_wk (h1 X C) fun D σ H _ ⟨B, S, b, hh, q⟩ => by
  obtain ⟨S', s', h'⟩ := s hh
  exact ⟨B, S', b, h', q.same s'⟩
/-- from an expression's reading on into a statement's -/
theorem tzS_bnd {m : M τ α} {f : α → M τ (Fl β κ ρ)} {R : Rel α} {Γn : β → Env} {D : Ends} {Q' : VK} (sx : Sub E Γ L.x) (hh : Hold E B Γ b σ S H) (h : aftS G E W L B S Γn D (bnd m f b))
    (k : ∀ x b1 v S1 H1, Same S S1 → Hold E B Γ b1 σ S1 H1 → R.is x S1 v → aftS G E W L B S1 Γn D (f x b1) → Q' v H1) : tzE G E W Γ m R σ H Q' := by
  refine ⟨B, S, b, hh, ?_⟩
  unfold bnd at h
  cases e : m b with
  | ok a b1 => rw [e] at h; exact fun v S1 H1 s h1 r => k a b1 v S1 H1 s h1 r (h.same s)
  | exc x b1 => rw [e] at h; exact fun c d S1 H1 _ h1 xa => let ⟨S2, _, h2⟩ := sx h1; h c d σ S2 H1 h2 xa
  | stuck => rw [e] at h; exact h.elim
theorem tzS_bndT {m : M τ Bool} {f : Bool → M τ (Fl β κ ρ)} {Γn : β → Env} {D : Ends} {Q' : Bool → Hp → Prop} (sx : Sub E Γ L.x) (hh : Hold E B Γ b σ S H) (h : aftS G E W L B S Γn D (bnd m f b))
    (k : ∀ x b1 S1 H1, Same S S1 → Hold E B Γ b1 σ S1 H1 → aftS G E W L B S1 Γn D (f x b1) → Q' x H1) : tzT G E W Γ m σ H Q' := by
  refine ⟨B, S, b, hh, ?_⟩
  unfold bnd at h
  cases e : m b with
  | ok a b1 => rw [e] at h; exact fun S1 H1 s h1 => k a b1 S1 H1 s h1 (h.same s)
  | exc x b1 => rw [e] at h; exact fun c d S1 H1 _ h1 xa => let ⟨S2, _, h2⟩ := sx h1; h c d σ S2 H1 h2 xa
  | stuck => rw [e] at h; exact h.elim
theorem tzS_bndA {m : M τ α} {f : α → M τ (Fl β κ ρ)} {A : α → List Pr} {Γn : β → Env} {D : Ends} {Q' : List V → Hp → Prop} (sx : Sub E Γ L.x) (hh : Hold E B Γ b σ S H) (h : aftS G E W L B S Γn D (bnd m f b))
    (k : ∀ x b1 v S1 H1, Same S S1 → Hold E B Γ b1 σ S1 H1 → All2 (fun (p : Pr) v => p.p S1 v) (A x) v → aftS G E W L B S1 Γn D (f x b1) → Q' v H1) : tzA G E W Γ m A σ H Q' := by
  refine ⟨B, S, b, hh, ?_⟩
  unfold bnd at h
  cases e : m b with
  | ok a b1 => rw [e] at h; exact fun v S1 H1 s h1 r => k a b1 v S1 H1 s h1 r (h.same s)
  | exc x b1 => rw [e] at h; exact fun c d S1 H1 _ h1 xa => let ⟨S2, _, h2⟩ := sx h1; h c d σ S2 H1 h2 xa
  | stuck => rw [e] at h; exact h.elim

/-! ### small statements -/
structure Ns (c : Sc) (i : Nat) (x : Str) : Prop where
  n : c.N[i]? = some x
  l : Loc c.sc x
  f : c.fx x = true ∨ c.sc.names.lookup x = some .local
abbrev NoSwap (e : Expr) : Prop := ∀ (t : Option Expr) (l : Nat) (env : PySem.Env), swapsWith e t l env = pure false
def zset (m : M τ α) : M τ (Fl α κ ρ) := bnd m fun x => ret (.nx x)
theorem CtxOk.set_hN {X : Cx} (C : CtxOk G c W X) : X.N.Nodup := by rw [C.N]; exact C.nd
theorem CtxOk.lt {X : Cx} {i : Nat} {x : Str} (C : CtxOk G c W X) (n : c.N[i]? = some x) (h : σ.length = X.N.length) : i < σ.length := by
  rw [h, C.N]; exact (List.getElem?_eq_some_iff.mp n).1
theorem CtxOk.hi {X : Cx} {i : Nat} {x : Str} (C : CtxOk G c W X) (n : c.N[i]? = some x) : X.N[i]? = some x := by rw [C.N]; exact n
theorem CtxOk.hf {X : Cx} {i : Nat} {x : Str} (C : CtxOk G c W X) (n : Ns c i x) : X.fn x = true ∨ X.env.scope.names.lookup x = some .local := by rw [C.fx, C.sc]; exact n.f
theorem zs_set {i : Nat} {x : Str} {e : Expr} {m : M τ α} {R : Rel α} {p pos : Pos} (n : Ns c i x) (h : ZE G c E W Γ e m R) (sx : Sub E Γ L.x) (hs : NoSwap e := by intro _ _ _; rfl) : ZS G c E W L Γ (.Assign [.Name x p] e pos) (zset m) (fun a => Γ.set i (.st (R.pr a))) := fun X C =>
  ps_wk (ps_set C.set_hN (C.hi n.n) (by rw [C.sc]; exact n.l) (h X C) (hs _ _ _) (C.hf n)) fun D σ H hl ⟨B, S, b, hh, q⟩ => by
    refine tzS_bnd (R := R) sx hh q fun x b1 v S1 H1 s1 h1 r1 q1 => ?_
    exact q1 _ S1 H1 (Same.refl _) (h1.set (C.lt n.n hl) r1)
def zrt (m : M τ ρ) : M τ (Fl α κ ρ) := bnd m fun x => ret (.rt x)
theorem zs_ret {e : Expr} {m : M τ ρ} {pos : Pos} {Γn : α → Env} (h : ZE G c E W Γ e m L.R) (sx : Sub E Γ L.x) (ho : ∀ r v, L.o r v = [] := by intro _ _; rfl) : ZS G c E W L Γ (.Return (some e) pos) (zrt m) Γn := fun X C =>
  ps_wk (ps_ret (h X C)) fun D σ H hl ⟨B, S, b, hh, q⟩ => by
    refine tzS_bnd (R := L.R) sx hh q fun x b1 v S1 H1 s1 h1 r1 q1 => ?_
    exact q1 v σ S1 H1 (by rw [ho]; exact h1.nil) r1
def zifS (m : M τ Bool) (n o : M τ (Fl α κ ρ)) : M τ (Fl α κ ρ) := bnd m fun x => if x = true then n else o
theorem zs_if {e : Expr} {a d : List Stmt} {m : M τ Bool} {n o : M τ (Fl α κ ρ)} {Γn : α → Env} {pos : Pos} (h : ZT G c E W Γ e m) (ha : ZB G c E W L Γ a n Γn) (hd : ZB G c E W L Γ d o Γn) (sx : Sub E Γ L.x) : ZS G c E W L Γ (.If e a d pos) (zifS m n o) Γn := fun X C =>
  ps_wk (ps_if (h X C) (ha X C) (hd X C)) fun D σ H hl ⟨B, S, b, hh, q⟩ => by
    refine tzS_bndT sx hh q fun x b1 S1 H1 s1 h1 q1 => ?_
    cases x with
    | true => exact ⟨B, S1, b1, h1, q1⟩
    | false => exact ⟨B, S1, b1, h1, q1⟩

/-! ### targets -/
/-- the target tg is given what stands for x: the slots vs may change, then Γ is f x -/
def tzG (E : Eff τ) (Γ : Env) (vs : List Nat) (f : α → Env) (R : Rel α) : TG := fun v σ H Q => ∃ B S b x, Hold E B Γ b σ S H ∧ R.is x S v ∧ ∀ σ', wipe σ' vs = wipe σ vs → Hold E B (f x) b σ' S H → Q σ' H
def ZG (G : Gx) (c : Sc) (E : Eff τ) (W : WX) (Γ : Env) (vs : List Nat) (tg : Expr) (f : α → Env) (R : Rel α) : Prop := (∀ X, CtxOk G c W X → PG X tg (tzG E Γ vs f R)) ∧ ∀ x (i : Nat), i ∉ vs → (f x)[i]? = Γ[i]?
theorem pg_wk {X : Cx} {tg : Expr} {t t' : TG} (h : PG X tg t) (w : ∀ v σ H Q, σ.length = X.N.length → t' v σ H Q → t v σ H Q) : PG X tg t' := ⟨fun pins s σ H v u Q I r q => h.run pins s σ H v u Q I r (w v σ H Q I.len q)⟩
theorem pg_ex {ι : Type} {X : Cx} {tg : Expr} {t : ι → TG} (h : ∀ i, PG X tg (t i)) : PG X tg (fun v σ H Q => ∃ i, t i v σ H Q) := ⟨fun pins s σ H v u Q I r ⟨i, q⟩ => (h i).run pins s σ H v u Q I r q⟩
theorem wipe_set {i : Nat} {v : Option V} : ∀ {vs : List Nat} {σ : St}, i ∈ vs → wipe (σ.set i v) vs = wipe σ vs
  | j :: vs, σ, h => by
    unfold wipe
    by_cases hj : i ∈ vs
    · rw [wipe_set hj]
    · have e : i = j := by simpa [hj] using h
      subst e
      have : ∀ (vs : List Nat), i ∉ vs → wipe (σ.set i v) vs = (wipe σ vs).set i v := by
        intro vs
        induction vs with
        | nil => intro _; rfl
        | cons k vs ih => intro hk; unfold wipe; rw [ih (by simp at hk; exact hk.2), List.set_comm _ _ (by simp at hk; exact hk.1)]
      rw [this vs hj, List.set_set]
theorem zg_name {i : Nat} {x : Str} {p : Pos} {vs : List Nat} {R : Rel α} (n : Ns c i x) (hv : i ∈ vs) : ZG G c E W Γ vs (.Name x p) (fun a => Γ.set i (.st (R.pr a))) R := ⟨fun X C =>
  pg_wk (pg_name C.set_hN (C.hi n.n) (by rw [C.sc]; exact n.l) (C.hf n)) fun v σ H Q hl ⟨B, S, b, x, hh, r, q⟩ => q _ (wipe_set hv) (hh.set (C.lt n.n hl) r), fun a j hj => List.getElem?_set_ne fun e => hj (by rw [← e]; exact hv)⟩
/-- a tuple of things -/
structure TupOf (R : Rel α) (n : Nat) (A : α → List Pr) : Prop where
  h : ∀ {x : α} {S : Hp} {v : V}, R.is x S v → ∃ a us, v = .ref a ∧ S a = some (.tup us) ∧ us.length = n ∧ All2 (fun (p : Pr) v => p.p S v) (A x) us
/-! ### what a for walks -/
/-- an iterator J gives, while I stands, what stands for xs, one by one -/
structure Src (P : Hp → Hp → Prop) (J : It) (xs : List β) (R : Rel β) (I : Hp → Prop) : Prop where
  mono : ∀ {S S' : Hp}, Same S S' → I S → I S'
  go : ∀ {i : Nat} {S H : Hp}, Same S H → P S H → I S → i < xs.length → J.go i H
  yl : ∀ {i : Nat} {S H H' : Hp} {x : V} {y : β}, Same S H → P S H → I S → xs[i]? = some y → J.yld i H x H' → (H' = H ∧ R.is y S x) ∨ ∃ p o, H p = none ∧ H' = upd H p o ∧ R.is y (upd S p o) x
  st : ∀ {S H : Hp}, Same S H → P S H → I S → J.stop xs.length H
def aftI (G : Gx) (E : Eff τ) (W : WX) (B : Bs) (Γ : Env) (σ : St) (S : Hp) (R : Rel β) (Q : It → Hp → Prop) : Out τ (List β) → Prop
  | .ok xs b' => ∀ J I S' H', Same S S' → Hold E B Γ b' σ S' H' → Src (fun S H => ∃ b, E.is b S H) J xs R I → I S' → Q J H'
  | .exc x b' => ∀ c d S' H', Same S S' → Hold E B Γ b' σ S' H' → XAt G x H' c d → W c d σ H'
  | .stuck => False
theorem aftI.same {R : Rel β} {Q : It → Hp → Prop} (s : Same S S1) : ∀ {o : Out τ (List β)}, aftI G E W B Γ σ S R Q o → aftI G E W B Γ σ S1 R Q o
  | .ok _ _, h => fun J I S' H' s2 => h J I S' H' (s.trans s2)
  | .exc _ _, h => fun c d S' H' s2 => h c d S' H' (s.trans s2)
  | .stuck, h => h
def tzI (G : Gx) (E : Eff τ) (W : WX) (Γ : Env) (m : M τ (List β)) (R : Rel β) : TI := fun σ H Q => ∃ B S b, Hold E B Γ b σ S H ∧ aftI G E W B Γ σ S R Q (m b)
def ZI (G : Gx) (c : Sc) (E : Eff τ) (W : WX) (Γ : Env) (tg iter : Expr) (m : M τ (List β)) (R : Rel β) : Prop := ∀ X, CtxOk G c W X → PI X tg iter (tzI G E W Γ m R)
theorem pi_wk {X : Cx} {tg e : Expr} {t t' : TI} (h : PI X tg e t) (w : ∀ σ H Q, t' σ H Q → t σ H Q) : PI X tg e t' := ⟨fun pins s σ H Q I q => h.run pins s σ H Q I (w σ H Q q)⟩
theorem src_list {P : Hp → Hp → Prop} {K : PySem.W.Frag} {R : Rel β} {xs : List β} {a : Addr} : Src P (Itl K a) xs R (fun S => ∃ vs, S a = some (.lst vs) ∧ All2 (fun x v => R.is x S v) xs vs) where
  mono := fun s ⟨vs, e, q⟩ => ⟨vs, s _ _ e, All2.rel s q⟩
  go := fun {i S H} s _ ⟨vs, e, q⟩ hi => ⟨vs, vs[i]'(by rw [← q.length]; exact hi), .of (s _ _ e), by rw [List.getElem?_eq_getElem]⟩
  yl := fun {i S H H' x y} s _ ⟨vs, e, q⟩ hy ⟨e1, e2⟩ => .inl ⟨e1, by
    obtain ⟨v, h1, h2⟩ := q.get hy
    have := e2 vs (.of (s _ _ e))
    rw [h1] at this; cases this; exact h2⟩
  st := fun s _ ⟨vs, e, q⟩ => ⟨vs, .of (s _ _ e), by rw [q.length]; exact Nat.le_refl _⟩
theorem zi_list {tg e : Expr} {m : M τ (List β)} {R : Rel β} (h : ZE G c E W Γ e m (rLst R)) : ZI G c E W Γ tg e m R := fun X C => pi_wk (pi_list (h X C)) fun σ H Q ⟨B, S, b, hh, q⟩ => by
  refine ⟨B, S, b, hh, ?_⟩
  cases e : m b with
  | stuck => rw [e] at q; exact q.elim
  | exc x b1 => rw [e] at q; exact q
  | ok xs b1 => rw [e] at q; exact fun v S' H' s h' ⟨a, vs, e1, e2, e3⟩ => ⟨a, e1, ⟨vs, .of (h'.same _ _ e2)⟩, q _ _ S' H' s h' src_list ⟨vs, e2, e3⟩⟩
def rng (lo : Int) (n : Nat) : List Int := (List.range n).map fun (i : Nat) => lo + (i : Int)
theorem rng_get {lo : Int} {n i : Nat} {y : Int} (h : (rng lo n)[i]? = some y) : y = lo + (i : Int) ∧ i < n := by
  unfold rng at h
  rw [List.getElem?_map] at h
  by_cases hi : i < n
  · rw [List.getElem?_range hi] at h; cases h; exact ⟨rfl, hi⟩
  · rw [List.getElem?_eq_none (by simpa using hi)] at h; cases h
theorem src_rng {P : Hp → Hp → Prop} {lo : Int} {n : Nat} : Src P (Itr lo n) (rng lo n) rInt (fun _ => True) where
  mono := fun _ _ => trivial
  go := fun {i S H} _ _ _ hi => by
    unfold rng at hi
    show i < n
    simpa using hi
  yl := fun _ _ _ hy ⟨e1, e2⟩ => .inl ⟨e1, by rw [(rng_get hy).1]; exact e2⟩
  st := fun _ _ _ => by unfold rng; simp [Itr]
theorem tzI_bndA {m : M τ α} {f : α → M τ (List β)} {A : α → List Pr} {R : Rel β} {Q : It → Hp → Prop} {Q' : List V → Hp → Prop} (hh : Hold E B Γ b σ S H) (h : aftI G E W B Γ σ S R Q (bnd m f b))
    (k : ∀ x b1 vs S1 H1, Same S S1 → Hold E B Γ b1 σ S1 H1 → All2 (fun (p : Pr) v => p.p S1 v) (A x) vs → aftI G E W B Γ σ S1 R Q (f x b1) → Q' vs H1) : tzA G E W Γ m A σ H Q' := by
  refine ⟨B, S, b, hh, ?_⟩
  unfold bnd at h
  cases e : m b with
  | ok a b1 => rw [e] at h; exact fun v S1 H1 s h1 r => k a b1 v S1 H1 s h1 r (h.same s)
  | exc x b1 => rw [e] at h; exact h
  | stuck => rw [e] at h; exact h.elim
def fenum (xs : List α) : List (Int × α) := xs.zipIdx.map fun p => ((p.2 : Int), p.1)
def zenum (m : M τ (List α)) : M τ (List (Int × α)) := bnd m fun xs => ret (fenum xs)
/-! ### for -/
theorem for_src {P : Hp → Hp → Prop} {J : It} {xs : List β} {R : Rel β} {I : Hp → Prop} (src : Src P J xs R I) {g : TG} {tb : TS} {D : Ends} {σ : St} {H : Hp} (Pv : Nat → St → Hp → Prop) (h0 : Pv 0 σ H) (hl : ∀ i σ H, i ≤ xs.length → Pv i σ H → ∃ S, Same S H ∧ P S H ∧ I S)
    (hs : ∀ i y σ H, xs[i]? = some y → Pv i σ H → ∀ x H', J.yld i H x H' → g x σ H' fun σ2 H2 => tb { D with nx := Pv (i + 1), ct := Pv (i + 1), bk := D.nx } σ2 H2) (hd : ∀ σ H, Pv xs.length σ H → D.nx σ H) :
    ∃ W : Nat → Nat → St → Hp → Prop, (∃ m, W 0 m σ H) ∧ ∀ i m σ H, W i m σ H →
      (J.stop i H ∧ D.nx σ H) ∨ (J.go i H ∧ ∃ N : St → Hp → Prop, (∀ σ' H', N σ' H' → ∃ m', m' < m ∧ W (i + 1) m' σ' H') ∧ ∀ x H', J.yld i H x H' → g x σ H' fun σ2 H2 => tb { D with nx := N, ct := N, bk := D.nx } σ2 H2) := by
  refine ⟨fun i m σ H => m = xs.length - i ∧ i ≤ xs.length ∧ Pv i σ H, ⟨xs.length, by simp, Nat.zero_le _, h0⟩, ?_⟩
  rintro i m σ H ⟨rfl, hi, p⟩
  obtain ⟨S, s, hP, hI⟩ := hl i σ H hi p
  by_cases hlt : i < xs.length
  · exact .inr ⟨src.go s hP hI hlt, Pv (i + 1), fun σ' H' p' => ⟨xs.length - (i + 1), by omega, rfl, hlt, p'⟩, fun x H' y => hs i xs[i] σ H (by simp [hlt]) p x H' y⟩
  · have e : i = xs.length := by omega
    subst e
    exact .inl ⟨src.st s hP hI, hd σ H p⟩
def zfor (f : α → β → M τ (Fl α α ρ)) : α → List β → M τ (Fl α κ ρ)
  | a, [] => ret (.nx a)
  | a, x :: xs => fun s => match f a x s with
    | .ok (.nx a') s' => zfor f a' xs s'
    | .ok (.ct a') s' => zfor f a' xs s'
    | .ok (.bk a') s' => .ok (.nx a') s'
    | .ok (.rt r) s' => .ok (.rt r) s'
    | .exc e s' => .exc e s'
    | .stuck => .stuck
def zforI (m : M τ (List β)) (a : α) (f : α → β → M τ (Fl α α ρ)) : M τ (Fl α κ ρ) := bnd m fun xs => zfor f a xs
theorem zs_for {tg iter : Expr} {body : List Stmt} {pos : Pos} {m : M τ (List β)} {a0 : α} {f : α → β → M τ (Fl α α ρ)} {R : Rel β} {Γh : α → Env} {Γb : α → β → Env} {vs : List Nat} (hi : ZI G c E W Γ tg iter m R) (h0 : Sub E Γ (Γh a0)) (hg : ∀ a, ZG G c E W (Γh a) vs tg (Γb a) R)
    (hb : ∀ a x, ZB G c E W ⟨Γh, L.x, L.R, L.o⟩ (Γb a x) body (f a x) Γh) (sx : Sub E Γ L.x) (hs : ∀ (env : PySem.Env) x, foldedSetIterable iter env x = pure x := by intro _ _; rfl) : ZS G c E W L Γ (.For tg iter body [] pos) (zforI m a0 f) Γh := fun X C =>
  ps_wk (ps_for C.owns C.calm (hi X C) (pg_ex fun a => (hg a).1 X C) (pss_ex fun (p : α × β) => hb p.1 p.2 X C) (hs X.env)) fun D σ H hl ⟨B, S, b, hh, q⟩ => by
    refine ⟨B, S, b, hh, ?_⟩
    unfold zforI bnd at q
    cases e : m b with
    | stuck => rw [e] at q; exact q.elim
    | exc x b1 => rw [e] at q; exact fun c d S1 H1 _ h1 xa => let ⟨S2, _, h2⟩ := sx h1; q c d σ S2 H1 h2 xa
    | ok xs b1 =>
      rw [e] at q
      intro J I S1 H1 s1 h1 src hI
      obtain ⟨S2, s2, h2⟩ := h0 h1
      refine for_src (g := fun v σ H Q => ∃ i, tzG E (Γh i) vs (Γb i) R v σ H Q) (tb := fun D σ H => ∃ p : α × β, tzS G E W ⟨Γh, L.x, L.R, L.o⟩ (Γb p.1 p.2) (f p.1 p.2) Γh D σ H) (D := D) src (fun i σ H => ∃ S b a, Same S1 S ∧ Hold E B (Γh a) b σ S H ∧ aftS G E W L B S Γh D (zfor f a (xs.drop i) b)) ⟨S2, b1, a0, s2, h2, (q.same s1).same s2⟩ (fun i σ H _ ⟨S, b, a, s, h, _⟩ => ⟨S, h.same, ⟨b, h.ef⟩, src.mono s hI⟩) ?_ ?_
      · rintro i y σ H hy ⟨S, b, a, s, h, q⟩ x H' yl
        have hd : xs.drop i = y :: xs.drop (i + 1) := by
          obtain ⟨h1, h2⟩ := List.getElem?_eq_some_iff.mp hy
          rw [List.drop_eq_getElem_cons h1, h2]
        rw [hd] at q
        have go : ∀ S' H', Same S S' → Hold E B (Γh a) b σ S' H' → R.is y S' x → (fun v σ H Q => ∃ i, tzG E (Γh i) vs (Γb i) R v σ H Q) x σ H' fun σ2 H2 => (fun D σ H => ∃ p : α × β, tzS G E W ⟨Γh, L.x, L.R, L.o⟩ (Γb p.1 p.2) (f p.1 p.2) Γh D σ H) { D with nx := fun σ H => ∃ S b a, Same S1 S ∧ Hold E B (Γh a) b σ S H ∧ aftS G E W L B S Γh D (zfor f a (xs.drop (i + 1)) b), ct := fun σ H => ∃ S b a, Same S1 S ∧ Hold E B (Γh a) b σ S H ∧ aftS G E W L B S Γh D (zfor f a (xs.drop (i + 1)) b), bk := D.nx } σ2 H2 := by
          intro S' H' s' h' r'
          refine ⟨a, B, S', b, y, h', r', fun σ' _ h'' => ⟨(a, y), B, S', b, h'', ?_⟩⟩
          have q := q.same s'
          unfold zfor at q
          dsimp only at q ⊢
          cases e : f a y b with
          | stuck => rw [e] at q; exact q.elim
          | exc x b1 => rw [e] at q; exact q
          | ok r b2 =>
            rw [e] at q
            cases r with
            | nx a' => exact fun σ3 S3 H3 s3 h3 => ⟨S3, b2, a', (s.trans s').trans s3, h3, q.same s3⟩
            | ct a' => exact fun σ3 S3 H3 s3 h3 => ⟨S3, b2, a', (s.trans s').trans s3, h3, q.same s3⟩
            | bk a' => exact q
            | rt r => exact q
        rcases src.yl h.same ⟨_, h.ef⟩ (src.mono s hI) hy yl with ⟨e1, r⟩ | ⟨p, o, hp, e1, r⟩
        · subst e1; exact go S _ (Same.refl _) h r
        · subst e1; exact go (upd S p o) _ (same_new (h.same.free hp)) (h.new hp) r
      · rintro σ H ⟨S, b, a, s, h, q⟩
        rw [List.drop_length] at q
        exact q σ S H (Same.refl _) h
end
end Zk

namespace Zk
open PySem L2

/-! ### the promise of a def, with what is known of the guards (g) -/
structure FnG (g : Bool) (P : Program) (w : World) (K : PySem.W.Frag) (mg : Str → Option Value) (base : Heap) (k : Nat) (f : Addr) (fd : FuncData) (ps : List Str) (sp : Sp) : Prop where
  len : ∀ vs H Q XE, sp vs H Q XE → vs.length = ps.length
  go : ∀ (A : Around) (out : List PySem.Env) (s : Shared) (H : Hp) (args : Args) (us : List Value) (vs : List V) (Q : VK) (XE : XK), Room k A → (g = true → A.guards = some []) → Env0 P w K mg base A out s H → BindsTo s fd args (ps.zip us) → Vals vs us → sp vs H Q XE →
    codeAny (model P w) A (.call (.ref f) args) (CR (L2.CX P w) out P w H s Q XE) s
section
variable {P : Program} {w : World} {K : PySem.W.Frag} {mg : Str → Option Value} {base : Heap} {k : Nat} {f : Addr} {fd : FuncData} {ps : List Str} {sp : Sp} {g : Bool}
theorem FnG.ok (F : FnG false P w K mg base k f fd ps sp) : FnOk P w K mg base (L2.CX P w) k f fd ps sp := ⟨F.len, fun A out s H args us vs Q XE hr => F.go A out s H args us vs Q XE hr fun z => nomatch z⟩
theorem FnG.up (F : FnG g P w K mg base k f fd ps sp) {g' : Bool} (h : g = true → g' = true) : FnG g' P w K mg base k f fd ps sp := ⟨F.len, fun A out s H args us vs Q XE hr hg => F.go A out s H args us vs Q XE hr fun z => hg (h z)⟩
theorem FnG.mono (F : FnG g P w K mg base k f fd ps sp) {k' : Nat} (h : k ≤ k') : FnG g P w K mg base k' f fd ps sp := ⟨F.len, fun A out s H args us vs Q XE hr => F.go A out s H args us vs Q XE (hr.mono h)⟩
/-- a def by its body, where it stands in the written part -/
theorem fng_mk {nm qual : Str} {prm : Arguments} {body : List Stmt} {scp : Scope} {dV kV doc pm cdv ct oc : Value} {an od : Option Addr} {osl : Array (Option Value)} {N : List Str}
    (lk : K.lookup f = some ⟨oc, od, .func (PySem.W.fnOf nm qual prm body scp dV kV doc pm an cdv ct), osl⟩) (hcd : PySem.W.codeIn K cdv qual = true) (S : FnScope N ps scp) (len : ∀ vs H Q XE, sp vs H Q XE → vs.length = ps.length)
    (hb : ∀ (A : Around) (out : List PySem.Env) (s : Shared) (H : Hp) (vs : List V) (Q : VK) (XE : XK), Room k (A.deeper (PyProof.Rows.envOfC qual scp s.heap.objs.size f cdv)) → (g = true → A.guards = some []) → sp vs H Q XE →
      ∃ t, PSs (cxOf (L2.CX P w) P w K mg base N qual scp f cdv A out s H XE) body t ∧ t { nx := fun _ H' => Q .non H', rt := Q } (start N vs) H) :
    FnG g P w K mg base (k + 1) f (PySem.W.fnOf nm qual prm body scp dV kV doc pm an cdv ct) ps sp :=
  ⟨len, fun A out s H args us vs Q XE hr hg e0 bd rel hsp => by
    have kin : K.In s.heap := e0.mod.kin.keeps fun a o z => (e0.bs a o z).1
    have nol : s.heap.NoLimit := e0.mod.nolimit.keeps fun a o z => (e0.bs a o z).1
    have hl := len _ _ _ _ hsp
    have par : ∀ y ∈ ps.zip us, scp.names.lookup y.1 = some .local ∨ (scp.names.lookup y.1 = some .cell ∧ ((cellsFrom (s.heap.objs.size + 1) scp.names []).lookup y.1).isSome = true) := by
      intro y hy
      rcases S.par y.1 (List.of_mem_zip (a := y.1) (b := y.2) hy).1 with z | z
      · exact Or.inl z
      · exact Or.inr (And.intro z (PySem.W.cellsFrom_some _ _ _ (.inl z)))
    refine codeAny_call_function hr.depth (kin _ _ lk) rfl S.co S.gen rfl (PySem.W.codeRec_of kin hcd) (bd _ _ _ _ (wpAny_newFunctionEnv_cells S.kind par fun env he s1 nw => ?_))
    subst he
    refine ⟨nol.keeps nw.toInCall.keep, codeAny_func ?_⟩
    obtain ⟨t, ht, hq⟩ := hb A out s H vs Q XE (hr.deeper _) hg hsp
    have I := inv_start (CX := L2.CX P w) (mg := mg) (qual := qual) (f := f) (cd := cdv) (E := XE) S hr.hd e0 hl rel nw
    refine wpAny_mono (ht.run [] s1 (start N vs) H _ I hq) (fun fl s' hs => ?_) fun _ _ z => z
    cases fl with
    | ret u => obtain ⟨v, σ', H', J, rv, q⟩ := hs; exact ⟨v, H', J.os, J.bare, J.base, J.hok, rv, q⟩
    | next => obtain ⟨σ', H', J, q⟩ := hs; exact ⟨.non, H', J.os, J.bare, J.base, J.hok, rfl, q⟩
    | brk => obtain ⟨_, _, _, q⟩ := hs; exact q.elim
    | cont => obtain ⟨_, _, _, q⟩ := hs; exact q.elim⟩
theorem fng_F {x qual : Str} {st : Stmt} {N : List Str} (F : Fun K x qual st f fd) (S : FnScope N ps (defScope st)) (len : ∀ vs H Q XE, sp vs H Q XE → vs.length = ps.length)
    (hb : ∀ (cdv : Value) (A : Around) (out : List PySem.Env) (s : Shared) (H : Hp) (vs : List V) (Q : VK) (XE : XK), Room k (A.deeper (PyProof.Rows.envOfC qual (defScope st) s.heap.objs.size f cdv)) → (g = true → A.guards = some []) → sp vs H Q XE →
      ∃ t, PSs (cxOf (L2.CX P w) P w K mg base N qual (defScope st) f cdv A out s H XE) (defBody st) t ∧ t { nx := fun _ H' => Q .non H', rt := Q } (start N vs) H) : FnG g P w K mg base (k + 1) f fd ps sp := by
  obtain ⟨oc, od, kV, doc, pm, an, cdv, ct, osl, rfl, lk, hcd⟩ := F.ex
  exact fng_mk lk hcd S len fun A out s H vs Q XE => hb cdv A out s H vs Q XE
end
section
variable {X : Cx} {k : Nat} {f C : Addr} {fd : FuncData} {ps : List Str} {sp : Sp} {dvs : List V} {ds : List Value} {Ex : St → XK} {x m : Str} {pos apos p : Pos} {e o : Expr} {es : List Expr} {ta : TE} {t : TA} {g : Bool}
abbrev FnX (g : Bool) (X : Cx) := FnG g X.prog X.w X.K X.mg X.base
theorem FnG.run_ {pins : List (Addr × Obj)} {σ : St} {H : Hp} {s : Shared} {Q : VK} {us : List Value} {vs : List V} (F : FnX g X k f fd ps sp) (hr : Room k X.A) (hg : g = true → X.A.guards = some []) (hb : Binds X.K fd ps ds) (hd : Vals dvs ds) (hx : PassesAt (L2.CX X.prog X.w) X σ (Ex σ))
    (I : Inv X pins σ H s) (r : Vals vs us) (h : sp (vs ++ dvs) H Q (Ex σ)) : wpAny (model X.prog X.w) X.A (call (.ref f) us) (EP X pins σ Q) X.xe s := by
  have rr := r.append hd
  refine wpAny_call (codeAny_mono (F.go X.A X.stack s H ⟨us, []⟩ (us ++ ds) (vs ++ dvs) Q (Ex σ) hr hg I.env0 (hb s us I.kIn (rr.length.symm.trans (F.len _ _ _ _ h))) rr h) fun r s' hq => ?_)
  match r with
  | .error z => exact hx pins H s z s' I hq
  | .ok (.ret u) => exact I.after hq
  | .ok .next => exact hq.elim
  | .ok .brk => exact hq.elim
  | .ok .cont => exact hq.elim
theorem pe_callG (F : FnX g X k f fd ps sp) (hr : Room k X.A) (hg : g = true → X.A.guards = some []) (gl : Gl X x) (hm : X.mg x = some (.ref f)) (hk : PySem.W.keepIn X.K (.ref f) = true) (hb : Binds X.K fd ps ds) (hd : Vals dvs ds) (hx : ∀ σ, PassesAt (L2.CX X.prog X.w) X σ (Ex σ))
    (ha : PA X (e :: es) t) (hdb : (x == ("__debug__" : Str)) = false) (he : starEach (e :: es) X.env = (false, eval e X.env) :: starEach es X.env) (hpl : (backTo pos (starEach es X.env)).any (·.1) = false) :
    PE X (.Call (.Name x p) (e :: es) [] pos) (fun σ H Q => t σ H fun vs H1 => sp (vs ++ dvs) H1 Q (Ex σ)) :=
  ⟨fun pins s σ H Q I h => wpAny_Call_Name_kw (ld_glob I gl hm (PySem.W.callWith_K (h₀ := X.base) I.ok.mod.kin hk (thn (ha.run pos pins s σ H _ I h) fun us s1 ⟨vs, H1, I1, r, q⟩ => ⟨I1.kIn, F.run_ hr hg hb hd (hx σ) I1 r q⟩) he hpl) hdb)⟩
end

section
variable {τ α β γ δ κ ρ ι θ : Type} {G : Gx} {c : Sc} {E : Eff τ} {W : WX} {Γ Γ' : Env} {B : Bs} {σ : St} {S S1 S' H H' : Hp} {b b' : τ} {L : Ls κ ρ}
/-! ### defs: their promise, their call -/
def noE : Eff Unit := ⟨fun _ => False, fun _ _ _ => True, fun _ _ _ _ => trivial, fun _ h => h.elim⟩
/-- behind a call: what was one's own stands -/
theorem Hold.call (h : Hold E B Γ b σ S H) (k : Keep E.own ⟨S, H⟩ S' H') (e : E.is b' S' H') : Hold E B Γ b' σ S' H' := by
  obtain ⟨Fs, hF, hs⟩ := h.sl
  refine ⟨⟨k.same, h.kp.up.trans k.up, fun a o h1 h2 h3 => ?_⟩, e, Fs, ⟨fun i a e => ?_, hF.ds⟩, fun i s e => ?_⟩
  · obtain ⟨q1, q2⟩ := h.kp.kp a o h1 h2 h3
    exact k.kp a o q1 q2 h3
  · obtain ⟨q1, q2, q3, o, q4⟩ := hF.at_ i a e
    exact ⟨(k.kp a o q1 q4 q3).1, q2, q3, o, (k.kp a o q1 q4 q3).2⟩
  · have q := hs i s e
    cases s with
    | no => trivial
    | st p => obtain ⟨x, e1, e2⟩ := q; exact ⟨x, e1, p.mono k.up e2⟩
    | ow p => obtain ⟨x, e1, e2⟩ := q; exact ⟨x, e1, p.mono k.up (fun a o ha e => by
        obtain ⟨q1, _, q3, _⟩ := hF.at_ i a ha
        exact (k.kp a o q1 e q3).2) e2⟩
    | gh p => exact p.mono k.up (fun a o ha e => by
        obtain ⟨q1, _, q3, _⟩ := hF.at_ i a ha
        exact (k.kp a o q1 e q3).2) q
theorem Hold.callP (h : Hold E B Γ b σ S H) (k : Keep (fun _ => False) ⟨S, H⟩ S' H') : Hold E B Γ b σ S' H' := by
  refine h.grow k.up k.same (fun a o h1 h2 => k.kp a o h1 h2 id) fun a ha hs => ?_
  obtain ⟨_, o, ho⟩ := E.th h.ef ha
  exact (k.kp a o hs ho id).1
def finZ (G : Gx) (E : Eff τ) (S H : Hp) (R : Rel ρ) (Q : VK) (XE : XK) : Out τ ρ → Prop
  | .ok r b' => ∀ v S' H', Keep E.own ⟨S, H⟩ S' H' → E.is b' S' H' → R.is r S' v → Q v H'
  | .exc e b' => ∀ c d S' H', Keep E.own ⟨S, H⟩ S' H' → E.is b' S' H' → XAt G e H' c d → XE c d H'
  | .stuck => False
/-- the promise of a def: of what stands for x (the addresses q of what it may change are the caller's) it hands back what m x tells -/
def spZ (G : Gx) (E : θ → Eff τ) (A : θ → α → List Pr) (m : α → M τ ρ) (R : Rel ρ) : Sp := fun vs H Q XE => ∃ q x S b, All2 (fun (p : Pr) v => p.p S v) (A q x) vs ∧ Same S H ∧ (E q).is b S H ∧ finZ G (E q) S H R Q XE (m x b)
structure FnAt (g : Bool) (G : Gx) (x : Str) (k : Nat) (ps : List Str) (sp : Sp) : Prop where
  ex : ∃ f fd, G.mg x = some (.ref f) ∧ PySem.W.keepIn G.K (.ref f) = true ∧ Binds G.K fd ps [] ∧ FnG g G.P G.w G.K G.mg G.base k f fd ps sp
theorem tz_sp {E' : θ → Eff τ} {A : θ → α → List Pr} {m : α → M τ ρ} {R : Rel ρ} {q : θ} {x : α} {vs : List V} {Q : VK} (hE : E' q = E) (h : Hold E B Γ b σ S H) (r : All2 (fun (p : Pr) v => p.p S v) (A q x) vs) (a : aft G E W B Γ σ S R Q (m x b)) : spZ G E' A m R vs H Q (WE W σ) := by
  subst hE
  refine ⟨q, x, S, b, r, h.same, h.ef, ?_⟩
  cases e : m x b with
  | stuck => rw [e] at a; exact a.elim
  | exc e b' => rw [e] at a; exact fun c d S' H' k he xa => a c d S' H' k.up (h.call k he) xa
  | ok r b' => rw [e] at a; exact fun v S' H' k he rr => a v S' H' k.up (h.call k he) rr
theorem tz_spP {A : θ → α → List Pr} {m : α → M Unit ρ} {R : Rel ρ} {q : θ} {x : α} {vs : List V} {Q : VK} (h : Hold E B Γ b σ S H) (r : All2 (fun (p : Pr) v => p.p S v) (A q x) vs) (a : aft G E W B Γ σ S R Q (lft (m x) b)) : spZ G (fun _ => noE) A m R vs H Q (WE W σ) := by
  refine ⟨q, x, S, (), r, h.same, trivial, ?_⟩
  unfold lft at a
  cases e : m x () with
  | stuck => rw [e] at a; exact a.elim
  | exc e b' => rw [e] at a; exact fun c d S' H' k he xa => a c d S' H' k.up (h.callP k) xa
  | ok r b' => rw [e] at a; exact fun v S' H' k he rr => a v S' H' k.up (h.callP k) rr
theorem z_call {g : Bool} {x : Str} {k : Nat} {ps : List Str} {E' : θ → Eff τ} {A : θ → α → List Pr} {f : α → M τ ρ} {R : Rel ρ} {q : θ} {e : Expr} {es : List Expr} {m : M τ α} {p pos : Pos} (F : FnAt g G x k ps (spZ G E' A f R)) (hE : E' q = E) (hk : k ≤ c.k) (hg : g = true → c.gd = true) (gb : Gb c x) (ha : ZA G c E W Γ (e :: es) m (A q))
    (hd : (x == ("__debug__" : Str)) = false := by decide) (he : Star e es := by intro _; rfl) (hpl : ∀ env : PySem.Env, (backTo pos (starEach es env)).any (·.1) = false := by intro _; rfl) : ZE G c E W Γ (.Call (.Name x p) (e :: es) [] pos) (zapp f m) R := fun X C => by
  obtain ⟨f0, fd, h1, h2, h3, h4⟩ := F.ex
  rw [← C.prog, ← C.w, ← C.K, ← C.mg, ← C.base] at h4
  rw [← C.mg] at h1
  rw [← C.K] at h2 h3
  exact pe_wk (pe_callG (Ex := WE W) h4 (C.room.mono hk) (fun z => C.gds (hg z)) (C.gl gb) h1 h2 h3 .nil (passAt C.takes) (ha X C) hd (he _) (hpl _)) fun σ H Q _ ⟨B, S, b, hh, qq⟩ =>
    tz_Abnd hh qq fun x b1 vs S1 H1 s1 hh1 r1 q1 => by rw [List.append_nil]; exact tz_sp hE hh1 r1 q1
theorem z_callP {g : Bool} {x : Str} {k : Nat} {ps : List Str} {A : θ → α → List Pr} {f : α → M Unit ρ} {R : Rel ρ} {q : θ} {e : Expr} {es : List Expr} {m : M τ α} {p pos : Pos} (F : FnAt g G x k ps (spZ G (fun _ => noE) A f R)) (hk : k ≤ c.k) (hg : g = true → c.gd = true) (gb : Gb c x) (ha : ZA G c E W Γ (e :: es) m (A q))
    (hd : (x == ("__debug__" : Str)) = false := by decide) (he : Star e es := by intro _; rfl) (hpl : ∀ env : PySem.Env, (backTo pos (starEach es env)).any (·.1) = false := by intro _; rfl) : ZE G c E W Γ (.Call (.Name x p) (e :: es) [] pos) (zapp (fun x => lft (f x)) m) R := fun X C => by
  obtain ⟨f0, fd, h1, h2, h3, h4⟩ := F.ex
  rw [← C.prog, ← C.w, ← C.K, ← C.mg, ← C.base] at h4
  rw [← C.mg] at h1
  rw [← C.K] at h2 h3
  exact pe_wk (pe_callG (Ex := WE W) h4 (C.room.mono hk) (fun z => C.gds (hg z)) (C.gl gb) h1 h2 h3 .nil (passAt C.takes) (ha X C) hd (he _) (hpl _)) fun σ H Q _ ⟨B, S, b, hh, qq⟩ =>
    tz_Abnd hh qq fun x b1 vs S1 H1 s1 hh1 r1 q1 => by rw [List.append_nil]; exact tz_spP hh1 r1 q1
/-! ### a def's body -/
/-- behind a body that may go on to its end -/
def zfin (n : α → M τ ρ) (m : M τ (Fl α κ ρ)) : M τ ρ := fun s => match m s with
  | .ok (.nx a) s' => n a s'
  | .ok (.rt r) s' => .ok r s'
  | .ok _ _ => .stuck
  | .exc e s' => .exc e s'
  | .stuck => .stuck
/-- a def never ends but by return -/
def zbody (m : M τ (Fl α κ ρ)) : M τ ρ := zfin (fun _ => stk) m
def envOf (n : Nat) (ps : List Pr) : Env := ps.map .st ++ List.replicate (n - ps.length) .no
theorem hold_start {q : Eff τ} {S H : Hp} {ps : List Pr} {vs : List V} {N : List Str} (s : Same S H) (he : q.is b S H) (r : All2 (fun (p : Pr) v => p.p S v) ps vs) : Hold q ⟨S, H⟩ (envOf N.length ps) b (L2.start N vs) S H := by
  refine ⟨⟨s, Same.refl _, fun a o h1 h2 _ => ⟨h1, h2⟩⟩, he, fun _ _ => False, ⟨fun _ _ h => h.elim, fun _ _ _ h => h.elim⟩, fun i sl e => ?_⟩
  unfold envOf at e
  unfold L2.start
  by_cases hi : i < ps.length
  · rw [List.getElem?_append_left (by simpa using hi), List.getElem?_map] at e
    cases e2 : ps[i]? with
    | none => rw [e2] at e; cases e
    | some p =>
      rw [e2] at e; cases e
      obtain ⟨v, h1, h2⟩ := r.get e2
      rw [List.getElem?_append_left (by rw [List.length_map, ← r.length]; exact hi), List.getElem?_map, h1]
      exact ⟨v, rfl, h2⟩
  · rw [List.getElem?_append_right (by simpa using hi), List.getElem?_replicate] at e
    split at e
    · cases e; trivial
    · cases e
theorem All2.len {r : Pr → V → Prop} {ps : List Pr} {vs : List V} (h : All2 r ps vs) : vs.length = ps.length := h.length.symm
/-- THE RULE for a def: its body's mirror -/
theorem fn_ok {g : Bool} {x qual : Str} {st : Stmt} {f : Addr} {fd : FuncData} {N ps : List Str} {k : Nat} {E : θ → Eff τ} {A : θ → α → List Pr} {m : α → M τ ρ} {R : Rel ρ} {mb : α → M τ (Fl β Empty ρ)} {Γn : θ → α → β → Env} {n : α → β → M τ ρ} (F : Fun G.K x qual st f fd) (sc : FnScope N ps (defScope st))
    (hA : ∀ q x, (A q x).length = ps.length) (hm : ∀ x, m x = zfin (n x) (mb x)) (hn : (∀ x a, n x a = stk) ∨ (∀ x a, ∃ r, n x a = ret r ∧ ∀ S, R.is r S .non))
    (hb : ∀ q x (W : WX), ZB G ⟨N, defScope st, k, true, fun _ => true, g⟩ (E q) W ⟨fun e : Empty => e.elim, [], R, fun _ _ => []⟩ (envOf N.length (A q x)) (defBody st) (mb x) (Γn q x)) :
    FnG g G.P G.w G.K G.mg G.base (k + 1) f fd ps (spZ G E A m R) := by
  refine fng_F F sc (fun vs H Q XE h => ?_) (fun cdv A0 outer s H vs Q XE hr hgd h => ?_)
  · obtain ⟨q, x, S, b, r, _⟩ := h
    rw [← r.length, hA]
  · obtain ⟨q, x, S, b, r, hs, he, fz⟩ := h
    let W : WX := fun cls d _ H => XE cls d H
    have C : CtxOk G ⟨N, defScope st, k, true, fun _ => true, g⟩ W (cxOf (L2.CX G.P G.w) G.P G.w G.K G.mg G.base N qual (defScope st) f cdv A0 outer s H XE) :=
      ⟨rfl, rfl, rfl, rfl, rfl, rfl, sc.nd, rfl, rfl, hr, hgd, takes_of rfl rfl rfl rfl, passes_of rfl, rfl, fun _ => ⟨rfl, rfl⟩⟩
    refine ⟨_, hb q x W _ C, ⟨S, H⟩, S, b, hold_start hs he r, ?_⟩
    rw [hm] at fz
    unfold zfin at fz
    cases e : mb x b with
    | stuck => rw [e] at fz; exact fz.elim
    | exc e b' => rw [e] at fz; exact fun c d σ' S' H' h xa => fz c d S' H' h.kp h.ef xa
    | ok r b' =>
      rw [e] at fz
      cases r with
      | bk k => exact k.elim
      | ct k => exact k.elim
      | rt r => exact fun v σ' S' H' h rr => fz v S' H' h.kp h.ef rr
      | nx a =>
        intro σ' S' H' _ h
        rcases hn with hn | hn
        · have fz : finZ G (E q) S H R Q XE (n x a b') := fz
          rw [hn] at fz; exact fz.elim
        · obtain ⟨r, hr, hR⟩ := hn x a
          have fz : finZ G (E q) S H R Q XE (n x a b') := fz
          rw [hr] at fz
          exact fz .non S' H' h.kp h.ef (hR S')
end
end Zk

namespace Zk
open PySem L2

section
variable {τ α β γ δ κ ρ ι θ : Type} {G : Gx} {c : Sc} {E : Eff τ} {W : WX} {Γ Γ' : Env} {B : Bs} {σ : St} {S S1 S' H H' : Hp} {b b' : τ} {L : Ls κ ρ}
/-! ### what is one's own -/
def ownL (R : Rel α) (xs : List α) : PrO := ⟨fun S H v F => ∃ l vs, v = .ref l ∧ (∀ a, F a ↔ a = l) ∧ H l = some (.lst vs) ∧ All2 (fun x v => R.is x S v) xs vs,
  fun s k ⟨l, vs, e, f, h, q⟩ => ⟨l, vs, e, f, k _ _ ((f l).mpr rfl) h, All2.rel s q⟩⟩
/-- a thing of one's own, what it is where all of it is stable -/
structure One (p : PrO) (q : Pr) : Prop where
  at_ : ∀ {S H : Hp} {v : V} {F : Addr → Prop}, p.p S H v F → ∀ S', Same S S' → (∀ a o, F a → H a = some o → S' a = some o) → q.p S' v
theorem one_L {R : Rel α} {xs : List α} : One (ownL R xs) ((rLst R).pr xs) := ⟨fun ⟨l, vs, e, f, h, q⟩ S' s k => ⟨l, vs, e, k _ _ ((f l).mpr rfl) h, All2.rel s q⟩⟩
open Classical in
/-- becomes stable -/
theorem Hold.frz {i : Nat} {p : PrO} {q : Pr} (one : One p q) (h : Hold E B Γ b σ S H) (hi : Γ[i]? = some (.ow p)) : ∃ S', Same S S' ∧ Hold E B (Γ.set i (.st q)) b σ S' H := by
  obtain ⟨Fs, hF, hs⟩ := h.sl
  obtain ⟨v, e1, e2⟩ := hs i _ hi
  let T : Hp := fun a => if Fs i a then H a else S a
  have ti : ∀ a, Fs i a → T a = H a := fun a z => if_pos z
  have tn : ∀ a, ¬ Fs i a → T a = S a := fun a z => if_neg z
  have sm : Same S T := fun a o e => by
    rw [tn a fun z => by rw [(hF.at_ i a z).1] at e; cases e]; exact e
  refine ⟨T, sm, ⟨fun a o e => ?_, h.kp.up.trans sm, fun a o h1 h2 h3 => ?_⟩, E.mono sm (fun a ha hn => ?_) (fun _ _ _ e => e) h.ef, fun j a => j ≠ i ∧ Fs j a, ⟨fun j a ⟨n, e⟩ => ?_, fun j k a e1 e2 => hF.ds _ _ a e1.2 e2.2⟩, fun j s e => ?_⟩
  · by_cases ha : Fs i a
    · rw [ti a ha] at e; exact e
    · rw [tn a ha] at e; exact h.same _ _ e
  · obtain ⟨r1, r2⟩ := h.kp.kp a o h1 h2 h3
    rw [tn a fun z => by rw [(hF.at_ i a z).2.1] at h2; cases h2]; exact ⟨r1, r2⟩
  · rw [tn a fun z => (hF.at_ i a z).2.2.1 ha]; exact hn
  · obtain ⟨r1, r2, r3, r4⟩ := hF.at_ j a e
    rw [tn a fun z => n (hF.ds j i a e z)]; exact ⟨r1, r2, r3, r4⟩
  · rcases set_get e with ⟨rfl, rfl⟩ | ⟨n, e⟩
    · exact ⟨_, e1, one.at_ e2 T sm fun a o z e => by rw [ti a z]; exact e⟩
    · have q := hs j s e
      cases s with
      | no => trivial
      | st p => obtain ⟨x, e1, e2⟩ := q; exact ⟨x, e1, p.mono sm e2⟩
      | ow p =>
        obtain ⟨x, e1, e2⟩ := q
        refine ⟨x, e1, ?_⟩
        have ef : (fun a => j ≠ i ∧ Fs j a) = Fs j := funext fun a => propext ⟨fun z => z.2, fun z => ⟨n, z⟩⟩
        show p.p T H x (fun a => j ≠ i ∧ Fs j a)
        rw [ef]
        exact p.mono sm (fun _ _ _ e => e) e2
      | gh p =>
        have ef : (fun a => j ≠ i ∧ Fs j a) = Fs j := funext fun a => propext ⟨fun z => z.2, fun z => ⟨n, z⟩⟩
        show p.p T H .non (fun a => j ≠ i ∧ Fs j a)
        rw [ef]
        exact p.mono sm (fun _ _ _ e => e) q
theorem sub_frz {i : Nat} {p : PrO} {q : Pr} (one : One p q) (hi : Γ[i]? = some (.ow p) := by rfl) : Sub E Γ (Γ.set i (.st q)) := fun h => h.frz one hi
/-- kinds whose things have nothing in the heap -/
structure Flat (R : Rel α) : Prop where
  h : ∀ {x : α} {S S' : Hp} {v : V}, R.is x S v → R.is x S' v
/-- what may change hangs on nothing stable -/
structure Free (E : Eff τ) : Prop where
  h : ∀ {b : τ} {S S' H : Hp}, (∀ a, E.own a → S' a = none) → E.is b S H → E.is b S' H
/-- all that is one's own, as if it were stable -/
inductive Frz : Env → Env → Prop
  | nil : Frz [] []
  | no {l l' : Env} : Frz l l' → Frz (.no :: l) (.no :: l')
  | st {p : Pr} {l l' : Env} : Frz l l' → Frz (.st p :: l) (.st p :: l')
  | ow {p : PrO} {q : Pr} {l l' : Env} : One p q → Frz l l' → Frz (.ow p :: l) (.st q :: l')
  | gh {p : PrO} {l l' : Env} : Frz l l' → Frz (.gh p :: l) (.no :: l')
theorem Frz.get : ∀ {l l' : Env}, Frz l l' → ∀ {i : Nat} {s : Sl}, l'[i]? = some s → s = .no ∨ (∃ p, s = .st p ∧ l[i]? = some (.st p)) ∨ ∃ p q, s = .st q ∧ One p q ∧ l[i]? = some (.ow p)
  | _, _, .nil, i, s, h => by simp at h
  | _, _, .no f, 0, s, h => by simp at h; exact .inl h.symm
  | _, _, .st f, 0, s, h => by simp at h; exact .inr (.inl ⟨_, h.symm, rfl⟩)
  | _, _, .ow one f, 0, s, h => by simp at h; exact .inr (.inr ⟨_, _, h.symm, one, rfl⟩)
  | _, _, .gh f, 0, s, h => by simp at h; exact .inl h.symm
  | _, _, .no f, i + 1, s, h => by simpa using f.get (i := i) (by simpa using h)
  | _, _, .st f, i + 1, s, h => by simpa using f.get (i := i) (by simpa using h)
  | _, _, .ow one f, i + 1, s, h => by simpa using f.get (i := i) (by simpa using h)
  | _, _, .gh f, i + 1, s, h => by simpa using f.get (i := i) (by simpa using h)
open Classical in
end
end Zk

namespace Zk
open PySem L2

section
variable {τ α β γ δ κ ρ ι θ : Type} {G : Gx} {c : Sc} {E : Eff τ} {W : WX} {Γ Γ' : Env} {B : Bs} {σ : St} {S S1 S' H H' : Hp} {b b' : τ} {L : Ls κ ρ}
/-! ### new things that are one's own -/
def aftF (G : Gx) (E : Eff τ) (W : WX) (B : Bs) (Γ : Env) (σ : St) (S : Hp) (P : α → PrO) (Q : VK) : Out τ α → Prop
  | .ok a b' => ∀ v S' H1 H' F, Same S S' → Hold E B Γ b' σ S' H1 → (∀ x, F x → H1 x = none ∧ ∃ o, H' x = some o) → (∀ x, ¬ F x → H' x = H1 x) → (P a).p S' H' v F → Q v H'
  | .exc x b' => ∀ c d S' H', Same S S' → Hold E B Γ b' σ S' H' → XAt G x H' c d → W c d σ H'
  | .stuck => False
theorem aftF.same {P : α → PrO} {Q : VK} (s : Same S S1) : ∀ {o : Out τ α}, aftF G E W B Γ σ S P Q o → aftF G E W B Γ σ S1 P Q o
  | .ok _ _, h => fun v S' H1 H' F s2 => h v S' H1 H' F (s.trans s2)
  | .exc _ _, h => fun c d S' H' s2 => h c d S' H' (s.trans s2)
  | .stuck, h => h
def tzF (G : Gx) (E : Eff τ) (W : WX) (Γ : Env) (m : M τ α) (P : α → PrO) : TE := fun σ H Q => ∃ B S b, Hold E B Γ b σ S H ∧ aftF G E W B Γ σ S P Q (m b)
def ZF (G : Gx) (c : Sc) (E : Eff τ) (W : WX) (Γ : Env) (e : Expr) (m : M τ α) (P : α → PrO) : Prop := ∀ X, CtxOk G c W X → PE X e (tzF G E W Γ m P)
theorem tz_AbndF {m : M τ α} {f : α → M τ β} {A : α → List Pr} {P : β → PrO} {Q : VK} {Q' : List V → Hp → Prop} (hh : Hold E B Γ b σ S H) (h : aftF G E W B Γ σ S P Q (bnd m f b))
    (k : ∀ x b1 vs S1 H1, Same S S1 → Hold E B Γ b1 σ S1 H1 → All2 (fun (p : Pr) v => p.p S1 v) (A x) vs → aftF G E W B Γ σ S1 P Q (f x b1) → Q' vs H1) : tzA G E W Γ m A σ H Q' := by
  refine ⟨B, S, b, hh, ?_⟩
  unfold bnd at h
  cases e : m b with
  | ok a b1 => rw [e] at h; exact fun v S1 H1 s h1 r => k a b1 v S1 H1 s h1 r (h.same s)
  | exc x b1 => rw [e] at h; exact h
  | stuck => rw [e] at h; exact h.elim
theorem aftF_chk {P : α → PrO} {Q : VK} {p : Prop} [Decidable p] {m : M τ α} (h : aftF G E W B Γ σ S P Q (chk p m b)) : p ∧ aftF G E W B Γ σ S P Q (m b) := by
  unfold chk at h
  by_cases hp : p
  · rw [if_pos hp] at h; exact ⟨hp, h⟩
  · rw [if_neg hp] at h; exact h.elim
/-- one new object -/
theorem aftF_new {P : α → PrO} {Q : VK} {a : α} {p : Addr} {o : HO} (hh : Hold E B Γ b σ S H) (h : aftF G E W B Γ σ S P Q (ret a b)) (hp : H p = none) (r : (P a).p S (upd H p o) (.ref p) (fun x => x = p)) : Q (.ref p) (upd H p o) :=
  h _ S H _ (fun x => x = p) (Same.refl _) hh (fun x e => by subst e; exact ⟨hp, o, upd_same⟩) (fun x n => upd_ne n) r
theorem ownL_new {R : Rel α} {p : Addr} {xs : List α} {vs : List V} (h : All2 (fun x v => R.is x S v) xs vs) : (ownL R xs).p S (upd H p (.lst vs)) (.ref p) (fun x => x = p) := ⟨p, vs, rfl, fun _ => Iff.rfl, upd_same, h⟩
theorem zf_list {es : List Expr} {m : M τ (List α)} {R : Rel α} {pos : Pos} (h : ZA G c E W Γ es m R.all) : ZF G c E W Γ (.List es pos) (zlist m) (ownL R) := fun X C => pe_wk (pe_lst (h X C)) fun σ H Q _ ⟨B, S, b, hh, q⟩ => by
  refine tz_AbndF hh q fun x b1 vs S1 H1 s1 h1 r1 q1 => ?_
  obtain ⟨hl, q2⟩ := aftF_chk q1
  have r2 := all_of r1
  exact ⟨by rw [← r2.length]; exact hl, fun p hp => aftF_new h1 q2 hp (ownL_new r2)⟩
theorem zs_setF {i : Nat} {x : Str} {e : Expr} {m : M τ α} {P : α → PrO} {p pos : Pos} (n : Ns c i x) (h : ZF G c E W Γ e m P) (sx : Sub E Γ L.x) (hs : NoSwap e := by intro _ _ _; rfl) : ZS G c E W L Γ (.Assign [.Name x p] e pos) (zset m) (fun a => Γ.set i (.ow (P a))) := fun X C =>
  ps_wk (ps_set C.set_hN (C.hi n.n) (by rw [C.sc]; exact n.l) (h X C) (hs _ _ _) (C.hf n)) fun D σ H hl ⟨B, S, b, hh, q⟩ => by
    refine ⟨B, S, b, hh, ?_⟩
    unfold zset bnd at q
    cases e : m b with
    | stuck => rw [e] at q; exact q.elim
    | exc x b1 => rw [e] at q; exact fun c d S1 H1 _ h1 xa => let ⟨S2, _, h2⟩ := sx h1; q c d σ S2 H1 h2 xa
    | ok a b1 =>
      rw [e] at q
      intro v S1 H1 H2 F s1 h1 hF hk hp
      exact q _ S1 H2 s1 (h1.mut (C.lt n.n hl) hk (fun y hy => ⟨(hF y hy).2, .inl ⟨(hF y hy).1, h1.fr (hF y hy).1⟩⟩) hp)
/-- the value of a slot -/
theorem slot_get {i : Nat} {v : V} (e : σ[i]?.join = some v) : σ[i]? = some (some v) := by
  cases z : σ[i]? with
  | none => rw [z] at e; cases e
  | some o => rw [z] at e; cases o with
    | none => cases e
    | some u => cases e; rfl
theorem slot_set {i : Nat} {v : V} (e : σ[i]? = some (some v)) : σ.set i (some v) = σ := by
  obtain ⟨h, e⟩ := List.getElem?_eq_some_iff.mp e
  rw [← e]; exact List.set_getElem_self h
/-- what is owned at one address is changed -/
theorem Hold.chg {i : Nat} {l : Addr} {o : HO} {p p' : PrO} (h : Hold E B Γ b σ S H) (hi : Γ[i]? = some (.ow p)) (hp : ∀ {S H v F}, p.p S H v F → v = .ref l → ∀ a, F a ↔ a = l) (hv : σ[i]? = some (some (.ref l))) (hp' : p'.p S (upd H l o) (.ref l) (fun a => a = l)) : Hold E B (Γ.set i (.ow p')) b σ S (upd H l o) := by
  have hlt := (List.getElem?_eq_some_iff.mp hv).1
  rw [show σ = σ.set i (some (.ref l)) from (slot_set hv).symm]
  refine Hold.mut h hlt (F' := fun a => a = l) (fun a n => upd_ne n) (fun a e => ?_) hp'
  subst e
  refine ⟨⟨o, upd_same⟩, .inr fun Fs hF hs => ?_⟩
  obtain ⟨v, e1, e2⟩ := hs i _ hi
  rw [hv] at e1; cases e1
  exact (hp e2 rfl a).mpr rfl
theorem own_at {R : Rel α} {xs : List α} {i : Nat} (h : Hold E B Γ b σ S H) (hi : Γ[i]? = some (.ow (ownL R xs))) : ∃ l vs, σ[i]? = some (some (.ref l)) ∧ H l = some (.lst vs) ∧ All2 (fun x v => R.is x S v) xs vs := by
  obtain ⟨Fs, hF, hs⟩ := h.sl
  obtain ⟨v, e1, l, vs, rfl, hf, hu, hq⟩ := hs i _ hi
  exact ⟨l, vs, slot_get e1, hu, hq⟩
theorem ownL_feet {R : Rel α} {xs : List α} {l : Addr} {S H : Hp} {v : V} {F : Addr → Prop} (h : (ownL R xs).p S H v F) (e : v = .ref l) : ∀ a, F a ↔ a = l := by
  obtain ⟨l', vs, rfl, hf, _⟩ := h; cases e; exact hf
structure BmEnv (o : Expr) (name : Str) (es : List Expr) (apos cpos : Pos) : Prop where
  base : ∀ env : PySem.Env, attributeBase o name env (eval o env) = eval o env
  few : ∀ env : PySem.Env, ((backTo cpos (starEach es env)).all (fun x => !x.1) && (backToKw cpos (keywordEach [] env)).all (fun x => x.1.isSome)
      && decide (es.length + ([] : List Keyword).length + (if ([] : List Keyword).isEmpty then 0 else 1) < 30)) = true
  line : (apos.endLine == cpos.line) = true
  star : ∀ env : PySem.Env, ∀ e r, es = e :: r → starEach es env = (false, eval e env) :: starEach r env ∧ (backTo cpos (starEach r env)).any (·.1) = false
/-! ### own classes -/
/-- the field f of what R tells is what R2 tells of g -/
structure FldAt (R : Rel α) (C : Addr) (f : Str) (g : α → β) (R2 : Rel β) : Prop where
  h : ∀ {x : α} {S : Hp} {v : V}, R.is x S v → ∃ a dx vs u, v = .ref a ∧ S a = some (.ins C dx vs) ∧ vs.lookup f = some u ∧ R2.is (g x) S u
end
end Zk

namespace Zk
open PySem L2

section
variable {τ α β γ δ κ ρ ι θ : Type} {G : Gx} {c : Sc} {E : Eff τ} {W : WX} {Γ Γ' : Env} {B : Bs} {σ : St} {S S1 S' H H' : Hp} {b b' : τ} {L : Ls κ ρ}
/-! ### exceptions of own classes -/
/-- A.__init__(self, ..), A an own class over ValueError that has no __init__ of its own -/
structure AIn (K : PySem.W.Frag) (A : Addr) (mc : Value) : Prop where
  rd : ClX.CRead K A mc
  at_ : PySem.W.findCls K (.ref A) mc "__init__" = some (.val (.builtin "ValueError.__init__"))
theorem pe_ainit {X : Cx} {e : Expr} {es : List Expr} {ta : TA} {x : Str} {A : Addr} {mc : Value} {p1 p2 pos : Pos} {pl : Sem Bool} (T : AIn X.K A mc) (hg : Gl X x) (hm : X.mg x = some (.ref A)) (ha : PA X (e :: es) ta)
    (hc : eval (.Call (.Attribute (.Name x p1) "__init__" p2) (e :: es) [] pos) X.env = (do
      let ov ← eval (.Name x p1) X.env
      standAt p2.atName
      let (f, first) ← holding [ov] (getMethod ov "__init__" pl)
      callWith pos f first (backTo pos (starEach (e :: es) X.env)) (backToKw pos (keywordEach [] X.env))))
    (he : starEach (e :: es) X.env = (false, eval e X.env) :: starEach es X.env) (hpl : (backTo pos (starEach es X.env)).any (·.1) = false) (hd : (x == ("__debug__" : Str)) = false) :
    PE X (.Call (.Attribute (.Name x p1) "__init__" p2) (e :: es) [] pos) (tVeI X.K ta) := by
  refine ⟨fun pins s σ H Q I h => ?_⟩
  refine PySem.W.methodCall_KW (ld_glob I hg hm ?_ hd) hc
  refine PySem.W.method_cls I.kIn T.rd.ga (PySem.W.cls_value I.kIn T.rd.rd T.at_ rfl ?_)
  show wpAny _ _ (callWith pos (Value.builtin "ValueError.__init__") [] (backTo pos (starEach (e :: es) X.env)) []) _ _ _
  refine PyProof.Rows.callWith_method1 (thn (ha.run pos pins _ σ H _ (I.tok _) h) fun us s1 ⟨vs, H1, I1, r1, a, C, ws, ev, hl, T, ea, q⟩ => ?_) he hpl
  subst ev
  cases r1 with
  | @cons _ u0 _ ur ra rw' =>
    obtain rfl : u0 = Value.ref a := ra
    have hlen : ur.length ≤ sizeLine := by
      rw [← Paired.length rw', sizeLine_eq]
      omega
    exact oinit_ok T I1 ea hlen fun s' J => ⟨.non, H1, J, rfl, q⟩
/-- the promise of an __init__ that keeps its one argument as the field f -/
def spX1 (K : PySem.W.Frag) (f : Str) : Sp := fun vs H Q _ => ∃ a v C, vs = [.ref a, v] ∧ OexC K C ∧ PySem.W.findIn K (.ref C) f = some none ∧ H a = some (exo a C none) ∧ ∀ d, H d = none → d ≠ a → Q .non (upd (upd H d (exd d [(f, v)])) a (exo a C (some d)))
/-- .. its two arguments as f and g -/
def spX2 (K : PySem.W.Frag) (f g : Str) : Sp := fun vs H Q _ => ∃ a v w C, vs = [.ref a, v, w] ∧ OexC K C ∧ PySem.W.findIn K (.ref C) f = some none ∧ PySem.W.findIn K (.ref C) g = some none ∧ H a = some (exo a C none) ∧ ∀ d, H d = none → d ≠ a → Q .non (upd (upd (upd H d (exd d [(f, v)])) a (exo a C (some d))) d (exd d [(g, w), (f, v)]))
/-- what the written part says of a class of exceptions, and of its __init__ -/
structure XAtC (G : Gx) (x : Str) (k : Nat) (ps : List Str) (sp : Sp) (C : Addr) : Prop where
  mg : G.mg x = some (.ref C)
  ox : OexC G.K C
  ini : ∃ f fd, PySem.W.findIn G.K (.ref C) "__init__" = some (some (.ref f)) ∧ PySem.W.typeIn G.K (.ref f) = some (.type "function") ∧ Binds G.K fd ps [] ∧ FnOk G.P G.w G.K G.mg G.base (L2.CX G.P G.w) k f fd ps sp
theorem del_upd {H : Hp} {a d : Addr} {o o1 o2 o3 : HO} (ha : H a = none) (hda : d ≠ a) : upd (del (upd (upd (upd H a o) d o1) a o2) a) d o3 = upd H d o3 := by
  funext x
  by_cases hx : x = d
  · subst hx; rw [upd_same, upd_same]
  · rw [upd_ne hx, upd_ne hx]
    by_cases hxa : x = a
    · subst hxa; rw [del_same, ha]
    · rw [del_ne hxa, upd_ne hxa, upd_ne hx, upd_ne hxa]
def zraise (cl f : Str) (v : α → V) (m : M τ α) : M τ β := bnd m fun x => rse ⟨cl, [(f, v x)]⟩
/-! ### methods -/
section
variable {X : Cx} {CX : CXT} {k : Nat} {f C : Addr} {fd : FuncData} {ps : List Str} {sp : Sp} {dvs : List V} {ds : List Value} {Ex : St → XK} {m : Str} {pos apos : Pos} {e o : Expr} {es : List Expr} {ta : TE} {t : TA} {g : Bool}
end
structure MethAt (g : Bool) (G : Gx) (C : Addr) (m : Str) (k : Nat) (ps : List Str) (sp : Sp) : Prop where
  ex : ∃ f fd, Meth G.K C m f ∧ Binds G.K fd ps [] ∧ FnG g G.P G.w G.K G.mg G.base k f fd ps sp
/-- R tells instances of the class at C, of which m is no field -/
structure InsAt (R : Rel α) (C : Addr) (m : Str) : Prop where
  h : ∀ {x : α} {S : Hp} {v : V}, R.is x S v → ∃ a dx vs, v = .ref a ∧ S a = some (.ins C dx vs) ∧ vs.lookup m = none
abbrev EvM (o : Expr) (m : Str) (es : List Expr) (apos pos : Pos) (pl : PySem.Env → Sem Bool) : Prop := ∀ env : PySem.Env, eval (.Call (.Attribute o m apos) es [] pos) env = (do
      let ov ← eval o env
      standAt apos.atName
      let (f, first) ← holding [ov] (getMethod ov m (pl env))
      callWith pos f first (backTo pos (starEach es env)) (backToKw pos (keywordEach [] env)))
def zmeth (f : α × β → M τ γ) (m : M τ α) (n : M τ β) : M τ γ := bnd m fun x => bnd n fun y => f (x, y)
end
end Zk

namespace Zk
open PySem L2

section
variable {τ α β γ δ κ ρ ι θ : Type} {G : Gx} {c : Sc} {E : Eff τ} {W : WX} {Γ Γ' : Env} {B : Bs} {σ : St} {S S1 S' H H' : Hp} {b b' : τ} {L : Ls κ ρ}
/-! ### list comprehensions -/
def nox (m : M τ α) : M τ α := fun s => match m s with | .ok a s' => .ok a s' | .exc _ _ => .stuck | .stuck => .stuck
def zcomp (t : β → M τ Bool) (f : β → M τ γ) : List γ → List β → M τ (List γ)
  | acc, [] => ret acc
  | acc, x :: xs => bnd (nox (t x)) fun k => if k = true then bnd (nox (f x)) fun y => chk (acc.length < sizeLine) (zcomp t f (acc ++ [y]) xs) else zcomp t f acc xs
def zlc (t : β → M τ Bool) (f : β → M τ γ) (m : M τ (List β)) : M τ (List γ) := bnd m fun xs => zcomp t f [] xs
def Wf : WX := fun _ _ _ _ => False
def wipeE (Γ : Env) : List Nat → Env
  | [] => Γ
  | v :: vs => (wipeE Γ vs).set v .no
theorem Hold.wipe (h : Hold E B Γ b σ S H) : ∀ vs : List Nat, Hold E B (wipeE Γ vs) b (wipe σ vs) S H
  | [] => h
  | v :: vs => (h.wipe vs).unset
/-- the context of a comprehension's block -/
abbrev Sc.blk (c : Sc) (scope : Scope) : Sc := ⟨c.N, relS scope c.sc, c.k, false, fun x => scope.names.lookup x == some .cell, c.gd⟩
theorem CtxOk.blk {X : Cx} (C : CtxOk G c W X) (s : Shared) (H : Hp) (scope : Scope) (A : Addr) (cl : List (Str × Addr)) (fp : List Addr) : CtxOk G (c.blk scope) Wf (X.blk s H scope (compEnvC scope cl A X.env) fp) where
  prog := C.prog
  w := C.w
  K := C.K
  mg := C.mg
  base := C.base
  N := C.N
  nd := C.nd
  sc := by show relS scope X.env.scope = _; rw [C.sc]
  calm := C.calm
  room := C.room
  gds := C.gds
  takes := takes0
  owns := PassesOwn.never
  fx := rfl
  isfn := fun h => nomatch h
/-- a new list, filled, seen from outside -/
def Bd (B : Bs) (D : Addr) (o : HO) : Bs := ⟨B.S, upd B.H D o⟩
theorem Hold.cell0 {D : Addr} {o : HO} (h : Hold E B Γ b σ S H) (hD : H D = none) : Hold E (Bd B D o) Γ b σ S (upd H D o) := by
  have hS : S D = none := h.same.free hD
  obtain ⟨Fs, hF, hs⟩ := h.sl
  have ne : ∀ a o, H a = some o → a ≠ D := fun a o e => ne_of_none e hD
  refine ⟨⟨fun a u e => by rw [upd_ne (ne a u (h.same _ _ e))]; exact h.same _ _ e, h.kp.up, fun a u h1 h2 h3 => ?_⟩, E.mono (Same.refl _) (fun _ _ z => z) (fun a u _ e => by rw [upd_ne (ne a u e)]; exact e) h.ef, Fs, ⟨fun i a e => ?_, hF.ds⟩, fun i s e => ?_⟩
  · by_cases ha : a = D
    · subst ha
      have h2 : upd B.H a o a = some u := h2
      rw [upd_same] at h2 ⊢; exact ⟨hS, h2⟩
    · have h2 : upd B.H D o a = some u := h2
      rw [upd_ne ha] at h2 ⊢; exact h.kp.kp a u h1 h2 h3
  · obtain ⟨r1, r2, r3, u, r4⟩ := hF.at_ i a e
    exact ⟨r1, by show upd B.H D o a = none; rw [upd_ne (ne a u r4)]; exact r2, r3, u, by rw [upd_ne (ne a u r4)]; exact r4⟩
  · have q := hs i s e
    cases s with
    | no => trivial
    | st p => exact q
    | ow p => obtain ⟨x, e1, e2⟩ := q; exact ⟨x, e1, p.mono (Same.refl _) (fun a u _ e => by rw [upd_ne (ne a u e)]; exact e) e2⟩
    | gh p => exact p.mono (Same.refl _) (fun a u _ e => by rw [upd_ne (ne a u e)]; exact e) q
theorem Hold.cellAt {D : Addr} {o : HO} (h : Hold E (Bd B D o) Γ b σ S H) (hB : B.S D = none) (hE : ¬ E.own D) : S D = none ∧ H D = some o := h.kp.kp D o hB upd_same hE
theorem Hold.cellSet {D : Addr} {o o' : HO} (h : Hold E (Bd B D o) Γ b σ S H) (hB : B.S D = none) (hE : ¬ E.own D) : Hold E (Bd B D o') Γ b σ S (upd H D o') := by
  obtain ⟨hS, _⟩ := h.cellAt hB hE
  obtain ⟨Fs, hF, hs⟩ := h.sl
  have nF : ∀ i a, Fs i a → a ≠ D := fun i a e z => by
    have := (hF.at_ i a e).2.1
    rw [z] at this
    have this : upd B.H D o D = none := this
    rw [upd_same] at this; cases this
  refine ⟨⟨fun a u e => by rw [upd_ne (fun z => by rw [z, hS] at e; cases e)]; exact h.same _ _ e, h.kp.up, fun a u h1 h2 h3 => ?_⟩, E.mono (Same.refl _) (fun _ _ z => z) (fun a u ha e => by rw [upd_ne (fun z => hE (by rw [← z]; exact ha))]; exact e) h.ef, Fs, ⟨fun i a e => ?_, hF.ds⟩, fun i s e => ?_⟩
  · by_cases ha : a = D
    · subst ha
      have h2 : upd B.H a o' a = some u := h2
      rw [upd_same] at h2 ⊢; exact ⟨hS, h2⟩
    · have h2 : upd B.H D o' a = some u := h2
      rw [upd_ne ha] at h2 ⊢; exact h.kp.kp a u h1 (by show upd B.H D o a = some u; rw [upd_ne ha]; exact h2) h3
  · obtain ⟨r1, r2, r3, u, r4⟩ := hF.at_ i a e
    have n := nF i a e
    have r2 : upd B.H D o a = none := r2
    rw [upd_ne n] at r2
    exact ⟨r1, by show upd B.H D o' a = none; rw [upd_ne n]; exact r2, r3, u, by rw [upd_ne n]; exact r4⟩
  · have q := hs i s e
    cases s with
    | no => trivial
    | st p => exact q
    | ow p => obtain ⟨x, e1, e2⟩ := q; exact ⟨x, e1, p.mono (Same.refl _) (fun a u ha e => by rw [upd_ne (nF i a ha)]; exact e) e2⟩
    | gh p => exact p.mono (Same.refl _) (fun a u ha e => by rw [upd_ne (nF i a ha)]; exact e) q
/-- .. the list left out of the heap -/
theorem Hold.cellOff {D : Addr} {o : HO} (h : Hold E (Bd B D o) Γ b σ S H) (hB : B.S D = none) (hBH : B.H D = none) (hE : ¬ E.own D) : Hold E B Γ b σ S (del H D) := by
  obtain ⟨hS, _⟩ := h.cellAt hB hE
  obtain ⟨Fs, hF, hs⟩ := h.sl
  have nF : ∀ i a, Fs i a → a ≠ D := fun i a e z => by
    have := (hF.at_ i a e).2.1
    rw [z] at this
    have this : upd B.H D o D = none := this
    rw [upd_same] at this; cases this
  refine ⟨⟨fun a u e => by rw [del_ne (fun z => by rw [z, hS] at e; cases e)]; exact h.same _ _ e, h.kp.up, fun a u h1 h2 h3 => ?_⟩, E.mono (Same.refl _) (fun _ _ z => z) (fun a u ha e => by rw [del_ne (fun z => hE (by rw [← z]; exact ha))]; exact e) h.ef, Fs, ⟨fun i a e => ?_, hF.ds⟩, fun i s e => ?_⟩
  · have ha : a ≠ D := fun z => by rw [z, hBH] at h2; cases h2
    rw [del_ne ha]; exact h.kp.kp a u h1 (by show upd B.H D o a = some u; rw [upd_ne ha]; exact h2) h3
  · obtain ⟨r1, r2, r3, u, r4⟩ := hF.at_ i a e
    have n := nF i a e
    have r2 : upd B.H D o a = none := r2
    rw [upd_ne n] at r2
    exact ⟨r1, r2, r3, u, by rw [del_ne n]; exact r4⟩
  · have q := hs i s e
    cases s with
    | no => trivial
    | st p => exact q
    | ow p => obtain ⟨x, e1, e2⟩ := q; exact ⟨x, e1, p.mono (Same.refl _) (fun a u ha e => by rw [del_ne (nF i a ha)]; exact e) e2⟩
    | gh p => exact p.mono (Same.refl _) (fun a u ha e => by rw [del_ne (nF i a ha)]; exact e) q
theorem lc_src {P : Hp → Hp → Prop} {J : It} {xs : List β} {R : Rel β} {I : Hp → Prop} (src : Src P J xs R I) {g : TG} {tt : TT} {te : TE} {vs : List Nat} {σ : St} {H1 : Hp} {D : Addr} {Qd : Hp → Prop} (Pv : Nat → Hp → Prop) (h0 : Pv 0 (upd H1 D (.lst []))) (hl : ∀ i H, i ≤ xs.length → Pv i H → ∃ S, Same S H ∧ P S H ∧ I S)
    (hs : ∀ i y H, xs[i]? = some y → Pv i H → ∀ x H', J.yld i H x H' → g x (wipe σ vs) H' fun σ2 H2 => wipe σ2 vs = wipe σ vs ∧ tt σ2 H2 fun b H3 =>
      if b = true then te σ2 H3 fun y H4 => ∃ acc, H4 D = some (.lst acc) ∧ acc.length < sizeLine ∧ Pv (i + 1) (upd H4 D (.lst (acc ++ [y]))) else Pv (i + 1) H3) (hd : ∀ H, Pv xs.length H → Qd H) :
    ∃ W : Nat → Nat → Hp → Prop, (∃ m, W 0 m (upd H1 D (.lst []))) ∧ ∀ i m H, W i m H →
      (J.stop i H ∧ Qd H) ∨ (J.go i H ∧ ∃ Nx : Hp → Prop, (∀ H', Nx H' → ∃ m', m' < m ∧ W (i + 1) m' H') ∧ ∀ x H', J.yld i H x H' → g x (wipe σ vs) H' fun σ2 H2 => wipe σ2 vs = wipe σ vs ∧ tt σ2 H2 fun b H3 =>
        if b = true then te σ2 H3 fun y H4 => ∃ acc, H4 D = some (.lst acc) ∧ acc.length < sizeLine ∧ Nx (upd H4 D (.lst (acc ++ [y]))) else Nx H3) := by
  refine ⟨fun i m H => m = xs.length - i ∧ i ≤ xs.length ∧ Pv i H, ⟨xs.length, by simp, Nat.zero_le _, h0⟩, ?_⟩
  rintro i m H ⟨rfl, hi, p⟩
  obtain ⟨S, s, hP, hI⟩ := hl i H hi p
  by_cases hlt : i < xs.length
  · exact .inr ⟨src.go s hP hI hlt, Pv (i + 1), fun H' p' => ⟨xs.length - (i + 1), by omega, rfl, hlt, p'⟩, fun x H' y => hs i xs[i] H (by simp [hlt]) p x H' y⟩
  · have e : i = xs.length := by omega
    subst e
    exact .inl ⟨src.st s hP hI, hd H p⟩
/-- the tests of a comprehension's clause -/
def ZTs (G : Gx) (c : Sc) (E : Eff τ) (W : WX) (Γ : Env) (es : List Expr) (m : M τ Bool) : Prop := ∀ X, CtxOk G c W X → PTs X es (tzT G E W Γ m)
theorem pts_wk {X : Cx} {es : List Expr} {t t' : TT} (h : PTs X es t) (w : ∀ σ H Q, t' σ H Q → t σ H Q) : PTs X es t' := ⟨fun pins s σ H Q I q => h.run pins s σ H Q I (w σ H Q q)⟩
theorem pts_ex {ι : Type} {X : Cx} {e : List Expr} {t : ι → TT} (h : ∀ i, PTs X e (t i)) : PTs X e (fun σ H Q => ∃ i, t i σ H Q) := ⟨fun pins s σ H Q I ⟨i, q⟩ => (h i).run pins s σ H Q I q⟩
theorem zts_nil : ZTs G c E W Γ [] (ret true) := fun X C => pts_wk pts_nil fun σ H Q ⟨B, S, b, hh, q⟩ => q S H (Same.refl _) hh
def lcEnd (E : Eff τ) (B : Bs) (Γ : Env) (σ : St) (S : Hp) (R' : Rel γ) (Q : VK) : Out τ (List γ) → Prop
  | .ok ys b' => ∀ D S' H' us, Same S S' → Hold E (Bd B D (.lst us)) Γ b' σ S' H' → B.S D = none → B.H D = none → ¬ E.own D → All2 (fun x v => R'.is x S' v) ys us → Q (.ref D) H'
  | _ => False
theorem lcEnd.same {R' : Rel γ} {Q : VK} (s : Same S S1) : ∀ {o : Out τ (List γ)}, lcEnd E B Γ σ S R' Q o → lcEnd E B Γ σ S1 R' Q o
  | .ok _ _, h => fun D S' H' us s2 => h D S' H' us (s.trans s2)
  | .exc _ _, h => h
  | .stuck, h => h
theorem lcEnd_bnd {m : M τ α} {f : α → M τ (List γ)} {R' : Rel γ} {Q : VK} (h : lcEnd E B Γ σ S R' Q (bnd (nox m) f b)) : ∃ a b1, m b = .ok a b1 ∧ lcEnd E B Γ σ S R' Q (f a b1) := by
  unfold bnd nox at h
  cases e : m b with
  | ok a b1 => rw [e] at h; exact ⟨a, b1, rfl, h⟩
  | exc x b1 => rw [e] at h; exact h.elim
  | stuck => rw [e] at h; exact h.elim
theorem wipe_wipe {vs : List Nat} {σ : St} : ∀ {ws : List Nat}, (∀ w ∈ ws, w ∈ vs) → L2.wipe (L2.wipe σ ws) vs = L2.wipe σ vs
  | [], _ => rfl
  | w :: ws, h => by
    have e : L2.wipe σ (w :: ws) = (L2.wipe σ ws).set w none := rfl
    rw [e, wipe_set (h w (by simp))]
    exact wipe_wipe fun x hx => h x (by simp [hx])
theorem wipeE_in {i : Nat} {s : Sl} : ∀ {vs : List Nat}, i ∈ vs → (wipeE Γ vs)[i]? = some s → s = .no
  | v :: vs, h, e => by
    unfold wipeE at e
    rcases set_get e with ⟨_, r⟩ | ⟨n, e⟩
    · exact r
    · exact wipeE_in (by simpa [n] using h) e
theorem wipe_out' {i : Nat} {σ : St} : ∀ {vs : List Nat}, i ∉ vs → (L2.wipe σ vs)[i]? = σ[i]?
  | [], _ => rfl
  | v :: vs, h => by
    have e : L2.wipe σ (v :: vs) = (L2.wipe σ vs).set v none := rfl
    simp only [List.mem_cons, not_or] at h
    rw [e, List.getElem?_set_ne (Ne.symm h.1)]
    exact wipe_out' h.2
/-- a slot of the block, seen from the def -/
theorem Hold.unwipe {vs : List Nat} {σ σ2 : St} {Γ1 : Env} (hΓ : ∀ (i : Nat), i ∉ vs → Γ1[i]? = (wipeE Γ vs)[i]?) (hw : L2.wipe σ2 vs = L2.wipe σ vs) (h : Hold E B Γ1 b σ2 S H) : Hold E B (wipeE Γ vs) b (L2.wipe σ vs) S H := by
  obtain ⟨Fs, hF, hs⟩ := h.sl
  refine ⟨h.kp, h.ef, Fs, hF, fun i s e => ?_⟩
  by_cases hi : i ∈ vs
  · have := wipeE_in hi e
    subst this; trivial
  · have q := hs i s (by rw [hΓ i hi]; exact e)
    have e1 : (L2.wipe σ vs)[i]? = σ2[i]? := by rw [← hw]; exact wipe_out' hi
    rw [e1]; exact q
/-- the reading of a comprehension: the list D with ys is there -/
theorem lc_core {m : M τ (List β)} {t : β → M τ Bool} {f : β → M τ γ} {R : Rel β} {R' : Rel γ} {Γ1 : β → Env} {vs : List Nat} {σ : St} {H : Hp} {Q : VK} (hh : Hold E B Γ b σ S H) (hk : ∀ x (i : Nat), i ∉ vs → (Γ1 x)[i]? = (wipeE Γ vs)[i]?)
    (q : match m b with
      | .ok xs b1 => ∀ S1, Same S S1 → lcEnd E B (wipeE Γ vs) (L2.wipe σ vs) S1 R' Q (zcomp t f [] xs b1)
      | .exc x b' => ∀ c d S' H', Same S S' → Hold E B Γ b' σ S' H' → XAt G x H' c d → W c d σ H'
      | .stuck => False) :
    tLc (tzI G E W Γ m R) (tzG E (wipeE Γ vs) vs Γ1 R) (fun σ H Q => ∃ x, tzT G E Wf (Γ1 x) (t x) σ H Q) (fun σ H Q => ∃ x, tzE G E Wf (Γ1 x) (f x) R' σ H Q) vs σ H Q := by
  refine ⟨B, S, b, hh, ?_⟩
  cases e : m b with
  | stuck => rw [e] at q; exact q.elim
  | exc x b1 => rw [e] at q; exact q
  | ok xs b1 =>
    rw [e] at q
    intro J I S1 H1 s1 h1 src hI D hD
    have hE := h1.fr hD
    have hS1 : S1 D = none := h1.same.free hD
    have hBS : B.S D = none := h1.kp.up.free hS1
    have hBH : B.H D = none := by
      cases z : B.H D with
      | none => rfl
      | some o => have := (h1.kp.kp D o hBS z hE).2; rw [hD] at this; cases this
    have hw := (h1.cell0 (o := .lst []) hD).wipe vs
    refine lc_src (g := tzG E (wipeE Γ vs) vs Γ1 R) (tt := fun σ H Q => ∃ x, tzT G E Wf (Γ1 x) (t x) σ H Q) (te := fun σ H Q => ∃ x, tzE G E Wf (Γ1 x) (f x) R' σ H Q) (vs := vs) (σ := σ) (Qd := fun H => Q (.ref D) H) src
      (fun i H => ∃ S b us acc, Same S1 S ∧ Hold E (Bd B D (.lst us)) (wipeE Γ vs) b (L2.wipe σ vs) S H ∧ All2 (fun x v => R'.is x S v) acc us ∧ lcEnd E B (wipeE Γ vs) (L2.wipe σ vs) S R' Q (zcomp t f acc (xs.drop i) b))
      ⟨S1, b1, [], [], Same.refl _, hw, trivial, by rw [List.drop_zero]; exact q S1 s1⟩ (fun i H _ ⟨S, _, _, _, s, h, _⟩ => ⟨S, h.same, ⟨_, h.ef⟩, src.mono s hI⟩) ?_ ?_
    · rintro i y H hy ⟨S2, b2, us, acc, s2, h2, r2, q2⟩ x H' yl
      have hd : xs.drop i = y :: xs.drop (i + 1) := by
        obtain ⟨h1, h2⟩ := List.getElem?_eq_some_iff.mp hy
        rw [List.drop_eq_getElem_cons h1, h2]
      rw [hd] at q2
      obtain ⟨k, b3, ek, q3⟩ := lcEnd_bnd q2
      have go : ∀ S' H', Same S2 S' → Hold E (Bd B D (.lst us)) (wipeE Γ vs) b2 (L2.wipe σ vs) S' H' → R.is y S' x → tzG E (wipeE Γ vs) vs Γ1 R x (L2.wipe σ vs) H' fun σ2 H2 => L2.wipe σ2 vs = L2.wipe σ vs ∧ (∃ x, tzT G E Wf (Γ1 x) (t x) σ2 H2 fun b H3 =>
          if b = true then ∃ x, tzE G E Wf (Γ1 x) (f x) R' σ2 H3 fun y H4 => ∃ vacc, H4 D = some (.lst vacc) ∧ vacc.length < sizeLine ∧ (∃ S b us, ∃ acc : List γ, Same S1 S ∧ Hold E (Bd B D (.lst us)) (wipeE Γ vs) b (L2.wipe σ vs) S (upd H4 D (.lst (vacc ++ [y]))) ∧ All2 (fun x v => R'.is x S v) acc us ∧ lcEnd E B (wipeE Γ vs) (L2.wipe σ vs) S R' Q (zcomp t f acc (xs.drop (i + 1)) b))
          else (∃ S b us acc, Same S1 S ∧ Hold E (Bd B D (.lst us)) (wipeE Γ vs) b (L2.wipe σ vs) S H3 ∧ All2 (fun x v => R'.is x S v) acc us ∧ lcEnd E B (wipeE Γ vs) (L2.wipe σ vs) S R' Q (zcomp t f acc (xs.drop (i + 1)) b))) := by
        intro S' H' s' h' r'
        refine ⟨_, S', b2, y, h', r', fun σ' hwσ h'' => ?_⟩
        have hw' : L2.wipe σ' vs = L2.wipe σ vs := hwσ.trans (wipe_wipe fun _ h => h)
        refine ⟨hw', y, _, S', b2, h'', ?_⟩
        rw [ek]
        intro S3 H3 s3 h3
        have q3 := q3.same (s'.trans s3)
        cases k with
        | false =>
          rw [if_neg (by decide)] at q3 ⊢
          exact ⟨S3, b3, us, acc, (s2.trans s').trans s3, h3.unwipe (hk y) hw', All2.rel (s'.trans s3) r2, q3⟩
        | true =>
          rw [if_pos rfl] at q3 ⊢
          obtain ⟨z, b4, ez, q4⟩ := lcEnd_bnd q3
          refine ⟨y, _, S3, b3, h3, ?_⟩
          rw [ez]
          intro v S4 H4 s4 h4 rz
          obtain ⟨_, hD4⟩ := h4.cellAt hBS hE
          unfold chk at q4
          by_cases hz : acc.length < sizeLine
          · rw [if_pos hz] at q4
            exact ⟨us, hD4, by rw [← r2.length]; exact hz, S4, b4, us ++ [v], acc ++ [z], ((s2.trans s').trans s3).trans s4, (h4.unwipe (hk y) hw').cellSet hBS hE, (All2.rel ((s'.trans s3).trans s4) r2).append ⟨rz, trivial⟩, q4.same s4⟩
          · rw [if_neg hz] at q4; exact q4.elim
      rcases src.yl h2.same ⟨_, h2.ef⟩ (src.mono s2 hI) hy yl with ⟨e1, r⟩ | ⟨p, o, hp, e1, r⟩
      · subst e1; exact go S2 _ (Same.refl _) h2 r
      · subst e1; exact go (upd S2 p o) _ (same_new (h2.same.free hp)) (h2.new hp) r
    · rintro H ⟨S2, b2, us, acc, s2, h2, r2, q2⟩
      rw [List.drop_length] at q2
      exact q2 D S2 H us (Same.refl _) h2 hBS hBH hE r2
theorem wipe_back {vs : List Nat} (hΓ : ∀ (i : Nat) s, Γ[i]? = some s → s = .no ∨ i ∉ vs) (h : Hold E B (wipeE Γ vs) b (L2.wipe σ vs) S H) : Hold E B Γ b σ S H := by
  obtain ⟨Fs, hF, hs⟩ := h.sl
  refine ⟨h.kp, h.ef, Fs, hF, fun i s e => ?_⟩
  rcases hΓ i s e with r | r
  · subst r; trivial
  · have e2 : (wipeE Γ vs)[i]? = some s := by
      have : ∀ {vs : List Nat}, i ∉ vs → (wipeE Γ vs)[i]? = Γ[i]? := by
        intro vs
        induction vs with
        | nil => intro _; rfl
        | cons v vs ih => intro h; simp only [List.mem_cons, not_or] at h; unfold wipeE; rw [List.getElem?_set_ne (Ne.symm h.1)]; exact ih h.2
      rw [this r]; exact e
    have q := hs i s e2
    rw [wipe_out' r] at q; exact q
theorem bnd_noexc {m : M τ α} {f : α → M τ γ} {x : Exc} {b' : τ} (h : ∀ a b1, f a b1 ≠ .exc x b') : bnd (nox m) f b ≠ .exc x b' := by
  unfold bnd nox
  cases m b with
  | stuck => intro h; cases h
  | exc e b1 => intro h; cases h
  | ok k b1 => exact h k b1
theorem zcomp_noexc {t : β → M τ Bool} {f : β → M τ γ} : ∀ {xs : List β} {acc : List γ} {b : τ} {x : Exc} {b' : τ}, zcomp t f acc xs b ≠ .exc x b'
  | [], acc, b, x, b' => by unfold zcomp; intro h; cases h
  | y :: xs, acc, b, x, b' => by
    unfold zcomp
    refine bnd_noexc fun k b1 => ?_
    cases k with
    | false => exact zcomp_noexc
    | true =>
      refine bnd_noexc (f := fun z => chk (acc.length < sizeLine) (zcomp t f (acc ++ [z]) xs)) fun z b2 => ?_
      unfold chk
      split
      · exact zcomp_noexc
      · intro h; cases h
theorem del_back {D : Addr} {o : HO} {H : Hp} (h : H D = some o) : upd (del H D) D o = H := by
  funext a
  by_cases ha : a = D
  · subst ha; rw [upd_same, h]
  · rw [upd_ne ha, del_ne ha]
theorem lc_stable {m : M τ (List β)} {t : β → M τ Bool} {f : β → M τ γ} {R' : Rel γ} {vs : List Nat} {Q : VK} (hΓ : ∀ (i : Nat) s, Γ[i]? = some s → s = .no ∨ i ∉ vs) (q : aft G E W B Γ σ S (rLst R') Q (zlc t f m b)) :
    match m b with
      | .ok xs b1 => ∀ S1, Same S S1 → lcEnd E B (wipeE Γ vs) (L2.wipe σ vs) S1 R' Q (zcomp t f [] xs b1)
      | .exc x b' => ∀ c d S' H', Same S S' → Hold E B Γ b' σ S' H' → XAt G x H' c d → W c d σ H'
      | .stuck => False := by
  unfold zlc bnd at q
  cases e : m b with
  | stuck => rw [e] at q; exact q
  | exc x b1 => rw [e] at q; exact q
  | ok xs b1 =>
    rw [e] at q
    intro S1 s1
    dsimp only at q
    cases e2 : zcomp t f [] xs b1 with
    | stuck => rw [e2] at q; exact q
    | exc x b2 => exact absurd e2 zcomp_noexc
    | ok ys b2 =>
      rw [e2] at q
      intro D S' H' us s' h hBS hBH hE r
      obtain ⟨hS, hD⟩ := h.cellAt hBS hE
      have h2 := h.cellOff hBS hBH hE
      have h3 := h2.new (o := .lst us) (p := D) del_same
      rw [del_back hD] at h3
      exact q _ (upd S' D (.lst us)) H' ((s1.trans s').trans (same_new hS)) (wipe_back hΓ h3) (rLst_new hS r)
theorem lc_own {m : M τ (List β)} {t : β → M τ Bool} {f : β → M τ γ} {R' : Rel γ} {vs : List Nat} {Q : VK} (hΓ : ∀ (i : Nat) s, Γ[i]? = some s → s = .no ∨ i ∉ vs) (q : aftF G E W B Γ σ S (ownL R') Q (zlc t f m b)) :
    match m b with
      | .ok xs b1 => ∀ S1, Same S S1 → lcEnd E B (wipeE Γ vs) (L2.wipe σ vs) S1 R' Q (zcomp t f [] xs b1)
      | .exc x b' => ∀ c d S' H', Same S S' → Hold E B Γ b' σ S' H' → XAt G x H' c d → W c d σ H'
      | .stuck => False := by
  unfold zlc bnd at q
  cases e : m b with
  | stuck => rw [e] at q; exact q
  | exc x b1 => rw [e] at q; exact q
  | ok xs b1 =>
    rw [e] at q
    intro S1 s1
    dsimp only at q
    cases e2 : zcomp t f [] xs b1 with
    | stuck => rw [e2] at q; exact q
    | exc x b2 => exact absurd e2 zcomp_noexc
    | ok ys b2 =>
      rw [e2] at q
      intro D S' H' us s' h hBS hBH hE r
      obtain ⟨hS, hD⟩ := h.cellAt hBS hE
      have h2 := h.cellOff hBS hBH hE
      exact q _ S' (del H' D) H' (fun x => x = D) (s1.trans s') (wipe_back hΓ h2) (fun x e => by subst e; exact ⟨del_same, _, hD⟩) (fun x n => (del_ne n).symm) ⟨D, us, rfl, fun _ => Iff.rfl, hD, r⟩
/-- a comprehension's parts: its scope, its own names' slots -/
structure Lc (G : Gx) (c : Sc) (E : Eff τ) (W : WX) (Γ : Env) (elt tg iter : Expr) (ifs : List Expr) (scope : Scope) (own : List (Str × Nat)) (m : M τ (List β)) (t : β → M τ Bool) (f : β → M τ γ) (R : Rel β) (R' : Rel γ) (Γ1 : β → Env) : Prop where
  ok : BlkOk c.N c.sc scope own
  hi : ZI G c E W Γ tg iter m R
  hg : ZG G (c.blk scope) E Wf (wipeE Γ (own.map (·.2))) (own.map (·.2)) tg Γ1 R
  ht : ∀ x, ZTs G (c.blk scope) E Wf (Γ1 x) ifs (t x)
  he : ∀ x, ZE G (c.blk scope) E Wf (Γ1 x) elt (f x) R'
  no : ∀ (i : Nat) s, Γ[i]? = some s → s = .no ∨ i ∉ own.map (·.2)
  fs : ∀ (env : PySem.Env) x, foldedSetIterable iter env x = pure x
theorem Lc.pe {elt tg iter : Expr} {ifs : List Expr} {scope : Scope} {own : List (Str × Nat)} {pos : Pos} {m : M τ (List β)} {t : β → M τ Bool} {f : β → M τ γ} {R : Rel β} {R' : Rel γ} {Γ1 : β → Env} (l : Lc G c E W Γ elt tg iter ifs scope own m t f R R' Γ1) {X : Cx} (C : CtxOk G c W X) :
    PE X (.ListComp elt [⟨tg, iter, ifs, 0⟩] scope pos) (tLc (tzI G E W Γ m R) (tzG E (wipeE Γ (own.map (·.2))) (own.map (·.2)) Γ1 R) (fun σ H Q => ∃ x, tzT G E Wf (Γ1 x) (t x) σ H Q) (fun σ H Q => ∃ x, tzE G E Wf (Γ1 x) (f x) R' σ H Q) (own.map (·.2))) :=
  pe_lc C.calm C.set_hN (l.hi X C) (by rw [C.N, C.sc]; exact l.ok) (fun s H A cl fp => l.hg.1 _ (C.blk s H scope A cl fp)) (fun s H A cl fp => pts_ex fun x => l.ht x _ (C.blk s H scope A cl fp)) (fun s H A cl fp => pe_ex fun x => l.he x _ (C.blk s H scope A cl fp)) (l.fs _)
theorem z_lc {elt tg iter : Expr} {ifs : List Expr} {scope : Scope} {own : List (Str × Nat)} {pos : Pos} {m : M τ (List β)} {t : β → M τ Bool} {f : β → M τ γ} {R : Rel β} {R' : Rel γ} {Γ1 : β → Env} (l : Lc G c E W Γ elt tg iter ifs scope own m t f R R' Γ1) : ZE G c E W Γ (.ListComp elt [⟨tg, iter, ifs, 0⟩] scope pos) (zlc t f m) (rLst R') := fun X C =>
  pe_wk (l.pe C) fun σ H Q _ ⟨B, S, b, hh, q⟩ => lc_core hh l.hg.2 (lc_stable l.no q)
theorem zf_lc {elt tg iter : Expr} {ifs : List Expr} {scope : Scope} {own : List (Str × Nat)} {pos : Pos} {m : M τ (List β)} {t : β → M τ Bool} {f : β → M τ γ} {R : Rel β} {R' : Rel γ} {Γ1 : β → Env} (l : Lc G c E W Γ elt tg iter ifs scope own m t f R R' Γ1) : ZF G c E W Γ (.ListComp elt [⟨tg, iter, ifs, 0⟩] scope pos) (zlc t f m) (ownL R') := fun X C =>
  pe_wk (l.pe C) fun σ H Q _ ⟨B, S, b, hh, q⟩ => lc_core hh l.hg.2 (lc_own l.no q)
theorem Lc.ps {i : Nat} {y : Str} {py spos : Pos} {elt tg iter : Expr} {ifs : List Expr} {scope : Scope} {own : List (Str × Nat)} {pos : Pos} {m : M τ (List β)} {t : β → M τ Bool} {f : β → M τ γ} {R : Rel β} {R' : Rel γ} {Γ1 : β → Env} (l : Lc G c E W Γ elt tg iter ifs scope own m t f R R' Γ1) (n : c.N[i]? = some y) (hy : c.sc.names.lookup y = some .local) (hk : c.sc.kind = .function)
    (hl : (py.line == pos.line) = true) (ha : (scope.names.any fun (n, k) => n == y && (k == .local || k == .cell)) = false) {X : Cx} (C : CtxOk G c W X) :
    PS X (.Assign [.Name y py] (.ListComp elt [⟨tg, iter, ifs, 0⟩] scope pos) spos) (tAsg (tLc (tzI G E W Γ m R) (tzG E (wipeE Γ (own.map (·.2))) (own.map (·.2)) Γ1 R) (fun σ H Q => ∃ x, tzT G E Wf (Γ1 x) (t x) σ H Q) (fun σ H Q => ∃ x, tzE G E Wf (Γ1 x) (f x) R' σ H Q) (own.map (·.2))) (gName i)) :=
  ps_setLc C.calm C.set_hN (C.hi n) (by rw [C.sc]; exact hy) (sw_true (by rw [C.sc]; exact hk) (by rw [C.sc]; exact hy) hl ha) (l.hi X C) (by rw [C.N, C.sc]; exact l.ok) (fun s H A cl fp => l.hg.1 _ (C.blk s H scope A cl fp)) (fun s H A cl fp => pts_ex fun x => l.ht x _ (C.blk s H scope A cl fp)) (fun s H A cl fp => pe_ex fun x => l.he x _ (C.blk s H scope A cl fp)) (l.fs _)
end
end Zk

namespace Zk
open PySem L2

section
variable {X : Cx} {CX : CXT} {k n : Nat} {f C : Addr} {fd : FuncData} {ps ks : List Str} {sp : Sp} {dvs : List V} {ds : List Value} {Ex : St → XK} {x : Str} {p pos : Pos} {e : Expr} {es : List Expr} {kws : List Keyword} {t tk : TA} {g : List Value → List Value → List Value} {gV : List V → List V → List V} {gd : Bool}
end

section
variable {τ α β γ δ κ ρ ι θ : Type} {G : Gx} {c : Sc} {E : Eff τ} {W : WX} {Γ Γ' : Env} {B : Bs} {σ : St} {S S1 S' H H' : Hp} {b b' : τ} {L : Ls κ ρ}
def zini (n : α → ρ) (m : M τ (Fl α Empty Empty)) : M τ ρ := fun s => match m s with
  | .ok (.nx y) s' => .ok (n y) s'
  | .ok _ _ => .stuck
  | .exc e s' => .exc e s'
  | .stuck => .stuck
structure MkAt (g : Bool) (G : Gx) (C : Addr) (k : Nat) (ps : List Str) (sp : Sp) (dvs : List V) : Prop where
  ex : ∃ f fd ds, Mk G.K C f ∧ Binds G.K fd ps ds ∧ Vals dvs ds ∧ FnG g G.P G.w G.K G.mg G.base k f fd ps sp
end
end Zk

namespace Zk
open PySem L2

/-! ### ranges of any size -/
theorem turn_long {P : Program} {w : World} {K : PySem.W.Frag} {tg : Expr} (it : Addr) (lo : Int) (n : Nat) : Turn P w K tg (Itr lo n) [it] it (fun i h => IsLongIter h it (lo + (i : Nat) * 1) ((n : Int) - (i : Nat)) 1) where
  mem := by simp
  obj := fun i h st b hb => by
    have e : b = it := by simpa using hb
    subst e
    exact ⟨_, st, fun v z => by cases z⟩
  keep := fun i h h' st k => k it (by simp) _ st
  item := by
    intro X hP hw hK hc i pins s σ H E I hf st hg
    subst hP hw hK
    obtain ⟨f0, f1, f2, f3, f4, f5⟩ := hf it (by simp)
    have hg' : i < n := hg
    refine wpAny_pyNext_long_item st (by omega) fun h' st' sb => ?_
    have I1 : Inv X pins σ H { s with heap := h', toks := s.toks + 1 } := I.turned (fun b o hb e => sb.extBut b o (by simpa using hb) e) f0 f1 f3 f4 f5
    have e1 : lo + ((i + 1 : Nat) : Int) * 1 = lo + (i : Int) * 1 + 1 := by push_cast; omega
    have e2 : (n : Int) - ((i + 1 : Nat) : Int) = (n : Int) - (i : Int) - 1 := by push_cast; omega
    have st2 : IsLongIter h' it (lo + ((i + 1 : Nat) : Int) * 1) ((n : Int) - ((i + 1 : Nat) : Int)) 1 := by rw [e1, e2]; exact st'
    refine ⟨_, rfl, go_of (s := { s with heap := h', toks := s.toks + 1 }) (n := "longrange_iterator") st' rfl rfl (by decide) ⟨.int (lo + i), H, I1, ⟨s.toks, ?_⟩, ⟨rfl, rfl⟩, st2, fun b hb => (hf b hb).1⟩⟩
    rw [Int.mul_one]
  done := by
    intro X hP hw hK hc i pins s σ H E I hf st hg
    subst hP hw hK
    obtain ⟨f0, f1, f2, f3, f4, f5⟩ := hf it (by simp)
    have hg' : n ≤ i := hg
    exact wpAny_pyNext_long_end (I.ok.hd hc) st (by omega) fun h' eb => ⟨rfl, I.turned (t' := s.toks) (fun b o hb e => eb b o (by simpa using hb) e) f0 f1 f3 f4 f5⟩
  self := fun _ _ _ _ _ st h => wpAny_pyIter_longiter st h
theorem range_itA {X : Cx} {tg : Expr} {pins : List (Addr × Obj)} {σ : St} {H : Hp} {s : Shared} {R : It → Hp → Prop} {E : Value → Shared → Prop} {lo hi : Int} {t u v : Tok} {tk : Nat} (I : Inv X pins σ H s)
    (q : R (Itr lo (hi - lo).toNat) H) : wpAny (model X.prog X.w) X.A (pyIter (.ref s.heap.objs.size)) (PIE X pins σ tg R) E { s with heap := s.heap.push { cls := .type "range", data := .fields #[.int lo t, .int hi u, .int 1 v] }, toks := tk } := by
  have I1 : Inv X pins σ H { s with heap := s.heap.push { cls := .type "range", data := .fields #[.int lo t, .int hi u, .int 1 v] }, toks := tk } := I.kept fun b o e => Heap.get?_push_of_some _ e
  have e1 : lo + ((0 : Nat) : Int) * 1 = lo := by simp
  have e2 : (((hi - lo).toNat : Nat) : Int) - ((0 : Nat) : Int) = Builtin.Range.rangeSize lo hi 1 := by rw [rangeSize_one]; split <;> omega
  cases hs : Builtin.Range.small lo hi 1 with
  | true =>
    refine wpAny_pyIter_range (IsRange.new ..) hs ?_
    refine ⟨(s.heap.push { cls := .type "range", data := .fields #[.int lo t, .int hi u, .int 1 v] }).objs.size, [(s.heap.push { cls := .type "range", data := .fields #[.int lo t, .int hi u, .int 1 v] }).objs.size], _, _, H, rfl,
      I1.kept (t' := tk) fun b o e => Heap.get?_push_of_some _ e, turn_range _ lo (hi - lo).toNat, ?_, fun b hb => ?_, q⟩
    · show IsRangeIter _ _ (lo + ((0 : Nat) : Int) * 1) ((((hi - lo).toNat : Nat) : Int) - ((0 : Nat) : Int)) 1
      rw [e1, e2]
      exact Heap.get?_push_size _ rfl
    · have e : b = (s.heap.push { cls := .type "range", data := .fields #[.int lo t, .int hi u, .int 1 v] }).objs.size := by simpa using hb
      subst e
      exact I1.fpOk (Nat.le_refl _) (I1.hok.fresh (Nat.le_refl _))
  | false =>
    refine wpAny_pyIter_longrange (IsRange.new ..) hs ?_
    refine ⟨(s.heap.push { cls := .type "range", data := .fields #[.int lo t, .int hi u, .int 1 v] }).objs.size, [(s.heap.push { cls := .type "range", data := .fields #[.int lo t, .int hi u, .int 1 v] }).objs.size], _, _, H, rfl,
      I1.kept (t' := tk) fun b o e => Heap.get?_push_of_some _ e, turn_long _ lo (hi - lo).toNat, ?_, fun b hb => ?_, q⟩
    · show IsLongIter _ _ (lo + ((0 : Nat) : Int) * 1) ((((hi - lo).toNat : Nat) : Int) - ((0 : Nat) : Int)) 1
      rw [e1, e2]
      exact Heap.get?_push_size _ rfl
    · have e : b = (s.heap.push { cls := .type "range", data := .fields #[.int lo t, .int hi u, .int 1 v] }).objs.size := by simpa using hb
      subst e
      exact I1.fpOk (Nat.le_refl _) (I1.hok.fresh (Nat.le_refl _))
def iRng1A (ta : TA) : TI := fun σ H R => ta σ H fun vs H1 => ∃ j : Int, vs = [.int j] ∧ R (Itr 0 j.toNat) H1
theorem pi_range1A {X : Cx} {tg a : Expr} {ta : TA} {p pos : Pos} (hg : Gl X "range") (hm : X.mg "range" = none) (ha : PA X [a] ta) (hs : starEach [a] X.env = [(false, eval a X.env)]) : PI X tg (.Call (.Name "range" p) [a] [] pos) (iRng1A ta) := by
  refine ⟨fun pins s σ H R I h => ?_⟩
  refine PyProof.Rows.Call_ (ld_blt I hg hm PyProof.Rows.boot_range (PyProof.Rows.callWith_type1 (thn (ha.run pos pins s σ H _ I h) fun us s1 ⟨vs, H1, I1, r1, q1⟩ => ?_) hs rfl))
  obtain ⟨j, e, q⟩ := q1
  subst e
  cases r1 with
  | cons r rr =>
    cases rr
    obtain ⟨t, rfl⟩ := r
    exact call_range_1 (range_itA I1 (by simpa using q))
section
variable {τ α β γ δ κ ρ ι θ : Type} {G : Gx} {c : Sc} {E : Eff τ} {W : WX} {Γ Γ' : Env} {B : Bs} {σ : St} {S S1 S' H H' : Hp} {b b' : τ} {L : Ls κ ρ}
def frA1 (j : Int) : M τ (List Int) := ret (rng 0 j.toNat)
def frA2 (x : Int × Int) : M τ (List Int) := ret (rng x.1 (x.2 - x.1).toNat)
theorem zi_r1 {tg e : Expr} {m : M τ Int} {p pos : Pos} (bl : Blt G c "range" (.type "range")) (h : ZE G c E W Γ e m rInt) (hs : ∀ env : PySem.Env, starEach [e] env = [(false, eval e env)] := by intro _; rfl) : ZI G c E W Γ tg (.Call (.Name "range" p) [e] [] pos) (zapp frA1 m) rInt := fun X C =>
  pi_wk (pi_range1A (C.gl bl.g) (by rw [C.mg]; exact bl.m) (za_one h (fun env => hs env) X C) (hs X.env)) fun σ H Q ⟨B, S, b, hh, q⟩ => by
    refine tzI_bndA (A := fun x => [rInt.pr x]) hh q fun x b1 vs S1 H1 s1 h1 r1 q1 => ?_
    match vs, r1 with
    | [v], ⟨r, _⟩ => exact ⟨x, by rw [show v = V.int x from r], q1 _ _ S1 H1 (Same.refl _) h1 src_rng trivial⟩
/-! ### while -/
open Classical in
end
end Zk

namespace Zk
open PySem L2

theorem get_list {X : Cx} : PGet X (rIxL X.K) := by
  intro pins s σ H x y v u Q I rx ry h
  obtain ⟨p, xs, i, z, rfl, rfl, hq, he, q⟩ := h
  cases rx
  obtain ⟨t, rfl⟩ := ry
  obtain ⟨its, r, pl, hz⟩ := I.list hq
  obtain ⟨j, h1, h2, h3, h4, h5⟩ := atI_get he
  obtain ⟨w, ew, rw'⟩ := r.get h2
  have hl := r.length
  have hn := line63
  have fin : EP X pins σ Q w s := ⟨z, H, I, rw', q⟩
  by_cases h0 : 0 ≤ i
  · have hj : i.toNat = j := by
      rw [seqIndex_of h0 h5] at h1
      exact Option.some.inj h1
    exact wpAny_getItem_list pl.isList h0 (by omega) (by rw [hj]; simpa using ew) fin
  · have hj : (i + (its.toArray.size : Int)).toNat = j := by
      rw [seqIndex_neg (by omega) h4] at h1
      rw [List.size_toArray, ← hl]
      exact Option.some.inj h1
    exact wpAny_getItem_list_neg pl.isList (by omega) (by rw [List.size_toArray] <;> omega) (by omega) (by rw [hj]; simpa using ew) fin

/-! ### the bag of a law -/
structure Bag where
  big : Int
  mix : Int
  pos : Int
  cells : List Int
def Bag.row (s : Bag) (c : Addr) : List V := [.int s.big, .int s.mix, .int s.pos, .ref c]
def bagE (b c : Addr) : Eff Bag where
  own a := a = b ∨ a = c
  is s S H := b ≠ c ∧ S b = none ∧ S c = none ∧ H b = some (.lst (s.row c)) ∧ H c = some (.lst (s.cells.map V.int))
  mono := fun s f k ⟨h0, h1, h2, h3, h4⟩ => ⟨h0, f _ (.inl rfl) h1, f _ (.inr rfl) h2, k _ _ (.inl rfl) h3, k _ _ (.inr rfl) h4⟩
  th := fun ⟨h0, h1, h2, h3, h4⟩ h => by
    rcases h with h | h
    · subst h; exact ⟨h1, _, h3⟩
    · subst h; exact ⟨h2, _, h4⟩
theorem free_bag {b c : Addr} : Free (bagE b c) := ⟨fun k ⟨h0, h1, h2, h3, h4⟩ => ⟨h0, k _ (.inl rfl), k _ (.inr rfl), h3, h4⟩⟩
section
variable {α β γ δ κ ρ : Type} {G : Gx} {c : Sc} {W : WX} {Γ Γ' : Env} {B : Bs} {σ : St} {S S1 S' H H' : Hp} {s s' : Bag} {b d : Addr} {L : Ls κ ρ}
/-- the bag's row is written -/
theorem Hold.bag (h : Hold (bagE b d) B Γ s σ S H) (e : s'.cells = s.cells) : Hold (bagE b d) B Γ s' σ S (upd H b (.lst (s'.row d))) := by
  obtain ⟨Fs, hF, hs⟩ := h.sl
  obtain ⟨h0, h1, h2, h3, h4⟩ := h.ef
  refine ⟨⟨fun a o e => ?_, h.kp.up, fun a o e1 e2 e3 => ?_⟩, ⟨h0, h1, h2, upd_same, by rw [upd_ne (Ne.symm h0), e]; exact h4⟩, Fs, ⟨fun i a e => ?_, hF.ds⟩, fun i t e => ?_⟩
  · have n : a ≠ b := fun z => by rw [z, h1] at e; cases e
    rw [upd_ne n]; exact h.same _ _ e
  · have n : a ≠ b := fun z => e3 (.inl z)
    rw [upd_ne n]; exact h.kp.kp a o e1 e2 e3
  · obtain ⟨q1, q2, q3, o, q4⟩ := hF.at_ i a e
    have n : a ≠ b := fun z => q3 (.inl z)
    exact ⟨q1, q2, q3, o, by rw [upd_ne n]; exact q4⟩
  · have q := hs i t e
    cases t with
    | no => trivial
    | st p => exact q
    | ow p => obtain ⟨x, e1, e2⟩ := q; exact ⟨x, e1, p.mono (Same.refl _) (fun a o ha e => by
        have n : a ≠ b := fun z => (hF.at_ i a ha).2.2.1 (.inl z)
        rw [upd_ne n]; exact e) e2⟩
    | gh p => exact p.mono (Same.refl _) (fun a o ha e => by
        have n : a ≠ b := fun z => (hF.at_ i a ha).2.2.1 (.inl z)
        rw [upd_ne n]; exact e) q
def bget (f : Bag → α) : M Bag α := fun s => .ok (f s) s
variable {i : Nat} {x : Str} {p1 p2 p3 p4 p5 p6 pos : Pos} {j j2 j3 : Nat}
theorem ref_slot {E : Eff δ} {t : δ} {p : Addr} (h : Hold E B Γ t σ S H) (hi : Γ[i]? = some (.st ((rRef p).pr ()))) : σ[i]? = some (some (.ref p)) := by
  obtain ⟨Fs, hF, hs⟩ := h.sl
  obtain ⟨v, e1, e2⟩ := hs i _ hi
  have : v = .ref p := e2
  subst this
  exact slot_get e1
theorem z_bag {k : Int} {f : Bag → Int} (n : Nm c i x) (hi : Γ[i]? = some (.st ((rRef b).pr ()))) (hf : ∀ s : Bag, atI (s.row d) k = some (.int (f s))) (hs : PIx (.Constant (.int k) j p2) := by intro _ _; rfl) :
    ZE G c (bagE b d) W Γ (.Subscript (.Name x p1) (.Constant (.int k) j p2) pos) (bget f) rInt := fun X C =>
  pe_wk (pe_ix ix_list (pe_var (C.hi n.n) (by rw [C.sc]; exact n.v) n.d n.cd) pe_int hs) fun σ H Q _ ⟨B, S, s, hh, q⟩ =>
    ⟨.ref b, ref_slot hh hi, b, s.row d, k, _, rfl, rfl, .of hh.ef.2.2.2.1, hf s, q _ S H (Same.refl _) hh rfl⟩
theorem z_bag3 (n : Nm c i x) (hi : Γ[i]? = some (.st ((rRef b).pr ()))) (hs : PIx (.Constant (.int 3) j p2) := by intro _ _; rfl) :
    ZE G c (bagE b d) W Γ (.Subscript (.Name x p1) (.Constant (.int 3) j p2) pos) (ret ()) (rRef d) := fun X C =>
  pe_wk (pe_ix ix_list (pe_var (C.hi n.n) (by rw [C.sc]; exact n.v) n.d n.cd) pe_int hs) fun σ H Q _ ⟨B, S, s, hh, q⟩ =>
    ⟨.ref b, ref_slot hh hi, b, s.row d, 3, .ref d, rfl, rfl, .of hh.ef.2.2.2.1, rfl, q _ S H (Same.refl _) hh rfl⟩
def bcell (m : M Bag Unit) (n : M Bag Int) : M Bag Int := bnd m fun _ => bnd n fun i => fun s => match atI s.cells i with | some x => .ok x s | none => .stuck
theorem atI_map {xs : List Int} {i : Int} {x : Int} (h : atI xs i = some x) : atI (xs.map V.int) i = some (.int x) := by
  unfold atI at *
  rw [List.length_map]
  cases e : ixN xs.length i with
  | none => rw [e] at h; cases h
  | some j =>
    rw [e] at h
    have h : xs[j]? = some x := h
    show (xs.map V.int)[j]? = _
    rw [List.getElem?_map, h]; rfl
theorem z_bcell {ea eb : Expr} {m : M Bag Unit} {n : M Bag Int} (ha : ZE G c (bagE b d) W Γ ea m (rRef d)) (hb : ZE G c (bagE b d) W Γ eb n rInt) (hs : PIx eb := by intro _ _; rfl) : ZE G c (bagE b d) W Γ (.Subscript ea eb pos) (bcell m n) rInt := fun X C =>
  pe_wk (pe_ix ix_list (ha X C) (hb X C) hs) fun σ H Q _ ⟨B, S, s, hh, q⟩ => by
    refine tz_bnd hh q fun _ s1 v S1 H1 m1 h1 r1 q1 => ?_
    refine tz_bnd h1 q1 fun y s2 w S2 H2 m2 h2 r2 q2 => ?_
    cases e : atI s2.cells y with
    | none => rw [e] at q2; exact q2.elim
    | some z => rw [e] at q2; exact ⟨d, _, y, _, r1, r2, .of h2.ef.2.2.2.2, atI_map e, q2 _ S2 H2 (Same.refl _) h2 rfl⟩
def blen (_ : Unit) : M Bag Int := fun s => .ok (s.cells.length : Int) s
theorem z_blen {e : Expr} {y : Str} {m : M Bag Unit} (bl : Blt G c y (.builtin "len")) (ha : ZE G c (bagE b d) W Γ e m (rRef d)) (hs : Star e [] := by intro _; rfl) : ZE G c (bagE b d) W Γ (.Call (.Name y p1) [e] [] pos) (zapp blen m) rInt :=
  z_b1 bl (R := rRef d) (r := fun xs H Q => ∃ p ys, xs = [.ref p] ∧ (SqL G.K H p ys ∨ SqT G.K H p ys) ∧ Q (.int ys.length) H) (fun X C => by rw [← C.K]; exact call_len_seq) (fun B σ S H t x v Q hh e q => ⟨d, _, by rw [show v = .ref d from e], .inl (.of hh.ef.2.2.2.2), by rw [List.length_map]; exact q _ S H (Same.refl _) hh rfl⟩) ha hs
/-- bag[k] = e -/
def bput (f : Bag → Int → Bag) (m : M Bag Int) : M Bag (Fl Unit κ ρ) := bnd m fun v s => .ok (.nx ()) (f s v)
theorem zs_bput {k : Int} {kj : Nat} {f : Bag → Int → Bag} {e : Expr} {m : M Bag Int} (n : Nm c i x) (hi : Γ[i]? = some (.st ((rRef b).pr ()))) (hk : ixN 4 k = some kj) (hf : ∀ s v, (s.row d).set kj (.int v) = (f s v).row d) (hc : ∀ s v, (f s v).cells = s.cells) (h : ZE G c (bagE b d) W Γ e m rInt) (sx : Sub (bagE b d) Γ L.x)
    (hs : ∀ (l : Nat) (env : PySem.Env), swapsWithSole [.Subscript (.Name x p1) (.Constant (.int k) j p2) p3] e l env = pure false := by intro _ _; rfl)
    (hw : ∀ env : PySem.Env, swappedStores [.Subscript (.Name x p1) (.Constant (.int k) j p2) p3] e env = pure none := by intro _; rfl) :
    ZS G c (bagE b d) W L Γ (.Assign [.Subscript (.Name x p1) (.Constant (.int k) j p2) p3] e pos) (bput f m) (fun _ => Γ) := fun X C =>
  ps_wk (ps_asg (h X C) (pg_sub (pe_var (C.hi n.n) (by rw [C.sc]; exact n.v) n.d n.cd) pe_int set_list) (hs _ _) (hw _)) fun D σ H hl ⟨B, S, s, hh, q⟩ => by
    refine tzS_bnd (R := rInt) sx hh q fun y s1 v S1 H1 m1 h1 r1 q1 => ?_
    have r1 : v = .int y := r1
    subst r1
    exact ⟨.ref b, ref_slot h1 hi, b, s1.row d, k, kj, rfl, rfl, h1.ef.2.2.2.1, hk, by rw [hf]; exact q1 σ S1 _ (Same.refl _) (h1.bag (hc _ _))⟩
/-- bag[k] += e -/
theorem zs_binc {k : Int} {kj : Nat} {g : Bag → Int} {f : Bag → Int → Bag} {e : Expr} {m : M Bag Int} (n : Nm c i x) (hi : Γ[i]? = some (.st ((rRef b).pr ()))) (hg : ∀ s : Bag, atI (s.row d) k = some (.int (g s))) (hk : ixN 4 k = some kj) (hf : ∀ s v, (s.row d).set kj (.int v) = (f s v).row d) (hc : ∀ s v, (f s v).cells = s.cells) (h : ZE G c (bagE b d) W Γ e m rInt) (sx : Sub (bagE b d) Γ L.x)
    (ha : ∀ ov iv new, augStore (.Constant (.int k) j p2) ov iv new = (do holding [new, ov, iv] (setItem ov iv new); release [new, ov, iv] []; pure .next) := by intros; rfl) :
    ZS G c (bagE b d) W L Γ (.AugAssign (.Subscript (.Name x p1) (.Constant (.int k) j p2) p3) .Add e pos) (bput f (zop2 iadd (bget g) m)) (fun _ => Γ) := fun X C =>
  ps_wk (ps_augS (pe_var (C.hi n.n) (by rw [C.sc]; exact n.v) n.d n.cd) pe_int get_list (h X C) ip_add set_list ha) fun D σ H hl ⟨B, S, s, hh, q⟩ => by
    refine ⟨.ref b, ref_slot hh hi, b, s.row d, k, _, rfl, rfl, .of hh.ef.2.2.2.1, hg s, ?_⟩
    have q : aftS G (bagE b d) W L B S (fun _ => Γ) D ((bnd m fun v s2 => .ok (.nx ()) (f s2 (g s + v)) : M Bag (Fl Unit κ ρ)) s) := by
      have : (bput f (zop2 iadd (bget g) m) : M Bag (Fl Unit κ ρ)) s = (bnd m fun v s2 => .ok (.nx ()) (f s2 (g s + v)) : M Bag (Fl Unit κ ρ)) s := by
        simp only [bput, zop2, bget, bnd, iadd, ret]
        cases m s <;> rfl
      rw [← this]; exact q
    refine tzS_bnd (R := rInt) sx hh q fun y s1 v S1 H1 m1 h1 r1 q1 => ?_
    have r1 : v = .int y := r1
    subst r1
    exact ⟨g s, y, rfl, rfl, b, s1.row d, k, kj, rfl, rfl, h1.ef.2.2.2.1, hk, by rw [hf]; exact q1 σ S1 _ (Same.refl _) (h1.bag (hc _ _))⟩
end
end Zk

namespace Zk
open PySem L2

section
variable {τ α β γ δ κ ρ ι θ : Type} {G : Gx} {c : Sc} {E : Eff τ} {W : WX} {Γ Γ' : Env} {B : Bs} {σ : St} {S S1 S' H H' : Hp} {b b' : τ} {L : Ls κ ρ}

/-! ### several targets at once -/
theorem zs_par2 {i j : Nat} {x y : Str} {ea eb : Expr} {m : M τ (α × β)} {R : Rel α} {R2 : Rel β} {px py pt pos : Pos} {kt k2 pt2} (nx : c.N[i]? = some x) (ny : c.N[j]? = some y) (lx : c.sc.names.lookup x = some .local) (ly : c.sc.names.lookup y = some .local) (hij : i ≠ j)
    (h : ZA G c E W Γ [ea, eb] m (fun p => [R.pr p.1, R2.pr p.2])) (sx : Sub E Γ L.x) (hw : ∀ env : PySem.Env, env.scope = c.sc → swappedStores [.Tuple [.Name x px, .Name y py] kt pt] (.Tuple [ea, eb] k2 pt2) env = pure (some [x, y]) := by intro env h; cases env; cases h; rfl)
    (hs : ∀ (l : Nat) (env : PySem.Env), swapsWithSole [.Tuple [.Name x px, .Name y py] kt pt] (.Tuple [ea, eb] k2 pt2) l env = pure false := by intro _ _; rfl) :
    ZS G c E W L Γ (.Assign [.Tuple [.Name x px, .Name y py] kt pt] (.Tuple [ea, eb] k2 pt2) pos) (zset m) (fun p => (Γ.set i (.st (R.pr p.1))).set j (.st (R2.pr p.2))) := fun X C =>
  ps_wk (ps_par C.calm C.set_hN (C.hi nx) (C.hi ny) hij (by rw [C.sc]; exact lx) (by rw [C.sc]; exact ly) (h X C) (hw _ C.sc) (hs _ _)) fun D σ H hl ⟨B, S, b, hh, q⟩ => by
    refine tzS_bndA (A := fun p => [R.pr p.1, R2.pr p.2]) sx hh q fun y b1 us S1 H1 s1 h1 r1 q1 => ?_
    match us, r1 with
    | [u, w], ⟨r, r2, _⟩ => exact ⟨u, w, rfl, q1 _ S1 H1 (Same.refl _) ((h1.set (C.lt nx hl) r).set (by rw [List.length_set]; exact C.lt ny hl) r2)⟩
/-- (a, b, ..) = a list of that length -/
structure LstOf (R : Rel α) (n : Nat) (A : α → List Pr) : Prop where
  h : ∀ {x : α} {S : Hp} {v : V}, R.is x S v → ∃ a us, v = .ref a ∧ S a = some (.lst us) ∧ us.length = n ∧ All2 (fun (p : Pr) v => p.p S v) (A x) us
/-! ### self.f, self.g = .. -/
def tgs (x : Str) (l : List (Str × Pos × Pos)) : List Expr := l.map fun t => .Attribute (.Name x t.2.1) t.1 t.2.2
theorem set_set {l : Env} {i : Nat} {a b : Sl} : (l.set i a).set i b = l.set i b := by rw [List.set_set]
inductive Tgs (x : Str) : List Expr → List (Str × Pos × Pos) → Prop
  | nil : Tgs x [] []
  | cons {f : Str} {p1 p2 : Pos} {es : List Expr} {l : List (Str × Pos × Pos)} : Tgs x es l → Tgs x (.Attribute (.Name x p1) f p2 :: es) ((f, p1, p2) :: l)
theorem Tgs.eq {x : Str} : ∀ {es : List Expr} {l : List (Str × Pos × Pos)}, Tgs x es l → es = tgs x l
  | _, _, .nil => rfl
  | _, _, .cons h => by rw [h.eq]; rfl
/-! ### name += e -/
/-! ### slices -/
def cut (xs : List α) (lo hi : Option Int) : List α := (xs.drop (HT.sIx xs.length 0 lo)).take (HT.sIx xs.length xs.length hi - HT.sIx xs.length 0 lo)
theorem All2.cut {r : α → V → Prop} {xs : List α} {vs : List V} (h : All2 r xs vs) (lo hi : Option Int) : All2 r (Zk.cut xs lo hi) (cutV vs lo hi) := by
  unfold Zk.cut cutV
  rw [← h.length]
  exact (h.drop _).take _
/-- a written bound of a slice -/
def ZP (G : Gx) (c : Sc) (E : Eff τ) (W : WX) (Γ : Env) (e : Option Expr) (m : M τ (Option Int)) : Prop := ∀ X, CtxOk G c W X → PO X e fun σ H Q => ∃ B S b, Hold E B Γ b σ S H ∧ (match m b with | .ok a b' => ∀ S' H', Same S S' → Hold E B Γ b' σ S' H' → Q a H' | .exc x b' => ∀ c d S' H', Same S S' → Hold E B Γ b' σ S' H' → XAt G x H' c d → W c d σ H' | .stuck => False)
theorem po_wk {X : Cx} {e : Option Expr} {t t' : TO} (h : PO X e t) (w : ∀ σ H Q, t' σ H Q → t σ H Q) : PO X e t' := ⟨fun pins s σ H Q I q => h.run pins s σ H Q I (w σ H Q q)⟩
theorem zp_no : ZP G c E W Γ none (ret none) := fun X C => po_wk po_none fun σ H Q ⟨B, S, b, hh, q⟩ => q S H (Same.refl _) hh
def zsome (m : M τ Int) : M τ (Option Int) := bnd m fun i => ret (some i)
theorem zp_so {e : Expr} {m : M τ Int} (h : ZE G c E W Γ e m rInt) : ZP G c E W Γ (some e) (zsome m) := fun X C => po_wk (po_some (h X C)) fun σ H Q ⟨B, S, b, hh, q⟩ => by
  refine ⟨B, S, b, hh, ?_⟩
  unfold zsome bnd at q
  cases e : m b with
  | stuck => rw [e] at q; exact q.elim
  | exc x b1 => rw [e] at q; exact q
  | ok a b1 => rw [e] at q; exact fun v S1 H1 s1 h1 r1 => ⟨a, r1, q S1 H1 s1 h1⟩
def zsl (m : M τ (List α)) (l h : M τ (Option Int)) : M τ (List α) := bnd m fun xs => bnd l fun lo => bnd h fun hi => ret (cut xs lo hi)
theorem tz_sl {r : V → Option Int → Option Int → Hp → VK → Prop} {R R' : Rel (List α)} {m : M τ (List α)} {l h : M τ (Option Int)} {e : Expr} {lo hi : Option Expr} {p2 pos : Pos} (hr : ∀ X, CtxOk G c W X → SlR X r) (he : ZE G c E W Γ e m R) (hl : ZP G c E W Γ lo l) (hh : ZP G c E W Γ hi h)
    (hq : ∀ {xs : List α} {v : V} {lo hi : Option Int} {B : Bs} {S H : Hp} {b : τ} {σ : St} {Q : VK}, Hold E B Γ b σ S H → R.is xs S v → aft G E W B Γ σ S R' Q (ret (cut xs lo hi) b) → r v lo hi H Q) : ZE G c E W Γ (.Subscript e (.Slice lo hi none p2) pos) (zsl m l h) R' := fun X C =>
  pe_wk (pe_slice (hr X C) (he X C) (hl X C) (hh X C)) fun σ H Q _ ⟨B, S, b, hh, q⟩ => by
    refine tz_bnd hh q fun xs b1 v S1 H1 s1 h1 r1 q1 => ?_
    refine ⟨B, S1, b1, h1, ?_⟩
    unfold bnd at q1
    cases e : l b1 with
    | stuck => rw [e] at q1; exact q1.elim
    | exc x b1 => rw [e] at q1; exact q1
    | ok lo b2 =>
      rw [e] at q1
      intro S2 H2 s2 h2
      refine ⟨B, S2, b2, h2, ?_⟩
      dsimp only at q1
      cases e : h b2 with
      | stuck => rw [e] at q1; exact q1.elim
      | exc x b1 => rw [e] at q1; exact fun c d S' H' s' h' xa => q1 c d S' H' (s2.trans s') h' xa
      | ok hi b3 =>
        rw [e] at q1
        exact fun S3 H3 s3 h3 => hq h3 (R.mono (s2.trans s3) r1) (aft.same (s2.trans s3) q1)
theorem z_slSc {R : Rel α} {m : M τ (List α)} {l h : M τ (Option Int)} {e : Expr} {lo hi : Option Expr} {p2 pos : Pos} (he : ZE G c E W Γ e m (rSc G.K R)) (hl : ZP G c E W Γ lo l) (hh : ZP G c E W Γ hi h) : ZE G c E W Γ (.Subscript e (.Slice lo hi none p2) pos) (zsl m l h) (rLst R) :=
  tz_sl (r := rSlL G.K) (fun X C => by rw [← C.K]; exact sl_list) he hl hh fun hh ⟨a, vs, e1, e2, e3⟩ q => ⟨a, vs, e1, e2.elim (fun z => .inl (z.elim (fun z => .inl (hh.same _ _ z)) fun ⟨o, z⟩ => .inr ⟨o, hh.same _ _ z⟩)) .inr, fun p hp => aft_new hh q hp (rLst_new (hh.same.free hp) (e3.cut _ _))⟩
/-! ### tuples added -/
/-! ### sorted -/
end
end Zk

namespace Zk
open PySem L2

section
variable {τ α β γ δ κ ρ ι θ : Type} {G : Gx} {c : Sc} {E : Eff τ} {W : WX} {Γ Γ' : Env} {B : Bs} {σ : St} {S S1 S' H H' : Hp} {b b' : τ} {L : Ls κ ρ}

/-! ### an __init__ of an own exception -/
theorem xini1 {qual fld pn bn : Str} {st : Stmt} {f A0 : Addr} {fd : FuncData} {mc : Value} {z : Str} {jz : Nat} {p1 p2 p3 p4 p5 p6 p7 p8 p9 p10 : Pos} {pl : PySem.Env → Sem Bool} (F : Fun G.K "__init__" qual st f fd) (sc : FnScope ["self", pn] ["self", pn] (defScope st))
    (hb : defBody st = [.Expr (.Call (.Attribute (.Name bn p1) "__init__" p2) [.Name "self" p3, .Constant (.str z) jz p4] [] p5) p6, .Assign [.Attribute (.Name "self" p7) fld p8] (.Name pn p9) p10]) (T : AIn G.K A0 mc) (hm : G.mg bn = some (.ref A0))
    (gb : (defScope st).names.lookup bn = some .globalImplicit) (v0 : Vis (defScope st) "self") (v1 : Vis (defScope st) pn) (hd : (bn == ("__debug__" : Str)) = false := by decide) (hd1 : (pn == ("__debug__" : Str)) = false := by decide) (hd2 : (pn == ("__classdict__" : Str)) = false := by decide)
    (ht : EvM (.Name bn p1) "__init__" [.Name "self" p3, .Constant (.str z) jz p4] p2 p5 pl := by intro _; rfl)
    (hsw : ∀ env : PySem.Env, swapsWith (.Name pn p9) (some (.Attribute (.Name "self" p7) fld p8)) p10.line env = pure false := by intro _; rfl) :
    FnOk G.P G.w G.K G.mg G.base (L2.CX G.P G.w) 1 f fd ["self", pn] (spX1 G.K fld) := by
  refine F.okX sc (fun vs H Q XE ⟨a, v, C, e, _⟩ => by rw [e]; rfl) (fun cdv A outer s H vs Q XE hr h => ?_)
  obtain ⟨a, v, C, rfl, ox, hn, ha, q⟩ := h
  rw [hb]
  refine ⟨_, pss_cons (ps_expr (pe_ainit T gb hm (pa_cons (pe_var (i := 0) rfl v0 (by decide) (by decide)) (pa_cons pe_str pa_nil)) (ht _) rfl rfl hd)) (pss_one (ps_ost (pe_var (i := 0) rfl v0 (by decide) (by decide)) (pe_var (i := 1) rfl v1 hd1 hd2) (hsw _))), ?_⟩
  exact ⟨_, rfl, a, C, _, rfl, by simp, ox, ha, _, rfl, _, rfl, a, C, rfl, ox, hn, .inl ⟨ha, fun d hd hne => q d hd hne⟩⟩

/-! ### repr of data -/
def frepr {R : Rel α} (D : DatR R) (x : α) : M τ Str := chk ((D.d x).showable = true ∧ (D.d x).canLay0 = true ∧ D.n ≤ 60 ∧ (D.d x).shown.length ≤ sizeLine) (ret (D.d x).shown)
structure RefR (R : Rel α) : Prop where
  h : ∀ {x : α} {S : Hp} {v : V}, R.is x S v → ∃ a, v = .ref a
def rReprD (K : PySem.W.Frag) : List V → Hp → VK → Prop := fun xs H Q => ∃ a d, xs = [.ref a] ∧ Dp K H (.ref a) d ∧ d.showable = true ∧ d.hasDict = false ∧ d.depth ≤ 60 ∧ d.shown.length ≤ sizeLine ∧ Q (.str d.shown) H
theorem cr_reprD {X : Cx} (hg : X.A.guards = some []) (hu : X.A.units + 64 < cLine) : CallR X (.builtin "repr") (rReprD X.K) := by
  intro pins s σ H vs us Q I r h
  obtain ⟨a, d, rfl, hd, h1, h2, h3, h4, q⟩ := h
  rw [Vals.ref1 r]
  obtain ⟨as, rd⟩ := Dp.reads I d _ (.ref a) hd rfl
  exact repr_of_reads' rd h1 (PyData.noDict_hsm h2) hg (by omega) (fun _ _ z => z) (fun h' u tk k => ⟨.str _, H, I.kept (t' := tk) k, ⟨_, rfl⟩, q⟩) h4
theorem z_repr {R : Rel α} (D : DatR R) (rf : RefR R) {x : Str} {p pos : Pos} {e : Expr} {m : M τ α} (hgd : c.gd = true) (bl : Blt G c x (.builtin "repr")) (ha : ZE G c E W Γ e m R) (hs : Star e [] := by intro _; rfl) : ZE G c E W Γ (.Call (.Name x p) [e] [] pos) (zapp (frepr D) m) rStr :=
  z_b1 bl (R := R) (r := rReprD G.K) (fun X C => by rw [← C.K]; exact cr_reprD (C.gds hgd) C.room.units) (fun B σ S H b x v Q hh hx q => by
    obtain ⟨⟨h1, h2, h3, h4⟩, q⟩ := aft_chk q
    obtain ⟨a, rfl⟩ := rf.h hx
    exact ⟨a, _, rfl, D.dp hh.same hx, h1, PyData.hasDict_of_canLay _ h2, Nat.le_trans (D.dep x) h3, h4, aft_ret hh q rfl⟩) ha hs
/-! ### C(e, .., k = e) -/
structure MkAtK (g : Bool) (G : Gx) (C : Addr) (k n : Nat) (ps ks : List Str) (sp : Sp) (gV : List V → List V → List V) : Prop where
  ex : ∃ f fd gg, Mk G.K C f ∧ KBn G.K fd ps (n + 1) ks gg gV ∧ FnG g G.P G.w G.K G.mg G.base k f fd ps sp
/-! ### the bag's making -/
def spBag (K : PySem.W.Frag) (mk : List Int → M Unit (List Int)) : Sp := fun vs H Q _ => ∃ xs v S, vs = [v] ∧ (rSc K rInt).is xs S v ∧ Same S H ∧ match mk xs () with
  | .ok cs _ => ∀ p l S' H', Keep (fun _ => False) ⟨S, H⟩ S' H' → S' p = none → S' l = none → H p = none → H l = none → p ≠ l → H' p = some (.lst (Bag.row ⟨0, 1234567891, 0, cs⟩ l)) → H' l = some (.lst (cs.map V.int)) → Q (.ref p) H'
  | _ => False
theorem bag_ok {g : Bool} {x qual pn : Str} {st : Stmt} {f : Addr} {fd : FuncData} {N : List Str} {e : Expr} {j1 j2 j3 : Nat} {p1 p2 p3 p4 p5 : Pos} {mk : List Int → M Unit (List Int)} (F : Fun G.K x qual st f fd) (sc : FnScope N [pn] (defScope st))
    (hb : defBody st = [.Return (some (.List [.Constant (.int 0) j1 p1, .Constant (.int 1234567891) j2 p2, .Constant (.int 0) j3 p3, e] p4)) p5])
    (h : ∀ xs W, ZF G ⟨N, defScope st, 0, true, fun _ => true, g⟩ noE W (envOf N.length [(rSc G.K rInt).pr xs]) e (mk xs) (ownL rInt))
    (hs : ∀ env : PySem.Env, swapsWith (.List [.Constant (.int 0) j1 p1, .Constant (.int 1234567891) j2 p2, .Constant (.int 0) j3 p3, e] p4) none p5.line env = pure false := by intro _; rfl)
    (h1 : Star (.Constant (.int 0) j1 p1) [.Constant (.int 1234567891) j2 p2, .Constant (.int 0) j3 p3, e] := by intro _; rfl) (h2 : Star (.Constant (.int 1234567891) j2 p2) [.Constant (.int 0) j3 p3, e] := by intro _; rfl) (h3 : Star (.Constant (.int 0) j3 p3) [e] := by intro _; rfl) (h4 : Star e [] := by intro _; rfl) :
    FnG g G.P G.w G.K G.mg G.base 1 f fd [pn] (spBag G.K mk) := by
  refine fng_F F sc (fun vs H Q XE h => ?_) (fun cdv A0 outer s H vs Q XE hr hgd hq => ?_)
  · obtain ⟨xs, v, S, rfl, _⟩ := h; rfl
  · obtain ⟨xs, v, S, rfl, hv, sm, q⟩ := hq
    let W : WX := fun cls d _ H => XE cls d H
    have C : CtxOk G ⟨N, defScope st, 0, true, fun _ => true, g⟩ W (cxOf (L2.CX G.P G.w) G.P G.w G.K G.mg G.base N qual (defScope st) f cdv A0 outer s H XE) :=
      ⟨rfl, rfl, rfl, rfl, rfl, rfl, sc.nd, rfl, rfl, hr, hgd, takes_of rfl rfl rfl rfl, passes_of rfl, rfl, fun _ => ⟨rfl, rfl⟩⟩
    rw [hb]
    refine ⟨_, pss_one (ps_ret (pe_lst (pa_cons pe_int (pa_cons pe_int (pa_cons pe_int (pa_cons (h xs W _ C) pa_nil (h4 _)) (h3 _)) (h2 _)) (h1 _)))), ?_⟩
    have hh : Hold noE ⟨S, H⟩ (envOf N.length [(rSc G.K rInt).pr xs]) () (start N [v]) S H := hold_start sm trivial ⟨hv, trivial⟩
    refine ⟨⟨S, H⟩, S, (), hh, ?_⟩
    cases e : mk xs () with
    | stuck => rw [e] at q; exact q.elim
    | exc x b => rw [e] at q; exact q.elim
    | ok cs u =>
      rw [e] at q
      intro w S1 H1 H2 F s1 hh1 hF hk ⟨l, ws, ew, hf, hl, hw⟩
      subst ew
      obtain ⟨n1, _⟩ := hF l ((hf l).mpr rfl)
      refine ⟨by show 4 ≤ _; decide, fun p hp => ?_⟩
      have npl : p ≠ l := fun z => by rw [z, hl] at hp; cases hp
      have hp1 : H1 p = none := by rw [← hk p fun z => npl ((hf p).mp z)]; exact hp
      have oldH : ∀ a o, S a = none → H a = some o → a ≠ p ∧ a ≠ l := fun a o e1 e2 => by
        have := (hh1.kp.kp a o e1 e2 id).2
        exact ⟨ne_of_none this hp1, ne_of_none this n1⟩
      have fr : ∀ a, H1 a = none → H a = none := fun a z => by
        cases y : H a with
        | none => rfl
        | some o =>
          cases t : S a with
          | none => have := (hh1.kp.kp a o t y id).2; rw [z] at this; cases this
          | some o' => have := hh1.same _ _ (hh1.kp.up _ _ t); rw [z] at this; cases this
      refine q p l S1 _ ⟨fun a o e => ?_, hh1.kp.up, fun a o e1 e2 _ => ?_⟩ (hh1.same.free hp1) (hh1.same.free n1) (fr p hp1) (fr l n1) npl upd_same ?_
      · have e := hh1.same _ _ e
        rw [upd_ne (ne_of_none e hp1), hk a fun z => ne_of_none e n1 ((hf a).mp z)]; exact e
      · obtain ⟨y1, y2⟩ := oldH a o e1 e2
        obtain ⟨z1, z2⟩ := hh1.kp.kp a o e1 e2 id
        exact ⟨z1, by rw [upd_ne y1, hk a fun z => y2 ((hf a).mp z)]; exact z2⟩
      · rw [upd_ne (Ne.symm npl), hl, All2.ints hw]
theorem Hold.unbag {Γ : Env} {B : Bs} {σ : St} {S H : Hp} {s : Bag} {p l : Addr} (h : Hold (bagE p l) B Γ s σ S H) (f : ∀ a o, B.S a = none → B.H a = some o → a ≠ p ∧ a ≠ l) : Hold noE B Γ () σ S H := by
  obtain ⟨Fs, hF, hs⟩ := h.sl
  exact ⟨⟨h.kp.same, h.kp.up, fun a o e1 e2 _ => h.kp.kp a o e1 e2 fun z => z.elim (f a o e1 e2).1 (f a o e1 e2).2⟩, trivial, Fs, ⟨fun i a e => let ⟨q1, q2, _, q4⟩ := hF.at_ i a e; ⟨q1, q2, id, q4⟩, hF.ds⟩, hs⟩
theorem Hold.inbag {Γ : Env} {B : Bs} {σ : St} {S H S' H' : Hp} {s : Bag} {p l : Addr} (h : Hold noE B Γ () σ S H) (k : Keep (fun _ => False) ⟨S, H⟩ S' H') (e : (bagE p l).is s S' H') (hp : H p = none) (hl : H l = none) : Hold (bagE p l) B Γ s σ S' H' := by
  obtain ⟨Fs, hF, hs⟩ := h.sl
  refine ⟨⟨k.same, h.kp.up.trans k.up, fun a o h1 h2 _ => ?_⟩, e, Fs, ⟨fun i a e => ?_, hF.ds⟩, fun i t e => ?_⟩
  · obtain ⟨q1, q2⟩ := h.kp.kp a o h1 h2 id
    exact k.kp a o q1 q2 id
  · obtain ⟨q1, q2, q3, o, q4⟩ := hF.at_ i a e
    exact ⟨(k.kp a o q1 q4 id).1, q2, fun z => z.elim (ne_of_none q4 hp) (ne_of_none q4 hl), o, (k.kp a o q1 q4 id).2⟩
  · have q := hs i t e
    cases t with
    | no => trivial
    | st p => obtain ⟨x, e1, e2⟩ := q; exact ⟨x, e1, p.mono k.up e2⟩
    | ow p => obtain ⟨x, e1, e2⟩ := q; exact ⟨x, e1, p.mono k.up (fun a o ha e => (k.kp a o (hF.at_ i a ha).1 e id).2) e2⟩
    | gh p => exact p.mono k.up (fun a o ha e => (k.kp a o (hF.at_ i a ha).1 e id).2) q
def unb (o : Out Bag α) : Out Unit α := match o with | .ok a _ => .ok a () | .exc e _ => .exc e () | .stuck => .stuck
def zbag (mk : List Int → M Unit (List Int)) (xs : List Int) (m : M Bag α) : M Unit α := fun _ => match mk xs () with
  | .ok cs _ => unb (m ⟨0, 1234567891, 0, cs⟩)
  | _ => .stuck
/-- bag = _law_bag(script), then the rest -/
theorem zb_bag {g : Bool} {i j k : Nat} {x y fn : Str} {ps : List Str} {rest : List Stmt} {p p2 p3 pos pos2 : Pos} {mk : List Int → M Unit (List Int)} {xs : List Int} {m : M Bag (Fl α κ ρ)} {Γn : α → Env} (F : FnAt g G fn k ps (spBag G.K mk)) (hk : k ≤ c.k) (hg : g = true → c.gd = true) (gb : Gb c fn)
    (nx : Nm c i x) (hi : Γ[i]? = some (.st ((rSc G.K rInt).pr xs))) (ny : Ns c j y) (h : ∀ p l, ZB G c (bagE p l) W L (Γ.set j (.st ((rRef p).pr ()))) rest m Γn)
    (hd : (fn == ("__debug__" : Str)) = false := by decide) (hs : NoSwap (.Call (.Name fn p2) [.Name x p3] [] pos2) := by intro _ _ _; rfl) :
    ZB G c noE W L Γ (.Assign [.Name y p] (.Call (.Name fn p2) [.Name x p3] [] pos2) pos :: rest) (zbag mk xs m) Γn := fun X C => by
  obtain ⟨f0, fd, h1, h2, h3, h4⟩ := F.ex
  rw [← C.prog, ← C.w, ← C.K, ← C.mg, ← C.base] at h4
  rw [← C.mg] at h1
  rw [← C.K] at h2 h3
  refine pss_wk (pss_cons (ps_set C.set_hN (C.hi ny.n) (by rw [C.sc]; exact ny.l) (pe_callG (Ex := WE W) h4 (C.room.mono hk) (fun z => C.gds (hg z)) (C.gl gb) h1 h2 h3 .nil (passAt C.takes) (pa_cons (pe_var (C.hi nx.n) (by rw [C.sc]; exact nx.v) nx.d nx.cd) pa_nil rfl) hd rfl rfl) (hs _ _ _) (C.hf ny)) (pss_ex fun p : Addr × Addr => h p.1 p.2 X C)) fun D σ H hl ⟨B, S, b, hh, q⟩ => ?_
  obtain ⟨Fs, hF, hsl⟩ := id hh.sl
  obtain ⟨v, e1, e2⟩ := hsl i _ hi
  refine ⟨v, slot_get e1, xs, v, S, rfl, by rw [C.K]; exact e2, hh.same, ?_⟩
  unfold zbag at q
  cases e : mk xs () with
  | stuck => rw [e] at q; exact q.elim
  | exc x b => rw [e] at q; exact q.elim
  | ok cs u =>
    rw [e] at q
    intro p l S' H' k s1 s2 f1 f2 hne e3 e4
    have h' : Hold (bagE p l) B (Γ.set j (.st ((rRef p).pr ()))) ⟨0, 1234567891, 0, cs⟩ (σ.set j (some (.ref p))) S' H' := (hh.inbag (s := ⟨0, 1234567891, 0, cs⟩) k ⟨hne, s1, s2, e3, e4⟩ f1 f2).set (C.lt ny.n hl) rfl
    refine ⟨(p, l), B, S', _, h', ?_⟩
    have ff : ∀ a o, B.S a = none → B.H a = some o → a ≠ p ∧ a ≠ l := fun a o e1 e2 => by
      have := (hh.kp.kp a o e1 e2 id).2
      exact ⟨ne_of_none this f1, ne_of_none this f2⟩
    dsimp only at q
    cases e : m ⟨0, 1234567891, 0, cs⟩ with
    | stuck => rw [e] at q; exact q.elim
    | exc x b => rw [e] at q; exact fun c d σ' S1 H1 h1 xa => q c d σ' S1 H1 (h1.unbag ff) xa
    | ok r b =>
      rw [e] at q
      cases r with
      | nx a => exact fun σ' S1 H1 s h1 => q σ' S1 H1 (k.up.trans s) (h1.unbag ff)
      | rt r => exact fun v σ' S1 H1 h1 rr => q v σ' S1 H1 (h1.unbag ff) rr
      | bk r => exact fun σ' S1 H1 s h1 => q σ' S1 H1 (k.up.trans s) (h1.unbag ff)
      | ct r => exact fun σ' S1 H1 s h1 => q σ' S1 H1 (k.up.trans s) (h1.unbag ff)
end
end Zk

namespace Zk
open PySem L2
/-! ### small checks, for printed walks -/
def visB (k : Option NameKind) : Bool := match k with | some .local => true | some .cell => true | some .free => true | _ => false
def nmB (c : Sc) (i : Nat) (x : Str) : Bool := (c.N[i]? == some x) && visB (c.sc.names.lookup x) && !(x == ("__debug__" : Str)) && !(x == ("__classdict__" : Str))
theorem nm_of {c : Sc} {i : Nat} {x : Str} (h : nmB c i x = true) : Nm c i x := by
  unfold nmB at h
  simp only [Bool.and_eq_true, Bool.not_eq_true', beq_iff_eq] at h
  obtain ⟨⟨⟨h1, h2⟩, h3⟩, h4⟩ := h
  refine ⟨h1, ?_, h3, h4⟩
  cases e : c.sc.names.lookup x with
  | none => rw [e] at h2; cases h2
  | some k =>
    rw [e] at h2
    cases k with
    | «local» => exact .inl e
    | cell => exact .inr (.inl e)
    | free => exact .inr (.inr e)
    | _ => cases h2
def nsB (c : Sc) (i : Nat) (x : Str) : Bool := (c.N[i]? == some x) && (match c.sc.names.lookup x with | some .local => true | some .cell => c.fx x | _ => false)
theorem ns_of {c : Sc} {i : Nat} {x : Str} (h : nsB c i x = true) : Ns c i x := by
  unfold nsB at h
  simp only [Bool.and_eq_true, beq_iff_eq] at h
  obtain ⟨h1, h2⟩ := h
  cases e : c.sc.names.lookup x with
  | none => rw [e] at h2; cases h2
  | some k =>
    rw [e] at h2
    cases k with
    | «local» => exact ⟨h1, .inl e, .inr e⟩
    | cell => exact ⟨h1, .inr e, .inl h2⟩
    | _ => cases h2
theorem blt_of {G : Gx} {c : Sc} {x : Str} {u : Value} (m : G.mg x = none) (h : (c.sc.names.lookup x = some .globalImplicit ∧ bootBuiltins x = some u) ∧ x ≠ "__name__" ∧ (x == ("__debug__" : Str)) = false) : Blt G c x u := ⟨h.1.1, m, h.1.2, h.2.1, h.2.2⟩
theorem blk_of {N : List Str} {sc scope : Scope} {own : List (Str × Nat)} (k : scope.kind = .function) (h : (∀ y ∈ scope.names, scope.names.lookup y.1 = some y.2) ∧ (∀ p ∈ own, N[p.2]? = some p.1) ∧ (∀ y ∈ scope.names, y.2 = .free → sc.names.lookup y.1 = some .cell ∨ sc.names.lookup y.1 = some .free) ∧ ∀ y ∈ scope.names, y.2 = .local ∨ y.2 = .cell → y.1 ∈ own.map (·.1) ∨ y.1 ∉ N) : BlkOk N sc scope own := ⟨k, h.1, h.2.1, h.2.2.1, h.2.2.2⟩
def NoAt (Γ : Env) : List Nat → Prop
  | [] => True
  | v :: vs => Γ[v]? = some .no ∧ NoAt Γ vs
theorem lc_no {Γ : Env} : ∀ {vs : List Nat}, NoAt Γ vs → ∀ (i : Nat) s, Γ[i]? = some s → s = .no ∨ i ∉ vs
  | [], _, _, _, _ => .inr (by simp)
  | v :: vs, ⟨h1, h2⟩, i, s, h => by
    by_cases e : i = v
    · subst e; rw [h1] at h; cases h; exact .inl rfl
    · rcases lc_no h2 i s h with z | z
      · exact .inl z
      · exact .inr (by simp [e, z])
section
variable {α β γ δ ε : Type} {R1 : Rel α} {R2 : Rel β} {R3 : Rel γ} {R4 : Rel δ}
end
end Zk

namespace Zk
open PySem L2 PySem.Spec PyProof.Rows
/-! ### the end: a law whose def is known with the guards -/
section
variable {P : Program} {w : World} {K : PySem.W.Frag} {mg mb : Str → Option Value} {k : Nat} {fa a : Addr} {fd : FuncData} {x : Str} {sp : Sp} {s : Shared} {vs : List Value} {ns : List Int} {H : Hp}
/-- the call, where nothing but the script may be tracked -/
theorem enter_law (KX : K.In s.heap) (hns : s.heap.Ns mainGlobals mg) (hb : s.heap.Ns builtinsNs mb) (hbb : ∀ x : Str, x ≠ "__name__" → mb x = bootBuiltins x) (hlim : s.heap.NoLimit) (hg : s.gens = #[])
    (ha : s.heap.get? a = some { cls := .type "list", data := .seq vs.toArray }) (hr : Room k callerA) (F : ∀ base : Heap, K.In base → base.Ns mainGlobals mg → FnG true P w K mg base k fa fd [x] sp) (hbind : ∀ (s : Shared) (u : Value), BindsTo s fd ⟨[u], []⟩ [(x, u)])
    (hO : Only H) (hok : HOk P w H s.heap) (hA : ∀ b u, H b = some u → b = a ∧ K.lookup a = none) (hsp : sp [.ref a] H (fun v _ => v = .bl true) fun _ _ _ => False) :
    codeAny (model P w) callerA (.call (.ref fa) ⟨[.ref a], []⟩) (fun r s' => r = .ok (.ret (.bool true)) ∧ OldK s.heap s'.heap ∧ s'.os = s.os ∧ AllBare s'.gens) s := by
  have keepNs : ∀ b (m : Str → Option Value), s.heap.Ns b m → (hidT s.heap H).Ns b m := by
    rintro b m ⟨o, es, ep, e, d, r⟩
    have hn : H b = none := by
      cases q : H b with
      | none => rfl
      | some u =>
        obtain ⟨rfl, _⟩ := hA b u q
        rw [ha] at e
        cases e
        exact nomatch d
    exact ⟨o, es, ep, hidT_get e hn, d, r⟩
  have kin : K.In (hidT s.heap H) := by
    intro b o e
    cases q : H b with
    | none => exact hidT_get (KX b o e) q
    | some u =>
      obtain ⟨rfl, z⟩ := hA b u q
      rw [z] at e
      exact nomatch e
  obtain ⟨ml, l1, l2⟩ := hlim
  have md : Mod K mg (hidT s.heap H) := ⟨kin, keepNs _ _ hns, ⟨mb, keepNs _ _ hb, hbb⟩, ⟨ml, keepNs _ _ l1, l2⟩⟩
  have noMem : ∀ b : Addr, b ∉ ([] : List Addr) := by simp
  refine codeAny_mono ((F _ kin (keepNs _ _ hns)).go callerA [] s H ⟨[.ref a], []⟩ [.ref a] [.ref a] _ _ hr (fun _ => rfl) ⟨rfl, md, fun b o e => of_hidT e, Nat.le_of_eq (hidT_size _ _), trivial, fun b hb => absurd hb (noMem b), hok, .of_eq hg⟩ (hbind s (.ref a)) (.cons rfl .nil) hsp) fun r s' h => ?_
  match r, h with
  | .error e, h =>
    obtain ⟨_, _, _, _, _, _, _, _, _, _, _, _, z⟩ := h
    exact z.elim
  | .ok .next, h => exact False.elim h
  | .ok .brk, h => exact False.elim h
  | .ok .cont, h => exact False.elim h
  | .ok (.ret u), h =>
    obtain ⟨v, H', os, bare, un, hok', rv, q⟩ := h
    have q : v = .bl true := q
    subst q
    have rv : u = Value.bool true := rv
    subst rv
    refine ⟨rfl, OldK.of_keep fun b o e => ?_, os, bare⟩
    rcases hO b with z | ⟨ob, xs, z⟩
    · exact un.keep b o e z (fun y => absurd y (noMem b)) (by simp)
    · obtain ⟨e1, _⟩ := hok b _ z
      obtain ⟨e2, _⟩ := hok' b _ (un.frzs b ob _ z)
      rw [e1] at e
      cases e
      exact e2
open Classical in
theorem enter_lawS (KX : K.In s.heap) (hns : s.heap.Ns mainGlobals mg) (hb : s.heap.Ns builtinsNs mb) (hbb : ∀ x : Str, x ≠ "__name__" → mb x = bootBuiltins x) (hlim : s.heap.NoLimit) (hg : s.gens = #[])
    (ha : s.heap.get? a = some { cls := .type "list", data := .seq vs.toArray }) (hi : IntsAre vs ns) (hl : ns.length ≤ sizeLine) (hr : Room k callerA) (F : ∀ base : Heap, K.In base → base.Ns mainGlobals mg → FnG true P w K mg base k fa fd [x] sp) (hbind : ∀ (s : Shared) (u : Value), BindsTo s fd ⟨[u], []⟩ [(x, u)])
    (hsp : ∀ H, SqL K H a (ns.map V.int) → sp [.ref a] H (fun v _ => v = .bl true) fun _ _ _ => False) :
    codeAny (model P w) callerA (.call (.ref fa) ⟨[.ref a], []⟩) (fun r s' => r = .ok (.ret (.bool true)) ∧ OldK s.heap s'.heap ∧ s'.os = s.os ∧ AllBare s'.gens) s := by
  have rv : Vals (ns.map V.int) vs := vals_ints hi
  have lv : vs.length = ns.length := hi.length
  by_cases hk : K.lookup a = none
  · let u : HO := .frz { cls := .type "list", data := .seq vs.toArray } (.lst (ns.map V.int))
    have at_ : ∀ b z, (fun b => if b = a then some u else none : Hp) b = some z → b = a ∧ z = u := fun b z e => by
      by_cases hba : b = a
      · simp only [hba, if_true] at e; cases e; exact ⟨hba, rfl⟩
      · simp only [if_neg hba] at e; cases e
    refine enter_law (H := fun b => if b = a then some u else none) KX hns hb hbb hlim hg ha hr F hbind (fun b => ?_) (fun b z e => ?_) (fun b z e => ⟨(at_ b z e).1, hk⟩) (hsp _ (.inl (.inr ⟨_, if_pos rfl⟩)))
    · by_cases hba : b = a
      · exact .inr ⟨_, _, if_pos hba⟩
      · exact .inl (if_neg hba)
    · obtain ⟨rfl, rfl⟩ := at_ b z e
      exact ⟨ha, by rw [List.length_map]; exact hl, vs, _, rv, ha⟩
  · obtain ⟨o, e⟩ : ∃ o, K.lookup a = some o := Option.ne_none_iff_exists'.mp hk
    have e2 := KX a o e
    rw [ha] at e2
    cases e2
    exact enter_law (H := fun _ => none) KX hns hb hbb hlim hg ha hr F hbind (fun _ => .inl rfl) (fun b z e => nomatch e) (fun b z e => nomatch e) (hsp _ (.inr ⟨_, vs.toArray, _, e, rfl, rfl, rfl, by rw [List.size_toArray, lv]; exact hl, by simpa using rv⟩))
end
theorem walk_G {l : PySem.W.OpenLaw} {n k : Nat} {q : Program} {loose : List Str} {XP : (Str → Option Value) → Heap → Prop} {YP : World → Heap → Prop} {d : DefRec} {K : Params → PySem.W.Frag} {x : Str} {m : List Int → M Unit Bool}
    (hn : l.most = some n) (hn2 : n ≤ sizeLine) (hdf : d.params.defaults = []) (hr : Room k callerA) (hY : ∀ (w : World) (h : Heap), YP w h → (K w.params).In h)
    (F : ∀ (w : World) (mg : Str → Option Value) (fa : Addr) (h : Heap), (K w.params).In h → h.Ns mainGlobals mg → mg d.name = some (.ref fa) →
      ∃ fd : FuncData, (∀ (s : Shared) (u : Value), BindsTo s fd ⟨[u], []⟩ [(x, u)]) ∧ ∀ base : Heap, (K w.params).In base → base.Ns mainGlobals mg →
        FnG true l.prog w (K w.params) mg base k fa fd [x] (spZ ⟨l.prog, w, K w.params, mg, base⟩ (fun _ : Unit => noE) (fun (_ : Unit) (p : List Int) => [(rSc (K w.params) rInt).pr p]) m rBl))
    (hm : ∀ ns : List Int, ns.length ≤ n → m ns () = .ok true ()) : PySem.W.WalkO q loose XP YP l.row.toRowW d [] (fun f vs => PySem.call f vs) := by
  refine Att.attach_call hn hdf fun w s₀ s₁ mg mb fa o pm cd doc a vs ns G Y ho hd hcd hmg hobj hints hlen hg => ?_
  obtain ⟨fd, hb, hF⟩ := F w mg fa _ (hY w _ Y) G.T.g hmg
  refine enter_lawS (sp := spZ ⟨l.prog, w, K w.params, mg, s₁.heap⟩ (fun _ : Unit => noE) (fun (_ : Unit) (p : List Int) => [(rSc (K w.params) rInt).pr p]) m rBl) (hY w _ Y) G.T.g G.T.b G.T.builtins G.T.nolimit hg hobj hints (Nat.le_trans hlen hn2) hr (fun base k1 k2 => hF base k1 k2) hb fun H hS => ?_
  refine ⟨(), ns, H, (), ⟨⟨a, _, rfl, hS, All2.of_ints ns⟩, trivial⟩, Same.refl _, trivial, ?_⟩
  rw [hm ns hlen]
  exact fun v S' H' _ _ r => r
end Zk

namespace Zk
open PySem L2 PySem.Spec PyProof.Rows
/-! ### mirrors reckoned -/
section
variable {τ α β γ δ κ ρ : Type}
@[simp] theorem bnd_ret {a : α} {f : α → M τ β} : bnd (ret a) f = f a := rfl
@[simp] theorem ret_at {a : α} {s : τ} : (ret a : M τ α) s = .ok a s := rfl
@[simp] theorem zop1_ret {f : α → M τ β} {a : α} : zop1 f (ret a) = f a := rfl
@[simp] theorem zop2_ret {f : α → β → M τ γ} {a : α} {b : β} : zop2 f (ret a) (ret b) = f a b := rfl
@[simp] theorem zapp_ret {f : α → M τ β} {a : α} : zapp f (ret a) = f a := rfl
@[simp] theorem zpair_ret {a : α} {b : β} : zpair (ret a) (ret b) = (ret (a, b) : M τ _) := rfl
@[simp] theorem zcons_ret {a : α} {b : List α} : zcons (ret a) (ret b) = (ret (a :: b) : M τ _) := rfl
@[simp] theorem zget_ret {f : α → β} {a : α} : zget f (ret a) = (ret (f a) : M τ _) := rfl
@[simp] theorem zis_ret {k : Bool} {a : α} : zis k (ret a) = (ret k : M τ _) := rfl
@[simp] theorem zset_ret {a : α} : zset (ret a) = (ret (.nx a) : M τ (Fl α κ ρ)) := rfl
@[simp] theorem zrt_ret {a : ρ} : zrt (ret a) = (ret (.rt a) : M τ (Fl α κ ρ)) := rfl
@[simp] theorem znx_ret {a : α} : znx a = (ret (.nx a) : M τ (Fl α κ ρ)) := rfl
@[simp] theorem zseq_nx {a : α} {f : α → M τ (Fl β κ ρ)} : zseq (ret (.nx a)) f = f a := rfl
@[simp] theorem zseq_rt {r : ρ} {f : α → M τ (Fl β κ ρ)} : zseq (ret (.rt r)) f = ret (.rt r) := rfl
@[simp] theorem zseq_bk {r : κ} {f : α → M τ (Fl β κ ρ)} : zseq (ret (.bk r)) f = ret (.bk r) := rfl
@[simp] theorem zseq_ct {r : κ} {f : α → M τ (Fl β κ ρ)} : zseq (ret (.ct r)) f = ret (.ct r) := rfl
@[simp] theorem zseq_rse {e : Exc} {f : α → M τ (Fl β κ ρ)} : zseq (rse e) f = rse e := rfl
@[simp] theorem zifS_ret {b : Bool} {n o : M τ (Fl α κ ρ)} : zifS (ret b) n o = if b = true then n else o := rfl
@[simp] theorem zif_ret {b : Bool} {n o : M τ α} : zif (ret b) n o = if b = true then n else o := rfl
@[simp] theorem zbody_rt {r : ρ} : zbody (ret (.rt r) : M τ (Fl α κ ρ)) = ret r := rfl
@[simp] theorem zbody_rse {e : Exc} : zbody (rse e : M τ (Fl α κ ρ)) = rse e := rfl
@[simp] theorem zfin_rt {r : ρ} {n : α → M τ ρ} : zfin n (ret (.rt r) : M τ (Fl α κ ρ)) = ret r := rfl
@[simp] theorem zfin_nx {a : α} {n : α → M τ ρ} : zfin n (ret (.nx a) : M τ (Fl α κ ρ)) = n a := rfl
@[simp] theorem zini_nx {y : α} {n : α → ρ} : zini n (ret (.nx y) : M τ (Fl α Empty Empty)) = ret (n y) := rfl
@[simp] theorem lft_ret {a : α} : lft (ret a) = (ret a : M τ α) := rfl
@[simp] theorem lft_rse {e : Exc} : lft (rse e) = (rse e : M τ α) := rfl
@[simp] theorem znot_ret {b : Bool} : znot (ret b) = (ret (!b) : M τ _) := rfl
@[simp] theorem zand_rr {b c : Bool} : zand (ret b) (ret c) = (ret (b && c) : M τ _) := by cases b <;> rfl
@[simp] theorem zor_rr {b c : Bool} : zor (ret b) (ret c) = (ret (b || c) : M τ _) := by cases b <;> rfl
@[simp] theorem zand_t {n : M τ Bool} : zand (ret true) n = n := rfl
@[simp] theorem zand_f {n : M τ Bool} : zand (ret false) n = ret false := rfl
@[simp] theorem zor_t {n : M τ Bool} : zor (ret true) n = ret true := rfl
@[simp] theorem zor_f {n : M τ Bool} : zor (ret false) n = n := rfl
@[simp] theorem iadd_eq {x y : Int} : (iadd x y : M τ Int) = ret (x + y) := rfl
@[simp] theorem isub_eq {x y : Int} : (isub x y : M τ Int) = ret (x - y) := rfl
@[simp] theorem ineg_eq {x : Int} : (ineg x : M τ Int) = ret (-x) := rfl
@[simp] theorem ilt_eq {x y : Int} : (ilt x y : M τ Bool) = ret (decide (x < y)) := rfl
@[simp] theorem ile_eq {x y : Int} : (ile x y : M τ Bool) = ret (decide (x ≤ y)) := rfl
@[simp] theorem igt_eq {x y : Int} : (igt x y : M τ Bool) = ret (decide (x > y)) := rfl
@[simp] theorem ige_eq {x y : Int} : (ige x y : M τ Bool) = ret (decide (x ≥ y)) := rfl
@[simp] theorem feq_eq [DecidableEq α] {x y : α} : (feq x y : M τ Bool) = ret (decide (x = y)) := rfl
@[simp] theorem fne_eq [DecidableEq α] {x y : α} : (fne x y : M τ Bool) = ret (!decide (x = y)) := rfl
@[simp] theorem flen_eq {xs : List α} : (flen xs : M τ Int) = ret (xs.length : Int) := rfl
@[simp] theorem fsum_eq {xs : List Int} : (fsum xs : M τ Int) = ret xs.sum := rfl
@[simp] theorem fabs_eq {x : Int} : (fabs x : M τ Int) = ret (if x < 0 then -x else x) := rfl
@[simp] theorem fall_eq {xs : List Bool} : (fall xs : M τ Bool) = ret (xs.all id) := rfl
@[simp] theorem fany_eq {xs : List Bool} : (fany xs : M τ Bool) = ret (xs.any id) := rfl
@[simp] theorem frA1_eq {j : Int} : (frA1 j : M τ (List Int)) = ret (rng 0 j.toNat) := rfl
@[simp] theorem frA2_eq {x : Int × Int} : (frA2 x : M τ (List Int)) = ret (rng x.1 (x.2 - x.1).toNat) := rfl
@[simp] theorem zenum_ret {xs : List α} : zenum (ret xs) = (ret (fenum xs) : M τ _) := rfl
@[simp] theorem zsome_ret {i : Int} : zsome (ret i) = (ret (some i) : M τ _) := rfl
@[simp] theorem zsl_ret {xs : List α} {l h : Option Int} : zsl (ret xs) (ret l) (ret h) = (ret (cut xs l h) : M τ _) := rfl
theorem chk_pos {c : Prop} [Decidable c] {m : M τ α} (h : c) : chk c m = m := if_pos h
theorem zchain_ret {f : α → β → M τ Bool} {g : β → γ → M τ Bool} {a : α} {b : β} {c : γ} : zchain f g (ret a) (ret b) (ret c) = zand (f a b) (g b c) := rfl
@[simp] theorem zchain_ll {x y z : Int} : zchain ile ile (ret x) (ret y) (ret z) = (ret (decide (x ≤ y) && decide (y ≤ z)) : M τ _) := by rw [zchain_ret]; simp
@[simp] theorem zmeth_ret {f : α × β → M τ γ} {a : α} {b : β} : zmeth f (ret a) (ret b) = f (a, b) := rfl
theorem zlist_ret {xs : List α} (h : xs.length ≤ sizeLine) : zlist (ret xs) = (ret xs : M τ _) := by unfold zlist; rw [bnd_ret, chk_pos h]
theorem imod_eq {x y : Int} (h : 0 < y) : (imod x y : M τ Int) = ret (x % y) := chk_pos h
theorem imul_eq {x y : Int} (h : mulOk x y) : (imul x y : M τ Int) = ret (x * y) := chk_pos h
theorem idiv_eq {x y : Int} (h : divOk x y) : (idiv x y : M τ Int) = ret (x / y) := chk_pos h
theorem mul_small {x y : Int} (h : -(2 ^ 64) < y ∧ y < 2 ^ 64) : mulOk x y := .inr (.inr h)
theorem mul_smallL {x y : Int} (h : -(2 ^ 64) < x ∧ x < 2 ^ 64) : mulOk x y := .inr (.inl h)
theorem div_ok {x y : Int} (h : 0 < y) (hy : y < 2 ^ 9000) : divOk x y := wide_div (b := 9000) h (by omega) (by omega) (by omega)
theorem atI_nat {xs : List α} {i : Int} (h0 : 0 ≤ i) (h : i.toNat < xs.length) : atI xs i = some (xs[i.toNat]'h) := by
  unfold atI ixN
  have : i < xs.length := by omega
  simp [h0, this, h]
theorem zforI_ret {xs : List β} {a : α} {f : α → β → M τ (Fl α α ρ)} : zforI (ret xs) a f = (zfor f a xs : M τ (Fl α κ ρ)) := rfl
theorem zfor_cons_nx {a a' : α} {x : β} {xs : List β} {f : α → β → M τ (Fl α α ρ)} (h : f a x = ret (.nx a')) : zfor f a (x :: xs) = (zfor f a' xs : M τ (Fl α κ ρ)) := by
  funext s; conv => lhs; unfold zfor
  rw [h]; rfl
/-- a comprehension of pure parts -/
theorem zcomp_map {f : β → M τ γ} {g : β → γ} : ∀ (xs : List β) (acc : List γ), (∀ x ∈ xs, f x = ret (g x)) → acc.length + xs.length ≤ sizeLine → zcomp (fun _ => ret true) f acc xs = (ret (acc ++ xs.map g) : M τ _)
  | [], acc, _, _ => by simp [zcomp]
  | x :: xs, acc, h, hl => by
    unfold zcomp
    rw [show nox (ret true : M τ Bool) = ret true from rfl, bnd_ret, if_pos rfl, h x (by simp), show nox (ret (g x) : M τ γ) = ret (g x) from rfl, bnd_ret, chk_pos (by simp at hl; omega), zcomp_map xs (acc ++ [g x]) (fun y hy => h y (by simp [hy])) (by simp at hl ⊢; omega)]
    simp
theorem zlc_map {f : β → M τ γ} {g : β → γ} {xs : List β} (h : ∀ x ∈ xs, f x = ret (g x)) (hl : xs.length ≤ sizeLine) : zlc (fun _ => ret true) f (ret xs) = (ret (xs.map g) : M τ _) := by
  unfold zlc
  rw [bnd_ret, zcomp_map xs [] h (by simpa using hl)]; rfl
theorem dne_eq {R : Rel α} {D : DatR R} [DecidableEq α] {x y : α} (h : deqOk D x y) : (dne D x y : M τ Bool) = ret (!decide (x = y)) := chk_pos h

/-! ### what a mirror with draws answers -/
def Ok (I : τ → Prop) (m : M τ α) (Q : α → Prop) : Prop := ∀ s, I s → ∃ a s', m s = .ok a s' ∧ I s' ∧ Q a
def OkS (I : τ → Prop) (m : M τ (Fl α κ ρ)) (N : α → Prop) (R : ρ → Prop) (Kb Kc : κ → Prop) : Prop := ∀ s, I s → ∃ o s', m s = .ok o s' ∧ I s' ∧ (match o with | .nx a => N a | .rt r => R r | .bk k => Kb k | .ct k => Kc k)
variable {I : τ → Prop}
theorem ok_ret {a : α} {Q : α → Prop} (h : Q a) : Ok I (ret a) Q := fun s hs => ⟨a, s, rfl, hs, h⟩
theorem Ok.mono {m : M τ α} {P Q : α → Prop} (h : Ok I m P) (k : ∀ a, P a → Q a) : Ok I m Q := fun s hs => let ⟨a, s', e, i, p⟩ := h s hs; ⟨a, s', e, i, k a p⟩
theorem ok_bnd {m : M τ α} {f : α → M τ β} {P : α → Prop} {Q : β → Prop} (h : Ok I m P) (k : ∀ a, P a → Ok I (f a) Q) : Ok I (bnd m f) Q := fun s hs => by
  obtain ⟨a, s', e, i, p⟩ := h s hs
  unfold bnd; rw [e]; exact k a p s' i
theorem ok_op2 {m : M τ α} {n : M τ β} {f : α → β → M τ γ} {P1 : α → Prop} {P2 : β → Prop} {Q : γ → Prop} (h : Ok I m P1) (h2 : Ok I n P2) (k : ∀ a b, P1 a → P2 b → Ok I (f a b) Q) : Ok I (zop2 f m n) Q := ok_bnd h fun a pa => ok_bnd h2 fun b pb => k a b pa pb
theorem ok_pair {m : M τ α} {n : M τ β} {P1 : α → Prop} {P2 : β → Prop} (h : Ok I m P1) (h2 : Ok I n P2) : Ok I (zpair m n) (fun p => P1 p.1 ∧ P2 p.2) := ok_bnd h fun a pa => ok_bnd h2 fun b pb => ok_ret ⟨pa, pb⟩
section
variable {N N' : α → Prop} {N2 : β → Prop} {R : ρ → Prop} {Kb Kc : κ → Prop}
theorem oks_seq {m : M τ (Fl α κ ρ)} {f : α → M τ (Fl β κ ρ)} (h : OkS I m N R Kb Kc) (k : ∀ a, N a → OkS I (f a) N2 R Kb Kc) : OkS I (zseq m f) N2 R Kb Kc := fun s hs => by
  obtain ⟨o, s', e, i, p⟩ := h s hs
  unfold zseq; rw [e]
  cases o with
  | nx a => exact k a p s' i
  | rt r => exact ⟨_, _, rfl, i, p⟩
  | bk r => exact ⟨_, _, rfl, i, p⟩
  | ct r => exact ⟨_, _, rfl, i, p⟩
theorem oks_set {m : M τ α} (h : Ok I m N) : OkS I (zset m) N R Kb Kc := fun s hs => by
  obtain ⟨o, s', e, i, p⟩ := h s hs
  exact ⟨.nx o, s', by unfold zset bnd; rw [e]; rfl, i, p⟩
theorem oks_rt {m : M τ ρ} (h : Ok I m R) : OkS I (zrt m : M τ (Fl α κ ρ)) N R Kb Kc := fun s hs => by
  obtain ⟨o, s', e, i, p⟩ := h s hs
  exact ⟨.rt o, s', by unfold zrt bnd; rw [e]; rfl, i, p⟩
theorem oks_nx {a : α} (h : N a) : OkS I (znx a : M τ (Fl α κ ρ)) N R Kb Kc := fun s hs => ⟨.nx a, s, rfl, hs, h⟩
theorem oks_if {m : M τ Bool} {n o : M τ (Fl α κ ρ)} {P : Bool → Prop} (h : Ok I m P) (ht : P true → OkS I n N R Kb Kc) (hf : P false → OkS I o N R Kb Kc) : OkS I (zifS m n o) N R Kb Kc := fun s hs => by
  obtain ⟨b, s', e, i, p⟩ := h s hs
  unfold zifS bnd; rw [e]
  cases b with
  | true => exact ht p s' i
  | false => exact hf p s' i
theorem oks_zfor {f : α → β → M τ (Fl α α ρ)} {J : List β → α → Prop} (step : ∀ x xs a, J (x :: xs) a → OkS I (f a x) (fun a' => J xs a') R N (fun a' => J xs a')) (fin : ∀ a, J [] a → N a) : ∀ (xs : List β) (a : α), J xs a → OkS I (zfor f a xs : M τ (Fl α κ ρ)) N R Kb Kc
  | [], a, h => fun s hs => ⟨.nx a, s, rfl, hs, fin a h⟩
  | x :: xs, a, h => fun s hs => by
    obtain ⟨o, s', e, i, p⟩ := step x xs a h s hs
    unfold zfor; rw [e]
    cases o with
    | nx a' => exact oks_zfor step fin xs a' p s' i
    | ct a' => exact oks_zfor step fin xs a' p s' i
    | bk a' => exact ⟨_, _, rfl, i, p⟩
    | rt r => exact ⟨_, _, rfl, i, p⟩
theorem oks_for {f : α → β → M τ (Fl α α ρ)} {xs : List β} {a0 : α} {J : List β → α → Prop} (h0 : J xs a0) (step : ∀ x xs a, J (x :: xs) a → OkS I (f a x) (fun a' => J xs a') R N (fun a' => J xs a')) (fin : ∀ a, J [] a → N a) : OkS I (zforI (ret xs) a0 f : M τ (Fl α κ ρ)) N R Kb Kc := oks_zfor step fin xs a0 h0
theorem ok_body {m : M τ (Fl α κ ρ)} (h : OkS I m (fun _ => False) R (fun _ => False) (fun _ => False)) : Ok I (zbody m) R := fun s hs => by
  obtain ⟨o, s', e, i, p⟩ := h s hs
  unfold zbody zfin; rw [e]
  cases o with
  | rt r => exact ⟨r, s', rfl, i, p⟩
  | nx a => exact p.elim
  | bk a => exact p.elim
  | ct a => exact p.elim
end
/-! ### repr of lists of ints -/
/-! ### the bag -/
def Bok (s : Bag) : Prop := 0 ≤ s.big ∧ 0 ≤ s.mix ∧ 0 ≤ s.pos ∧ ∀ x ∈ s.cells, 0 ≤ x
theorem ok_bget {I : Bag → Prop} {f : Bag → α} {P : α → Prop} (h : ∀ s, I s → P (f s)) : Ok I (bget f) P := fun s hs => ⟨f s, s, rfl, hs, h s hs⟩
theorem oks_bput {I : Bag → Prop} {f : Bag → Int → Bag} {m : M Bag Int} {P : Int → Prop} {R : ρ → Prop} {Kb Kc : κ → Prop} (h : Ok I m P) (k : ∀ s v, I s → P v → I (f s v)) : OkS I (bput f m : M Bag (Fl Unit κ ρ)) (fun _ => True) R Kb Kc := fun s hs => by
  obtain ⟨v, s', e, i, p⟩ := h s hs
  exact ⟨.nx (), f s' v, by unfold bput bnd; rw [e], k s' v i p, trivial⟩
/-- the law's end: from the bag's beginning -/
theorem law_end {mk : List Int → M Unit (List Int)} {xs cs : List Int} {m : M Bag (Fl Unit Empty Bool)} {I : Bag → Prop} (h1 : mk xs = ret cs) (h2 : I ⟨0, 1234567891, 0, cs⟩) (h : OkS I m (fun _ => False) (fun b => b = true) (fun _ => False) (fun _ => False)) : zbody (zbag mk xs m) () = .ok true () := by
  obtain ⟨o, s', e, i, p⟩ := h _ h2
  unfold zbody zfin zbag
  rw [h1]
  simp only [ret_at]
  rw [e]
  cases o with
  | rt r => have p : r = true := p; rw [p]; rfl
  | nx a => exact p.elim
  | bk a => exact p.elim
  | ct a => exact p.elim
end
end Zk

namespace Zk
open PySem L2 PySem.W PyProof.Rows
/-! ### == and != of own classes, by values -/
section
variable {prog : Program} {w : World} {A : Around} {E : Value → Shared → Prop} {s : Shared} {K : PySem.W.Frag} {x C L f : Addr} {h₀ : Heap} {m : Str → Option Value} {ox : Obj} {od : Option Obj} {tb b : Value}
end
section
variable {X : Cx} {k : Nat} {f C : Addr} {fd : FuncData} {ps : List Str} {sp : Sp} {g : Bool}
end
end Zk

namespace Zk
open PySem L2
section
variable {τ α β γ δ κ ρ ι θ : Type} {G : Gx} {c : Sc} {E : Eff τ} {W : WX} {Γ Γ' : Env} {B : Bs} {σ : St} {S S1 S' H H' : Hp} {b b' : τ} {L : Ls κ ρ}
/-- what the written part says of an own class that has __eq__ -/
structure EqAt (g : Bool) (G : Gx) (C : Addr) (k : Nat) (ps : List Str) (sp : Sp) : Prop where
  ex : ∃ f fd, PySem.W.findIn G.K (.ref C) "__eq__" = some (some (.ref f)) ∧ PySem.W.isFn G.K (.ref f) = true ∧ Binds G.K fd ps [] ∧ FnG g G.P G.w G.K G.mg G.base k f fd ps sp
section
variable {C0 : Addr} {k : Nat} {g : Bool} {ps : List Str} {fs : α → List (Str × Pr)} {m : α × α → M Unit Bool} {ea eb : Expr} {ma mb : M τ α} {pos : Pos}
end
/-! ### own __repr__ -/
structure RpAt (g : Bool) (G : Gx) (C : Addr) (k : Nat) (ps : List Str) (sp : Sp) : Prop where
  ex : ∃ f fd, PySem.W.findIn G.K (.ref C) "__repr__" = some (some (.ref f)) ∧ PySem.W.isFn G.K (.ref f) = true ∧ Binds G.K fd ps [] ∧ FnG g G.P G.w G.K G.mg G.base k f fd ps sp
end
end Zk

namespace Zk
open PySem L2
section
variable {τ α β γ δ κ ρ ι θ : Type} {G : Gx} {c : Sc} {E : Eff τ} {W : WX} {Γ Γ' : Env} {B : Bs} {σ : St} {S S1 S' H H' : Hp} {b b' : τ} {L : Ls κ ρ}
/-! ### f-strings -/
/-! ### C(e, ..), what lacks has a default -/
/-! ### an instance of one's own in a slot: a field stored again -/
end
end Zk

namespace Zk
open PySem L2
section
variable {α β γ δ ε : Type} {R1 : Rel α} {R2 : Rel β} {R3 : Rel γ} {i : Int}
structure Ic (K : PySem.W.Frag) (C : Addr) : Prop where
  cl : Cls K C
  a : PySem.W.findIn K (.ref C) "__class__" = some (some (.builtin "object.__class__"))
  n : PySem.W.specialIn K (.builtin "object.__class__") "__get__" = some (some (.builtin "getset_descriptor.__get__"))
  t : PySem.W.takesIn K (.builtin "object.__class__") = some true
  m : PySem.W.mroIn K C (.type "object") = some true
end
end Zk

namespace Zk
open PySem L2 PySem.Spec PyProof.Rows
/-! ### how many things are apart -/
section
variable {τ : Type} {G : Gx} {c : Sc} {E : Eff τ} {W : WX} {Γ : Env}
end
end Zk

namespace Zk
open PySem L2
/-! ### lists of things of several kinds -/
section
variable {τ α β : Type} {G : Gx} {c : Sc} {E : Eff τ} {W : WX} {Γ : Env}
structure DH (A : α → List Pr) where
  d : α → List PyData
  n : Nat
  dep : ∀ x, PyData.depthAll (d x) ≤ n
  dp : ∀ {K : PySem.W.Frag} {x : α} {S H : Hp} {vs : List V}, Same S H → All2 (fun (p : Pr) v => p.p S v) (A x) vs → DpAll K H vs (d x)
  eq : ∀ x y, PyData.eqvAll (d x) (d y) = true ↔ x = y
end
end Zk

namespace Zk
open PySem L2 PySem.Spec PyProof.Rows RT
/-! ### list(reversed(a tuple)) -/
section
variable {prog : Program} {w : World} {A : Around} {E : Value → Shared → Prop} {s : Shared}
end
end Zk

namespace Zk
open PySem L2
section
variable {τ α : Type} {G : Gx} {c : Sc} {E : Eff τ} {W : WX} {Γ : Env}
end
end Zk

namespace Zk
open PySem L2

section
variable {τ α β γ δ κ ρ ι θ : Type} {G : Gx} {c : Sc} {E : Eff τ} {W : WX} {Γ Γ' : Env} {B : Bs} {σ : St} {S S1 S' H H' : Hp} {b b' : τ} {L : Ls κ ρ}
/-! ### own lists of own lists -/
/-- the lists at rs are what xss tells -/
def Rows (R : Rel α) (S H : Hp) (rs : List Addr) (xss : List (List α)) : Prop := All2 (fun xs r => ∃ vs, H r = some (.lst vs) ∧ All2 (fun x v => R.is x S v) xs vs) xss rs
theorem ne_mem {a p : Addr} {rs : List Addr} (h : p ∉ rs) (ha : a ∈ rs) : a ≠ p := fun z => h (by rw [← z]; exact ha)
theorem Rows.mono {R : Rel α} {rs : List Addr} (s : Same S S') (k : ∀ a o, a ∈ rs → H a = some o → H' a = some o) : ∀ {rs' : List Addr} {xss : List (List α)}, (∀ a, a ∈ rs' → a ∈ rs) → Rows R S H rs' xss → Rows R S' H' rs' xss
  | [], [], _, _ => trivial
  | r :: rs', xs :: xss, hm, ⟨⟨vs, e, q⟩, h⟩ => ⟨⟨vs, k _ _ (hm r (by simp)) e, All2.rel s q⟩, Rows.mono s k (fun a ha => hm a (by simp [ha])) h⟩
  | [], _ :: _, _, h => h.elim
  | _ :: _, [], _, h => h.elim
def ownLL (R : Rel α) (rs : List Addr) (xss : List (List α)) : PrO := ⟨fun S H v F => ∃ l, v = .ref l ∧ l ∉ rs ∧ rs.Nodup ∧ (∀ a, F a ↔ a = l ∨ a ∈ rs) ∧ H l = some (.lst (rs.map V.ref)) ∧ Rows R S H rs xss,
  fun s k ⟨l, e, n, d, f, h, q⟩ => ⟨l, e, n, d, f, k _ _ ((f l).mpr (.inl rfl)) h, Rows.mono s (fun a o ha e => k a o ((f a).mpr (.inr ha)) e) (fun _ z => z) q⟩⟩
/-! making: a display of new lists -/
def aftAL (G : Gx) (E : Eff τ) (W : WX) (B : Bs) (Γ : Env) (σ : St) (S : Hp) (R : Rel α) (Q : List V → Hp → Prop) : Out τ (List (List α)) → Prop
  | .ok xss b' => ∀ rs S' H1 H', Same S S' → Hold E B Γ b' σ S' H1 → rs.Nodup → (∀ r ∈ rs, H1 r = none) → (∀ x, x ∉ rs → H' x = H1 x) → Rows R S' H' rs xss → Q (rs.map V.ref) H'
  | .exc x b' => ∀ c d S' H', Same S S' → Hold E B Γ b' σ S' H' → XAt G x H' c d → W c d σ H'
  | .stuck => False
theorem aftAL.same {R : Rel α} {Q : List V → Hp → Prop} (s : Same S S1) : ∀ {o : Out τ (List (List α))}, aftAL G E W B Γ σ S R Q o → aftAL G E W B Γ σ S1 R Q o
  | .ok _ _, h => fun v S' H1 H' s2 => h v S' H1 H' (s.trans s2)
  | .exc _ _, h => fun c d S' H' s2 => h c d S' H' (s.trans s2)
  | .stuck, h => h
theorem Hold.unBd {D : Addr} {o : HO} (h : Hold E (Bd B D o) Γ b σ S H) (hBH : B.H D = none) : Hold E B Γ b σ S H := by
  obtain ⟨Fs, hF, hs⟩ := h.sl
  refine ⟨⟨h.kp.same, h.kp.up, fun a u h1 h2 h3 => ?_⟩, h.ef, Fs, ⟨fun i a e => ?_, hF.ds⟩, hs⟩
  · have ha : a ≠ D := fun z => by rw [z, hBH] at h2; cases h2
    exact h.kp.kp a u h1 (by show upd B.H D o a = some u; rw [upd_ne ha]; exact h2) h3
  · obtain ⟨r1, r2, r3, r4⟩ := hF.at_ i a e
    have r2 : upd B.H D o a = none := r2
    have ha : a ≠ D := fun z => by rw [z, upd_same] at r2; cases r2
    rw [upd_ne ha] at r2
    exact ⟨r1, r2, r3, r4⟩
/-- what a slot owns -/
theorem ll_at {R : Rel α} {rs : List Addr} {xss : List (List α)} {i : Nat} (h : Hold E B Γ b σ S H) (hi : Γ[i]? = some (.ow (ownLL R rs xss))) : ∃ l, σ[i]? = some (some (.ref l)) ∧ l ∉ rs ∧ rs.Nodup ∧ H l = some (.lst (rs.map V.ref)) ∧ Rows R S H rs xss := by
  obtain ⟨Fs, hF, hs⟩ := h.sl
  obtain ⟨v, e1, l, rfl, n, d, f, hl, q⟩ := hs i _ hi
  exact ⟨l, slot_get e1, n, d, hl, q⟩
theorem Rows.at_ {R : Rel α} : ∀ {rs : List Addr} {xss : List (List α)} {j : Nat} {xs : List α}, Rows R S H rs xss → xss[j]? = some xs → ∃ r vs, rs[j]? = some r ∧ H r = some (.lst vs) ∧ All2 (fun x v => R.is x S v) xs vs := fun {rs xss j xs} h e => by
  obtain ⟨r, e2, vs, e3, e4⟩ := All2.get (β := Addr) h e
  exact ⟨r, vs, e2, e3, e4⟩
/-- one of the own lists is written -/
theorem Hold.row {R : Rel α} {rs : List Addr} {xss : List (List α)} {i j : Nat} {r : Addr} {ys : List α} {vs : List V} (h : Hold E B Γ b σ S H) (hi : Γ[i]? = some (.ow (ownLL R rs xss))) (hr : rs[j]? = some r) (hv : All2 (fun x v => R.is x S v) ys vs) :
    Hold E B (Γ.set i (.ow (ownLL R rs (xss.set j ys)))) b σ S (upd H r (.lst vs)) := by
  obtain ⟨l, e1, n, d, hl, q⟩ := ll_at h hi
  have hlt := (List.getElem?_eq_some_iff.mp e1).1
  have hm : r ∈ rs := by obtain ⟨hj, e⟩ := List.getElem?_eq_some_iff.mp hr; rw [← e]; exact List.getElem_mem hj
  rw [show σ = σ.set i (some (.ref l)) from (slot_set e1).symm]
  refine Hold.mut h hlt (F' := fun a => a = l ∨ a ∈ rs) (fun a hn => upd_ne fun z => hn (.inr (z ▸ hm))) (fun a ha => ?_) ⟨l, rfl, n, d, fun _ => Iff.rfl, ?_, ?_⟩
  · constructor
    · by_cases z : a = r
      · subst z; exact ⟨_, upd_same⟩
      · rw [upd_ne z]
        rcases ha with rfl | ha
        · exact ⟨_, hl⟩
        · obtain ⟨k, hk, rfl⟩ := List.mem_iff_getElem.mp ha
          obtain ⟨_, _, vs, e, _⟩ := All2.get' (β := Addr) q (List.getElem?_eq_getElem hk)
          exact ⟨_, e⟩
    · refine .inr fun Fs hF hs => ?_
      obtain ⟨v, z1, l', rfl, n', d', f', hl', q'⟩ := hs i _ hi
      rw [e1] at z1; cases z1
      exact (f' a).mpr ha
  · rw [upd_ne fun z => n (by rw [z]; exact hm)]; exact hl
  · have : ∀ (rs : List Addr) (xss : List (List α)) (j : Nat), rs.Nodup → rs[j]? = some r → Rows R S H rs xss → Rows R S (upd H r (.lst vs)) rs (xss.set j ys) := by
      intro rs
      induction rs with
      | nil => intro xss j _ e; simp at e
      | cons r0 rs ih =>
        intro xss j nd e q
        match xss, q with
        | xs :: xss, ⟨⟨us, e1, e2⟩, q⟩ =>
          obtain ⟨n0, nd⟩ := List.nodup_cons.mp nd
          cases j with
          | zero =>
            simp at e
            subst e
            exact ⟨⟨vs, upd_same, hv⟩, Rows.mono (rs := rs) (Same.refl _) (fun a o ha e => by rw [upd_ne (ne_mem n0 ha)]; exact e) (fun _ z => z) q⟩
          | succ j =>
            simp at e
            have hm : r ∈ rs := by obtain ⟨hj, e⟩ := List.getElem?_eq_some_iff.mp e; rw [← e]; exact List.getElem_mem hj
            exact ⟨⟨us, by rw [upd_ne (Ne.symm (ne_mem n0 hm))]; exact e1, e2⟩, ih xss j nd e q⟩
    exact this rs xss j d hr q
/-! one of the lists, by its place -/
end
end Zk

namespace Zk
open PySem L2

section
variable {τ α β γ δ κ ρ ι θ : Type} {G : Gx} {c : Sc} {E : Eff τ} {W : WX} {Γ Γ' : Env} {B : Bs} {σ : St} {S S1 S' H H' : Hp} {b b' : τ} {L : Ls κ ρ}
/-! ### among -/
structure ScalIn (R : Rel α) (f : α → V) : Prop where
  s : ScalR R f
  fl : ∀ x, flatV (f x) = true
  eq : ∀ x y, eqV (f x) (f y) = true ↔ x = y
theorem inI : ScalIn rInt V.int := ⟨scI, fun _ => rfl, fun x y => by simp [eqV]⟩
theorem inB : ScalIn rBl V.bl := ⟨scB, fun _ => rfl, fun x y => by simp [eqV]⟩
theorem ScalIn.map {R : Rel α} {f : α → V} (D : ScalIn R f) : ∀ {xs : List α} {vs : List V}, All2 (fun x v => R.is x S v) xs vs → vs = xs.map f
  | [], [], _ => rfl
  | _ :: _, _ :: _, ⟨a, b⟩ => by rw [D.s.is a, D.map b]; rfl
  | [], _ :: _, h => h.elim
  | _ :: _, [], h => h.elim
theorem ScalIn.inV {R : Rel α} {f : α → V} [DecidableEq α] (D : ScalIn R f) (x : α) (xs : List α) : inV (f x) (xs.map f) = decide (x ∈ xs) := by
  unfold L2.inV
  rw [List.any_map]
  by_cases h : x ∈ xs
  · rw [decide_eq_true h, List.any_eq_true]; exact ⟨x, h, (D.eq x x).mpr rfl⟩
  · rw [decide_eq_false h, List.any_eq_false]
    intro y hy z
    exact h ((D.eq y x).mp z ▸ hy)
theorem ScalIn.all {R : Rel α} {f : α → V} (D : ScalIn R f) (xs : List α) : (xs.map f).all flatV = true := by
  rw [List.all_map, List.all_eq_true]; exact fun x _ => D.fl x
def fin_ [DecidableEq α] (x : α) (xs : List α) : M τ Bool := ret (decide (x ∈ xs))
section
variable {ea eb : Expr} {pos : Pos}
theorem op_inL {R : Rel α} {f : α → V} (D : ScalIn R f) [DecidableEq α] : Op2 G E W Γ (rIn G.K false) R (rLst R) fin_ rBl := fun B σ S H b x xs v w Q hh hx ⟨a, vs, e1, e2, e3⟩ q => by
  have e := D.map e3
  subst e
  refine ⟨a, _, e1, .inl (.of (hh.same _ _ e2)), by rw [D.s.is hx]; exact D.fl x, D.all xs, ?_⟩
  rw [D.s.is hx, D.inV]; exact aft_ret hh q rfl
theorem zt_inL {R : Rel α} {f : α → V} (D : ScalIn R f) [DecidableEq α] {ma : M τ α} {mb : M τ (List α)} (ha : ZE G c E W Γ ea ma R) (hb : ZE G c E W Γ eb mb (rLst R)) (hm : behindInMarks .In eb = false := by rfl) : ZT G c E W Γ (.Compare ea [.In] [eb] pos) (zop2 fin_ ma mb) := zt_cmp (fun X C => by rw [← C.K]; exact op_in_seq) (op_inL D) ha hb hm
end
/-! ### int(..) -/
section
variable {e : Expr} {p pos : Pos} {x : Str}
end
end
end Zk

namespace Zk
open PySem L2
/-! ### plain facts: texts, places -/
theorem rng_length (lo : Int) (n : Nat) : (rng lo n).length = n := by unfold rng; rw [List.length_map, List.length_range]
theorem canLayAll_bls : ∀ xs : List Bool, PyData.canLayAll0 (xs.map PyData.bool) = true
  | [] => by simp [PyData.canLayAll0]
  | x :: xs => by simp [PyData.canLayAll0, PyData.canLay0, canLayAll_bls xs]
theorem deq_bls {xs ys : List Bool} : deqOk (datL datB) xs ys := by
  refine ⟨?_, ?_, by decide⟩
  · show (PyData.list (xs.map PyData.bool)).canLay0 = true
    simp only [PyData.canLay0]; exact canLayAll_bls xs
  · show (PyData.list (ys.map PyData.bool)).canLay0 = true
    simp only [PyData.canLay0]; exact canLayAll_bls ys
end Zk

namespace Zk
open PySem L2

section
variable {τ α β γ δ κ ρ ι θ : Type} {G : Gx} {c : Sc} {E : Eff τ} {W : WX} {Γ Γ' : Env} {B : Bs} {σ : St} {S S1 S' H H' : Hp} {b b' : τ} {L : Ls κ ρ}
/-! ### things of any kind -/
section
variable {e : Expr} {p pos : Pos} {x : Str}
end
/-! own == and != with a thing of any kind -/
section
variable {X : Cx} {k : Nat} {f C : Addr} {fd : FuncData} {ps : List Str} {sp : Sp} {g : Bool}
open PySem.W in
open PySem.W in
open PySem.W in
open PySem.W in
end
section
variable {C0 : Addr} {k : Nat} {g : Bool} {ps : List Str} {fs : α → List (Str × Pr)} {m : α × PyData → M Unit Bool} {ea eb : Expr} {pos : Pos} {ma : M τ α} {mb : M τ PyData}
end
theorem kit_self {K : PySem.W.Frag} {C : Addr} : PySem.W.kitOne K (.ref C) (.ref C) = some true := by
  unfold PySem.W.kitOne
  rw [if_pos (by simp)]
end
end Zk

namespace Zk
open PySem L2
/-! ### plain facts: the greatest, the least, parts of lists, comprehensions with a test -/
section
variable {α β γ τ κ ρ : Type}
theorem cut_hi {xs : List α} (k : Nat) : cut xs none (some (k : Int)) = xs.take k := by
  unfold cut
  rw [HT.sIx_none, HT.sIx_nat, List.drop_zero, Nat.sub_zero]
  by_cases h : k ≤ xs.length
  · rw [Nat.min_eq_left h]
  · rw [Nat.min_eq_right (by omega), List.take_of_length_le (Nat.le_refl _), List.take_of_length_le (by omega)]
/-- a loop that changes nothing -/
theorem zfor_same {f : α → β → M τ (Fl α α ρ)} {a : α} : ∀ {xs : List β}, (∀ x ∈ xs, f a x = ret (.nx a)) → zfor f a xs = (ret (.nx a) : M τ (Fl α κ ρ))
  | [], _ => rfl
  | x :: xs, h => by rw [zfor_cons_nx (h x (by simp))]; exact zfor_same fun y hy => h y (by simp [hy])
variable {I : τ → Prop}
theorem zlist_eq {xs : List α} (h : xs.length ≤ 16777216) : zlist (ret xs) = (ret xs : M τ _) := zlist_ret (by rw [show sizeLine = 16777216 by decide]; exact h)
end
end Zk

namespace Zk
open PySem L2

/-! ### what is lent: read, never changed -/
structure HasL {τ : Type} (E : Eff τ) (L : Hp) : Prop where
  h : ∀ {b : τ} {S H : Hp}, E.is b S H → ∀ a o, L a = some o → H a = some o
section
variable {τ α β γ δ κ ρ ι θ : Type} {G : Gx} {c : Sc} {E : Eff τ} {W : WX} {Γ : Env} {B : Bs} {σ : St} {S S1 S' H H' : Hp} {b b' : τ} {Ls : Ls κ ρ} {L : Hp}
/-- a thing of one's own, as it is seen while it is lent -/
structure View (p : PrO) (q : Hp → Pr) : Prop where
  v : ∀ {S H : Hp} {v : V} {F : Addr → Prop}, p.p S H v F → ∀ L : Hp, (∀ a o, F a → H a = some o → L a = some o) → (q L).p S v
inductive FrzX : Env → (Hp → Env) → Prop
  | nil : FrzX [] (fun _ => [])
  | no {l : Env} {l' : Hp → Env} : FrzX l l' → FrzX (.no :: l) (fun L => .no :: l' L)
  | st {p : Pr} {l : Env} {l' : Hp → Env} : FrzX l l' → FrzX (.st p :: l) (fun L => .st p :: l' L)
  | ow {p : PrO} {q : Hp → Pr} {l : Env} {l' : Hp → Env} : View p q → FrzX l l' → FrzX (.ow p :: l) (fun L => .st (q L) :: l' L)
  | gh {p : PrO} {l : Env} {l' : Hp → Env} : FrzX l l' → FrzX (.gh p :: l) (fun L => .no :: l' L)
theorem FrzX.get {L : Hp} : ∀ {l : Env} {l' : Hp → Env}, FrzX l l' → ∀ {i : Nat} {s : Sl}, (l' L)[i]? = some s → s = .no ∨ (∃ p, s = .st p ∧ l[i]? = some (.st p)) ∨ ∃ p q, s = .st (q L) ∧ View p q ∧ l[i]? = some (.ow p)
  | _, _, .nil, i, s, h => by simp at h
  | _, _, .no f, 0, s, h => by simp at h; exact .inl h.symm
  | _, _, .st f, 0, s, h => by simp at h; exact .inr (.inl ⟨_, h.symm, rfl⟩)
  | _, _, .ow v f, 0, s, h => by simp at h; exact .inr (.inr ⟨_, _, h.symm, v, rfl⟩)
  | _, _, .gh f, 0, s, h => by simp at h; exact .inl h.symm
  | _, _, .no f, i + 1, s, h => by simpa using f.get (i := i) (by simpa using h)
  | _, _, .st f, i + 1, s, h => by simpa using f.get (i := i) (by simpa using h)
  | _, _, .ow v f, i + 1, s, h => by simpa using f.get (i := i) (by simpa using h)
  | _, _, .gh f, i + 1, s, h => by simpa using f.get (i := i) (by simpa using h)
open Classical in
/-! reading what is lent -/
section
variable {ea eb e : Expr} {p pos : Pos} {x : Str}
end

/-! calls where something is lent -/
end
end Zk

namespace Zk
open PySem L2

section
variable {τ α β γ δ κ ρ ι θ : Type} {G : Gx} {c : Sc} {E : Eff τ} {W : WX} {Γ : Env} {B : Bs} {σ : St} {S S1 S' H H' : Hp} {b b' : τ} {Ls : Ls κ ρ} {L : Hp}
/-! ### instances made of what is lent -/
/-! ### a loop over an own list of own lists, each changed in its turn; then it is gone -/
/-- the list at l, and of its lists those at rs -/
def ownRest (R : Rel α) (l : Addr) (rs0 rs : List Addr) (xss : List (List α)) : PrO := ⟨fun S H v F => v = .ref l ∧ l ∉ rs ∧ rs.Nodup ∧ (∀ a, F a ↔ a = l ∨ a ∈ rs) ∧ H l = some (.lst (rs0.map V.ref)) ∧ Rows R S H rs xss,
  fun s k ⟨e, n, d, f, h, q⟩ => ⟨e, n, d, f, k _ _ ((f l).mpr (.inl rfl)) h, Rows.mono s (fun a o ha e => k a o ((f a).mpr (.inr ha)) e) (fun _ z => z) q⟩⟩
/-- one of the lists goes into a slot of its own -/
theorem Hold.split {R : Rel α} {l : Addr} {rs0 rs : List Addr} {r : Addr} {xs : List α} {xss : List (List α)} {i j : Nat} (h : Hold E B Γ b σ S H) (hi : Γ[i]? = some (.ow (ownRest R l rs0 (r :: rs) (xs :: xss)))) (hij : j ≠ i) (hj : j < σ.length) :
    Hold E B ((Γ.set i (.ow (ownRest R l rs0 rs xss))).set j (.ow (ownL R xs))) b (σ.set j (some (.ref r))) S H := by
  obtain ⟨Fs, hF, hs⟩ := h.sl
  obtain ⟨v, e1, rfl, n, d, f, hl, ⟨us, eu, hu⟩, q⟩ := hs i _ hi
  obtain ⟨nr, d⟩ := List.nodup_cons.mp d
  have nl : l ∉ rs := fun z => n (by simp [z])
  have hlr : l ≠ r := fun z => n (by simp [z])
  have fi : ∀ a, Fs i a ↔ a = l ∨ a = r ∨ a ∈ rs := fun a => (f a).trans (by simp)
  let Fn : Nat → Addr → Prop := fun k a => if k = j then a = r else if k = i then a = l ∨ a ∈ rs else Fs k a
  have sub : ∀ k a, Fn k a → ∃ k', Fs k' a ∧ (k' = k ∨ (k' = i ∧ (k = j ∨ k = i))) := fun k a e => by
    show ∃ k', Fs k' a ∧ _
    by_cases hk : k = j
    · have e : a = r := by have : (if k = j then a = r else if k = i then a = l ∨ a ∈ rs else Fs k a) := e; rwa [if_pos hk] at this
      exact ⟨i, (fi a).mpr (.inr (.inl e)), .inr ⟨rfl, .inl hk⟩⟩
    · have e : (if k = j then a = r else if k = i then a = l ∨ a ∈ rs else Fs k a) := e
      rw [if_neg hk] at e
      by_cases hk2 : k = i
      · rw [if_pos hk2] at e
        exact ⟨i, (fi a).mpr (e.elim .inl fun z => .inr (.inr z)), .inr ⟨rfl, .inr hk2⟩⟩
      · rw [if_neg hk2] at e
        exact ⟨k, e, .inl rfl⟩
  refine ⟨h.kp, h.ef, Fn, ⟨fun k a e => ?_, fun k m a e1 e2 => ?_⟩, fun k s e => ?_⟩
  · obtain ⟨k', e', _⟩ := sub k a e
    exact hF.at_ k' a e'
  · have g1 : ∀ k, Fn k a → k = j → a = r := fun k e hk => by have e : (if k = j then a = r else if k = i then a = l ∨ a ∈ rs else Fs k a) := e; rwa [if_pos hk] at e
    have g2 : ∀ k, Fn k a → k ≠ j → k = i → a = l ∨ a ∈ rs := fun k e hk hk2 => by have e : (if k = j then a = r else if k = i then a = l ∨ a ∈ rs else Fs k a) := e; rwa [if_neg hk, if_pos hk2] at e
    have g3 : ∀ k, Fn k a → k ≠ j → k ≠ i → Fs k a := fun k e hk hk2 => by have e : (if k = j then a = r else if k = i then a = l ∨ a ∈ rs else Fs k a) := e; rwa [if_neg hk, if_neg hk2] at e
    have nor : a = r → ¬ (a = l ∨ a ∈ rs) := fun z w => w.elim (fun w => hlr (w.symm.trans z)) fun w => nr (by rw [← z]; exact w)
    have inI : (a = r ∨ a = l ∨ a ∈ rs) → Fs i a := fun z => (fi a).mpr (by rcases z with z | z | z <;> simp [z])
    by_cases k1 : k = j <;> by_cases m1 : m = j
    · rw [k1, m1]
    · by_cases m2 : m = i
      · exact absurd (g2 m e2 m1 m2) (nor (g1 k e1 k1))
      · exact absurd (hF.ds _ _ a (g3 m e2 m1 m2) (inI (.inl (g1 k e1 k1)))) m2
    · by_cases k2 : k = i
      · exact absurd (g2 k e1 k1 k2) (nor (g1 m e2 m1))
      · exact absurd (hF.ds _ _ a (g3 k e1 k1 k2) (inI (.inl (g1 m e2 m1)))) k2
    · by_cases k2 : k = i <;> by_cases m2 : m = i
      · rw [k2, m2]
      · exact absurd (hF.ds _ _ a (g3 m e2 m1 m2) (inI (.inr (g2 k e1 k1 k2)))) m2
      · exact absurd (hF.ds _ _ a (g3 k e1 k1 k2) (inI (.inr (g2 m e2 m1 m2)))) k2
      · exact hF.ds _ _ a (g3 k e1 k1 k2) (g3 m e2 m1 m2)
  · rcases set_get e with ⟨rfl, rfl⟩ | ⟨nk, e⟩
    · rw [List.getElem?_set_self hj]
      refine ⟨.ref r, rfl, r, us, rfl, fun a => ?_, eu, hu⟩
      show (if k = k then a = r else _) ↔ a = r
      rw [if_pos rfl]
    · rw [List.getElem?_set_ne (Ne.symm nk)]
      rcases set_get e with ⟨rfl, rfl⟩ | ⟨ni, e⟩
      · refine ⟨.ref l, e1, rfl, nl, d, fun a => ?_, hl, q⟩
        show (if k = j then a = r else if k = k then a = l ∨ a ∈ rs else Fs k a) ↔ _
        rw [if_neg nk, if_pos rfl]
      · have hq := hs k s e
        have ef : Fn k = Fs k := funext fun a => by
          show (if k = j then a = r else if k = i then a = l ∨ a ∈ rs else Fs k a) = Fs k a
          rw [if_neg nk, if_neg ni]
        rw [ef]
        exact hq
end
end Zk

namespace Zk
open PySem L2

section
variable {τ α β γ δ κ ρ ι θ : Type} {G : Gx} {c : Sc} {E : Eff τ} {W : WX} {Γ : Env} {B : Bs} {σ : St} {S S1 S' H H' : Hp} {b b' : τ} {Ls : Ls κ ρ} {L : Hp}
end
end Zk

namespace Zk
open PySem L2

/-! ### sorted of data -/
section
variable {X : Cx} {β : Type}
end
section
variable {τ α β γ δ κ ρ ι θ : Type} {G : Gx} {c : Sc} {E : Eff τ} {W : WX} {Γ Γ' : Env} {B : Bs} {σ : St} {S S1 S' H H' : Hp} {b b' : τ} {L : Ls κ ρ}
/-- data that can be compared -/
structure Srt {R : Rel α} (D : DatR R) : Prop where
  al : ∀ a b, PySem.W.alike (D.d a) (D.d b) = true
  nn : ∀ a, D.d a ≠ .none
structure SrtK {R : Rel α} (D : DatR R) : Prop extends Srt D where
  k : (∀ b, ∃ x r, D.d b = .tuple (x :: r)) ∨ ∀ b, D.d b ≠ .none ∧ ∀ xs, D.d b ≠ .tuple xs
/-! ### texts -/
variable {ea eb e : Expr} {p pos : Pos}
end
end Zk

namespace Zk
open PySem L2 PySem.Spec PyProof.Rows

/-! ### keys that are tuples: data without lists and dicts -/
mutual
def nkD : PyData → NestedKey
  | .none => .none
  | .bool b => .num (if b = true then 1 else 0)
  | .int i => .num i
  | .str x => .text x
  | .tuple xs => .tup (nkAll xs)
  | .list _ => .none
  | .dict _ => .none
def nkAll : List PyData → List NestedKey
  | [] => []
  | x :: xs => nkD x :: nkAll xs
end
mutual
def keyD : PyData → Bool
  | .none => true
  | .bool _ => true
  | .int _ => true
  | .str _ => true
  | .tuple xs => keyAll xs
  | .list _ => false
  | .dict _ => false
def keyAll : List PyData → Bool
  | [] => true
  | x :: xs => keyD x && keyAll xs
end
mutual
theorem nested_of {h : Heap} : ∀ (d : PyData) (v : Value) (as : List Addr), Reads h v d as → keyD d = true → NestedIs h (nkD d) v
  | .none, _, _, r, _ => by cases r; rw [nkD]; exact .none
  | .bool b, _, _, r, _ => by cases r; rw [nkD]; exact .bool rfl
  | .int i, _, _, r, _ => by cases r; rw [nkD]; exact .int _ _
  | .str x, _, _, r, _ => by cases r; rw [nkD]; exact .text _ _
  | .tuple xs, _, _, r, k => by
    cases r with
    | tuple h1 h2 h3 h4 => rw [nkD]; exact .tup h1 h2 h3 (nested_all xs _ _ h4 (by simpa [keyD] using k))
  | .list _, _, _, _, k => by simp [keyD] at k
  | .dict _, _, _, _, k => by simp [keyD] at k
theorem nested_all {h : Heap} : ∀ (ds : List PyData) (vs : List Value) (as : List Addr), ReadsAll h vs ds as → keyAll ds = true → NestedAll h (nkAll ds) vs
  | [], _, _, r, _ => by cases r; rw [nkAll]; exact .nil
  | d :: ds, _, _, r, k => by
    rw [keyAll, Bool.and_eq_true] at k
    cases r with
    | cons h1 h2 => rw [nkAll]; exact .cons (nested_of d _ _ h1 k.1) (nested_all ds _ _ h2 k.2)
end
mutual
theorem nk_eqv : ∀ d e : PyData, keyD d = true → keyD e = true → nkD d = nkD e → PyData.eqv d e = true
  | .none, e, _, k, h => by cases e <;> simp_all [nkD, keyD, PyData.eqv]
  | .bool b, e, _, k, h => by cases e <;> simp_all [nkD, keyD, PyData.eqv]
                              all_goals (cases b <;> simp_all)
                              all_goals (rename_i b'; cases b' <;> simp_all)
  | .int i, e, _, k, h => by cases e <;> simp_all [nkD, keyD, PyData.eqv]
  | .str x, e, _, k, h => by cases e <;> simp_all [nkD, keyD, PyData.eqv]
  | .tuple xs, e, k1, k, h => by
    cases e with
    | tuple ys =>
      simp only [nkD, NestedKey.tup.injEq] at h
      simp only [keyD] at k1 k
      simp only [PyData.eqv]
      exact nkAll_eqv xs ys k1 k h
    | _ => simp_all [nkD, keyD]
  | .list _, _, k, _, _ => by simp [keyD] at k
  | .dict _, _, k, _, _ => by simp [keyD] at k
theorem nkAll_eqv : ∀ ds es : List PyData, keyAll ds = true → keyAll es = true → nkAll ds = nkAll es → PyData.eqvAll ds es = true
  | [], [], _, _, _ => by simp [PyData.eqvAll]
  | d :: ds, e :: es, k1, k2, h => by
    rw [keyAll, Bool.and_eq_true] at k1 k2
    simp only [nkAll, List.cons.injEq] at h
    simp [PyData.eqvAll, nk_eqv d e k1.1 k2.1 h.1, nkAll_eqv ds es k1.2 k2.2 h.2]
  | [], _ :: _, _, _, h => by simp [nkAll] at h
  | _ :: _, [], _, _, h => by simp [nkAll] at h
end
/-- a kind whose things may be keys, all of them tuples -/
structure KyT {κ : Type} {R : Rel κ} (D : DatR R) : Prop where
  key : ∀ x, keyD (D.d x) = true
  tup : ∀ x, ∃ xs, D.d x = .tuple xs
  dep : ∀ x, (nkD (D.d x)).depth ≤ 8
theorem KyT.inj {κ : Type} {R : Rel κ} {D : DatR R} (h : KyT D) {x y : κ} (e : nkD (D.d x) = nkD (D.d y)) : x = y := (D.eq x y).mp (nk_eqv _ _ (h.key x) (h.key y) e)

/-! ### dicts of such keys -/
abbrev NE := NestedKey × Addr × V
def elook (es : List NE) (k : NestedKey) : Option V := (es.find? fun e => decide (e.1 = k)).map (·.2.2)
def ehas (es : List NE) (k : NestedKey) : Bool := es.any fun e => decide (e.1 = k)
def eput (es : List NE) (k : NestedKey) (b : Addr) (v : V) : List NE := if ehas es k = true then es.map (fun e => if e.1 = k then (e.1, e.2.1, v) else e) else es ++ [(k, b, v)]
abbrev NP : List NE → List (NestedKey × Addr × Value) → Prop := Paired fun e x => e.1 = x.1 ∧ e.2.1 = x.2.1 ∧ RelV e.2.2 x.2.2
theorem NP.look {k : NestedKey} : ∀ {es : List NE} {xs : List (NestedKey × Addr × Value)}, NP es xs → RelO (elook es k) ((atKey xs k).map (·.2)) := fun {es xs} r => by
  induction r with
  | nil => exact True.intro
  | @cons e x es xs h t ih =>
    obtain ⟨h1, _, h3⟩ := h
    by_cases z : e.1 = k
    · have z' : x.1 = k := h1.symm.trans z
      have a : elook (e :: es) k = some e.2.2 := by simp [elook, List.find?_cons, z]
      have b : atKey (x :: xs) k = some x.2 := by simp [atKey, List.find?_cons, z']
      rw [a, b]; exact h3
    · have z' : ¬ x.1 = k := fun y => z (h1.trans y)
      have a : elook (e :: es) k = elook es k := by simp [elook, List.find?_cons, z]
      have b : atKey (x :: xs) k = atKey xs k := by simp [atKey, List.find?_cons, z']
      rw [a, b]; exact ih
theorem ehas_look (k : NestedKey) : ∀ es : List NE, ehas es k = (elook es k).isSome
  | [] => rfl
  | e :: es => by
    have ih := ehas_look k es
    unfold ehas elook at *
    by_cases z : e.1 = k
    · simp [List.find?_cons, z]
    · simp only [List.any_cons, decide_eq_false z, Bool.false_or, List.find?_cons]; exact ih
theorem NP.repl {k : NestedKey} {v : V} {u : Value} (rv : RelV v u) {es : List NE} {xs : List (NestedKey × Addr × Value)} (r : NP es xs) : NP (es.map fun e => if e.1 = k then (e.1, e.2.1, v) else e) (xs.map (putAt k u)) := by
  induction r with
  | nil => exact .nil
  | @cons e x es xs h t ih =>
    rw [List.map_cons, List.map_cons]
    refine .cons ?_ ih
    obtain ⟨h1, h2, h3⟩ := h
    unfold putAt
    by_cases z : e.1 = k
    · rw [if_pos z, if_pos (h1.symm.trans z)]; exact ⟨h1, h2, rv⟩
    · rw [if_neg z, if_neg (fun y => z (h1.trans y))]; exact ⟨h1, h2, h3⟩
theorem NP.put {k : NestedKey} {b : Addr} {v : V} {u : Value} {es : List NE} {xs : List (NestedKey × Addr × Value)} (r : NP es xs) (rv : RelV v u) : NP (eput es k b v) (storedH xs k b u) := by
  have e : ehas es k = (atKey xs k).isSome := by rw [ehas_look, (r.look (k := k)).isSome_eq, Option.isSome_map]
  unfold eput storedH
  rw [e]
  by_cases q : (atKey xs k).isSome = true
  · rw [if_pos q, if_pos q]; exact r.repl rv
  · rw [if_neg q, if_neg q]; exact Paired.snoc r ⟨rfl, rfl, rv⟩
section
variable {X : Cx} {pins : List (Addr × Obj)} {σ : L2.St} {H : Hp} {s : Shared} {a b : Addr} {es : List NE} {k : NestedKey} {A : Around} {EE : Value → Shared → Prop}
/-- .ref b is the key k -/
def KAt (K : PySem.W.Frag) (H : Hp) (b : Addr) (k : NestedKey) : Prop := ∃ d, Dp K H (.ref b) d ∧ nkD d = k ∧ keyD d = true ∧ (nkD d).depth ≤ 8
theorem KAt.is (I : Inv X pins σ H s) (h : KAt X.K H b k) : (nestedKind X.prog X.w).is s.heap k b := by
  obtain ⟨d, h1, h2, h3, h4⟩ := h
  obtain ⟨as, hr⟩ := Dp.reads I d (.ref b) (.ref b) h1 rfl
  rw [← h2]
  exact ⟨nested_of d _ _ hr h3, h4⟩
end
section
variable {X : Cx} {o i e value : Expr} {pos pos' tpos : Pos} {td ty tv : TE}
end
section
variable {X : Cx} {pins : List (Addr × Obj)} {σ : L2.St} {H : Hp} {s : Shared} {d : Addr} {o : Obj} {es : List NE}
end
end Zk

namespace Zk
open PySem L2

/-! ### dicts as association lists -/
section
variable {κ α β : Type} [DecidableEq κ]
def dlook (xs : List (κ × α)) (k : κ) : Option α := (xs.find? fun p => decide (p.1 = k)).map (·.2)
def dput (xs : List (κ × α)) (k : κ) (v : α) : List (κ × α) := if xs.any (fun p => decide (p.1 = k)) = true then xs.map (fun p => if p.1 = k then (p.1, v) else p) else xs ++ [(k, v)]
structure MonoE (t : TE) : Prop where
  h : ∀ {σ : St} {H : Hp} {Q Q' : VK}, (∀ v H, Q v H → Q' v H) → t σ H Q → t σ H Q'
theorem pc_wk {X : Cx} {op : CmpOp} {a b : Expr} {t t' : TE} (h : PC X op a b t) (w : ∀ σ H Q, σ.length = X.N.length → t' σ H Q → t σ H Q) : PC X op a b t' := ⟨fun pins s σ H Q I q => h.run pins s σ H Q I (w σ H Q I.len q)⟩
structure CtxE (G : Gx) (X : Cx) : Prop where
  P : X.prog = G.P
  w : X.w = G.w
  K : X.K = G.K
  hu : X.A.units + 64 < cLine
  calm : X.calm = true
def klook {T : Type} (val : T → V) (ks : List κ) (es : List T) (k : κ) : Option V := ((ks.zip es).find? fun p => decide (p.1 = k)).map fun p => val p.2
def kput {T : Type} (rv : T → V → T) (t : T) (ks : List κ) (es : List T) (k : κ) (v : V) : List T := if ks.any (fun x => decide (x = k)) = true then (ks.zip es).map (fun p => if p.1 = k then rv p.2 v else p.2) else es ++ [t]
theorem klook_nil {T : Type} {val : T → V} {k : κ} {es : List T} : klook val ([] : List κ) es k = none := by simp [klook]
theorem klook_cons {T : Type} {val : T → V} {x k : κ} {ks : List κ} {t : T} {es : List T} : klook val (x :: ks) (t :: es) k = if x = k then some (val t) else klook val ks es k := by
  unfold klook
  rw [List.zip_cons_cons, List.find?_cons]
  by_cases h : x = k
  · simp [h]
  · simp [h]
end
/-- a kind of keys, and of the dicts that have such keys -/
structure Ky (G : Gx) (κ : Type) [DecidableEq κ] where
  R : Rel κ
  T : Type
  val : T → V
  kr : κ → Hp → T → Prop
  krm : ∀ {x : κ} {S S' : Hp} {t : T}, Same S S' → kr x S t → kr x S' t
  ob : Addr → List T → HO
  mu : ∀ a es, Mut (some (ob a es))
  nt : κ → V → V → T
  mkv : ∀ k y v, val (nt k y v) = v
  mkr : ∀ {k : κ} {S : Hp} {y v : V}, R.is k S y → kr k S (nt k y v)
  rv : T → V → T
  rvv : ∀ t v, val (rv t v) = v
  rvr : ∀ {x : κ} {S : Hp} {t : T} {v : V}, kr x S t → kr x S (rv t v)
  get : ∀ {X : Cx}, CtxE G X → ∀ {o i : Expr} {pos : Pos} {td ty : TE}, MonoE td → MonoE ty → PE X o td → PE X i ty → NoSl i → PE X (.Subscript o i pos) (fun σ H Q => td σ H fun x H1 => ty σ H1 fun y H2 => ∃ a es ks k S v, x = .ref a ∧ Rd H2 a (ob a es) ∧ Same S H2 ∧ All2 (fun x t => kr x S t) ks es ∧ R.is k S y ∧ klook val ks es k = some v ∧ Q v H2)
  has : ∀ {X : Cx}, CtxE G X → ∀ (neg : Bool) {o i : Expr} {td ty : TE}, MonoE td → MonoE ty → PE X i ty → PE X o td → PC X (if neg = true then .NotIn else .In) i o (fun σ H Q => ty σ H fun y H1 => td σ H1 fun x H2 => ∃ a es ks k S, x = .ref a ∧ Rd H2 a (ob a es) ∧ Same S H2 ∧ All2 (fun x t => kr x S t) ks es ∧ R.is k S y ∧ Q (.bl (neg ^^ (klook val ks es k).isSome)) H2)
  get2 : ∀ {X : Cx}, CtxE G X → ∀ {o e f : Expr} {apos cpos : Pos} {td ty tx : TE}, MonoE td → MonoE ty → MonoE tx → PE X o td → PE X e ty → PE X f tx → M2 X o "get" apos e f cpos → PE X (.Call (.Attribute o "get" apos) [e, f] [] cpos) (fun σ H Q => td σ H fun x H1 => ∃ a es0 ks0 S0, x = .ref a ∧ Rd H1 a (ob a es0) ∧ Same S0 H1 ∧ All2 (fun x t => kr x S0 t) ks0 es0 ∧ ty σ H1 fun y H2 => tx σ H2 fun z H3 => ∃ es ks k S, Rd H3 a (ob a es) ∧ Same S H3 ∧ All2 (fun x t => kr x S t) ks es ∧ R.is k S y ∧ Q ((klook val ks es k).getD z) H3)
  put : ∀ {X : Cx}, CtxE G X → ∀ {o i value : Expr} {pos pos' : Pos} {td ty tv : TE}, MonoE td → MonoE ty → MonoE tv → PE X o td → PE X i ty → PE X value tv → (swapsWith value (some (.Subscript o i pos')) pos.line X.env = pure false) → PS X (.Assign [.Subscript o i pos'] value pos) (fun D σ H => tv σ H fun v H1 => td σ H1 fun x H2 => ty σ H2 fun y H3 => ∃ a es ks k S, x = .ref a ∧ H3 a = some (ob a es) ∧ Same S H3 ∧ All2 (fun x t => kr x S t) ks es ∧ R.is k S y ∧ es.length < sizeLine ∧ D.nx σ (upd H3 a (ob a (kput rv (nt k y v) ks es k v))))
  aug : ∀ {X : Cx}, CtxE G X → ∀ {o i value : Expr} {op : Operator} {rd : V → V → Hp → VK → Prop} {pos pos' : Pos} {td ty tv : TE}, MonoE td → MonoE ty → MonoE tv → (∀ x y H, ∀ {Q Q' : VK}, (∀ v H, Q v H → Q' v H) → rd x y H Q → rd x y H Q') → PE X o td → PE X i ty → PE X value tv → InOp X op rd → (∀ ov iv new, augStore i ov iv new = (do holding [new, ov, iv] (setItem ov iv new); release [new, ov, iv] []; pure .next)) → PS X (.AugAssign (.Subscript o i pos') op value pos) (fun D σ H => td σ H fun x H1 => ty σ H1 fun y H2 => ∃ a es ks k S v, x = .ref a ∧ H2 a = some (ob a es) ∧ Same S H2 ∧ All2 (fun x t => kr x S t) ks es ∧ R.is k S y ∧ klook val ks es k = some v ∧
    tv σ H2 fun y2 H3 => rd v y2 H3 fun z H4 => ∃ es ks S, H4 a = some (ob a es) ∧ Same S H4 ∧ All2 (fun x t => kr x S t) ks es ∧ R.is k S y ∧ es.length < sizeLine ∧ D.nx σ (upd H4 a (ob a (kput rv (nt k y z) ks es k z))))
  nw : ∀ {X : Cx}, CtxE G X → ∀ {pos : Pos}, PE X (.Dict [] [] pos) (fun _ H Q => ∀ p, H p = none → Q (.ref p) (upd H p (ob p [])))
  it : Addr → Obj → List T → It
  pi : ∀ {X : Cx}, CtxE G X → ∀ {tg e : Expr} {td : TE}, MonoE td → PE X e td → PI X tg e (fun σ H Q => td σ H fun x H1 => ∃ d o es, x = .ref d ∧ H1 d = some (.frz o (ob d es)) ∧ Q (it d o es) H1)
  src : ∀ {P : Hp → Hp → Prop} {d : Addr} {o : Obj} {es : List T} {ks : List κ}, Src P (it d o es) ks R (fun S => S d = some (.frz o (ob d es)) ∧ All2 (fun x t => kr x S t) ks es)

/-! ### keys that are whole numbers or texts -/
structure KyF {κ : Type} (R : Rel κ) (f : κ → Key) : Prop where
  at_ : ∀ {x : κ} {S : Hp} {v : V}, R.is x S v ↔ v = kV (f x)
  inj : ∀ {x y : κ}, f x = f y → x = y
theorem kyfS : KyF rStr Sum.inr := ⟨Iff.rfl, fun h => Sum.inr.inj h⟩
section
variable {κ : Type} [DecidableEq κ] {R : Rel κ} {f : κ → Key}
theorem flat_look (F : KyF R f) (k : κ) : ∀ {ks : List κ} {es : List (Key × V)}, All2 (fun x t => t.1 = f x) ks es → valV es (f k) = klook (·.2) ks es k
  | [], [], _ => by rw [klook_nil]; rfl
  | x :: ks, t :: es, ⟨h, q⟩ => by
    rw [klook_cons]
    by_cases e : x = k
    · rw [if_pos e, valV_pos (by rw [h, e])]
    · rw [if_neg e, valV_neg (by rw [h]; exact fun z => e (F.inj z)), flat_look F k q]
  | [], _ :: _, h => h.elim
  | _ :: _, [], h => h.elim
theorem flat_any (F : KyF R f) (k : κ) : ∀ {ks : List κ} {es : List (Key × V)}, All2 (fun x t => t.1 = f x) ks es → (es.any fun kv => decide (kv.1 = f k)) = ks.any fun x => decide (x = k)
  | [], [], _ => rfl
  | x :: ks, t :: es, ⟨h, q⟩ => by
    rw [List.any_cons, List.any_cons, flat_any F k q, h]
    congr 1
    by_cases e : x = k
    · simp [e]
    · rw [decide_eq_false e, decide_eq_false fun z => e (F.inj z)]
  | [], _ :: _, h => h.elim
  | _ :: _, [], h => h.elim
theorem flat_map (F : KyF R f) (k : κ) (v : V) : ∀ {ks : List κ} {es : List (Key × V)}, All2 (fun x t => t.1 = f x) ks es → (es.map fun kv => if kv.1 = f k then (kv.1, v) else kv) = (ks.zip es).map fun p => if p.1 = k then (p.2.1, v) else p.2
  | [], [], _ => rfl
  | x :: ks, t :: es, ⟨h, q⟩ => by
    rw [List.map_cons, List.zip_cons_cons, List.map_cons, flat_map F k v q]
    congr 1
    by_cases e : x = k
    · rw [if_pos (by rw [h, e]), if_pos e]
    · rw [if_neg (by rw [h]; exact fun z => e (F.inj z)), if_neg e]
  | [], _ :: _, h => h.elim
  | _ :: _, [], h => h.elim
theorem flat_put (F : KyF R f) {k : κ} {v : V} {ks : List κ} {es : List (Key × V)} (h : All2 (fun x t => t.1 = f x) ks es) : putK es (f k) v = kput (fun t v => (t.1, v)) (f k, v) ks es k v := by
  unfold putK kput
  rw [flat_any F k h, flat_map F k v h]
def kyF (G : Gx) (F : KyF R f) : Ky G κ where
  R := R
  T := Key × V
  val := (·.2)
  kr x _ t := t.1 = f x
  krm := fun _ h => h
  ob := fun _ es => .dK es
  mu := fun _ _ => trivial
  nt k _ v := (f k, v)
  mkv := fun _ _ _ => rfl
  mkr := fun _ => rfl
  rv t v := (t.1, v)
  rvv := fun _ _ => rfl
  rvr := fun h => h
  get := fun {X} C {o i pos td ty} md my ho hi hs => pe_wk (pe_dget (by have := C.hu; omega) ho hi hs) fun σ H Q _ q => md.h (fun x H1 q => my.h (fun y H2 ⟨a, es, ks, k, S, v, e1, e2, e3, e4, e5, e6, q⟩ =>
    ⟨a, v, e1, .inl ⟨es, f k, e2, F.at_.mp e5, by rw [← e6]; exact (flat_look F k e4).symm⟩, q⟩) q) q
  has := fun {X} C neg {o i td ty} md my hi ho => by
    cases neg with
    | false => exact pc_wk (pc_din (by have := C.hu; omega) hi ho) fun σ H Q _ q => my.h (fun y H1 q => md.h (fun x H2 ⟨a, es, ks, k, S, e1, e2, e3, e4, e5, q⟩ =>
        ⟨a, _, e1, .inl ⟨es, f k, e2, F.at_.mp e5, rfl⟩, by rw [flat_look F k e4]; simpa using q⟩) q) q
    | true => exact pc_wk (pc_dnotin (by have := C.hu; omega) hi ho) fun σ H Q _ q => my.h (fun y H1 q => md.h (fun x H2 ⟨a, es, ks, k, S, e1, e2, e3, e4, e5, q⟩ =>
        ⟨a, _, e1, .inl ⟨es, f k, e2, F.at_.mp e5, rfl⟩, by rw [flat_look F k e4]; simpa using q⟩) q) q
  get2 := fun {X} C {o e f' apos cpos td ty tx} md my mx ho he hf m => pe_wk (pe_dget2 (by have := C.hu; omega) ho he hf m) fun σ H Q _ q => md.h (fun x H1 ⟨a, es0, ks0, S0, e1, e2, _, _, q⟩ =>
    ⟨a, e1, .inl ⟨es0, e2⟩, my.h (fun y H2 q => mx.h (fun z H3 ⟨es, ks, k, S, f1, f2, f3, f4, q⟩ => ⟨_, .inl ⟨es, f k, f1, F.at_.mp f4, rfl⟩, by rw [flat_look F k f3]; exact q⟩) q) q⟩) q
  put := fun {X} C {o i value pos pos' td ty tv} md my mv ho hi hv hs => ps_wk (ps_dput (by have := C.hu; omega) ho hi hv hs) fun D σ H _ q => mv.h (fun v H1 q => md.h (fun x H2 q => my.h (fun y H3 ⟨a, es, ks, k, S, e1, e2, e3, e4, e5, e6, q⟩ =>
    ⟨a, _, e1, .inl ⟨es, f k, e2, F.at_.mp e5, e6, rfl⟩, by rw [flat_put F e4]; exact q⟩) q) q) q
  aug := fun {X} C {o i value op rd pos pos' td ty tv} md my mv mr ho hi hv hop ha => ps_wk (ps_daug (by have := C.hu; omega) ho hi hv hop ha) fun D σ H _ q => md.h (fun x H1 q => my.h (fun y H2 ⟨a, es, ks, k, S, v, e1, e2, e3, e4, e5, e6, q⟩ =>
    ⟨a, v, e1, .inl ⟨es, f k, .inl e2, F.at_.mp e5, by rw [← e6]; exact (flat_look F k e4).symm⟩, mv.h (fun y2 H3 q => mr _ _ _ (fun z H4 ⟨es, ks, S, f1, f2, f3, f4, f5, q⟩ =>
      ⟨_, .inl ⟨es, f k, f1, F.at_.mp f4, f5, rfl⟩, by rw [flat_put F f3]; exact q⟩) q) q⟩) q) q
  nw := fun C {pos} => pe_dnewK
  it := Itk
  pi := fun {X} C {tg e td} md he => pi_wk (pi_keys he) fun σ H Q q => md.h (fun x H1 ⟨d, o, es, e1, e2, q⟩ => ⟨d, o, e1, .inl ⟨es, e2, q⟩⟩) q
  src := {
    mono := fun s ⟨e, q⟩ => ⟨s _ _ e, q⟩
    go := fun {i S H} s _ ⟨e, q⟩ hi => ⟨s _ _ e, by rw [← q.length]; exact hi⟩
    yl := fun {i S H H' x y} s _ ⟨e, q⟩ hy ⟨e1, k, v, e2, e3⟩ => .inl ⟨e1, by
      obtain ⟨t, h1, h2⟩ := q.get hy
      rw [e2] at h1; cases h1
      exact F.at_.mpr (by rw [e3]; exact congrArg kV h2)⟩
    st := fun s _ ⟨e, q⟩ => ⟨s _ _ e, by rw [q.length]; exact Nat.le_refl _⟩ }
end

/-! ### keys that are tuples -/
section
open PySem.Spec PyProof.Rows
variable {X : Cx} {o i e value : Expr} {pos pos' tpos : Pos} {td ty tv : TE}
end
section
variable {κ : Type} [DecidableEq κ] {R : Rel κ} {D : DatR R}
end
end Zk

namespace Zk
open PySem L2

section
variable {τ α β γ δ κ ρ ι θ υ : Type} {G : Gx} {c : Sc} {E : Eff τ} {W : WX} {Γ Γ' : Env} {B : Bs} {σ : St} {S S1 S' H H' : Hp} {b b' : τ} {L : Ls κ ρ}
theorem CtxOk.e {X : Cx} (C : CtxOk G c W X) : CtxE G X := ⟨C.prog, C.w, C.K, C.room.units, C.calm⟩
/-! ### what a dict tells -/
section
variable [DecidableEq ι]
def DRel (K : Ky G ι) (R2 : Rel α) (S : Hp) (xs : List (ι × α)) (es : List K.T) : Prop := All2 (fun x t => K.kr x.1 S t ∧ R2.is x.2 S (K.val t)) xs es
variable {K : Ky G ι} {R2 : Rel α}
theorem DRel.mono (s : Same S S') {xs : List (ι × α)} {es : List K.T} (h : DRel K R2 S xs es) : DRel K R2 S' xs es := h.imp fun x t ⟨h1, h2⟩ => ⟨K.krm s h1, R2.mono s h2⟩
theorem DRel.keys : ∀ {xs : List (ι × α)} {es : List K.T}, DRel K R2 S xs es → All2 (fun x t => K.kr x S t) (xs.map (·.1)) es
  | [], [], _ => trivial
  | _ :: _, _ :: _, ⟨h, q⟩ => ⟨h.1, DRel.keys q⟩
  | [], _ :: _, h => h.elim
  | _ :: _, [], h => h.elim
theorem dlook_cons {x : ι × α} {xs : List (ι × α)} {k : ι} : dlook (x :: xs) k = if x.1 = k then some x.2 else dlook xs k := by
  unfold dlook
  rw [List.find?_cons]
  by_cases h : x.1 = k
  · simp [h]
  · simp [h]
theorem DRel.look {k : ι} : ∀ {xs : List (ι × α)} {es : List K.T}, DRel K R2 S xs es → match dlook xs k with | some y => ∃ v, klook K.val (xs.map (·.1)) es k = some v ∧ R2.is y S v | none => klook K.val (xs.map (·.1)) es k = none
  | [], [], _ => klook_nil
  | x :: xs, t :: es, ⟨h, q⟩ => by
    have ih := DRel.look (k := k) q
    rw [dlook_cons, List.map_cons, klook_cons]
    by_cases e : x.1 = k
    · rw [if_pos e, if_pos e]; exact ⟨_, rfl, h.2⟩
    · rw [if_neg e, if_neg e]; exact ih
  | [], _ :: _, h => h.elim
  | _ :: _, [], h => h.elim
theorem DRel.isSome {k : ι} {xs : List (ι × α)} {es : List K.T} (h : DRel K R2 S xs es) : (klook K.val (xs.map (·.1)) es k).isSome = (dlook xs k).isSome := by
  have := h.look (k := k)
  cases e : dlook xs k with
  | none => rw [e] at this; rw [this]; rfl
  | some y => rw [e] at this; obtain ⟨v, h1, _⟩ := this; rw [h1]; rfl
theorem DRel.repl {k : ι} {y : α} {v : V} (r : R2.is y S v) : ∀ {xs : List (ι × α)} {es : List K.T}, DRel K R2 S xs es → DRel K R2 S (xs.map fun p => if p.1 = k then (p.1, y) else p) (((xs.map (·.1)).zip es).map fun p => if p.1 = k then K.rv p.2 v else p.2)
  | [], [], _ => trivial
  | x :: xs, t :: es, ⟨h, q⟩ => by
    rw [List.map_cons, List.map_cons, List.zip_cons_cons, List.map_cons]
    refine ⟨?_, DRel.repl r q⟩
    by_cases e : x.1 = k
    · rw [if_pos e, if_pos e]; exact ⟨K.rvr h.1, by rw [K.rvv]; exact r⟩
    · rw [if_neg e, if_neg e]; exact h
  | [], _ :: _, h => h.elim
  | _ :: _, [], h => h.elim
theorem DRel.put {k : ι} {y : α} {v kv : V} {xs : List (ι × α)} {es : List K.T} (h : DRel K R2 S xs es) (hk : K.R.is k S kv) (r : R2.is y S v) : DRel K R2 S (dput xs k y) (kput K.rv (K.nt k kv v) (xs.map (·.1)) es k v) := by
  unfold dput kput
  have e : ((xs.map (·.1)).any fun x => decide (x = k)) = xs.any fun p => decide (p.1 = k) := by rw [List.any_map]; rfl
  rw [e]
  split
  · exact h.repl r
  · exact All2.append h ⟨⟨K.mkr hk, by rw [K.mkv]; exact r⟩, trivial⟩
/-- a dict that stays as it is -/
def rDct (K : Ky G ι) (R2 : Rel α) : Rel (List (ι × α)) := ⟨fun xs S v => ∃ a o es, v = .ref a ∧ S a = some (.frz o (K.ob a es)) ∧ DRel K R2 S xs es, fun s ⟨a, o, es, e, h, q⟩ => ⟨a, o, es, e, s _ _ h, q.mono s⟩⟩
def ownD (K : Ky G ι) (R2 : Rel α) (xs : List (ι × α)) : PrO := ⟨fun S H v F => ∃ l es, v = .ref l ∧ (∀ a, F a ↔ a = l) ∧ H l = some (K.ob l es) ∧ DRel K R2 S xs es, fun s k ⟨l, es, e, f, h, q⟩ => ⟨l, es, e, f, k _ _ ((f l).mpr rfl) h, q.mono s⟩⟩
/-! ### reading -/
variable {eo ei ed : Expr} {pos : Pos}
/-! ### new ones -/
theorem zf_dnew : ZF G c E W Γ (.Dict [] [] pos) (ret ([] : List (ι × α))) (ownD K R2) := fun X C => pe_wk (K.nw C.e) fun σ H Q _ ⟨B, S, b, hh, q⟩ p hp =>
  aftF_new hh q hp ⟨p, [], rfl, fun _ => Iff.rfl, upd_same, trivial⟩
/-! ### what is in ghost slots -/
theorem Hold.gh {g : Nat} {p : PrO} (h : Hold E B Γ b σ S H) (hg : Γ[g]? = some (.gh p)) : ∃ F, p.p S H .non F ∧ ∀ a, F a → S a = none ∧ ∃ o, H a = some o := by
  obtain ⟨Fs, hF, hs⟩ := h.sl
  exact ⟨Fs g, hs g _ hg, fun a ha => ⟨(hF.at_ g a ha).1, (hF.at_ g a ha).2.2.2⟩⟩
variable {g : Nat} {l : Addr} {xs : List (ι × α)}
end
end
end Zk

namespace Zk
open PySem L2

section
variable {τ α β γ δ κ ρ ι θ υ : Type} {G : Gx} {c : Sc} {E : Eff τ} {W : WX} {Γ Γ' : Env} {B : Bs} {σ : St} {S S1 S' H H' : Hp} {b b' : τ} {L : Ls κ ρ}
/-! ### room for ghosts -/
/-! ### a dict becomes stable -/
theorem pe_frz {X : Cx} {e : Expr} {t : TE} (h : PE X e t) : PE X e (fun σ H Q => t σ H fun v H1 => ∃ d u, H1 d = some u ∧ Mut (some u) ∧ ∀ od, Q v (upd H1 d (.frz od u))) :=
  ⟨fun pins s σ H Q I h1 => thn (h.run pins s σ H _ I h1) fun u s1 ⟨x, H1, I1, r, d, o, hd, mu, q⟩ => by
    obtain ⟨od, I2⟩ := I1.lock hd mu
    exact ⟨x, _, I2, r, q od⟩⟩
section
variable [DecidableEq ι] {K : Ky G ι} {R2 : Rel α} {l : Addr} {xs : List (ι × α)}
/-- a new dict, stable at once -/
theorem z_dict {e : Expr} {m : M τ (List (ι × α))} (h : ZF G c E W Γ e m (ownD K R2)) : ZE G c E W Γ e m (rDct K R2) := fun X C => pe_wk (pe_frz (h X C)) fun σ H Q _ ⟨B, S, b, hh, q⟩ => by
  refine ⟨B, S, b, hh, ?_⟩
  cases e : m b with
  | stuck => rw [e] at q; exact q
  | exc x b1 => rw [e] at q; exact q
  | ok xs b1 =>
    rw [e] at q
    intro v S' H1 H' F s' h1 hF hk ⟨l, es, e1, f, e2, e3⟩
    subst e1
    refine ⟨l, _, e2, K.mu _ _, fun od => ?_⟩
    have hl := hF l ((f l).mpr rfl)
    have he : upd H' l (.frz od (K.ob l es)) = upd H1 l (.frz od (K.ob l es)) := by
      funext a
      by_cases ha : a = l
      · subst ha; rw [upd_same, upd_same]
      · rw [upd_ne ha, upd_ne ha, hk a fun z => ha ((f a).mp z)]
    rw [he]
    have hS : S' l = none := h1.same.free hl.1
    exact q _ (upd S' l (.frz od (K.ob l es))) _ (s'.trans (same_new hS)) (h1.new hl.1) ⟨l, od, es, rfl, upd_same, e3.mono (same_new hS)⟩
/-! ### d[k] += e -/
variable {g : Nat} {eo ei : Expr} {pos : Pos}
structure AugOp (op : Operator) (f : Int → Int → Int) (rd : V → V → Hp → VK → Prop) : Prop where
  ip : ∀ X : Cx, InOp X op rd
  mono : ∀ x y H, ∀ {Q Q' : VK}, (∀ v H, Q v H → Q' v H) → rd x y H Q → rd x y H Q'
  go : ∀ x y H (Q : VK), Q (.int (f x y)) H → rd (.int x) (.int y) H Q
end
end
end Zk

namespace Zk
open PySem L2

theorem nodup_map {T U : Type} {g : T → U} (h : ∀ a b, g a = g b → a = b) : ∀ {l : List T}, l.Nodup → (l.map g).Nodup
  | [], _ => List.nodup_nil
  | a :: l, n => by
    rw [List.nodup_cons] at n
    rw [List.map_cons, List.nodup_cons]
    exact ⟨fun z => by obtain ⟨b, hb, e⟩ := List.mem_map.mp z; exact n.1 (h _ _ e ▸ hb), nodup_map h n.2⟩
section
variable {τ α β γ δ κ ρ ι θ υ : Type} {G : Gx} {c : Sc} {E : Eff τ} {W : WX} {Γ Γ' : Env} {B : Bs} {σ : St} {S S1 S' H H' : Hp} {b b' : τ} {L : Ls κ ρ}
section
variable [DecidableEq ι] {R : Rel ι} {f : ι → Key} {R2 : Rel α} {e : Expr} {x : Str} {p pos : Pos}
theorem dct_flat {F : KyF R f} {xs : List (ι × α)} {v : V} (h : (rDct (kyF G F) R2).is xs S v) : ∃ (a : Addr) (o : Obj) (es : List (Key × V)), v = .ref a ∧ S a = some (.frz o (.dK es)) ∧ DRel (kyF G F) R2 S xs es := h
/-! ### dicts compared, whose keys stand alike -/
variable {ea eb : Expr}
end
/-! ### records: dicts with names as keys -/
def rRec (ks : List Str) (A : α → List Pr) : Rel α := ⟨fun x S v => ∃ a o es, v = .ref a ∧ S a = some (.frz o (.dK es)) ∧ es.map (·.1) = ks.map Sum.inr ∧ All2 (fun (p : Pr) (t : Key × V) => p.p S t.2) (A x) es,
  fun s ⟨a, o, es, e, h, k, q⟩ => ⟨a, o, es, e, s _ _ h, k, q.imp fun p t h => p.mono s h⟩⟩
def zkGo (E : Eff τ) (B : Bs) (Γ : Env) (σ : St) (S : Hp) (D : Addr) (o : HO) (A : α → List Pr) (Q : List V → Hp → Prop) : Out τ α → Prop
  | .ok x b' => ∀ S' H' us, Same S S' → Hold E (Bd B D o) Γ b' σ S' H' → All2 (fun (p : Pr) v => p.p S' v) (A x) us → Q us H'
  | _ => False
theorem zkGo.same {D : Addr} {o : HO} {A : α → List Pr} {Q : List V → Hp → Prop} (s : Same S S1) : ∀ {t : Out τ α}, zkGo E B Γ σ S D o A Q t → zkGo E B Γ σ S1 D o A Q t
  | .ok _ _, h => fun S' H' us s2 => h S' H' us (s.trans s2)
  | .exc _ _, h => h
  | .stuck, h => h
def ZK (G : Gx) (c : Sc) (E : Eff τ) (W : WX) (Γ : Env) (pos : Pos) (ks : List Str) (keys : List (Option Expr)) (vs : List Expr) (m : M τ α) (A : α → List Pr) : Prop := ∀ X, CtxOk G c W X → ∃ trs, PPs X pos keys vs trs ∧ ∀ σ H B D o S b Q Q', Hold E (Bd B D o) Γ b σ S H → zkGo E B Γ σ S D o A Q (m b) → (∀ us H', us.length = ks.length → Q us H' → Q' ((ks.map V.str).zip us) H') → tPairs trs σ H Q'
theorem zk_one {k : Str} {jj : Nat} {pk pos : Pos} {e : Expr} {m : M τ α} {R : Rel α} (h : ZE G c E W Γ e m R) : ZK G c E W Γ pos [k] [some (.Constant (.str k) jj pk)] [e] (nox m) (fun x => [R.pr x]) := fun X C => ⟨_, pps_cons pe_str (h X C) pps_nil, fun σ H B D o S b Q Q' hh q w => by
  refine ⟨Bd B D o, S, b, hh, ?_⟩
  unfold nox at q
  cases e : m b with
  | stuck => rw [e] at q; exact q.elim
  | exc x b1 => rw [e] at q; exact q.elim
  | ok x b1 => rw [e] at q; exact fun v S' H' s' h' r => w [v] H' rfl (q S' H' [v] s' h' ⟨r, trivial⟩)⟩
theorem mergeK_nodup : ∀ {more acc : List (Key × V)}, ((acc ++ more).map (·.1)).Nodup → mergeK acc more = acc ++ more
  | [], acc, _ => by simp [mergeK]
  | t :: more, acc, h => by
    have hn : ¬ (acc.any fun kv => decide (kv.1 = t.1)) = true := fun z => by
      obtain ⟨p, hp, e⟩ := List.any_eq_true.mp z
      rw [List.map_append, List.nodup_append] at h
      exact h.2.2 p.1 (List.mem_map.mpr ⟨p, hp, rfl⟩) t.1 (by simp) (of_decide_eq_true e)
    have e : putK acc t.1 t.2 = acc ++ [t] := by unfold putK; rw [if_neg hn]
    show mergeK (putK acc t.1 t.2) more = _
    rw [e, mergeK_nodup (by rw [List.append_assoc]; exact h), List.append_assoc]; rfl
theorem zip_keys : ∀ {ks : List Str} {us : List V}, us.length = ks.length → ((ks.map (Sum.inr : Str → Key)).zip us).map (·.1) = ks.map Sum.inr ∧ ((ks.map (Sum.inr : Str → Key)).zip us).map (fun kv => (kV kv.1, kv.2)) = (ks.map V.str).zip us ∧ ((ks.map (Sum.inr : Str → Key)).zip us).map (·.2) = us
  | [], [], _ => ⟨rfl, rfl, rfl⟩
  | k :: ks, u :: us, h => by
    obtain ⟨h1, h2, h3⟩ := zip_keys (ks := ks) (us := us) (by simpa using h)
    refine ⟨?_, ?_, ?_⟩
    · rw [List.map_cons, List.zip_cons_cons, List.map_cons, h1]
    · rw [List.map_cons, List.zip_cons_cons, List.map_cons, h2]; rfl
    · rw [List.map_cons, List.zip_cons_cons, List.map_cons, h3]
  | [], _ :: _, h => by simp at h
  | _ :: _, [], h => by simp at h
theorem all2_snd {A : List Pr} {S : Hp} : ∀ {es : List (Key × V)}, All2 (fun (p : Pr) v => p.p S v) A (es.map (·.2)) → All2 (fun (p : Pr) (t : Key × V) => p.p S t.2) A es := by
  induction A with
  | nil => intro es h; cases es with
    | nil => trivial
    | cons t es => exact h.elim
  | cons p A ih => intro es h; cases es with
    | nil => exact h.elim
    | cons t es => exact ⟨h.1, ih h.2⟩
def NoX (m : M τ α) : Prop := ∀ b x b', m b ≠ .exc x b'
theorem nx_nox {m : M τ α} : NoX (nox m) := fun b x b' h => by
  unfold nox at h
  cases e : m b with
  | ok a b1 => rw [e] at h; cases h
  | exc y b1 => rw [e] at h; cases h
  | stuck => rw [e] at h; cases h
theorem z_rec {pos : Pos} {ks : List Str} {keys : List (Option Expr)} {vs : List Expr} {m : M τ α} {A : α → List Pr} (h : ZK G c E W Γ pos ks keys vs m A) (nx : NoX m) (hall : keys.all (·.isSome) = true) (hl : keys.length = vs.length) (h0 : keys ≠ []) (h15 : keys.length ≤ 15) (hk : ks.length ≤ 15) (nd : ks.Nodup) : ZE G c E W Γ (.Dict keys vs pos) m (rRec ks A) := fun X C => by
  obtain ⟨trs, p, go⟩ := h X C
  refine pe_wk (pe_frz (pe_disp p hall hl h0 h15)) fun σ H Q _ ⟨B, S, b, hh, q⟩ D hD => ?_
  have hE := hh.fr hD
  have hS : S D = none := hh.same.free hD
  have hBS : B.S D = none := hh.kp.up.free hS
  have hBH : B.H D = none := by
    cases z : B.H D with
    | none => rfl
    | some o => have := (hh.kp.kp D o hBS z hE).2; rw [hD] at this; cases this
  refine go σ _ B D (.dK []) S b (fun us H' => H' D = some (.dK []) ∧ (us.length = ks.length → ∀ od, Q (.ref D) (upd (upd H' D (.dK (mergeK [] ((ks.map Sum.inr).zip us)))) D (.frz od (.dK ((ks.map Sum.inr).zip us)))))) _ (hh.cell0 hD) ?_ fun us H' hlen ⟨h1, h2⟩ => ?_
  · cases e : m b with
    | stuck => rw [e] at q; exact q.elim
    | exc x b1 => exact absurd e (nx _ _ _)
    | ok x b1 =>
      rw [e] at q
      intro S' H' us s' h' r
      obtain ⟨k1, k2⟩ := h'.cellAt hBS hE
      refine ⟨k2, fun hlen od => ?_⟩
      have h2 := (h'.cellOff hBS hBH hE).new (o := .frz od (.dK ((ks.map Sum.inr).zip us))) (p := D) del_same
      have e2 : upd (del H' D) D (.frz od (.dK ((ks.map Sum.inr).zip us))) = upd (upd H' D (.dK (mergeK [] ((ks.map Sum.inr).zip us)))) D (.frz od (.dK ((ks.map Sum.inr).zip us))) := by
        funext a
        by_cases ha : a = D
        · subst ha; rw [upd_same, upd_same]
        · rw [upd_ne ha, upd_ne ha, upd_ne ha, del_ne ha]
      rw [e2] at h2
      obtain ⟨z1, z2, z3⟩ := zip_keys hlen
      exact q _ _ _ (s'.trans (same_new k1)) h2 ⟨D, od, _, rfl, upd_same, z1, all2_snd (by rw [z3]; exact r.imp fun p v h => p.mono (same_new k1) h)⟩
  · obtain ⟨z1, z2, z3⟩ := zip_keys hlen
    have nd' : ((([] : List (Key × V)) ++ (ks.map (Sum.inr : Str → Key)).zip us).map (fun t : Key × V => t.1)).Nodup := by rw [List.nil_append, z1]; exact nodup_map (fun _ _ z => Sum.inr.inj z) nd
    refine ⟨h1, (ks.map (Sum.inr : Str → Key)).zip us, z2.symm, by rw [List.length_zip]; have := Nat.min_le_left (ks.map (Sum.inr : Str → Key)).length us.length; rw [List.length_map] at this; rw [List.length_map]; omega, D, .dK ((ks.map Sum.inr).zip us), by rw [upd_same, mergeK_nodup nd', List.nil_append], trivial, fun od => h2 hlen od⟩
end
end Zk

namespace Zk
open PySem L2

section
variable {τ α β γ δ κ ρ ι θ υ : Type} {G : Gx} {c : Sc} {E : Eff τ} {W : WX} {Γ Γ' : Env} {B : Bs} {σ : St} {S S1 S' H H' : Hp} {b b' : τ} {L : Ls κ ρ}
/-! ### dict comprehensions -/
section
variable [DecidableEq ι] {Rk : Rel ι} {fk : ι → Key} {F : KyF Rk fk}
def dcEnd (F : KyF Rk fk) (G : Gx) (E : Eff τ) (B : Bs) (Γ : Env) (σ : St) (S : Hp) (R' : Rel γ) (Q : VK) : Out τ (List (ι × γ)) → Prop
  | .ok ys b' => ∀ D S' H' us, Same S S' → Hold E (Bd B D (.dK us)) Γ b' σ S' H' → B.S D = none → B.H D = none → ¬ E.own D → DRel (kyF G F) R' S' ys us → Q (.ref D) H'
  | _ => False
theorem dcEnd.same {R' : Rel γ} {Q : VK} (s : Same S S1) : ∀ {o : Out τ (List (ι × γ))}, dcEnd F G E B Γ σ S R' Q o → dcEnd F G E B Γ σ S1 R' Q o
  | .ok _ _, h => fun D S' H' us s2 => h D S' H' us (s.trans s2)
  | .exc _ _, h => h
  | .stuck, h => h
/-- a dict comprehension's parts -/
structure Dcm (F : KyF Rk fk) (G : Gx) (c : Sc) (E : Eff τ) (W : WX) (Γ : Env) (kx elt tg iter : Expr) (ifs : List Expr) (scope : Scope) (own : List (Str × Nat)) (m : M τ (List β)) (t : β → M τ Bool) (kf : β → M τ ι) (f : β → M τ γ) (R : Rel β) (R' : Rel γ) (Γ1 : β → Env) : Prop where
  ok : BlkOk c.N c.sc scope own
  hi : ZI G c E W Γ tg iter m R
  hg : ZG G (c.blk scope) E Wf (wipeE Γ (own.map (·.2))) (own.map (·.2)) tg Γ1 R
  ht : ∀ x, ZTs G (c.blk scope) E Wf (Γ1 x) ifs (t x)
  hk : ∀ x, ZE G (c.blk scope) E Wf (Γ1 x) kx (kf x) Rk
  he : ∀ x, ZE G (c.blk scope) E Wf (Γ1 x) elt (f x) R'
  no : ∀ (i : Nat) s, Γ[i]? = some s → s = .no ∨ i ∉ own.map (·.2)
  fs : ∀ (env : PySem.Env) x, foldedSetIterable iter env x = pure x
end
end
end Zk

namespace Zk
open PySem L2

section
variable {τ α β γ δ κ ρ ρ' ι θ υ : Type} {G : Gx} {c : Sc} {E : Eff τ} {W : WX} {Γ Γ' : Env} {B : Bs} {σ σ' : St} {S S1 S' H H' : Hp} {b b' : τ} {L : Ls κ ρ}
/-! ### defs that change what is in ghost slots -/
abbrev ghs (gs : List PrO) : Env := gs.map Sl.gh
theorem ghs_get {gs : List PrO} {i : Nat} {s : Sl} (h : (ghs gs)[i]? = some s) : ∃ p, gs[i]? = some p ∧ s = .gh p := by
  rw [List.getElem?_map] at h
  obtain ⟨p, h1, h2⟩ := Option.map_eq_some_iff.mp h
  exact ⟨p, h1, h2.symm⟩
theorem Hold.front {front : Env} {gs : List PrO} (h : Hold E B (ghs gs) b σ' S H) (hf : ∀ (i : Nat) s, front[i]? = some s → slOk S H (σ[i]?.join) (fun _ => False) s) : Hold E B (front ++ ghs gs) b σ S H := by
  obtain ⟨Fs, hF, hs⟩ := h.sl
  refine ⟨h.kp, h.ef, fun i a => front.length ≤ i ∧ Fs (i - front.length) a, ⟨fun i a e => hF.at_ _ a e.2, fun i j a e1 e2 => ?_⟩, fun i s e => ?_⟩
  · have := hF.ds _ _ a e1.2 e2.2
    have h1 := e1.1; have h2 := e2.1; omega
  · by_cases hi : i < front.length
    · rw [List.getElem?_append_left hi] at e
      have ef : (fun a => front.length ≤ i ∧ Fs (i - front.length) a) = fun _ => False := funext fun a => propext ⟨fun z => by have := z.1; omega, fun z => z.elim⟩
      show slOk S H (σ[i]?.join) (fun a => front.length ≤ i ∧ Fs (i - front.length) a) s
      rw [ef]; exact hf i s e
    · rw [List.getElem?_append_right (by omega)] at e
      obtain ⟨p, e1, rfl⟩ := ghs_get e
      have ef : (fun a => front.length ≤ i ∧ Fs (i - front.length) a) = Fs (i - front.length) := funext fun a => propext ⟨fun z => z.2, fun z => ⟨by omega, z⟩⟩
      show p.p S H .non (fun a => front.length ≤ i ∧ Fs (i - front.length) a)
      rw [ef]; exact hs _ _ e
theorem Hold.back {front : Env} {gs : List PrO} (h : Hold E B (front ++ ghs gs) b σ S H) (σ' : St) : Hold E B (ghs gs) b σ' S H := by
  obtain ⟨Fs, hF, hs⟩ := h.sl
  refine ⟨h.kp, h.ef, fun i a => Fs (front.length + i) a, ⟨fun i a e => hF.at_ _ a e, fun i j a e1 e2 => by have := hF.ds _ _ a e1 e2; omega⟩, fun i s e => ?_⟩
  obtain ⟨p, e1, rfl⟩ := ghs_get e
  have := hs (front.length + i) (.gh p) (by rw [List.getElem?_append_right (by omega), Nat.add_sub_cancel_left]; exact e)
  exact this
open Classical in
end
end Zk

namespace Zk
open PySem L2

section
variable {τ α β γ δ κ ρ ρ' ι θ υ : Type} {G : Gx} {c : Sc} {E : Eff τ} {W : WX} {Γ Γ' : Env} {B : Bs} {σ σ' : St} {S S1 S' H H' : Hp} {b b' : τ} {L : Ls κ ρ}
/-! ### a field that is a new dict -/
/-! ### an instance that is stable at the end of its __init__ -/
/-! ### None or a thing -/
structure NN (R : Rel α) : Prop where
  h : ∀ {x : α} {S : Hp} {v : V}, R.is x S v → v ≠ .non
section
variable {e : Expr} {m : M τ (Option α)} {R : Rel α} {pos : Pos} {j : Nat} {pp : Pos}
end
/-! ### how many a tuple of unlike things has -/
end
end Zk

namespace Zk
open PySem L2
open PySem.Spec

section
variable {τ α β γ δ κ ρ ρ' ι θ υ : Type} {G : Gx} {c : Sc} {E : Eff τ} {W : WX} {Γ Γ' : Env} {B : Bs} {σ σ' : St} {S S1 S' H H' : Hp} {b b' : τ} {L : Ls κ ρ}
variable [DecidableEq ι] {K : Ky G ι} {R2 : Rel α} {l : Addr} {xs : List (ι × α)}
end
end Zk

namespace Zk
open PySem L2

section
variable {τ α β γ δ κ ρ ρ' ι θ υ : Type} {G : Gx} {c : Sc} {E : Eff τ} {W : WX} {Γ Γ' : Env} {B : Bs} {σ σ' : St} {S S1 S' H H' : Hp} {b b' : τ} {L : Ls κ ρ}
section
variable {e : Expr} {m : M τ (Option α)} {R : Rel α} {pos : Pos} {j : Nat} {pp : Pos}
end
end
end Zk

namespace Zk
open PySem L2

section
variable {τ α β γ δ κ ρ ρ' ι θ υ : Type} {G : Gx} {c : Sc} {E : Eff τ} {W : WX} {Γ Γ' : Env} {B : Bs} {σ σ' : St} {S S1 S' H H' : Hp} {b b' : τ} {L : Ls κ ρ}
section
variable {ea eb e : Expr} {x : Str} {p pos : Pos}
/-! ### truths told apart by is; shown -/
/-! ### texts compared -/
/-! ### parts of rows: row[:2] + (e,) -/
/-! ### sorted of a dict's keys -/
end
/-! ### xs.insert(i, e) -/
end
end Zk

namespace Zk
open PySem L2 PyProof.Rows

section
variable {τ α β γ δ κ ρ ρ' ι θ υ : Type} {G : Gx} {c : Sc} {E : Eff τ} {W : WX} {Γ Γ' : Env} {B : Bs} {σ σ' : L2.St} {S S1 S' H H' : Hp} {b b' : τ} {L : Ls κ ρ}
end
end Zk

namespace Zk
open PySem L2

section
variable {τ α β γ δ κ ρ ρ' ι θ υ : Type} {G : Gx} {c : Sc} {E : Eff τ} {W : WX} {Γ Γ' : Env} {B : Bs} {σ σ' : St} {S S1 S' H H1 H' : Hp} {b b' : τ} {L : Ls κ ρ}
/-! ### what is fresh, kept by a ghost slot behind all others -/
def atV (P : PrO) (v : V) : PrO := ⟨fun S H _ F => P.p S H v F, fun s k h => P.mono s k h⟩
/-- it becomes a name's own -/
theorem Hold.ungh {P : PrO} {v : V} {i : Nat} (h : Hold E B (Γ ++ [.gh (atV P v)]) b σ S H) (hi : i < σ.length) : Hold E B (Γ.set i (.ow P)) b (σ.set i (some v)) S H := by
  obtain ⟨Fs, hFe, hs⟩ := id h.sl
  refine ⟨h.kp, h.ef, fun j a => (j ≠ i ∧ j < Γ.length ∧ Fs j a) ∨ (j = i ∧ Fs Γ.length a), ⟨fun j a e => ?_, fun j k a e1 e2 => ?_⟩, fun j s e => ?_⟩
  · rcases e with ⟨_, _, e⟩ | ⟨_, e⟩
    · exact hFe.at_ j a e
    · exact hFe.at_ _ a e
  · rcases e1 with ⟨n1, l1, e1⟩ | ⟨n1, e1⟩ <;> rcases e2 with ⟨n2, l2, e2⟩ | ⟨n2, e2⟩
    · exact hFe.ds j k a e1 e2
    · have := hFe.ds _ _ a e1 e2; omega
    · have := hFe.ds _ _ a e1 e2; omega
    · rw [n1, n2]
  · rcases set_get e with ⟨rfl, rfl⟩ | ⟨n, e⟩
    · have q := hs Γ.length (.gh (atV P v)) (by simp)
      refine ⟨v, ?_, ?_⟩
      · simp [hi]
      · have ef : (fun a => (j ≠ j ∧ j < Γ.length ∧ Fs j a) ∨ (j = j ∧ Fs Γ.length a)) = Fs Γ.length := funext fun a => propext ⟨fun z => z.elim (fun z => absurd rfl z.1) (·.2), fun z => .inr ⟨rfl, z⟩⟩
        show P.p S H v (fun a => (j ≠ j ∧ j < Γ.length ∧ Fs j a) ∨ (j = j ∧ Fs Γ.length a))
        rw [ef]; exact q
    · have hj := (List.getElem?_eq_some_iff.mp e).1
      have q := hs j s (by rw [List.getElem?_append_left hj]; exact e)
      have ef : (fun a => (j ≠ i ∧ j < Γ.length ∧ Fs j a) ∨ (j = i ∧ Fs Γ.length a)) = Fs j := funext fun a => propext ⟨fun z => z.elim (·.2.2) fun z => absurd z.1 n, fun z => .inl ⟨n, hj, z⟩⟩
      show slOk S H ((σ.set i (some v))[j]?.join) (fun a => (j ≠ i ∧ j < Γ.length ∧ Fs j a) ∨ (j = i ∧ Fs Γ.length a)) s
      rw [ef, List.getElem?_set_ne (fun z => n z.symm)]
      exact q
/-! ### defs that change what is in ghost slots: with an effect, and what they hand back -/
/-! ### calls of them -/
section
variable {g : Bool} {x : Str} {k : Nat} {ps : List Str} {A : θ → α → List Pr} {gs : θ → γ → List PrO} {R : Rel ρ'} {e : Expr} {es : List Expr} {m : M τ α} {p cpos pos : Pos} {q : θ} {idx : List Nat} {y : γ}
end
/-- what is known, written out -/
theorem zb_eq {Γ' : Env} {st : List Stmt} {m : M τ (Fl α κ ρ)} {Γn : α → Env} (h : Γ = Γ') (h1 : ZB G c E W L Γ' st m Γn) : ZB G c E W L Γ st m Γn := h ▸ h1
end
end Zk

namespace L2
open PySem PySem.Spec PyProof.Rows
section
variable {X : Cx}
end
end L2
namespace Zk
open PySem L2

section
variable {τ α β γ δ κ ρ ρ' ι θ υ : Type} {G : Gx} {c : Sc} {E : Eff τ} {W : WX} {Γ Γ' : Env} {B : Bs} {σ σ' : St} {S S1 S' H H1 H' : Hp} {b b' : τ} {L : Ls κ ρ}
/-! ### None or a thing: the thing -/
/-! ### zip -/
section
variable {e e2 : Expr} {elts : List Expr} {kk : Nat} {tpos p pos : Pos} {m : M τ (List α × List β)} {R : Rel α} {R2 : Rel β}
end
/-! ### how many a pair has -/
/-! ### if f(..) is None, where f changes own dicts -/
section
variable {Γ' : γ → Env} {R : Rel ρ'} {e : Expr} {a d : List Stmt} {m : M τ (Option ρ' × γ)} {n o : γ → M τ (Fl α κ ρ)} {Γn : α → Env} {pos pp pq : Pos} {j : Nat}
end
/-! ### sorted(d, reverse=True) -/
end
end Zk

namespace Zk
open PySem L2
/-! ### more keys -/
section
variable {τ α β γ δ κ ρ ι θ : Type} {G : Gx} {c : Sc} {E : Eff τ} {W : WX} {Γ Γ' : Env} {B : Bs} {σ : St} {S S1 S' H H' : Hp} {b b' : τ} {L : Ls κ ρ}
/-! ### xs.index(y) -/
/-! ### try, where nothing is raised -/
theorem CtxOk.nox {X : Cx} (C : CtxOk G c W X) : CtxOk G c Wf X.nox where
  prog := C.prog
  w := C.w
  K := C.K
  mg := C.mg
  base := C.base
  N := C.N
  nd := C.nd
  sc := C.sc
  calm := C.calm
  room := C.room
  gds := C.gds
  takes := takes0
  owns := PassesOwn.never
  fx := C.fx
  isfn := C.isfn
end
end Zk

namespace Zk
open PySem L2
/-! ### {k: v}, the key a tuple -/
section
variable {X : Cx} {k v : Expr} {pos : Pos} {tk tv : TE}
end
section
variable {τ α β γ δ κ ρ ι θ : Type} {G : Gx} {c : Sc} {E : Eff τ} {W : WX} {Γ Γ' : Env} {B : Bs} {σ : St} {S S1 S' H H' : Hp} {b b' : τ} {L : Ls κ ρ}
variable [DecidableEq ι] {R : Rel ι} {D : DatR R} {R2 : Rel α}
end
/-! ### more keys: standings -/
end Zk

namespace Zk
open PySem L2

section
variable {τ α β γ δ κ ρ ρ' ι θ υ β1 β2 : Type} {G : Gx} {c : Sc} {E : Eff τ} {W : WX} {Γ Γ' : Env} {B : Bs} {σ σ' : L2.St} {S S1 S' H H1 H' : Hp} {b b' : τ} {L : Ls κ ρ}
/-! ### less told of a thing -/
/-! ### a thing that two things of its own hang on -/
variable {Rr : Addr → Addr → Rel α} {P1 : Addr → β1 → PrO} {P2 : Addr → β2 → PrO}
/-! ### defs that hand back what is new -/
/-! ### calls of them -/
def tzOw (G : Gx) (E : Eff τ) (W : WX) (L : Ls κ ρ') (Γ : Env) (P : ρ → PrO) (m : M τ ρ) : TE := fun σ H Q => ∃ B S b, Hold E B Γ b σ S H ∧ (match m b with
  | .ok r b' => ∀ v S' H', Same S S' → Hold E B (Γ ++ [.gh (atV (P r) v)]) b' σ S' H' → Q v H'
  | .exc x b' => ∀ c d S' H', Hold E B L.x b' σ S' H' → XAt G x H' c d → W c d σ H'
  | .stuck => False)
def ZOw (G : Gx) (c : Sc) (E : Eff τ) (W : WX) (L : Ls κ ρ') (Γ : Env) (e : Expr) (m : M τ ρ) (P : ρ → PrO) : Prop := ∀ X, CtxOk G c W X → PE X e (tzOw G E W L Γ P m)
/-- x = f(..) -/
theorem zs_setOw {i : Nat} {x : Str} {e : Expr} {m : M τ ρ} {p pos : Pos} {P : ρ → PrO} {L : Ls κ ρ'} (n : Ns c i x) (h : ZOw G c E W L Γ e m P) (hs : NoSwap e := by intro _ _ _; rfl) : ZS G c E W L Γ (.Assign [.Name x p] e pos) (zset m : M τ (Fl ρ κ ρ')) (fun r => Γ.set i (.ow (P r))) := fun X C =>
  ps_wk (ps_set C.set_hN (C.hi n.n) (by rw [C.sc]; exact n.l) (h X C) (hs _ _ _) (C.hf n)) fun D σ H hl ⟨B, S, b, hh, q⟩ => by
    refine ⟨B, S, b, hh, ?_⟩
    unfold zset bnd at q
    cases e1 : m b with
    | stuck => rw [e1] at q; exact q.elim
    | exc z b1 => rw [e1] at q; exact fun c d S1 H1 h1 xa => q c d σ S1 H1 h1 xa
    | ok r b1 =>
      rw [e1] at q
      exact fun v S1 H1 s1 h1 => q _ S1 H1 s1 (h1.ungh (C.lt n.n hl))
end
end Zk

namespace Zk
open PySem L2

section
variable {τ α β γ δ κ ρ ι θ : Type} {G : Gx} {c : Sc} {E : Eff τ} {W : WX} {Γ Γ' : Env} {B : Bs} {σ : St} {S S1 S' H H' : Hp} {b b' : τ} {L : Ls κ ρ}
/-! ### xs.pop(), alone in its row -/
/-! ### xs or ys -/
end
end Zk

namespace Zk
open PySem L2 PySem.Spec PyProof.Rows
/-! ### sorted(d), d's keys tuples -/
section
variable {X : Cx} {β : Type}
/-! ### len(d) -/
end
section
variable {τ α β γ δ κ ρ ι θ : Type} {G : Gx} {c : Sc} {E : Eff τ} {W : WX} {Γ Γ' : Env} {B : Bs} {σ : L2.St} {S S1 S' H H' : Hp} {b b' : τ} {L : Ls κ ρ}
variable [DecidableEq ι] {R : Rel ι} {D : DatR R} {R2 : Rel α}
end
end Zk

namespace Zk
open PySem L2
/-! ### own __len__ -/
section
variable {prog : Program} {w : World} {A : Around} {Ex : Value → Shared → Prop} {s : Shared} {K : PySem.W.Frag} {x C f : Addr} {ox : Obj} {od : Option Obj}
end
variable {τ α β γ δ κ ρ ι θ : Type} {G : Gx} {c : Sc} {E : Eff τ} {W : WX} {Γ Γ' : Env} {B : Bs} {σ : L2.St} {S S1 S' H H' : Hp} {b b' : τ} {L : Ls κ ρ}
structure LnAt (g : Bool) (G : Gx) (C : Addr) (k : Nat) (ps : List Str) (sp : Sp) : Prop where
  ex : ∃ f fd, PySem.W.findIn G.K (.ref C) "__len__" = some (some (.ref f)) ∧ PySem.W.isFn G.K (.ref f) = true ∧ Binds G.K fd ps [] ∧ FnG g G.P G.w G.K G.mg G.base k f fd ps sp
/-! ### what hangs on a record becomes stable -/
end Zk

namespace Zk
open PySem L2 PyProof.Rows
/-! ### zip of any two things that are drawn from -/
/-- an iterator at it over l: what is known of a heap where i things are drawn; what is drawn -/
structure Drw (it l : Addr) (P : Heap → Nat → Prop) (get : Nat → Option Value) : Prop where
  item : ∀ {prog : Program} {w : World} {A : Around} {E : Value → Shared → Prop} {s : Shared} {i : Nat} {x : Value} {Q : Value → Shared → Prop}, P s.heap i → get i = some x → (∀ h', P h' (i + 1) → Heap.SameBut it s.heap h' → Q x { s with heap := h' }) → wpAny (model prog w) A (Builtin.SmallTypes.nextOf (.ref it)) Q E s
  stop : ∀ {prog : Program} {w : World} {A : Around} {E : Value → Shared → Prop} {s : Shared} {i : Nat} {Q : Value → Shared → Prop}, A.handled = none → P s.heap i → get i = none → (∀ h' e, Heap.ExtBut it s.heap h' → (∃ o, h'.get? e = some o ∧ o.cls = .type "StopIteration") → E (.ref e) { s with heap := h' }) → wpAny (model prog w) A (Builtin.SmallTypes.nextOf (.ref it)) Q E s
  keep : ∀ {h h' : Heap} {i : Nat}, P h i → (∀ o, h.get? it = some o → h'.get? it = some o) → (∀ o, h.get? l = some o → h'.get? l = some o) → P h' i
  lt : ∀ {h : Heap} {i : Nat}, P h i → it < h.objs.size
section
variable {prog : Program} {w : World} {A : Around} {E : Value → Shared → Prop} {s : Shared} {z TI TO i1 i2 l1 l2 : Addr} {k1 k2 : Nat} {P1 P2 : Heap → Nat → Prop} {g1 g2 : Nat → Option Value} {x y a b : Value}
end
/-! ### zip of a list and a tuple -/
/-! ### in a walk -/
section
variable {τ α β γ δ κ ρ ι θ : Type} {G : Gx} {c : Sc} {E : Eff τ} {W : WX} {Γ : Env}
variable {e e2 : Expr} {m : M τ (List α × List β)} {R : Rel α} {R2 : Rel β} {p pos tpos : Pos} {elts : List Expr} {kk : Nat}
end
end Zk

/-! ### a set of the names of a list: how many are apart -/
namespace Zk
open PySem L2 PySem.Spec PyProof.Rows
section
variable {prog : Program} {w : World} {A : Around} {R : Result → Shared → Prop} {I : Addr} {fp wr : List Addr} {G : Array GenState → Array GenState → Prop} {n : Nat} {P : Nat → Value → Prop} {St : Nat → Shared → Prop}
end
section
variable {prog : Program} {w : World} {A : Around} {E : Value → Shared → Prop} {s : Shared}
set_option maxHeartbeats 3200000 in
end
section
variable {τ : Type} {G : Gx} {c : Sc} {E : Eff τ} {W : WX} {Γ : Env}
end
end Zk

namespace Zk
open PySem L2
/-! ### try .. except X: return a constant -/
section
variable {τ α β γ δ κ ρ ι θ : Type} {G : Gx} {c : Sc} {E : Eff τ} {W : WX} {Γ Γ' : Env} {B : Bs} {σ : L2.St} {S S1 S' H H' : Hp} {b b' : τ} {L : Ls κ ρ}
theorem CtxOk.tr {X : Cx} (C : CtxOk G c W X) {W' : WX} {pn : List (Addr × Obj)} {xe : Value → Shared → Prop} (tk : Takes (X.tr pn xe) W') (ow : PassesOwn (model X.prog X.w) X.A X.env xe) : CtxOk G c W' (X.tr pn xe) where
  prog := C.prog
  w := C.w
  K := C.K
  mg := C.mg
  base := C.base
  N := C.N
  nd := C.nd
  sc := C.sc
  calm := C.calm
  room := C.room
  gds := C.gds
  takes := tk
  owns := ow
  fx := C.fx
  isfn := C.isfn
theorem cat_nil {C0 : Addr} : ∀ n b C', (fun _ : Str => (none : Option Bool)) n = some b → G.mg n = some (.ref C') → PySem.W.exmOne G.K (.ref C') (.ref C0) = some b := fun _ _ _ h => by cases h
theorem cat_cons {C0 D0 : Addr} {n0 : Str} {b0 : Bool} {cat : Str → Option Bool} (hg : G.mg n0 = some (.ref D0)) (hx : PySem.W.exmOne G.K (.ref D0) (.ref C0) = some b0) (h : ∀ n b C', cat n = some b → G.mg n = some (.ref C') → PySem.W.exmOne G.K (.ref C') (.ref C0) = some b) :
    ∀ n b C', (fun n => if n = n0 then some b0 else cat n) n = some b → G.mg n = some (.ref C') → PySem.W.exmOne G.K (.ref C') (.ref C0) = some b := fun n b C' e k => by
  dsimp only at e
  split at e
  · rename_i z
    subst z
    cases e
    rw [hg] at k
    cases k
    exact hx
  · exact h n b C' e k
end
end Zk

namespace Zk
open PySem L2
/-! ### defs with an argument that only a keyword tells -/
structure FnAtK (g : Bool) (G : Gx) (x : Str) (k n : Nat) (ps ks : List Str) (sp : Sp) (gV : List V → List V → List V) : Prop where
  ex : ∃ f fd gg, G.mg x = some (.ref f) ∧ PySem.W.keepIn G.K (.ref f) = true ∧ KBn G.K fd ps n ks gg gV ∧ FnG g G.P G.w G.K G.mg G.base k f fd ps sp
section
variable {X : Cx} {k n : Nat} {f : Addr} {fd : FuncData} {ps ks : List Str} {sp : Sp} {Ex : St → XK} {x : Str} {p pos : Pos} {e : Expr} {es : List Expr} {kws : List Keyword} {t tk : TA} {gg : List Value → List Value → List Value} {gV : List V → List V → List V} {g : Bool}
end
section
variable {τ α β γ δ κ ρ ι θ : Type} {G : Gx} {c : Sc} {E : Eff τ} {W : WX} {Γ Γ' : Env} {B : Bs} {σ : L2.St} {S S1 S' H H' : Hp} {b b' : τ} {L : Ls κ ρ}
end
end Zk

namespace Zk
open PySem L2
/-! ### x in xs, lists in lists -/
section
variable {τ α β γ δ κ ρ ι θ : Type} {G : Gx} {c : Sc} {E : Eff τ} {W : WX} {Γ Γ' : Env} {B : Bs} {σ : L2.St} {S S1 S' H H' : Hp} {b b' : τ} {L : Ls κ ρ}
variable {ea eb : Expr} {pos : Pos}
end
end Zk

namespace Zk
open PySem L2
section
variable {τ α β γ δ κ ρ ι θ : Type} {G : Gx} {c : Sc} {E : Eff τ} {W : WX} {Γ Γ' : Env} {B : Bs} {σ : L2.St} {S S1 S' H H' : Hp} {b b' : τ} {L : Ls κ ρ}
end
end Zk

namespace Zk
open PySem L2
/-! ### a thing of one of two kinds -/
section
variable {τ α β γ δ κ ρ ι θ : Type} {G : Gx} {c : Sc} {E : Eff τ} {W : WX} {Γ Γ' : Env} {B : Bs} {σ : St} {S S1 S' H H' : Hp} {b b' : τ} {L : Ls κ ρ}
/-! places of tuples, if there are such -/
structure TupAtP (R : Rel α) (k : Int) (f : α → Option β) (R2 : Rel β) : Prop where
  h : ∀ {x : α} {y : β} {S : Hp} {v : V}, R.is x S v → f x = some y → ∃ a vs u, v = .ref a ∧ S a = some (.tup vs) ∧ atI vs k = some u ∧ R2.is y S u
def mopt : Option α → M τ α
  | some x => ret x
  | none => stk
def zgetP (f : α → Option β) (m : M τ α) : M τ β := bnd m fun x => mopt (f x)
/-! as data -/
structure DatW (R : Rel α) where
  d : α → PyData
  n : Nat
  dep : ∀ x, (d x).depth ≤ n
  dp : ∀ {K : PySem.W.Frag} {x : α} {S H : Hp} {v : V}, Same S H → R.is x S v → Dp K H v (d x)
def DatR.w {R : Rel α} (D : DatR R) : DatW R := ⟨D.d, D.n, D.dep, D.dp⟩
section
variable {ea eb : Expr} {pos : Pos} {R1 : Rel α} {R2 : Rel β}
end
end
end Zk

namespace Zk
open PySem L2
/-! ### try .. except X as e, suites that read e and tell a thing -/
section
variable {τ α β γ δ κ ρ ι θ : Type} {G : Gx} {c : Sc} {E : Eff τ} {W : WX} {Γ Γ' : Env} {B : Bs} {σ : L2.St} {S S1 S' H H' : Hp} {b b' : τ} {L : Ls κ ρ}
/-- what stands at a suite's beginning: e (the name i) is the exception x -/
structure Su (G : Gx) (E : Eff τ) (Γ : Env) (i : Nat) (a : Addr) (cls : Value) (d : Option Addr) (x : Exc) (B : Bs) (S : Hp) (b : τ) (σ : L2.St) (H : Hp) : Prop where
  hh : Hold E B Γ b σ S H
  xa : XAt G x H cls d
  nm : i = 999999 ∨ σ[i]? = some (some (.ref a))
structure SuC (G : Gx) (c : Sc) (W : WX) (X X' : Cx) (a : Addr) (oe : Obj) (cls : Value) (d : Option Addr) : Prop where
  C : CtxOk G c W X
  zc : Zc cls d oe
  fl : ∃ vs, oe.data = .fields vs
  pn : ∃ pn, X' = X.suite a ((a, oe) :: pn)
/-- a scalar of e -/
def HA (G : Gx) (c : Sc) (E : Eff τ) (W : WX) (Γ : Env) (i : Nat) (e : Expr) (f : Exc → Option β) (v : β → V) : Prop :=
  ∀ X X' a oe cls d, SuC G c W X X' a oe cls d → PE X' e (fun σ H Q => ∃ B S b x y, Su G E Γ i a cls d x B S b σ H ∧ f x = some y ∧ Q (v y) H)
def HAs (G : Gx) (c : Sc) (E : Eff τ) (W : WX) (Γ : Env) (i : Nat) (es : List Expr) (f : Exc → Option (List V)) : Prop :=
  ∀ X X' a oe cls d, SuC G c W X X' a oe cls d → PA X' es (fun σ H Q => ∃ B S b x y, Su G E Γ i a cls d x B S b σ H ∧ f x = some y ∧ Q y H)
/-- a thing made of e -/
def HE (G : Gx) (c : Sc) (E : Eff τ) (W : WX) (Γ : Env) (i : Nat) (e : Expr) (f : Exc → Option β) (R : Rel β) : Prop :=
  ∀ X X' a oe cls d, SuC G c W X X' a oe cls d → PE X' e (fun σ H Q => ∃ B S b x y, Su G E Γ i a cls d x B S b σ H ∧ f x = some y ∧ ∀ v S1 H1, Same S S1 → Hold E B Γ b σ S1 H1 → XAt G x H1 cls d → R.is y S1 v → Q v H1)
/-- a test -/
def HT (G : Gx) (c : Sc) (E : Eff τ) (W : WX) (Γ : Env) (i : Nat) (e : Expr) (f : Exc → Option Bool) : Prop :=
  ∀ X X' a oe cls d, SuC G c W X X' a oe cls d → PT X' e (fun σ H Q => ∃ B S b x y, Su G E Γ i a cls d x B S b σ H ∧ f x = some y ∧ ∀ S1 H1, Same S S1 → Su G E Γ i a cls d x B S1 b σ H1 → Q y H1)
/-- a suite -/
def HB (G : Gx) (c : Sc) (E : Eff τ) (W : WX) (L : Ls κ ρ) (Γ : Env) (i : Nat) (sts : List Stmt) (m : Exc → M τ (Fl α κ ρ)) (Γn : α → Env) : Prop :=
  ∀ X X' a oe cls d, SuC G c W X X' a oe cls d → PSs X' sts (fun D σ H => ∃ B S b x, Su G E Γ i a cls d x B S b σ H ∧ aftS G E W L B S Γn D (m x b))
def HS (G : Gx) (c : Sc) (E : Eff τ) (W : WX) (L : Ls κ ρ) (Γ : Env) (i : Nat) (st : Stmt) (m : Exc → M τ (Fl α κ ρ)) (Γn : α → Env) : Prop :=
  ∀ X X' a oe cls d, SuC G c W X X' a oe cls d → PS X' st (fun D σ H => ∃ B S b x, Su G E Γ i a cls d x B S b σ H ∧ aftS G E W L B S Γn D (m x b))
section
variable {i : Nat} {f : Exc → Option β} {v : β → V} {e : Expr}
/-- e.f -/
structure FldC (G : Gx) (n fld : Str) : Prop where
  h : ∃ C, G.mg n = some (.ref C) ∧ XfC G.K C ∧ PySem.W.findIn G.K (.ref C) fld = some none
theorem has_nil : HAs G c E W Γ i [] (fun _ => some []) := fun X X' a oe cls d C => pa_wk pa_nil fun σ H Q _ ⟨B, S, b, x, y, _, e, q⟩ => by cases e; exact q
def hcons (f : Exc → Option V) (g : Exc → Option (List V)) : Exc → Option (List V) := fun x => (f x).bind fun u => (g x).bind fun w => some (u :: w)
theorem has_cons {es : List Expr} {g : Exc → Option (List V)} (h : HA G c E W Γ i e f v) (k : HAs G c E W Γ i es g) (hs : Star e es := by intro _; rfl) : HAs G c E W Γ i (e :: es) (hcons (fun x => (f x).map v) g) := fun X X' a oe cls d C =>
  pa_wk (pa_cons (h X X' a oe cls d C) (k X X' a oe cls d C) (hs X'.env)) fun σ H Q _ ⟨B, S, b, x, y, su, e, q⟩ => by
    unfold hcons at e
    dsimp only at e
    cases e1 : f x with
    | none => rw [e1] at e; cases e
    | some u =>
      cases e2 : g x with
      | none => rw [e1, e2] at e; cases e
      | some w =>
        rw [e1, e2] at e
        cases e
        exact ⟨B, S, b, x, u, su, e1, B, S, b, x, w, su, e2, q⟩
/-! things -/
theorem xat_new {x : Exc} {cls : Value} {d : Option Addr} {p : Addr} {o : HO} (h : XAt G x H cls d) (hp : H p = none) : XAt G x (upd H p o) cls d := by
  obtain ⟨C, h1, h2, h3⟩ := h
  refine ⟨C, h1, h2, h3.imp id fun ⟨dd, e, k⟩ => ⟨dd, e, ?_⟩⟩
  rw [upd_ne (fun z => by rw [z, hp] at k; cases k)]
  exact k
/-! tests -/
/-- what an own class of exceptions says of itself: isinstance -/
structure IsC (G : Gx) (n : Str) : Prop where
  h : ∃ C, G.mg n = some (.ref C) ∧ L2.ExcC G.K C
theorem kitx_own {K : PySem.W.Frag} {D a : Addr} {oe : Obj} {od : Option Obj} (C : L2.ExcC K D) : PySem.W.KitX K (.ref a) (.ref D) (fun h => PySem.W.InstAt h a oe D od) :=
  PySem.W.kitx_exc (by obtain ⟨cd, hc, _⟩ := PySem.W.any_some C.hd; rw [hc]; rfl) C.hg C.hk C.hs C.ha C.hn C.ht C.hm
theorem inst_own {H : Hp} {s : Shared} {X : Cx} {a D : Addr} {oe : Obj} {d : Option Addr} {pn pins : List (Addr × Obj)} {fs : List (Str × V)} {σ : L2.St} (I : Inv (X.suite a ((a, oe) :: pn)) pins σ H s) (zc : Zc (.ref D) d oe) (fl : ∃ vs, oe.data = .fields vs) (h : (fs = [] ∧ d = none) ∨ ∃ dd, d = some dd ∧ H dd = some (.xd fs)) :
    ∃ od, PySem.W.InstAt s.heap a oe D od := by
  obtain ⟨hget, _⟩ := I.pin (a, oe) (List.mem_append.mpr (.inl List.mem_cons_self))
  obtain ⟨vs, hv⟩ := fl
  rcases h with ⟨_, rfl⟩ | ⟨dd, rfl, ea⟩
  · refine ⟨none, ?_⟩
    obtain ⟨oc, od, oda, osl⟩ := oe
    obtain ⟨h1, h2⟩ := zc
    dsimp only at h1 h2 hv
    subst h1 h2 hv
    exact ⟨hget, rfl, rfl, trivial⟩
  · obtain ⟨mA, hns, hr⟩ : ObjOk X.prog X.w H s.heap dd (.xd fs) := I.hok dd _ ea
    obtain ⟨od, ho, hl⟩ := L2.lookIn_ns hns
    exact ⟨some od, hget, zc.1, by unfold PySem.W.notCls; rw [hv] <;> rfl, by rw [zc.2]; exact ho⟩
/-- isinstance(e, c): c an own class, or a built-in one -/
theorem ht_isi {t : Str → Option Bool} {n : Str} {np p pos : Pos} {y : Expr} {v0 : V} {cv : Value} (nm : Nm c i n) (hi : i ≠ 999999) (bl : Blt G c "isinstance" (.builtin "isinstance")) (hy : ∀ X, CtxOk G c W X → ∀ a pn, PE (X.suite a pn) y fun σ H Q => Q v0 H) (hcv : ∀ u, RelV v0 u → u = cv)
    (ht : ∀ k b, t k = some b → ∃ D, G.mg k = some (.ref D) ∧ L2.ExcC G.K D ∧ PySem.W.kitOne G.K (.ref D) cv = some b)
    (hs : Star (.Name n np) [y] := by intro _; rfl) (hs2 : Star y [] := by intro _; rfl) : HA G c E W Γ i (.Call (.Name "isinstance" p) [.Name n np, y] [] pos) (fun x => t x.cls) V.bl := fun X X' a oe cls d ⟨C, zc, fl, pn, ep⟩ => by
  subst ep
  have pv : PE (X.suite a ((a, oe) :: pn)) (.Name n np) (tVar i) := pe_var (C.hi nm.n) (by show Vis X.env.scope _; rw [C.sc]; exact nm.v) nm.d nm.cd
  have cr : CallR (X.suite a ((a, oe) :: pn)) (.builtin "isinstance") (fun xs H Q => ∃ (x : Exc) (b : Bool), xs = [.ref a, v0] ∧ XAt G x H cls d ∧ t x.cls = some b ∧ Q (.bl b) H) := by
    intro pins s σ H xs us Q I r h
    obtain ⟨x, b, rfl, xa, e, q⟩ := h
    cases r with
    | cons rx rr =>
      cases rr with
      | cons rt rr =>
        cases rr
        cases rx
        have ec := hcv _ rt
        subst ec
        obtain ⟨D, m1, xc, m2⟩ := ht _ _ e
        obtain ⟨D', g1, g2, g3⟩ := xa
        have : D' = D := by rw [m1] at g1; cases g1; rfl
        subst this
        subst g2
        rw [← C.K] at xc m2
        obtain ⟨od, J⟩ := inst_own I zc fl g3
        exact PySem.W.kia_one (kitx_own xc) I.kIn J m2 (fun z => nomatch z) fun tk => ⟨.bl b, H, I.kept (t' := tk) fun _ _ z => z, rfl, q⟩
  exact pe_wk (pe_callB cr (C.gl bl.g) (by show X.mg _ = _; rw [C.mg]; exact bl.m) bl.v (pa_cons pv (pa_cons (hy X C a _) pa_nil (hs2 X.env)) (hs X.env)) bl.n bl.d (hs X.env) (by show (backTo _ (starEach [y] X.env)).any _ = false; rw [hs2 X.env]; rfl)) fun σ H Q _ ⟨B, S, b, x, y, su, e, q⟩ =>
    ⟨.ref a, su.nm.resolve_left hi, x, y, rfl, su.xa, e, q⟩
/-- classes written one behind another -/
structure Ys (G : Gx) (c : Sc) (W : WX) (ys : List Expr) (vs : List V) (us : List Value) : Prop where
  p : ∀ X, CtxOk G c W X → ∀ a pn, PA (X.suite a pn) ys fun σ H Q => Q vs H
  k : Paired ClsV vs us
theorem hy_own {y : Str} {p2 : Pos} {C0 : Addr} (g2 : Gb c y) (m2 : G.mg y = some (.ref C0)) (hd2 : (y == ("__debug__" : Str)) = false) : ∀ X, CtxOk G c W X → ∀ a pn, PE (X.suite a pn) (.Name y p2) fun σ H Q => Q (.ref C0) H := fun X C a pn =>
  pe_glob (X := X.suite a pn) (v := .ref C0) (C.gl g2) (by show X.mg _ = _; rw [C.mg]; exact m2) rfl hd2
theorem hcv_own {C0 : Addr} : ∀ u, RelV (.ref C0) u → u = .ref C0 := fun u h => h
/-! suites -/
theorem hb_one {st : Stmt} {m : Exc → M τ (Fl α κ ρ)} {Γn : α → Env} (h : HS G c E W L Γ i st m Γn) : HB G c E W L Γ i [st] m Γn := fun X X' a oe cls d C => pss_wk (pss_one (h X X' a oe cls d C)) fun D σ H _ q => q
/-! ### the statement -/
def ztryX (cat : Str → Option Bool) (m : M τ (Fl α κ ρ)) (hm : Exc → M τ (Fl α κ ρ)) : M τ (Fl α κ ρ) := fun s => match m s with
  | .ok a s' => .ok a s'
  | .exc e s' => match cat e.cls with | some true => hm e s' | some false => .exc e s' | none => .stuck
  | .stuck => .stuck
/-- what the name e is behind a suite: unknown -/
structure Unk (i : Nat) (Γ : Env) : Prop where
  h : ∀ s, Γ[i]? = some s → s = .no
theorem hold_set_unk {v : Option V} (u : Unk i Γ) (h : Hold E B Γ b σ S H) : Hold E B Γ b (σ.set i v) S H := by
  obtain ⟨kp, ef, Fs, ft, sl⟩ := h
  refine ⟨kp, ef, Fs, ft, fun j s hj => ?_⟩
  by_cases z : j = i
  · subst z
    have := u.h s hj
    subst this
    exact sl j .no hj |> fun _ => by
      first
      | trivial
      | exact sl j .no hj
  · rw [List.getElem?_set_ne (fun q => z q.symm)]
    exact sl j s hj
theorem fc_nil {fld : Str} : ∀ k ∈ ([] : List Str), FldC G k fld := fun k h => by cases h
theorem fc_cons {fld n : Str} {ns : List Str} {C : Addr} (h : G.mg n = some (.ref C)) (x : L2.ExcC G.K C) (f : PySem.W.findIn G.K (.ref C) fld = some none) (r : ∀ k ∈ ns, FldC G k fld) : ∀ k ∈ n :: ns, FldC G k fld := fun k hk => by
  rcases List.mem_cons.mp hk with rfl | hk
  · exact ⟨C, h, ⟨x.hg, x.hk, x.hs, x.hd⟩, f⟩
  · exact r k hk
theorem it_nil {cv : Value} : ∀ k b, (fun _ : Str => (none : Option Bool)) k = some b → ∃ D, G.mg k = some (.ref D) ∧ L2.ExcC G.K D ∧ PySem.W.kitOne G.K (.ref D) cv = some b := fun _ _ h => by cases h
theorem it_cons {cv : Value} {n0 : Str} {b0 : Bool} {C : Addr} {t : Str → Option Bool} (h : G.mg n0 = some (.ref C)) (x : L2.ExcC G.K C) (kk : PySem.W.kitOne G.K (.ref C) cv = some b0) (r : ∀ k b, t k = some b → ∃ D, G.mg k = some (.ref D) ∧ L2.ExcC G.K D ∧ PySem.W.kitOne G.K (.ref D) cv = some b) :
    ∀ k b, (fun n => if n = n0 then some b0 else t n) k = some b → ∃ D, G.mg k = some (.ref D) ∧ L2.ExcC G.K D ∧ PySem.W.kitOne G.K (.ref D) cv = some b := fun k b e => by
  dsimp only at e
  split at e
  · rename_i z
    subst z
    cases e
    exact ⟨C, h, x, kk⟩
  · exact r k b e
end
end
end Zk

namespace Zk
open PySem L2
/-! ### xs.pop(..) as a value; things of one of two kinds: places, isinstance; data of such -/
section
variable {τ α β γ δ κ ρ ρ' ι θ : Type} {G : Gx} {c : Sc} {E : Eff τ} {W : WX} {Γ Γ' : Env} {B : Bs} {σ : St} {S S1 S' H H' : Hp} {b b' : τ} {L : Ls κ ρ}
end
end Zk

namespace Zk
open PySem L2
section
variable {τ α β γ δ κ ρ ρ' ι θ : Type} {G : Gx} {c : Sc} {E : Eff τ} {W : WX} {Γ Γ' : Env} {B : Bs} {σ : L2.St} {S S1 S' H H' : Hp} {b b' : τ} {L : Ls κ ρ}
/-! ### try, the names kept; suites that go on -/
/-- what a suite tells, seen from where the statement began -/
theorem aft_up {Γn : α → Env} {D : Ends} {hm : M τ (Fl α κ ρ)} (s : Same S S') (q : aftS G E W L B S Γn D (hm b)) : aftS G E W L B S' Γn D (hm b) := q.same s
abbrev Ls.keep (L : Ls κ ρ) (Γx : Env) : Ls κ ρ := { L with x := Γx }
theorem sx_of (h : Sub E Γ Γ') : ∀ B b σ S H, Hold E B Γ b σ S H → ∃ S', Hold E B Γ' b σ S' H := fun B b σ S H k => let ⟨S', _, k'⟩ := h k; ⟨S', k'⟩
/-! ### places of things of one of two kinds -/
/-! ### data with such within -/
theorem unk_at {i : Nat} (h : Γ[i]? = some .no ∨ Γ[i]? = none) : Unk i Γ := ⟨fun s e => by
  rcases h with h | h
  · rw [h] at e; cases e; rfl
  · rw [h] at e; cases e⟩
/-- isinstance of one of two kinds, and a built-in class -/
structure IsTU (G : Gx) (R : Rel α) (y : String) (f : α → Bool) : Prop where
  h : ∀ {x : α} {S H : Hp} {v : V}, Same S H → R.is x S v → ∃ t, TyX G.K H v t ∧ PySem.W.kitOne G.K t (.type y) = some (f x)
end
end Zk

namespace Zk
open PySem L2
/-! ### min of names; one or none by a test -/
section
variable {τ α β γ δ κ ρ ρ' ι θ : Type} {G : Gx} {c : Sc} {E : Eff τ} {W : WX} {Γ Γ' : Env} {B : Bs} {σ : L2.St} {S S1 S' H H' : Hp} {b b' : τ} {L : Ls κ ρ}
end
end Zk

namespace Zk
open PySem L2
/-! ### d.update(e); a record copied, two of its items new dicts of its own -/
section
variable {τ α β γ δ κ ρ ρ' ι θ : Type} {G : Gx} {c : Sc} {E : Eff τ} {W : WX} {Γ Γ' : Env} {B : Bs} {σ : L2.St} {S S1 S' H H' : Hp} {b b' : τ} {L : Ls κ ρ}
theorem Hold.fresh {D : Addr} (h : Hold E B Γ b σ S H) (hD : H D = none) : S D = none ∧ B.S D = none ∧ B.H D = none ∧ ¬ E.own D := by
  have hE := h.fr hD
  have hS := h.same.free hD
  have hBS := h.kp.up.free hS
  refine ⟨hS, hBS, ?_, hE⟩
  cases z : B.H D with
  | none => rfl
  | some o => have := (h.kp.kp D o hBS z hE).2; rw [hD] at this; cases this
/-- what is kept at l goes into a ghost slot -/
theorem Hold.toG {l : Addr} {o : HO} {g : Nat} {p : PrO} (h : Hold E (Bd B l o) Γ b σ S H) (hg : Γ[g]? = some .no) (hBS : B.S l = none) (hBH : B.H l = none) (hE : ¬ E.own l) (hp : p.p S H .non (fun a => a = l)) : Hold E B (Γ.set g (.gh p)) b σ S H := by
  obtain ⟨hS, hH⟩ := h.cellAt hBS hE
  obtain ⟨Fs, hF, hs⟩ := h.sl
  have nl : ∀ i a, Fs i a → a ≠ l := fun i a e z => by
    have := (hF.at_ i a e).2.1
    rw [z] at this
    have : upd B.H l o l = none := this
    rw [upd_same] at this; cases this
  have hu := h.unBd hBH
  refine ⟨hu.kp, hu.ef, fun i a => (i ≠ g ∧ Fs i a) ∨ (i = g ∧ a = l), ⟨fun i a e => ?_, fun i k a e1 e2 => ?_⟩, fun i s e => ?_⟩
  · rcases e with ⟨_, e⟩ | ⟨_, rfl⟩
    · obtain ⟨r1, r2, r3, r4⟩ := hF.at_ i a e
      refine ⟨r1, ?_, r3, r4⟩
      have r2 : upd B.H l o a = none := r2
      rw [upd_ne (nl i a e)] at r2
      exact r2
    · exact ⟨hS, hBH, hE, _, hH⟩
  · rcases e1 with ⟨_, e1⟩ | ⟨k1, e1⟩ <;> rcases e2 with ⟨_, e2⟩ | ⟨k2, e2⟩
    · exact hF.ds i k a e1 e2
    · exact absurd e2 (nl i a e1)
    · exact absurd e1 (nl k a e2)
    · rw [k1, k2]
  · rcases set_get e with ⟨rfl, rfl⟩ | ⟨n, e⟩
    · have : (fun a => (i ≠ i ∧ Fs i a) ∨ (i = i ∧ a = l)) = (fun a => a = l) := funext fun a => propext ⟨fun z => z.elim (fun z => absurd rfl z.1) (·.2), fun z => .inr ⟨rfl, z⟩⟩
      show p.p S H .non (fun a => (i ≠ i ∧ Fs i a) ∨ (i = i ∧ a = l))
      rw [this]; exact hp
    · have : (fun a => (i ≠ g ∧ Fs i a) ∨ (i = g ∧ a = l)) = Fs i := funext fun a => propext ⟨fun z => z.elim (·.2) (fun z => absurd z.1 n), fun z => .inl ⟨n, z⟩⟩
      have q := hs i s e
      cases s with
      | no => trivial
      | st p => exact q
      | ow p => show ∃ x, _ ∧ p.p S H x (fun a => (i ≠ g ∧ Fs i a) ∨ (i = g ∧ a = l)); rw [this]; exact q
      | gh p => show p.p S H .non (fun a => (i ≠ g ∧ Fs i a) ∨ (i = g ∧ a = l)); rw [this]; exact q
end
end Zk

namespace Zk
open PySem L2 PySem.Spec PyProof.Rows

/-! ### a table of code objects that may grow -/
/-- what the table ps tells bears the name q, for ever -/
def CodZ (S : Hp) (ps : Array Value) (q : Str) : Prop := TriplesOk ps.toList ∧ ∀ (pos : Pos) (cv : Value), codeAmong pos ps.toList = some cv → ∃ c, cv = .ref c ∧ S c = some (LamX.CodeO c q)
theorem CodZ.mono {S S' : Hp} {ps : Array Value} {q : Str} (h : CodZ S ps q) (s : Same S S') : CodZ S' ps q := ⟨h.1, fun pos cv e => let ⟨c, e1, e2⟩ := h.2 pos cv e; ⟨c, e1, s _ _ e2⟩⟩
section
variable {X : Cx} {pins : List (Addr × Obj)} {σ : L2.St} {H : Hp} {s : Shared}
end

/-! ### the key row[:2], over the heap alone -/
section
variable {prog : Program} {w : World} {A : Around} {s : Shared}
end

section
variable {τ α β γ δ κ ρ ι θ : Type} {G : Gx} {c : Sc} {E : Eff τ} {W : WX} {Γ Γ' : Env} {B : Bs} {σ : L2.St} {S S1 S' H H' : Hp} {b b' : τ} {L : Ls κ ρ} {t : Addr × Str}
end
end Zk

namespace Zk
open PySem L2 PySem.Spec PyProof.Rows

section
variable {τ α β γ δ κ ρ ι θ : Type} {G : Gx} {c : Sc} {E : Eff τ} {W : WX} {Γ Γ' : Env} {B : Bs} {σ : L2.St} {S S1 S' H H' : Hp} {b b' : τ} {L : Ls κ ρ} {t : Addr × Str}
/-! ### statements of a def that makes lambdas -/
/-! ### calls where a table may grow -/
/-! ### a def that makes lambdas, by its body -/
/-! ### the law's start -/
end
end Zk

namespace Zk
open PySem L2 PySem.Spec PyProof.Rows
/-! ### the end: a law whose defs make lambdas in one table -/
section
variable {P : Program} {w : World} {K : PySem.W.Frag} {mg mb : Str → Option Value} {k : Nat} {fa a cc T : Addr} {fd : FuncData} {x : Str} {sp : Sp} {s : Shared} {vs : List Value} {ns : List Int} {H : Hp}
open Classical in
end
end Zk

namespace Zk
open PySem L2
section
variable {τ α β γ δ κ ρ ι θ : Type} {G : Gx} {c : Sc} {E : Eff τ} {W : WX} {Γ Γ' : Env} {B : Bs} {σ : L2.St} {S S1 S' H H' : Hp} {b b' : τ} {L : Ls κ ρ}
/-! ### a written place of a list of things of several kinds -/
structure LstAt (R : Rel α) (k : Int) (f : α → β) (R2 : Rel β) : Prop where
  h : ∀ {x : α} {S : Hp} {v : V}, R.is x S v → ∃ a vs u, v = .ref a ∧ S a = some (.lst vs) ∧ atI vs k = some u ∧ R2.is (f x) S u
/-! ### xs.extend(ys), xs a list of one's own -/
end
end Zk

namespace Zk
open PySem L2
/-! ### dict(xs) of pairs, the keys tuples -/
section
variable {X : Cx} {pins : List (Addr × Obj)} {σ : L2.St} {H : Hp} {s : Shared}
end
section
variable {τ α β γ δ κ ρ ι θ : Type} {G : Gx} {c : Sc} {E : Eff τ} {W : WX} {Γ Γ' : Env} {B : Bs} {σ : L2.St} {S S1 S' H H' : Hp} {b b' : τ} {L : Ls κ ρ}
variable [DecidableEq ι] {R : Rel ι} {D : DatR R} {R2 : Rel α}
end
end Zk

namespace Zk
open PySem L2
section
variable {τ α β γ γ' δ κ ρ ι θ : Type} {G : Gx} {c : Sc} {E : Eff τ} {W : WX} {Γ : Env} {B : Bs} {σ : L2.St} {S S1 S' H H' : Hp} {b b' : τ}
/-! ### return of a call that has own dicts handed -/
end
end Zk

namespace Zk
open PySem L2
/-! ### None or a scalar, as data -/
end Zk
namespace Zk
open PySem L2
section
variable {τ α β γ κ ρ ρ' : Type} {G : Gx} {c : Sc} {E : Eff τ} {W : WX} {Γ : Env}
/-! ### a call that has own dicts handed and leaves them, within an expression -/
end
end Zk
namespace Zk
end Zk

namespace Zk
open PySem L2
/-! ### more keys: tuples of ints -/
section
variable {τ α α' β γ κ ρ ι ι' δ δ' : Type} {G : Gx} {c : Sc} {E : Eff τ} {W : WX} {Γ Δ : Env} {B : Bs} {b : τ} {σ : L2.St} {S H : Hp}
/-! ### an own record made within an expression, stable at once -/
/-! ### d[xs.pop(..)] -/
end
/-! ### list(d), d a dict of one's own whose keys are tuples -/
section
variable {X : Cx}
end
section
variable {τ κ δ : Type} {G : Gx} {c : Sc} {E : Eff τ} {W : WX} {Γ : Env} {R : Rel κ} {D : DatR R} {F : KyT D} {R2 : Rel δ} [DecidableEq κ]
end
section
variable {τ α γ κ ρ ρ' : Type} {G : Gx} {c : Sc} {E : Eff τ} {W : WX} {Γ : Env} {L : Ls κ ρ} {Γ' : γ → Env} {R : Rel ρ'} {e : Expr} {a d : List Stmt} {m : M τ (Option ρ' × γ)} {n o : γ → M τ (Fl α κ ρ)} {Γn : α → Env} {pos pp pq : Pos} {j : Nat}
/-! ### if f(..) is None, where f changes own dicts -/
end
end Zk

namespace Zk
open PySem L2 PySem.Spec PyProof.Rows
/-! ### xs[:] = ys -/
section
variable {prog : Program} {w : World} {A : Around} {E : Value → Shared → Prop} {s : Shared}
end
section
variable {X : Cx}
end
section
variable {τ α β γ κ ρ ι θ υ : Type} {G : Gx} {c : Sc} {E : Eff τ} {W : WX} {Γ Γ' : Env} {B : Bs} {σ σ' : L2.St} {S S1 S' H H1 H' : Hp} {b b' : τ} {L : Ls κ ρ}
end
end Zk

namespace Zk
open PySem L2 PyProof.Rows PySem.Spec
/-! ### zip, the pair that was given out still there -/
section
variable {prog : Program} {w : World} {A : Around} {E : Value → Shared → Prop} {s : Shared} {z TI TO T i1 i2 l1 l2 : Addr} {k1 k2 : Nat} {P1 P2 : Heap → Nat → Prop} {g1 g2 : Nat → Option Value} {x y : Value} {f : Bool} {oT : Obj}
/-! ### list(zip(..)) -/
end
end Zk

namespace Zk
open PySem L2 PyProof.Rows PySem.Spec
/-! ### several new pairs, and a list of them -/
section
variable {X : Cx} {pins : List (Addr × Obj)} {σ : L2.St} {H H' : Hp} {s : Shared} {h' : Heap}
end
section
variable {τ α β γ κ ρ ι θ υ : Type} {G : Gx} {c : Sc} {E : Eff τ} {W : WX} {Γ Γ' : Env} {B : Bs} {σ σ' : L2.St} {S S1 S' H H1 H' : Hp} {b b' : τ} {L : Ls κ ρ}
variable {e e2 : Expr} {m : M τ (List α × List β)} {R : Rel α} {R2 : Rel β} {p p2 pos pos2 : Pos}
end
end Zk

namespace Zk
open PySem L2
/-! ### lists that are new since a def was begun, wherever they stand in what it hands back -/
def Eff.newer {τ : Type} (E : Eff τ) (N : Hp) : Eff τ where
  own := E.own
  is b S H := E.is b S H ∧ Same N S
  mono := fun s f k ⟨h1, h2⟩ => ⟨E.mono s f k h1, h2.trans s⟩
  th := fun ⟨h1, _⟩ ha => E.th h1 ha
structure HasN {τ : Type} (E : Eff τ) (N : Hp) : Prop where
  h : ∀ {b : τ} {S H : Hp}, E.is b S H → Same N S
theorem hasN_newer {τ : Type} {E : Eff τ} {N : Hp} : HasN (E.newer N) N := ⟨fun h => h.2⟩
/-- a kind that looks at nothing but what is no list, and at lists at addresses that P tells -/
structure TagR {α : Type} (R : (Addr → Prop) → Rel α) : Prop where
  go : ∀ {P Q : Addr → Prop} {x : α} {S T : Hp} {v : V}, (R P).is x S v → (∀ a vs, P a → S a = some (.lst vs) → Q a) → (∀ a o, S a = some o → (P a ∨ ∀ vs, o ≠ .lst vs) → T a = some o) → (R Q).is x T v
def rLP {α : Type} (P : Addr → Prop) (R : Rel α) : Rel (List α) :=
  ⟨fun xs S v => ∃ a vs, v = .ref a ∧ P a ∧ S a = some (.lst vs) ∧ All2 (fun x v => R.is x S v) xs vs, fun s ⟨a, vs, e, p, h, q⟩ => ⟨a, vs, e, p, s _ _ h, All2.rel s q⟩⟩
section
variable {α β γ δ : Type} {R : (Addr → Prop) → Rel α} {R2 : (Addr → Prop) → Rel β} {R3 : (Addr → Prop) → Rel γ} {R4 : (Addr → Prop) → Rel δ}
theorem tg_lp (t : TagR R) : TagR (fun P => rLP P (R P)) := ⟨fun ⟨p, vs, e, hp, h, q⟩ a b => ⟨p, vs, e, a _ _ hp h, b _ _ h (.inl hp), q.imp fun _ _ h => t.go h a b⟩⟩
/-- a thing whose new lists are one's own -/
def treeF (R : (Addr → Prop) → Rel α) (x : α) : PrO := ⟨fun S H v F => (∀ a, F a → ∃ vs, H a = some (.lst vs)) ∧ ∀ T, Same S T → (∀ a o, F a → H a = some o → T a = some o) → (R F).is x T v,
  fun s k h => ⟨fun a f => let ⟨vs, e⟩ := h.1 a f; ⟨vs, k _ _ f e⟩, fun T sT kT => h.2 T (s.trans sT) fun a o f e => kT a o f (k a o f e)⟩⟩
end
/-- what may change hangs on no stable list -/
structure FreeL {τ : Type} (E : Eff τ) : Prop where
  h : ∀ {b b0 : τ} {S S' H S0 H0 : Hp}, E.is b0 S0 H0 → Same S0 S' → (∀ a o, S' a = some o → S a = some o) → (∀ a o, S a = some o → (∀ vs, o ≠ .lst vs) → S' a = some o) → E.is b S H → E.is b S' H
theorem hp_non {S : Hp} {a : Addr} (h : ∀ o, S a = some o → False) : S a = none := by
  cases q : S a with
  | none => rfl
  | some o => exact (h o q).elim
theorem freeL_of {τ : Type} {E : Eff τ} (f : Free E) : FreeL E := ⟨fun {b b0 S S' H S0 H0} _ _ k _ e => f.h (fun a ha => hp_non fun o q => by have := (E.th e ha).1; rw [k _ _ q] at this; cases this) e⟩
/-- what one owns, lists all, is seen as if stable -/
structure SeenL (P : PrO) (p : Pr) : Prop where
  lst : ∀ {S H : Hp} {v : V} {F : Addr → Prop}, P.p S H v F → ∀ a, F a → ∃ vs, H a = some (.lst vs)
  see : ∀ {S H T : Hp} {v : V} {F : Addr → Prop}, P.p S H v F → Same S T → (∀ a o, F a → H a = some o → T a = some o) → p.p T v
theorem seen_L {α : Type} {R : Rel α} {xs : List α} : SeenL (ownL R xs) ((rLst R).pr xs) :=
  ⟨fun ⟨l, vs, _, f, hl, _⟩ a e => ⟨vs, by rw [(f a).mp e]; exact hl⟩, fun ⟨l, vs, e, f, hl, hq⟩ sm k => ⟨l, vs, e, k _ _ ((f l).mpr rfl) hl, All2.rel sm hq⟩⟩
/-- own lists are seen as if stable, all else that is one's own is hidden -/
inductive FrzL : Env → Env → Prop
  | nil : FrzL [] []
  | no {l l' : Env} : FrzL l l' → FrzL (.no :: l) (.no :: l')
  | st {p : Pr} {l l' : Env} : FrzL l l' → FrzL (.st p :: l) (.st p :: l')
  | see {P : PrO} {p : Pr} {l l' : Env} : SeenL P p → FrzL l l' → FrzL (.ow P :: l) (.st p :: l')
  | hid {p : PrO} {l l' : Env} : FrzL l l' → FrzL (.ow p :: l) (.no :: l')
  | gh {p : PrO} {l l' : Env} : FrzL l l' → FrzL (.gh p :: l) (.no :: l')
theorem FrzL.ow {α : Type} {R : Rel α} {xs : List α} {l l' : Env} (h : FrzL l l') : FrzL (.ow (ownL R xs) :: l) (.st ((rLst R).pr xs) :: l') := .see seen_L h
def VisL (Γ Γ' : Env) (i : Nat) : Prop := ∃ (P : PrO) (p : Pr), Γ[i]? = some (.ow P) ∧ Γ'[i]? = some (.st p) ∧ SeenL P p
theorem FrzL.get : ∀ {l l' : Env}, FrzL l l' → ∀ {i : Nat} {s : Sl}, l'[i]? = some s → s = .no ∨ (∃ p, s = .st p ∧ l[i]? = some (.st p)) ∨ ∃ (P : PrO) (p : Pr), s = .st p ∧ l[i]? = some (.ow P) ∧ SeenL P p
  | _, _, .nil, i, s, h => by simp at h
  | _, _, .no f, 0, s, h => by simp at h; exact .inl h.symm
  | _, _, .st f, 0, s, h => by simp at h; exact .inr (.inl ⟨_, h.symm, rfl⟩)
  | _, _, .see sn f, 0, s, h => by simp at h; exact .inr (.inr ⟨_, _, h.symm, rfl, sn⟩)
  | _, _, .hid f, 0, s, h => by simp at h; exact .inl h.symm
  | _, _, .gh f, 0, s, h => by simp at h; exact .inl h.symm
  | _, _, .no f, i + 1, s, h => by simpa using f.get (i := i) (by simpa using h)
  | _, _, .st f, i + 1, s, h => by simpa using f.get (i := i) (by simpa using h)
  | _, _, .see sn f, i + 1, s, h => by simpa using f.get (i := i) (by simpa using h)
  | _, _, .hid f, i + 1, s, h => by simpa using f.get (i := i) (by simpa using h)
  | _, _, .gh f, i + 1, s, h => by simpa using f.get (i := i) (by simpa using h)
section
variable {τ α α' β β1 β2 γ κ ρ ρ' ι θ υ δ : Type} {G : Gx} {c : Sc} {E : Eff τ} {W : WX} {Γ Γ' : Env} {B : Bs} {σ σ' : L2.St} {S S1 S' H H1 H' N : Hp} {b b' : τ}
open Classical in
theorem Hold.newS (fz : FrzL Γ Γ') (fr : FreeL E) (h : Hold E B Γ b σ S H) : ∃ B1 Sp, Hold (E.newer Sp) B1 Γ' b σ Sp H ∧
    ∀ b1 S2 H2, Same Sp S2 → Hold (E.newer Sp) B1 Γ' b1 σ S2 H2 → (∃ S3, Same S S3 ∧ Hold E B Γ b1 σ S3 H2 ∧ ∀ a o, S2 a = some o → (∀ vs, o ≠ .lst vs) → S3 a = some o) ∧
      ∀ {R : (Addr → Prop) → Rel α} {x : α} {v : V}, TagR R → (R fun a => Sp a = none).is x S2 v → ∃ S4, Same S S4 ∧ Hold E B (Γ ++ [.gh (atV (treeF R x) v)]) b1 σ S4 H2 := by
  obtain ⟨Fs, hF, hs⟩ := h.sl
  let Ow : Addr → Prop := fun a => ∃ i, VisL Γ Γ' i ∧ Fs i a
  let Gh : Addr → Prop := fun a => ∃ i, ¬ VisL Γ Γ' i ∧ Fs i a
  have fS : ∀ a i, Fs i a → S a = none := fun a i e => (hF.at_ i a e).1
  have oS : ∀ a, Ow a → S a = none := fun a ⟨i, _, e⟩ => fS a i e
  have oB : ∀ a, Ow a → B.H a = none := fun a ⟨i, _, e⟩ => (hF.at_ i a e).2.1
  have oE : ∀ a, Ow a → ¬ E.own a := fun a ⟨i, _, e⟩ => (hF.at_ i a e).2.2.1
  have gB : ∀ a, Gh a → B.H a = none := fun a ⟨i, _, e⟩ => (hF.at_ i a e).2.1
  have gE : ∀ a, Gh a → ¬ E.own a := fun a ⟨i, _, e⟩ => (hF.at_ i a e).2.2.1
  have gO : ∀ a, Gh a → ¬ Ow a := fun a ⟨i, n, e⟩ ⟨j, y, e'⟩ => n (by rw [hF.ds i j a e e']; exact y)
  have oL : ∀ a, Ow a → ∃ vs, H a = some (.lst vs) := fun a ⟨i, ⟨P, p, e1, _, sn⟩, e⟩ => by
    obtain ⟨v, _, hp⟩ := hs i _ e1
    exact sn.lst hp a e
  have bS : ∀ a, S a = none → B.S a = none := fun a ha => by
    cases e : B.S a with
    | none => rfl
    | some o => have := h.kp.up _ _ e; rw [ha] at this; cases this
  let Sp : Hp := fun a => if Ow a then H a else S a
  let BH : Hp := fun a => if Gh a then H a else B.H a
  have pO : ∀ a, Ow a → Sp a = H a := fun a z => if_pos z
  have pS : ∀ a, ¬ Ow a → Sp a = S a := fun a z => if_neg z
  have qG : ∀ a, Gh a → BH a = H a := fun a z => if_pos z
  have qB : ∀ a, ¬ Gh a → BH a = B.H a := fun a z => if_neg z
  have sm : Same S Sp := fun a o e => by
    rw [pS a fun z => by rw [oS a z] at e; cases e]; exact e
  refine ⟨⟨B.S, BH⟩, Sp, ⟨⟨fun a o e => ?_, h.kp.up.trans sm, fun a o h1 h2 h3 => ?_⟩, ⟨E.mono sm (fun a ha hn => ?_) (fun _ _ _ e => e) h.ef, Same.refl _⟩, fun _ _ => False, ⟨fun _ _ z => z.elim, fun _ _ _ z => z.elim⟩, fun i s e => ?_⟩, fun b1 S2 H2 s2 h2 => ?_⟩
  · by_cases z : Ow a
    · rw [pO a z] at e; exact e
    · rw [pS a z] at e; exact h.same _ _ e
  · have h2 : BH a = some o := h2
    by_cases hg : Gh a
    · rw [qG a hg] at h2
      obtain ⟨i, _, e⟩ := id hg
      exact ⟨by rw [pS a (gO a hg)]; exact fS a i e, h2⟩
    · rw [qB a hg] at h2
      obtain ⟨r1, r2⟩ := h.kp.kp a o h1 h2 h3
      exact ⟨by rw [pS a fun z => by rw [oB a z] at h2; cases h2]; exact r1, r2⟩
  · rw [pS a fun z => oE a z ha]; exact hn
  · rcases fz.get e with rfl | ⟨p, rfl, e'⟩ | ⟨P, p, rfl, e', sn⟩
    · trivial
    · obtain ⟨x, e1, e2⟩ := hs i _ e'; exact ⟨x, e1, p.mono sm e2⟩
    · obtain ⟨x, e1, hp⟩ := hs i _ e'
      exact ⟨x, e1, sn.see hp sm fun a o f eh => by rw [pO a ⟨i, ⟨P, p, e', e, sn⟩, f⟩]; exact eh⟩
  · have ko : ∀ a o, Ow a → H a = some o → H2 a = some o := fun a o z e => h2.same _ _ (s2 _ _ (by rw [pO a z]; exact e))
    have kg : ∀ a o, Gh a → H a = some o → S2 a = none ∧ H2 a = some o := fun a o z e => by
      obtain ⟨i, _, e'⟩ := id z
      exact h2.kp.kp a o (bS a (fS a i e')) (show BH a = some o by rw [qG a z]; exact e) (gE a z)
    have kk : ∀ i a o, Fs i a → H a = some o → H2 a = some o := fun i a o e eh => by
      by_cases z : VisL Γ Γ' i
      · exact ko a o ⟨i, z, e⟩ eh
      · exact (kg a o ⟨i, z, e⟩ eh).2
    have kb : ∀ a o, B.S a = none → B.H a = some o → ¬ E.own a → S2 a = none ∧ H2 a = some o := fun a o h1 h2' h3 => h2.kp.kp a o h1 (show BH a = some o by rw [qB a fun z => by rw [gB a z] at h2'; cases h2']; exact h2') h3
    constructor
    · let S3 : Hp := fun a => if Ow a then none else S2 a
      have tO : ∀ a, Ow a → S3 a = none := fun a z => if_pos z
      have tn : ∀ a, ¬ Ow a → S3 a = S2 a := fun a z => if_neg z
      have sm2 : Same S S3 := fun a o e => by
        rw [tn a fun z => by rw [oS a z] at e; cases e]; exact s2 _ _ (sm _ _ e)
      have nO : ∀ a o, S2 a = some o → (∀ vs, o ≠ .lst vs) → ¬ Ow a := fun a o e hn z => by
        obtain ⟨vs, e'⟩ := oL a z
        have := h2.same _ _ e
        rw [ko a _ z e'] at this
        cases this; exact hn vs rfl
      have dn : ∀ a o, S3 a = some o → S2 a = some o := fun a o e => by
        by_cases z : Ow a
        · rw [tO a z] at e; cases e
        · rw [tn a z] at e; exact e
      refine ⟨S3, sm2, ⟨⟨fun a o e => h2.same _ _ (dn a o e), h.kp.up.trans sm2, fun a o h1 h2' h3 => ?_⟩, fr.h h.ef sm2 dn (fun a o e hn => by rw [tn a (nO a o e hn)]; exact e) h2.ef.1, Fs, ⟨fun i a e => ?_, hF.ds⟩, fun i s e => ?_⟩, fun a o e hn => by rw [tn a (nO a o e hn)]; exact e⟩
      · obtain ⟨r1, r2⟩ := kb a o h1 h2' h3
        refine ⟨?_, r2⟩
        by_cases z : Ow a
        · exact tO a z
        · rw [tn a z]; exact r1
      · obtain ⟨r1, r2, r3, o, r4⟩ := hF.at_ i a e
        refine ⟨?_, r2, r3, o, kk i a o e r4⟩
        by_cases z : VisL Γ Γ' i
        · exact tO a ⟨i, z, e⟩
        · rw [tn a (gO a ⟨i, z, e⟩)]; exact (kg a o ⟨i, z, e⟩ r4).1
      · have q := hs i s e
        cases s with
        | no => trivial
        | st p => obtain ⟨x, e1, e2⟩ := q; exact ⟨x, e1, p.mono sm2 e2⟩
        | ow p => obtain ⟨x, e1, e2⟩ := q; exact ⟨x, e1, p.mono sm2 (fun a o ha e' => kk i a o ha e') e2⟩
        | gh p => exact p.mono sm2 (fun a o ha e' => kk i a o ha e') q
    · intro R x v tg hr
      let Nw : Addr → Prop := fun a => Sp a = none ∧ ∃ vs, S2 a = some (.lst vs)
      let S4 : Hp := fun a => if Ow a ∨ Nw a then none else S2 a
      have t0 : ∀ a, Ow a ∨ Nw a → S4 a = none := fun a z => if_pos z
      have t1 : ∀ a, ¬ (Ow a ∨ Nw a) → S4 a = S2 a := fun a z => if_neg z
      have dn : ∀ a o, S4 a = some o → S2 a = some o := fun a o e => by
        by_cases z : Ow a ∨ Nw a
        · rw [t0 a z] at e; cases e
        · rw [t1 a z] at e; exact e
      have sm4 : Same S S4 := fun a o e => by
        rw [t1 a fun z => z.elim (fun z => by rw [oS a z] at e; cases e) fun z => by have := sm _ _ e; rw [z.1] at this; cases this]
        exact s2 _ _ (sm _ _ e)
      have k4 : ∀ a o, S2 a = some o → (∀ vs, o ≠ .lst vs) → S4 a = some o := fun a o e hn => by
        rw [t1 a fun z => z.elim (fun z => by
          obtain ⟨vs, e'⟩ := oL a z
          have := h2.same _ _ e
          rw [ko a _ z e'] at this
          cases this; exact hn vs rfl) fun ⟨_, vs, e'⟩ => by rw [e] at e'; cases e'; exact hn vs rfl]
        exact e
      have F0 : ∀ a, Nw a → S4 a = none ∧ B.H a = none ∧ ¬ E.own a ∧ ∃ o, H2 a = some o := fun a z => by
        obtain ⟨z1, vs, e⟩ := id z
        have hS : S a = none := by
          cases q : S a with
          | none => rfl
          | some o' => have := sm _ _ q; rw [z1] at this; cases this
        have hE : ¬ E.own a := fun y => by have := (E.th h2.ef.1 y).1; rw [e] at this; cases this
        refine ⟨t0 a (.inr z), ?_, hE, _, h2.same _ _ e⟩
        cases q : B.H a with
        | none => rfl
        | some o' => have := (kb a o' (bS a hS) q hE).1; rw [e] at this; cases this
      have Fx : ∀ i a, Fs i a → ¬ Nw a := fun i a e ⟨z, vs, e2⟩ => by
        obtain ⟨_, _, _, o', r4⟩ := hF.at_ i a e
        by_cases y : VisL Γ Γ' i
        · rw [pO a ⟨i, y, e⟩, r4] at z; cases z
        · have := (kg a o' ⟨i, y, e⟩ r4).1; rw [e2] at this; cases this
      refine ⟨S4, sm4, ⟨fun a o e => h2.same _ _ (dn a o e), h.kp.up.trans sm4, fun a o h1 h2' h3 => ⟨?_, (kb a o h1 h2' h3).2⟩⟩, fr.h h.ef sm4 dn k4 h2.ef.1, fun j a => (j < Γ.length ∧ Fs j a) ∨ (j = Γ.length ∧ Nw a), ⟨fun j a e => ?_, fun j k a e1 e2 => ?_⟩, fun j s e => ?_⟩
      · cases q : S4 a with
        | none => rfl
        | some o' => have := (kb a o h1 h2' h3).1; rw [dn _ _ q] at this; cases this
      · rcases e with ⟨_, e⟩ | ⟨_, e⟩
        · obtain ⟨r1, r2, r3, o, r4⟩ := hF.at_ j a e
          refine ⟨?_, r2, r3, o, kk j a o e r4⟩
          by_cases z : VisL Γ Γ' j
          · exact t0 a (.inl ⟨j, z, e⟩)
          · cases q : S4 a with
            | none => rfl
            | some o' => have := (kg a o ⟨j, z, e⟩ r4).1; rw [dn _ _ q] at this; cases this
        · exact F0 a e
      · rcases e1 with ⟨l1, e1⟩ | ⟨l1, e1⟩ <;> rcases e2 with ⟨l2, e2⟩ | ⟨l2, e2⟩
        · exact hF.ds j k a e1 e2
        · exact absurd e2 (Fx j a e1)
        · exact absurd e1 (Fx k a e2)
        · rw [l1, l2]
      · by_cases hj : j < Γ.length
        · rw [List.getElem?_append_left hj] at e
          have q := hs j s e
          have ef : (fun a => (j < Γ.length ∧ Fs j a) ∨ (j = Γ.length ∧ Nw a)) = Fs j := funext fun a => propext ⟨fun z => z.elim (·.2) fun z => absurd z.1 (by omega), fun z => .inl ⟨hj, z⟩⟩
          show slOk S4 H2 (σ[j]?.join) (fun a => (j < Γ.length ∧ Fs j a) ∨ (j = Γ.length ∧ Nw a)) s
          rw [ef]
          cases s with
          | no => trivial
          | st p => obtain ⟨x, e1, e2⟩ := q; exact ⟨x, e1, p.mono sm4 e2⟩
          | ow p => obtain ⟨x, e1, e2⟩ := q; exact ⟨x, e1, p.mono sm4 (fun a o ha e' => kk j a o ha e') e2⟩
          | gh p => exact p.mono sm4 (fun a o ha e' => kk j a o ha e') q
        · rw [List.getElem?_append_right (by omega)] at e
          have hj2 : j = Γ.length := by
            have := (List.getElem?_eq_some_iff.mp e).1
            simp at this; omega
          subst hj2
          simp at e
          subst e
          have ef : (fun a => (Γ.length < Γ.length ∧ Fs Γ.length a) ∨ (Γ.length = Γ.length ∧ Nw a)) = Nw := funext fun a => propext ⟨fun z => z.elim (fun z => absurd z.1 (by omega)) (·.2), fun z => .inr ⟨rfl, z⟩⟩
          show (treeF R x).p S4 H2 v (fun a => (Γ.length < Γ.length ∧ Fs Γ.length a) ∨ (Γ.length = Γ.length ∧ Nw a))
          rw [ef]
          refine ⟨fun a ⟨_, vs, e⟩ => ⟨vs, h2.same _ _ e⟩, fun T sT kT => ?_⟩
          refine tg.go hr (fun a vs z e => ⟨z, vs, e⟩) fun a o e z => ?_
          by_cases y : ∃ vs, o = .lst vs
          · obtain ⟨vs, rfl⟩ := y
            exact kT a _ ⟨z.elim id (fun z => absurd rfl (z vs)), vs, e⟩ (h2.same _ _ e)
          · exact sT _ _ (k4 a o e fun vs z => y ⟨vs, z⟩)
/-- what is new of an expression's value is one's own -/
theorem zow_new {L : Ls κ ρ'} {e : Expr} {m : M τ α} {R : (Addr → Prop) → Rel α} (tg : TagR R) (fr : FreeL E) (fz : FrzL Γ Γ') (sx : Sub E Γ L.x) (h : ∀ N, ZE G c (E.newer N) W Γ' e m (R fun a => N a = none)) : ZOw G c E W L Γ e m (treeF R) := fun X C =>
  pe_wk (pe_ex fun N => h N X C) fun σ H Q _ ⟨B, S, b, hh, q⟩ => by
    obtain ⟨B1, Sp, h1, back⟩ := hh.newS fz fr
    refine ⟨Sp, B1, Sp, b, h1, ?_⟩
    cases e1 : m b with
    | stuck => rw [e1] at q; exact q.elim
    | exc x b1 =>
      rw [e1] at q
      intro c d S' H' s' h' xa
      obtain ⟨⟨S3, _, h3, _⟩, _⟩ := back b1 S' H' s' h'
      obtain ⟨S4, _, h4⟩ := sx h3
      exact q c d S4 H' h4 xa
    | ok a b1 =>
      rw [e1] at q
      intro v S' H' s' h' r
      obtain ⟨S4, s4, h4⟩ := (back b1 S' H' s' h').2 tg r
      exact q v S4 H' s4 h4
/-! ### in a def whose new lists are told apart -/
theorem z_new {e : Expr} {m : M τ (List α)} {R : Rel α} (hN : HasN E N) (h : ZF G c E W Γ e m (ownL R)) : ZE G c E W Γ e m (rLP (fun a => N a = none) R) := fun X C => pe_wk (h X C) fun σ H Q _ ⟨B, S, b, hh, q⟩ => ⟨B, S, b, hh, by
  cases e1 : m b with
  | stuck => rw [e1] at q; exact q
  | exc x b1 => rw [e1] at q; exact q
  | ok x b1 =>
    rw [e1] at q
    intro v S' H1 H' F s1 h1 hF hk ⟨l, vs, ev, f, hl, hq⟩
    have fl := (f l).mpr rfl
    have h1l := (hF l fl).1
    have eH : H' = upd H1 l (.lst vs) := funext fun a => by
      by_cases z : a = l
      · subst z; rw [upd_same]; exact hl
      · rw [upd_ne z]; exact hk a fun y => z ((f a).mp y)
    have h2 := h1.new (o := .lst vs) h1l
    have sS := same_new (o := HO.lst vs) (h1.same.free h1l)
    have nN : N l = none := by
      cases e : N l with
      | none => rfl
      | some o => have := h1.same _ _ (hN.h h1.ef _ _ e); rw [h1l] at this; cases this
    rw [eH]
    exact q v _ _ (s1.trans sS) h2 ⟨l, vs, ev, nN, upd_same, All2.rel sS hq⟩⟩
/-! ### what is read of such a thing; what is changed of it, and never read again -/
structure WkR {α : Type} (R : (Addr → Prop) → Rel α) (R' : Rel α) : Prop where
  h : ∀ P x S v, (R P).is x S v → R'.is x S v
structure JAt {α : Type} (R : (Addr → Prop) → Rel α) (f : α → Option Nat) (ks : List Nat) : Prop where
  h : ∀ {P : Addr → Prop} {T : Hp} {x : α} {v : V} {n : Nat}, (R P).is x T v → f x = some n → ∃ a us, v = .ref a ∧ T a = some (.tup us) ∧ ∀ k ∈ ks, ∃ c vs, us[k]? = some (.ref c) ∧ P c ∧ T c = some (.lst vs) ∧ vs.length ≤ n
/-- what the slot i owns is changed at one address -/
theorem Hold.chg2 {i : Nat} {l : Addr} {o : HO} {p p' : PrO} (h : Hold E B Γ b σ S H) (hi : Γ[i]? = some (.ow p)) (k : ∀ v F, σ[i]?.join = some v → (∀ a, F a → S a = none) → p.p S H v F → F l ∧ p'.p S (upd H l o) v F) : Hold E B (Γ.set i (.ow p')) b σ S (upd H l o) := by
  obtain ⟨Fs, hF, hs⟩ := id h.sl
  obtain ⟨v, e1, e2⟩ := hs i _ hi
  obtain ⟨fl, e3⟩ := k v (Fs i) e1 (fun a z => (hF.at_ i a z).1) e2
  obtain ⟨f1, f2, f3, _⟩ := hF.at_ i l fl
  have up : ∀ a, a ≠ l → upd H l o a = H a := fun a n => upd_ne n
  refine ⟨⟨fun a u e => ?_, h.kp.up, fun a u h1 h2 h3 => ?_⟩, E.mono (Same.refl _) (fun _ _ z => z) (fun a u ha e => ?_) h.ef, Fs, ⟨fun j a e => ?_, hF.ds⟩, fun j s e => ?_⟩
  · rw [up a fun z => by subst z; rw [f1] at e; cases e]; exact h.same _ _ e
  · rw [up a fun z => by subst z; rw [f2] at h2; cases h2]; exact h.kp.kp a u h1 h2 h3
  · rw [up a fun z => by subst z; exact f3 ha]; exact e
  · obtain ⟨r1, r2, r3, u, r4⟩ := hF.at_ j a e
    refine ⟨r1, r2, r3, ?_⟩
    by_cases z : a = l
    · subst z; exact ⟨_, upd_same⟩
    · exact ⟨u, by rw [up a z]; exact r4⟩
  · rcases set_get e with ⟨rfl, rfl⟩ | ⟨n, e⟩
    · exact ⟨v, e1, e3⟩
    · have q := hs j s e
      have kk : ∀ a u, Fs j a → H a = some u → upd H l o a = some u := fun a u ha e => by rw [up a fun z => by subst z; exact n (hF.ds j i _ ha fl)]; exact e
      cases s with
      | no => trivial
      | st p => exact q
      | ow p => obtain ⟨x, e1, e2⟩ := q; exact ⟨x, e1, p.mono (Same.refl _) kk e2⟩
      | gh p => exact p.mono (Same.refl _) kk q
end
end Zk

namespace Zk
open PySem L2
section
variable {τ α β γ κ ρ ι θ υ : Type} {G : Gx} {c : Sc} {E : Eff τ} {W : WX} {Γ Γ' : Env}
/-! ### list(range(a, b)) -/
instance {a b : Int} : Decidable (RgOk a b) := by unfold RgOk; infer_instance
/-! ### None, or things of several kinds: ==, repr -/
structure RefB {α : Type} (R : Rel α) (f : α → Bool) : Prop where
  h : ∀ {x : α} {S : Hp} {v : V}, f x = true → R.is x S v → ∃ a, v = .ref a
end
end Zk

namespace Zk
open PySem L2 PySem.Spec PyProof.Rows
section
variable {τ α β γ δ κ ρ ι θ : Type} {G : Gx} {c : Sc} {E : Eff τ} {W : WX} {Γ Γ' : Env} {B : Bs} {σ : L2.St} {S S1 S' H H' : Hp} {b b' : τ} {L : Ls κ ρ} {t : Addr × Str} {N : Hp}
/-! ### new lists told by defs that make lambdas -/
/-! ### what is told as a tree is seen -/
/-! ### a list of two new lists -/
structure JLt {α : Type} (R : (Addr → Prop) → Rel α) (f : α → Option Nat) (ks : List Nat) : Prop where
  h : ∀ {P : Addr → Prop} {T : Hp} {x : α} {v : V} {n : Nat}, (R P).is x T v → f x = some n → ∃ a us, v = .ref a ∧ P a ∧ T a = some (.lst us) ∧ ∀ k ∈ ks, ∃ c vs, us[k]? = some (.ref c) ∧ P c ∧ c ≠ a ∧ T c = some (.lst vs) ∧ vs.length ≤ n
end
end Zk

namespace Zk
open PySem L2 PySem.Spec
section
variable {τ α β γ δ1 δ2 κ ρ ι ι2 θ : Type} {G : Gx} {c : Sc} {E : Eff τ} {W : WX} {Γ Γ' Γ1 : Env} {B : Bs} {σ : L2.St} {S S1 S' H H' : Hp} {b b' : τ} {L : Ls κ ρ} {N : Hp}
/-! ### own dicts lent: seen as stable by an expression -/
/-- a kind that looks at nothing that is frozen (no dict, no record) -/
structure NoFrz {α : Type} (R : Rel α) : Prop where
  h : ∀ {x : α} {S T : Hp} {v : V}, R.is x S v → (∀ a o, S a = some o → (∀ od u, o ≠ .frz od u) → T a = some o) → R.is x T v
/-- what is one's own is hidden -/
inductive HidL : Env → Env → Prop
  | nil : HidL [] []
  | st {p : Pr} {l l' : Env} : HidL l l' → HidL (.st p :: l) (.st p :: l')
  | hid {s : Sl} {l l' : Env} : HidL l l' → HidL (s :: l) (.no :: l')
theorem HidL.get : ∀ {l l' : Env}, HidL l l' → ∀ {i : Nat} {s : Sl}, l'[i]? = some s → s = .no ∨ ∃ p, s = .st p ∧ l[i]? = some (.st p)
  | _, _, .nil, i, s, h => by simp at h
  | _, _, .st f, 0, s, h => by simp at h; exact .inr ⟨_, h.symm, rfl⟩
  | _, _, .hid f, 0, s, h => by simp at h; exact .inl h.symm
  | _, _, .st f, i + 1, s, h => by simpa using f.get (i := i) (by simpa using h)
  | _, _, .hid f, i + 1, s, h => by simpa using f.get (i := i) (by simpa using h)
open Classical in
end
end Zk

namespace Zk
open PySem L2 PySem.Spec
section
variable {τ α β γ κ ρ ι θ : Type} {G : Gx} {c : Sc} {E : Eff τ} {W : WX} {Γ Γ' Γ1 : Env} {B : Bs} {σ : L2.St} {S S1 S' H H' : Hp} {b b' : τ} {L : Ls κ ρ}
/-! ### own lists in ghost slots: handed to defs that change them -/
/-! ### if not f(..) or ..: where f changes what is one's own -/
end
end Zk

namespace Zk
open PySem L2 PySem.Spec
section
variable {τ α β γ κ ρ ι θ : Type} {G : Gx} {c : Sc} {E : Eff τ} {W : WX} {Γ Γ' : Env}
/-! ### defs with a keyword whose told lists are new -/
end
end Zk

namespace Zk
open PySem L2 PySem.Spec
section
variable {τ α β γ κ ρ ι θ : Type} {G : Gx} {c : Sc} {E : Eff τ} {W : WX} {Γ Γ' : Env} {B : Bs} {σ : L2.St} {S S1 S' H H' N : Hp} {b b' : τ}
/-! ### sorted of tuples that are not empty -/
end
end Zk

namespace Zk
open PySem L2 PySem.Spec
section
variable {τ α β γ κ ρ ι θ : Type} {G : Gx} {c : Sc} {E : Eff τ} {W : WX} {Γ Γ' : Env} {B : Bs} {σ : L2.St} {S S1 S' H H' N : Hp} {b b' : τ}
/-! ### a told list itself changed, never read again -/
structure JRt {α : Type} (R : (Addr → Prop) → Rel α) (f : α → Option Nat) : Prop where
  h : ∀ {P : Addr → Prop} {T : Hp} {x : α} {v : V} {n : Nat}, (R P).is x T v → f x = some n → ∃ a vs, v = .ref a ∧ P a ∧ T a = some (.lst vs) ∧ vs.length ≤ n
end
end Zk

namespace Zk
open PySem L2 PySem.Spec
section
variable {X : Cx}
end
section
variable {τ α β γ κ ρ ρ' ι : Type} [DecidableEq ι] {G : Gx} {c : Sc} {E : Eff τ} {W : WX} {Γ Γ' : Env} {B : Bs} {L : Ls κ ρ} {Rk : Rel ι} {fk : ι → Key} {F : KyF Rk fk}
end
end Zk

namespace Zk
open PySem L2 PySem.Spec
/-! ### isinstance of refusals -/
theorem kit_ref {K : PySem.W.Frag} {D C : Addr} {b : Bool} (h1 : PySem.W.isClsIn K C = true) (h2 : PySem.W.typeIn K (.ref C) = some (.type "type")) (hs : PySem.W.subIn K (.ref C) (.ref C) = some true) (h3 : PySem.W.subIn K (.ref D) (.ref C) = some b) : PySem.W.kitOne K (.ref D) (.ref C) = some b := by
  unfold PySem.W.kitOne
  by_cases z : (Value.ref D == Value.ref C) = true
  · have e : Value.ref D = Value.ref C := by simpa using z
    rw [if_pos z]
    rw [e, hs] at h3
    exact h3
  · rw [if_neg z]
    show (if ((PySem.W.clsIn K C).isSome && PySem.W.typeIn K (.ref C) == some (.type "type")) = true then PySem.W.subIn K (.ref D) (.ref C) else none) = some b
    rw [h2]
    have h1 : (PySem.W.clsIn K C).isSome = true := h1
    rw [h1]
    exact h3
theorem kit_ty {K : PySem.W.Frag} {D : Addr} {T : String} {b : Bool} (h1 : PySem.W.kitMeta T = true) (h3 : PySem.W.subIn K (.ref D) (.type T) = some b) : PySem.W.kitOne K (.ref D) (.type T) = some b := by
  unfold PySem.W.kitOne
  rw [if_neg (show ¬ (Value.ref D == Value.type T) = true from fun h => nomatch (show false = true from h))]
  show (if PySem.W.kitMeta T = true then PySem.W.subIn K (.ref D) (.type T) else none) = some b
  rw [if_pos h1]
  exact h3
/-! ### xs[::k], k 1 or -1 -/
section
variable {X : Cx} {e es : Expr} {te ts : TE} {p3 pos : Pos}
end
section
variable {τ α β γ κ ρ ι θ : Type} {G : Gx} {c : Sc} {E : Eff τ} {W : WX} {Γ Γ' : Env} {B : Bs} {σ : L2.St} {S S1 S' H H' N : Hp} {b b' : τ}
/-! ### a told list itself changed, never read again: its length is told -/
structure JEt {α : Type} (R : (Addr → Prop) → Rel α) (f : α → Option Nat) : Prop where
  h : ∀ {P : Addr → Prop} {T : Hp} {x : α} {v : V} {n : Nat}, (R P).is x T v → f x = some n → ∃ a vs, v = .ref a ∧ P a ∧ T a = some (.lst vs) ∧ vs.length = n
end
end Zk

namespace Zk
open PySem L2
/-! ### a record of one's own: a dict by texts of things of any kind -/
section
variable {τ α β γ δ κ ρ ι θ υ : Type} {G : Gx} {c : Sc} {E : Eff τ} {W : WX} {Γ Γ' : Env} {B : Bs} {σ σ' : L2.St} {S S1 S' H H1 H' : Hp} {b b' : τ} {L : Ls κ ρ}
end
end Zk

namespace Zk
open PySem L2
/-! ### min, max of two texts -/
section
variable {prog : Program} {w : World} {A : Around} {E : Value → Shared → Prop} {s : Shared} {a b : Str} {t u : Tok} {Q : Value → Shared → Prop}
end
/-! ### dict(zip(xs, ys)), texts as keys -/
section
variable {τ α β γ δ κ ρ ι θ υ : Type} {G : Gx} {c : Sc} {E : Eff τ} {W : WX} {Γ Γ' : Env} {B : Bs} {σ σ' : L2.St} {S S1 S' H H1 H' : Hp} {b b' : τ} {L : Ls κ ρ} {e e2 : Expr} {x : Str} {p pos : Pos}
/-! ### what is never come to, as a value (a def that calls itself no deeper) -/
/-! ### dict(zip(..)) -/
end
end Zk

namespace Zk
open PySem L2 PyProof.Rows
/-! ### enumerate of a tuple -/
section
variable {τ α β γ δ κ ρ ι θ : Type} {G : Gx} {c : Sc} {E : Eff τ} {W : WX} {Γ : Env}
end
end Zk

namespace Zk
open PySem L2 PySem.Spec PyProof.Rows
/-! ### things of several kinds in tuples -/
section
variable {τ α β γ δ κ ρ ι θ : Type} {G : Gx} {c : Sc} {E : Eff τ} {W : WX} {Γ Γ' : Env} {B : Bs} {σ : L2.St} {S S1 S' H H' : Hp} {b b' : τ} {L : Ls κ ρ}
variable {ea eb : Expr} {pos : Pos} {R : Rel α} {R2 : Rel β}
/-! ### a name of several kinds is one of them by then -/
structure PrjOk (f : α → Option β) (R : Rel α) (R1 : Rel β) : Prop where
  h : ∀ {x y S v}, f x = some y → R.is x S v → R1.is y S v
/-! ### repr of things of several kinds, texts among them -/
structure RefS (R : Rel α) (D : DatW R) : Prop where
  h : ∀ {x : α} {S : Hp} {v : V}, R.is x S v → (∃ a, v = .ref a) ∨ ∃ s, v = .str s ∧ D.d x = .str s
end
end Zk

namespace Zk
open PySem L2 PySem.Spec PyProof.Rows
/-! ### keys: pairs of standings -/
instance decRR : DecidableEq (List (Str × Int × Int) × List (Str × Int × Int)) := inferInstance
section
variable {τ α β γ δ κ ρ ι θ : Type} {G : Gx} {c : Sc} {E : Eff τ} {W : WX} {Γ Γ' : Env} {B : Bs} {σ : L2.St} {S S1 S' H H' : Hp} {b b' : τ} {L : Ls κ ρ}
/-! ### x in a pair of things -/
section
variable {ea eb : Expr} {pos : Pos} {R : Rel α} {R1 : Rel β} {R2 : Rel γ}
/-! ### a pair of None-or-things taken as the pair of things -/
end
/-! ### a dict whose values are of another kind for a while -/
section
variable [DecidableEq ι] {K : Ky G ι} {R3 : Rel β} {R2 : Rel α}
end
/-! ### a row of three and one more -/
end
end Zk

namespace Zk
open PySem L2
/-! ### dict(zip(xs, ys)), tuples as keys -/
section
variable {τ α β γ δ κ ρ ι θ υ : Type} {G : Gx} {c : Sc} {E : Eff τ} {W : WX} {Γ Γ' : Env} {B : Bs} {σ σ' : L2.St} {S S1 S' H H1 H' : Hp} {b b' : τ} {L : Ls κ ρ} {e e2 : Expr} {x : Str} {p pos : Pos}
variable [DecidableEq ι] {R : Rel ι} {D : DatR R}
end
/-! ### a thing that three things of its own hang on -/
section
variable {τ α β γ δ κ ρ ι θ υ β1 β2 β3 : Type} {G : Gx} {c : Sc} {E : Eff τ} {W : WX} {Γ Γ' : Env} {B : Bs} {σ σ' : L2.St} {S S1 S' H H1 H' : Hp} {b b' : τ} {L : Ls κ ρ}
end

/-! ### sorted of an own dict with tuples as keys -/
section
variable {τ α β γ κ ρ ι θ : Type} {G : Gx} {c : Sc} {E : Eff τ} {W : WX} {Γ Γ' : Env} {B : Bs} {σ : L2.St} {S S1 S' H H' : Hp} {b b' : τ} {L : Ls κ ρ}
variable [DecidableEq ι] {R : Rel ι} {D : DatR R} {R2 : Rel α}
end

/-! ### dicts of ints: != -/
section
variable {τ α β γ κ ρ ι θ : Type} {G : Gx} {c : Sc} {E : Eff τ} {W : WX} {Γ Γ' : Env} {B : Bs} {σ : L2.St} {S S1 S' H H' : Hp} {b b' : τ} {L : Ls κ ρ} [DecidableEq ι] {R : Rel ι} {f : ι → Key} {pos : Pos}
variable {ea eb : Expr}
end
end Zk

namespace Zk
open PySem L2 PySem.Spec
section
variable {τ α β γ δ κ ρ ρ' ι θ υ : Type} {G : Gx} {c : Sc} {E : Eff τ} {W : WX} {Γ Γ' Γ1 : Env} {B : Bs} {σ : L2.St} {S S1 S' H H' : Hp} {b b' : τ} {L : Ls κ ρ'}
/-! ### an own record lent to an expression, out of which something new comes -/
/-- a kind that looks at no frozen dict with plain keys -/
structure NoDk {α : Type} (R : Rel α) : Prop where
  h : ∀ {x : α} {S T : Hp} {v : V}, R.is x S v → (∀ a o, S a = some o → (∀ od es, o ≠ .frz od (.dK es)) → T a = some o) → R.is x T v
structure NoDkP (P : PrO) : Prop where
  h : ∀ {S T H H' : Hp} {v : V} {F : Addr → Prop}, P.p S H v F → (∀ a o, S a = some o → (∀ od es, o ≠ .frz od (.dK es)) → T a = some o) → (∀ a o, F a → H a = some o → H' a = some o) → P.p T H' v F
theorem HidL.len : ∀ {l l' : Env}, HidL l l' → l.length = l'.length
  | _, _, .nil => rfl
  | _, _, .st f => by rw [List.length_cons, List.length_cons, f.len]
  | _, _, .hid f => by rw [List.length_cons, List.length_cons, f.len]
open Classical in
end
section
variable {τ α β γ δ κ ρ ρ' ι θ υ : Type} {G : Gx} {c : Sc} {E : Eff τ} {W : WX} {Γ Γ' Γ1 : Env} {B : Bs} {σ : L2.St} {S S1 S' H H' : Hp} {b b' : τ} {L : Ls κ ρ'}
/-! ### two own dicts lent, by their names -/
/-! ### lists of things, and None behind -/
/-! ### x["k"], y["k"] = a, b: new keys of own records -/
end
end Zk

namespace Zk
open PySem L2 PySem.Spec
/-! ### new dicts handed to a def that changes them -/
section
variable {τ α β γ δ κ ρ ρ' ι θ υ η : Type} {G : Gx} {c : Sc} {E : Eff τ} {W : WX} {Γ Γ' Γ1 : Env} {B : Bs} {σ : L2.St} {S S1 S' H H' : Hp} {b b' : τ}
variable {g : Bool} {x : Str} {k : Nat} {ps : List Str} {A' : θ → α → List Pr} {gs' : θ → γ → List PrO} {R : Rel ρ'} {e : Expr} {es : List Expr} {p cpos pos : Pos}
end
section
variable {τ α β γ κ ρ ι θ : Type} {G : Gx} {c : Sc} {E : Eff τ} {W : WX} {Γ Γ' : Env} {B : Bs} {σ : L2.St} {S S1 S' H H' : Hp} {b b' : τ} [DecidableEq ι] {R : Rel ι} {f : ι → Key} {R2 : Rel α} {e : Expr} {x : Str} {p pos : Pos}
end
end Zk

namespace Zk
open PySem L2 PySem.Spec
section
variable {τ α β γ δ κ ρ ρ' ι θ υ : Type} {G : Gx} {c : Sc} {E : Eff τ} {W : WX} {Γ Γ' Γ1 : Env} {B : Bs} {σ : L2.St} {S S1 S' H H' : Hp} {b b' : τ} {L : Ls κ ρ}
/-! ### x, y, z = a new thing, a new thing, something -/
end
/-! ### if a and f(..) is not None, where f changes own dicts -/
section
variable {τ α γ κ ρ ρ' : Type} {G : Gx} {c : Sc} {E : Eff τ} {W : WX} {Γ : Env} {L : Ls κ ρ} {Γ' : γ → Env} {R : Rel ρ'} {e ea : Expr} {a d : List Stmt} {m1 : M τ Bool} {m : M τ (Option ρ' × γ)} {n o : γ → M τ (Fl α κ ρ)} {Γn : α → Env} {pos pp pq pb : Pos} {j : Nat}
end
end Zk

namespace Zk
open PySem L2 PySem.Spec
section
variable {τ α β γ δ κ ρ ρ' ι θ υ η ε : Type} {G : Gx} {c : Sc} {E : Eff τ} {W : WX} {L : Ls κ ρ} {Γ Γ' Γ1 : Env} {B : Bs} {σ : L2.St} {S S1 S' H H' : Hp} {b b' : τ}
/-! ### a def as a thing: a name of one's own that holds it -/
end
end Zk

namespace Zk
open PySem L2 PySem.Spec PyProof.Rows
/-! ### iteration over what is a tuple or a list -/
section
variable {τ α β γ δ κ ρ ι θ : Type} {G : Gx} {c : Sc} {E : Eff τ} {W : WX} {Γ Γ' : Env} {B : Bs} {σ : L2.St} {S S1 S' H H' : Hp} {b b' : τ} {L : Ls κ ρ}
/-! ### x in a list of things of several kinds -/
section
variable {ea eb : Expr} {pos : Pos} {R : Rel α} {R2 : Rel β}
end
/-! ### d.update(e) -/
section
variable [DecidableEq ι] {R : Rel ι} {f : ι → Key} {R2 : Rel α}
end
/-! ### a dict whose values are told otherwise -/
section
variable [DecidableEq ι] {K : Ky G ι} {R1 : Rel α} {R2 : Rel β} {f : α → β}
end
/-! ### dicts compared, whose values are plain, whatever the order of keys -/
structure FlR (R : Rel α) [DecidableEq α] where
  d : α → PyData
  fl : ∀ {x : α} {S : Hp} {v : V} {u : Value}, R.is x S v → RelV v u → PyProof.V.Flat u (d x)
  ev : ∀ x y : α, PyData.eqv (d x) (d y) = decide (x = y)
section
variable [DecidableEq ι] {R : Rel ι} {f : ι → Key} {R2 : Rel α} [DecidableEq α]
variable {ea eb : Expr} {pos : Pos}
end
/-! ### a == b in a suite of except -/
/-! ### a name that holds a def that makes lambdas -/
/-! ### own dicts of a record lent, where there is a table -/
structure FreeK {τ : Type} (E : Eff τ) : Prop where
  h : ∀ {b b0 : τ} {S S' H S0 H0 : Hp}, E.is b0 S0 H0 → Same S0 S' → (∀ a o, S' a = some o → S a = some o) → (∀ a o, S a = some o → (∀ od u, o ≠ .frz od u) → S' a = some o) → E.is b S H → E.is b S' H
section
variable {τ α β γ δ1 δ2 κ ρ ι ι2 θ : Type} {G : Gx} {c : Sc} {E : Eff τ} {W : WX} {Γ Γ' Γ1 : Env} {B : Bs} {σ : L2.St} {S S1 S' H H' : Hp} {b b' : τ} {L : Ls κ ρ} {N : Hp}
open Classical in
end
end
end Zk

namespace Zk
open PySem L2 PySem.Spec PyProof.Rows
/-! ### an exception that leaves a list comprehension -/
section
variable {M : Model} {A : Around} {Ex : Value → Shared → Prop} {s : Shared} {Bg : Heap} {en : PySem.Env} {ou : List PySem.Env} {x L : Addr} {Zx : Obj → Prop} {fw : Value}
end
section
variable {X : Cx} {pins : List (Addr × Obj)} {σ : L2.St} {H : Hp} {s : Shared} {W : WX} {scope : Scope} {ce : PySem.Env} {fp : List Addr}
end
section
variable {X : Cx} {W : WX}
end
section
variable {τ α β γ δ κ ρ ι θ : Type} {G : Gx} {c : Sc} {E : Eff τ} {W : WX} {Γ Γ' : Env} {B : Bs} {σ : L2.St} {S S1 S' H H' : Hp} {b b' : τ} {L : Ls κ ρ}
def lcEndX (G : Gx) (E : Eff τ) (W : Value → Option Addr → Hp → Prop) (B : Bs) (Γ : Env) (σ : L2.St) (S : Hp) (R' : Rel γ) (Q : VK) : Out τ (List γ) → Prop
  | .ok ys b' => ∀ D S' H' us, Same S S' → Hold E (Bd B D (.lst us)) Γ b' σ S' H' → B.S D = none → B.H D = none → ¬ E.own D → All2 (fun x v => R'.is x S' v) ys us → Q (.ref D) H'
  | .exc x b' => ∀ c d S' H', Same S S' → Hold E B Γ b' σ S' H' → XAt G x H' c d → W c d H'
  | .stuck => False
theorem lcEndX.same {Wo : Value → Option Addr → Hp → Prop} {R' : Rel γ} {Q : VK} (s : Same S S1) : ∀ {o : Out τ (List γ)}, lcEndX G E Wo B Γ σ S R' Q o → lcEndX G E Wo B Γ σ S1 R' Q o
  | .ok _ _, h => fun D S' H' us s2 => h D S' H' us (s.trans s2)
  | .exc _ _, h => fun c d S' H' s2 => h c d S' H' (s.trans s2)
  | .stuck, h => h
structure LcX (G : Gx) (c : Sc) (E : Eff τ) (W : WX) (Γ : Env) (elt tg iter : Expr) (ifs : List Expr) (scope : Scope) (own : List (Str × Nat)) (m : M τ (List β)) (t : β → M τ Bool) (f : β → M τ γ) (R : Rel β) (R' : Rel γ) (Γ1 : β → Env) : Prop where
  ok : BlkOk c.N c.sc scope own
  hi : ZI G c E W Γ tg iter m R
  hg : ZG G (c.blk scope) E Wf (wipeE Γ (own.map (·.2))) (own.map (·.2)) tg Γ1 R
  ht : ∀ x, ZTs G (c.blk scope) E Wf (Γ1 x) ifs (t x)
  he : ∀ (W' : WX) x, ZE G (c.blk scope) E W' (Γ1 x) elt (f x) R'
  no : ∀ (i : Nat) s, Γ[i]? = some s → s = .no ∨ i ∉ own.map (·.2)
  fs : ∀ (env : PySem.Env) x, foldedSetIterable iter env x = pure x
end
end Zk

namespace Zk
open PySem L2
/-! ### an own record: an item that is an own dict; an item put anew; items read -/
section
variable {τ α β γ δ κ ρ ι θ υ : Type} {G : Gx} {c : Sc} {E : Eff τ} {W : WX} {Γ Γ' : Env} {B : Bs} {σ σ' : L2.St} {S S1 S' H H1 H' : Hp} {b b' : τ} {L : Ls κ ρ}
/-- two ghosts are one -/
theorem Hold.join {g : Nat} {p1 p2 p : PrO} (h : Hold E B (Γ ++ [.gh p2]) b σ S H) (hg : Γ[g]? = some (.gh p1)) (hp : ∀ {F F2 : Addr → Prop}, p1.p S H .non F → p2.p S H .non F2 → (∀ a, ¬ (F a ∧ F2 a)) → p.p S H .non (fun a => F a ∨ F2 a)) : Hold E B (Γ.set g (.gh p)) b σ S H := by
  obtain ⟨Fs, hFe, hs⟩ := id h.sl
  have hlt := (List.getElem?_eq_some_iff.mp hg).1
  have hn : g ≠ Γ.length := by omega
  have h1 : p1.p S H .non (Fs g) := hs g (.gh p1) (by rw [List.getElem?_append_left hlt]; exact hg)
  have h2 : p2.p S H .non (Fs Γ.length) := hs Γ.length (.gh p2) (by simp)
  have h3 := hp h1 h2 fun a z => hn (hFe.ds g Γ.length a z.1 z.2)
  refine ⟨h.kp, h.ef, fun j a => (j ≠ g ∧ j < Γ.length ∧ Fs j a) ∨ (j = g ∧ (Fs g a ∨ Fs Γ.length a)), ⟨fun j a e => ?_, fun j k a z1 z2 => ?_⟩, fun j s e => ?_⟩
  · rcases e with ⟨_, _, e⟩ | ⟨_, e | e⟩
    · exact hFe.at_ j a e
    · exact hFe.at_ g a e
    · exact hFe.at_ Γ.length a e
  · rcases z1 with ⟨n1, n1', e1⟩ | ⟨n1, e1⟩ <;> rcases z2 with ⟨n2, n2', e2⟩ | ⟨n2, e2⟩
    · exact hFe.ds j k a e1 e2
    · rcases e2 with e2 | e2
      · exact absurd (hFe.ds j g a e1 e2) n1
      · exact absurd (hFe.ds j Γ.length a e1 e2) (by omega)
    · rcases e1 with e1 | e1
      · exact absurd (hFe.ds k g a e2 e1) n2
      · exact absurd (hFe.ds k Γ.length a e2 e1) (by omega)
    · rw [n1, n2]
  · rcases set_get e with ⟨rfl, rfl⟩ | ⟨n, e⟩
    · have : (fun a => (j ≠ j ∧ j < Γ.length ∧ Fs j a) ∨ (j = j ∧ (Fs j a ∨ Fs Γ.length a))) = fun a => Fs j a ∨ Fs Γ.length a := funext fun a => propext ⟨fun z => z.elim (fun z => absurd rfl z.1) (·.2), fun z => .inr ⟨rfl, z⟩⟩
      show p.p S H .non (fun a => (j ≠ j ∧ j < Γ.length ∧ Fs j a) ∨ (j = j ∧ (Fs j a ∨ Fs Γ.length a)))
      rw [this]; exact h3
    · have hj := (List.getElem?_eq_some_iff.mp e).1
      have : (fun a => (j ≠ g ∧ j < Γ.length ∧ Fs j a) ∨ (j = g ∧ (Fs g a ∨ Fs Γ.length a))) = Fs j := funext fun a => propext ⟨fun z => z.elim (·.2.2) fun z => absurd z.1 n, fun z => .inl ⟨n, hj, z⟩⟩
      have q := hs j s (by rw [List.getElem?_append_left hj]; exact e)
      cases s with
      | no => trivial
      | st p => exact q
      | ow p => obtain ⟨x, e1, e2⟩ := q; exact ⟨x, e1, by show p.p S H x (fun a => (j ≠ g ∧ j < Γ.length ∧ Fs j a) ∨ (j = g ∧ (Fs g a ∨ Fs Γ.length a))); rw [this]; exact e2⟩
      | gh p => show p.p S H .non (fun a => (j ≠ g ∧ j < Γ.length ∧ Fs j a) ∨ (j = g ∧ (Fs g a ∨ Fs Γ.length a))); rw [this]; exact q
end
end Zk

namespace Zk
open PySem L2
/-! ### things of any kind: what they are is looked at as the law runs -/
mutual
inductive Dq (S : Hp) : V → PyData → Prop
  | non : Dq S .non .none
  | bl (b : Bool) : Dq S (.bl b) (.bool b)
  | int (i : Int) : Dq S (.int i) (.int i)
  | str (x : Str) : Dq S (.str x) (.str x)
  | lst {a : Addr} {xs : List V} {ds : List PyData} : S a = some (.lst xs) → DqAll S xs ds → Dq S (.ref a) (.list ds)
  | tup {a : Addr} {xs : List V} {ds : List PyData} : S a = some (.tup xs) → DqAll S xs ds → Dq S (.ref a) (.tuple ds)
  | dct {a : Addr} {o : Obj} : S a = some (.frz o (.dK [])) → Dq S (.ref a) (.dict [])
inductive DqAll (S : Hp) : List V → List PyData → Prop
  | nil : DqAll S [] []
  | cons {v : V} {vs : List V} {d : PyData} {ds : List PyData} : Dq S v d → DqAll S vs ds → DqAll S (v :: vs) (d :: ds)
end
section
variable {S S' : Hp}
mutual
theorem Dq.dp {K : PySem.W.Frag} : ∀ {v : V} {d : PyData}, Dq S v d → d.hasDict = false → Dp K S v d
  | _, _, .non, _ => .non
  | _, _, .bl b, _ => .bl b
  | _, _, .int i, _ => .int i
  | _, _, .str x, _ => .str x
  | _, _, .lst h q, n => .lst (.of h) (DqAll.dp q (by simpa only [PyData.hasDict] using n))
  | _, _, .tup h q, n => .tup (.of h) (DqAll.dp q (by simpa only [PyData.hasDict] using n))
  | _, _, .dct _, n => by simp [PyData.hasDict] at n
theorem DqAll.dp {K : PySem.W.Frag} : ∀ {v : List V} {d : List PyData}, DqAll S v d → PyData.hasDictAll d = false → DpAll K S v d
  | _, _, .nil, _ => .nil
  | _, _, .cons h q, n => by
    simp only [PyData.hasDictAll, Bool.or_eq_false_iff] at n
    exact .cons (Dq.dp h n.1) (DqAll.dp q n.2)
end
end
/-- what is a thing -/
structure DaQ {α : Type} (R : Rel α) where
  d : α → PyData
  q : ∀ {x : α} {S : Hp} {v : V}, R.is x S v → Dq S v (d x)
section
variable {α β γ : Type}
def qB : DaQ rBl := ⟨fun x => .bool x, fun h => by cases h; exact .bl _⟩
def q2 {R : Rel α} {R2 : Rel β} (D : DaQ R) (F : DaQ R2) : DaQ (rT2 R R2) := ⟨fun x => .tuple [D.d x.1, F.d x.2], fun ⟨a, u, w, e, h, q, r⟩ => by cases e; exact .tup h (.cons (D.q q) (.cons (F.q r) .nil))⟩
def q3 {R : Rel α} {R2 : Rel β} {R3 : Rel γ} (D : DaQ R) (F : DaQ R2) (J : DaQ R3) : DaQ (rT3 R R2 R3) := ⟨fun x => .tuple [D.d x.1, F.d x.2.1, J.d x.2.2], fun ⟨a, u, w, z, e, h, q, r, t⟩ => by cases e; exact .tup h (.cons (D.q q) (.cons (F.q r) (.cons (J.q t) .nil)))⟩
end
section
variable {τ α β γ δ κ ρ ι θ υ : Type} {G : Gx} {c : Sc} {E : Eff τ} {W : WX} {Γ Γ' : Env} {B : Bs} {σ σ' : L2.St} {S S1 S' H H1 H' : Hp} {b b' : τ} {L : Ls κ ρ} {e : Expr} {p pos : Pos} {x : Str}
/-! == and in of things -/
section
variable {ea eb : Expr} {ma mb : M τ PyData}
end
/-! repr of a thing -/
def encK : Key → PyData | .inl i => .int i | .inr x => .str x
theorem fl_pairs {h : Heap} : ∀ {ys : List (Str × Int)} {es : List (Key × V)} {vs : List (Key × Value)}, All2 (fun (x : Str × Int) t => t.1 = Sum.inr x.1 ∧ t.2 = V.int x.2) ys es → KV es vs → PyProof.V.PairsRead h encK vs (ys.map fun t => (.str t.1, .int t.2)) []
  | [], [], _, _, r => by cases r; exact .nil
  | y :: ys, t :: es, vs, ⟨⟨h1, h2⟩, q⟩, r => by
    cases r with
    | @cons _ w _ ws k rr =>
      obtain ⟨k1, k2⟩ := k
      obtain ⟨wk, wv⟩ := w
      have k1 : t.1 = wk := k1
      have k2 : RelV t.2 wv := k2
      rw [h2] at k2
      obtain ⟨tk, rfl⟩ := (show ∃ t, wv = Value.int y.2 t from k2)
      have e : encK wk = .str y.1 := by
        have z : t.1 = wk := k1
        rw [← z, h1]; rfl
      have := PyProof.V.PairsRead.cons (enc := encK) (k := wk) (Reads.int y.2 tk : Reads h (Value.int y.2 tk) (.int y.2) []) (fl_pairs q rr)
      rw [e] at this
      exact this
  | [], _ :: _, _, h, _ => h.elim
  | _ :: _, [], _, h, _ => h.elim
/-! ### texts, and a dict of one text and number -/
end
end Zk

/-! ### how many are apart in a long list of few texts -/
namespace Zk
open PySem L2 PySem.Spec PyProof.Rows
section
variable {prog : Program} {w : World} {A : Around} {R : Result → Shared → Prop} {I : Addr} {fp wr : List Addr} {G : Array GenState → Array GenState → Prop} {n : Nat} {P : Nat → Value → Prop} {St : Nat → Shared → Prop}
end
section
variable {prog : Program} {w : World} {A : Around} {E : Value → Shared → Prop} {s : Shared}
set_option maxHeartbeats 3200000 in
end
section
variable {τ : Type} {G : Gx} {c : Sc} {E : Eff τ} {W : WX} {Γ : Env}
end
end Zk

namespace Zk
open PySem L2
/-! ### things that hold empty dicts: their repr -/
section
variable {X : Cx} {pins : List (Addr × Obj)} {σ : L2.St} {H : Hp} {s : Shared}
theorem dq0_reads (I : Inv X pins σ H s) {a : Addr} {o : Obj} (hs : H a = some (.frz o (.dK []))) : ∃ as, Reads s.heap (.ref a) (.dict []) as ∧ sysModules ∉ as := by
  obtain ⟨_, lo, vs, ra, da⟩ := dk_rd I.hok (.inr ⟨_, hs⟩)
  have rd := PyProof.V.reads_dictOf (enc := encK) (fun k key hk => by
    rcases keyIs_shape hk with ⟨i, t, rfl, rfl⟩ | ⟨x, t, rfl, rfl⟩
    · exact .int i t
    · exact .str x t) da (fl_pairs (h := s.heap) (ys := []) (es := []) trivial ra)
  refine ⟨_, rd, fun z => ?_⟩
  have : sysModules = a := by simpa using z
  rw [this] at lo
  simp at lo
mutual
theorem Dq.rds (I : Inv X pins σ H s) : ∀ (d : PyData) (v : V) (u : Value), Dq H v d → RelV v u → ∃ as, Reads s.heap u d as
  | .none, v, u, h, r => Dp.reads I _ v u (Dq.dp h rfl) r
  | .bool _, v, u, h, r => Dp.reads I _ v u (Dq.dp h rfl) r
  | .int _, v, u, h, r => Dp.reads I _ v u (Dq.dp h rfl) r
  | .str _, v, u, h, r => Dp.reads I _ v u (Dq.dp h rfl) r
  | .list ds, v, u, h, r => by
    cases h with
    | lst hs ha =>
      cases r
      obtain ⟨its, rv, ⟨ob, n, e1, e2, _, e3⟩, _⟩ := I.list (SqL.of (K := X.K) hs)
      exact let ⟨_, q⟩ := DqAll.rds I ds _ its ha rv; ⟨_, .list e1 e2 e3 q⟩
  | .tuple ds, v, u, h, r => by
    cases h with
    | tup hs ha =>
      cases r
      obtain ⟨its, rv, ⟨ob, e1, e2, n, e3⟩, _⟩ := I.tuple (SqT.of (K := X.K) hs)
      exact let ⟨_, q⟩ := DqAll.rds I ds _ its ha rv; ⟨_, .tuple e1 e2 e3 q⟩
  | .dict _, v, u, h, r => by
    cases h with
    | dct hs =>
      cases r
      exact let ⟨as, q, _⟩ := dq0_reads I hs; ⟨as, q⟩
theorem DqAll.rds (I : Inv X pins σ H s) : ∀ (ds : List PyData) (vs : List V) (us : List Value), DqAll H vs ds → Vals vs us → ∃ as, ReadsAll s.heap us ds as
  | [], _, _, .nil, .nil => ⟨_, .nil⟩
  | d :: ds, _, _, .cons h h2, .cons r r2 => let ⟨_, q⟩ := Dq.rds I d _ _ h r; let ⟨_, q2⟩ := DqAll.rds I ds _ _ h2 r2; ⟨_, .cons q q2⟩
end
/-- below n no more than what is read -/
def Low (P : Program) (w : World) (h : Heap) (n : Nat) (R : List Addr → Prop) : Prop := ∃ bs, ReadAtMost h n bs ∧ R bs
mutual
theorem Dq.low (I : Inv X pins σ H s) : ∀ (d : PyData) (v : V) (u : Value), Dq H v d → RelV v u → d.showable = true → d.shown.length ≤ sizeLine → Low X.prog X.w s.heap d.depth fun bs => ReprK X.prog X.w bs s.heap d.depth u d.shown
  | .none, v, u, h, r, e, z => let ⟨_, q⟩ := Dp.reads I _ v u (Dq.dp h rfl) r; ReprK.of_reads q e (fun y => nomatch y) z
  | .bool _, v, u, h, r, e, z => let ⟨_, q⟩ := Dp.reads I _ v u (Dq.dp h rfl) r; ReprK.of_reads q e (fun y => nomatch y) z
  | .int _, v, u, h, r, e, z => let ⟨_, q⟩ := Dp.reads I _ v u (Dq.dp h rfl) r; ReprK.of_reads q e (fun y => nomatch y) z
  | .str _, v, u, h, r, e, z => let ⟨_, q⟩ := Dp.reads I _ v u (Dq.dp h rfl) r; ReprK.of_reads q e (fun y => nomatch y) z
  | .dict _, v, u, h, r, e, z => by
    cases h with
    | dct hs =>
      cases r
      obtain ⟨as, q, n⟩ := dq0_reads I hs
      exact ReprK.of_reads q e (fun _ => n) z
  | .list ds, v, u, h, r, e, z => by
    cases h with
    | lst hs ha =>
      cases r
      obtain ⟨its, rv, ⟨ob, n, e1, e2, _, e3⟩, _⟩ := I.list (SqL.of (K := X.K) hs)
      obtain ⟨as, q⟩ := DqAll.rds I ds _ its ha rv
      have q0 := Reads.list e1 e2 e3 q
      have z' : (listText (PyData.shownAll ds)).length ≤ sizeLine := by rw [PyData.shown] at z; exact z
      obtain ⟨bs, l1, l2⟩ := DqAll.low I ds _ its ha rv (by simpa [PyData.showable] using e) fun t ht => Nat.le_trans (listText_mem_le ht) z'
      have lt : PyData.depthAll ds < (PyData.list ds).depth := by simp only [PyData.depth]; omega
      refine ⟨_ :: bs, ReadAtMost.cons q0 (Nat.le_of_lt lt) l1, ?_⟩
      rw [PyData.depth, PyData.shown]
      generalize PyData.shownAll ds = ts at l2 ⊢
      cases l2 with
      | nil => rw [show listText [] = "[]" from listText_nil]; exact ReprK.listEmpty e1 e2 e3
      | cons k1 k2 => exact ReprK.list e1 e2 e3 (not_mem_of_deeper q0 lt l1) (by simpa using k2.length_eq) fun i y g => (ReprAllK.cons k1 k2).item i y (by simpa using g)
  | .tuple ds, v, u, h, r, e, z => by
    cases h with
    | tup hs ha =>
      cases r
      obtain ⟨its, rv, ⟨ob, e1, e2, n, e3⟩, _⟩ := I.tuple (SqT.of (K := X.K) hs)
      obtain ⟨as, q⟩ := DqAll.rds I ds _ its ha rv
      have q0 := Reads.tuple e1 e2 e3 q
      have z' : (tupleText (PyData.shownAll ds)).length ≤ sizeLine := by rw [PyData.shown] at z; exact z
      obtain ⟨bs, l1, l2⟩ := DqAll.low I ds _ its ha rv (by simpa [PyData.showable] using e) fun t ht => Nat.le_trans (tupleText_mem_le ht) z'
      have lt : PyData.depthAll ds < (PyData.tuple ds).depth := by simp only [PyData.depth]; omega
      refine ⟨_ :: bs, ReadAtMost.cons q0 (Nat.le_of_lt lt) l1, ?_⟩
      rw [PyData.depth, PyData.shown]
      exact ReprK.tuple e1 e2 e3 (not_mem_of_deeper q0 lt l1) (by simpa using l2)
theorem DqAll.low (I : Inv X pins σ H s) : ∀ (ds : List PyData) (vs : List V) (us : List Value), DqAll H vs ds → Vals vs us → PyData.showableAll ds = true → (∀ t ∈ PyData.shownAll ds, t.length ≤ sizeLine) →
    Low X.prog X.w s.heap (PyData.depthAll ds) fun bs => ReprAllK X.prog X.w bs s.heap (PyData.depthAll ds) us (PyData.shownAll ds)
  | [], _, _, .nil, .nil, _, _ => ⟨[], (fun _ y => nomatch y), by rw [PyData.shownAll]; exact .nil⟩
  | d :: ds, _, _, .cons h h2, .cons r r2, e, z => by
    obtain ⟨e1, e2⟩ : d.showable = true ∧ PyData.showableAll ds = true := by simpa [PyData.showableAll] using e
    rw [PyData.shownAll] at z
    obtain ⟨bs, l1, k1⟩ := Dq.low I d _ _ h r e1 (z _ List.mem_cons_self)
    obtain ⟨cs, l2, k2⟩ := DqAll.low I ds _ _ h2 r2 e2 fun t ht => z t (List.mem_cons_of_mem _ ht)
    have m1 : d.depth ≤ PyData.depthAll (d :: ds) := by rw [PyData.depthAll]; exact Nat.le_max_left _ _
    have m2 : PyData.depthAll ds ≤ PyData.depthAll (d :: ds) := by rw [PyData.depthAll]; exact Nat.le_max_right _ _
    refine ⟨bs ++ cs, (l1.mono m1).append (l2.mono m2), ?_⟩
    rw [PyData.shownAll]
    exact .cons ((k1.more fun _ y => List.mem_append_left _ y).level_le m1) (k2.more_le (fun _ y => List.mem_append_right _ y) m2)
end
end
section
variable {τ α β γ δ κ ρ ι θ υ : Type} {G : Gx} {c : Sc} {E : Eff τ} {W : WX} {Γ Γ' : Env} {B : Bs} {σ σ' : L2.St} {S S1 S' H H1 H' : Hp} {b b' : τ} {L : Ls κ ρ} {e : Expr} {p pos : Pos} {x : Str}
/-! a list of anything and the empty one -/
end
/-! a list of numbers out of a thing -/
end Zk

namespace Zk
open PySem L2
section
variable {τ α β γ δ κ ρ ι θ : Type} {G : Gx} {c : Sc} {E : Eff τ} {W : WX} {Γ Γ' : Env} {B : Bs} {σ : L2.St} {S S1 S' H H1 H' : Hp} {b b' : τ} {L : Ls κ ρ}
end
end Zk

namespace Zk
open PySem L2 PySem.Spec PyProof.Rows
/-! ### defs of the refusal that is handled, called within its suite -/
section
variable {τ α β γ κ ρ : Type} {G : Gx} {W : WX} {N ps : List Str} {k : Nat} {f : Addr} {fd : FuncData} {g : Bool}
def FnE (g : Bool) (G : Gx) (k : Nat) (f : Addr) (fd : FuncData) (ps : List Str) (m : Exc → M Unit ρ) (R : Rel ρ) : Prop :=
  ∀ (A : Around) (outer : List PySem.Env) (s : Shared) (S H : Hp) (args : Args) (a : Addr) (oe : Obj) (cls : Value) (d : Option Addr) (x : Exc) (Q : VK),
    L2H.RoomH k A → (g = true → A.guards = some []) → A.handled = some (.ref a) → L2H.PinOk outer H s (a, oe) → Zc cls d oe → (∃ vs, oe.data = .fields vs) → XAt G x H cls d → Same S H →
    Env0 G.P G.w G.K G.mg G.base A outer s H → BindsTo s fd args (ps.zip [.ref a]) → finZ G noE S H R Q (fun _ _ _ => False) (m x ()) →
    codeAny (model G.P G.w) A (.call (.ref f) args) (CR (L2.CX G.P G.w) outer G.P G.w H s Q fun _ _ _ => False) s
structure FnEAt (g : Bool) (G : Gx) (x : Str) (k : Nat) (ps : List Str) (m : Exc → M Unit ρ) (R : Rel ρ) : Prop where
  ex : ∃ f fd, G.mg x = some (.ref f) ∧ PySem.W.keepIn G.K (.ref f) = true ∧ Binds G.K fd ps [] ∧ FnE g G k f fd ps m R
end
end Zk

namespace Zk
open PySem L2
/-! ### tuples of a scalar and a thing, within a suite -/
section
variable {τ α β γ δ κ ρ ι θ : Type} {G : Gx} {c : Sc} {E : Eff τ} {W : WX} {Γ Γ' : Env} {i : Nat}
end
end Zk

namespace Zk
open PySem L2
/-! ### x, y, z = something, a new thing, a new thing -/
section
variable {τ α β γ δ κ ρ ι θ : Type} {G : Gx} {c : Sc} {E : Eff τ} {W : WX} {Γ Γ' Γ1 : Env} {B : Bs} {σ : L2.St} {S S1 S' H H' : Hp} {b b' : τ} {L : Ls κ ρ}
end
end Zk

namespace Zk
open PySem L2 PySem.Spec PyProof.Rows
/-! ### xs.count(y), flat items -/
section
variable {X : Cx}
end
/-! ### within a suite: a list of truths, kept by a name -/
section
variable {τ α β γ δ κ ρ ι θ : Type} {G : Gx} {c : Sc} {E : Eff τ} {W : WX} {Γ Γ' : Env} {i : Nat} {L : Ls κ ρ}
theorem has_blN : HAs G c E W Γ i [] (fun x => ((fun _ : Exc => some ([] : List Bool)) x).map (List.map V.bl)) := has_nil
theorem has_blC {e : Expr} {es : List Expr} {f : Exc → Option Bool} {g : Exc → Option (List Bool)} (h : HA G c E W Γ i e f V.bl) (k : HAs G c E W Γ i es (fun x => (g x).map (List.map V.bl))) (hs : Star e es := by intro _; rfl) : HAs G c E W Γ i (e :: es) (fun x => ((fun x => (f x).bind fun u => (g x).bind fun w => some (u :: w)) x).map (List.map V.bl)) := by
  have := has_cons h k hs
  have e1 : hcons (fun x => (f x).map V.bl) (fun x => (g x).map (List.map V.bl)) = fun x => ((fun x => (f x).bind fun u => (g x).bind fun w => some (u :: w)) x).map (List.map V.bl) := funext fun x => by
    unfold hcons
    dsimp only
    cases f x with
    | none => rfl
    | some u => cases g x <;> rfl
  rw [e1] at this; exact this
theorem bl_all2 {S : Hp} : ∀ ys : List Bool, All2 (fun y v => rBl.is y S v) ys (ys.map V.bl)
  | [] => trivial
  | y :: ys => ⟨rfl, bl_all2 ys⟩
theorem he_listB {es : List Expr} {g : Exc → Option (List Bool)} {pos : Pos} (h : HAs G c E W Γ i es (fun x => (g x).map (List.map V.bl))) : HE G c E W Γ i (.List es pos) (fun x => (g x).bind fun ys => if ys.length ≤ 1000 then some ys else none) (rLst rBl) := fun X X' a oe cls d C =>
  pe_wk (pe_lst (h X X' a oe cls d C)) fun σ H Q _ ⟨B, S, b, x, y, su, e, q⟩ => by
    dsimp only at e
    cases e1 : g x with
    | none => rw [e1] at e; cases e
    | some ys =>
      rw [e1, Option.bind_some] at e
      split at e
      · rename_i hl
        cases e
        refine ⟨B, S, b, x, y.map V.bl, su, by dsimp only; rw [e1]; rfl, ?_, fun p hp => ?_⟩
        · exact Nat.le_trans (show (y.map V.bl).length ≤ 1000 by rw [List.length_map]; exact hl) (by decide)
        · have hn := su.hh.new (o := .lst (y.map V.bl)) hp
          exact q (.ref p) _ _ (same_new (su.hh.same.free hp)) hn (xat_new su.xa hp) ⟨p, y.map V.bl, rfl, upd_same, bl_all2 y⟩
      · cases e
end
/-! ### rows (a text, two numbers) out of things -/
def q4 {α β γ δ : Type} {R : Rel α} {R2 : Rel β} {R3 : Rel γ} {R4 : Rel δ} (D : DaQ R) (F : DaQ R2) (J : DaQ R3) (L : DaQ R4) : DaQ (rT4 R R2 R3 R4) := ⟨fun x => .tuple [D.d x.1, F.d x.2.1, J.d x.2.2.1, L.d x.2.2.2], fun ⟨a, u, w, z, y, e, h, q, r, t, k⟩ => by cases e; exact .tup h (.cons (D.q q) (.cons (F.q r) (.cons (J.q t) (.cons (L.q k) .nil))))⟩
/-! ### isinstance of an own class: a thing made here, or any other -/
section
variable {τ α β : Type} {G : Gx} {c : Sc} {E : Eff τ} {W : WX} {Γ : Env} {x : Str} {p pos : Pos} {e : Expr}
structure IsTR (G : Gx) (R : Rel α) (C : Addr) (f : α → Bool) : Prop where
  h : ∀ {x : α} {S H : Hp} {v : V}, Same S H → R.is x S v → ∃ t, TyX G.K H v t ∧ PySem.W.kitOne G.K t (.ref C) = some (f x)
end
end Zk

namespace Zk
open PySem L2
/-! ### a list of things told as a list of things of any kind -/
section
variable {τ α : Type} {G : Gx} {c : Sc} {E : Eff τ} {W : WX} {Γ : Env}
end
end Zk

namespace Zk
open PySem L2
/-! ### one of two, within a suite -/
section
variable {τ α β γ δ κ ρ ι θ : Type} {G : Gx} {c : Sc} {E : Eff τ} {W : WX} {Γ Γ' : Env} {i : Nat}
end
/-! ### a list without what was made here, among it -/
section
variable {τ α : Type} {G : Gx} {c : Sc} {E : Eff τ} {W : WX} {Γ : Env}
end
/-! ### a tuple of rows out of a thing -/
end Zk

namespace Zk
open PySem PySem.Spec PyProof.Rows L2 HT
/-! ### t[::-1], t a tuple -/
section
variable {prog : Program} {w : World} {A : Around} {E : Value → Shared → Prop} {s : Shared}
end
section
variable {τ α β : Type} {G : Gx} {c : Sc} {E : Eff τ} {W : WX} {Γ : Env}
/-! ### told as things -/
end
end Zk

namespace Zk
open PySem L2
section
variable {τ α β γ δ κ ρ ι θ : Type} {G : Gx} {c : Sc} {E : Eff τ} {W : WX} {Γ Γ' : Env} {B : Bs} {σ : St} {S S1 S' H H' : Hp} {b b' : τ} {L : Ls κ ρ}
/-! ### part of what is one's own becomes stable -/
structure Prt (p q : PrO) : Prop where
  at_ : ∀ {S H : Hp} {v : V} {F : Addr → Prop}, p.p S H v F → ∃ F' : Addr → Prop, (∀ a, F' a → F a) ∧ ∀ S', Same S S' → (∀ a o, F a → ¬ F' a → H a = some o → S' a = some o) → q.p S' H v F'
open Classical in
/-! ### one of a list's own lists is made longer -/
end
end Zk

namespace Zk
open PySem L2
/-! ### repr of what may be a text or a number -/
section
variable {τ α β : Type} {G : Gx} {c : Sc} {E : Eff τ} {W : WX} {Γ : Env}
structure RefV (R : Rel α) (D : DatW R) : Prop where
  h : ∀ {x : α} {S : Hp} {v : V}, R.is x S v → (∃ a, v = .ref a) ∨ (∃ s : Str, v = .str s ∧ D.d x = .str s) ∨ ∃ i : Int, v = .int i ∧ D.d x = .int i
end
end Zk

namespace Zk
open PySem L2 PySem.Spec
section
variable {τ α β γ κ ρ ι θ : Type} {G : Gx} {c : Sc} {E : Eff τ} {W : WX} {Γ Γ' : Env} {B : Bs} {σ : L2.St} {S S1 S' H H' N : Hp} {b b' : τ}
/-! ### for g, t in x: g.append(e), where x and what stands in it are never read again -/
/-- no list at an address holds both pairs and the things of Q -/
structure NoPair {α : Type} (Q : Rel α) : Prop where
  h : ∀ {x : α} {S : Hp} {t : Addr} {us : List V}, Q.is x S (.ref t) → S t = some (.tup us) → False
end
end Zk

namespace Zk
open PySem L2 PySem.Spec
section
variable {τ α β γ κ ρ ι θ : Type} {G : Gx} {c : Sc} {E : Eff τ} {W : WX} {Γ Γ' : Env} {B : Bs} {σ : L2.St} {S S1 S' H H' N : Hp} {b b' : τ}
end
end Zk

namespace Zk
open PySem L2 PySem.Spec PyProof.Rows HotX
/-! ### min of two texts in an except suite -/
section
variable {prog : Program} {w : World} {A : Around} {E : Value → Shared → Prop} {s : Shared}
end
section
variable {prog : Program} {w : World} {A : Around} {E : Value → Shared → Prop} {s : Shared} {a b : Str} {t u : Tok} {Q : Value → Shared → Prop}
end
end Zk

namespace Zk
open PySem L2
section
variable {τ α β γ κ ρ ι θ : Type} {G : Gx} {c : Sc} {E : Eff τ} {W : WX} {Γ Γ' : Env} {B : Bs} {σ : L2.St} {S S1 S' H H' N : Hp} {b b' : τ}
end
end Zk

namespace Zk
open PySem L2 PySem.Spec
section
variable {τ α β γ δ κ ρ ρ' ι θ υ : Type} {G : Gx} {c : Sc} {E : Eff τ} {W : WX} {Γ Γ' Γ1 : Env} {B : Bs} {σ : L2.St} {S S1 S' H H' : Hp} {b b' : τ} {L : Ls κ ρ}
/-! ### a record of one's own on which an own dict hangs -/
variable {P1 : Addr → Addr → α → PrO} {P2 : Addr → β → PrO}
/-! ### what hangs on an own record changes no more -/
/-! ### an own record lent to an expression -/
/-! ### x.update({..}), x an own record -/
end
end Zk

namespace Zk
open PySem L2 PyProof.Rows
/-! ### zip of a tuple and a list -/
/-! ### in a walk -/
section
variable {τ α β γ δ κ ρ ι θ : Type} {G : Gx} {c : Sc} {E : Eff τ} {W : WX} {Γ : Env}
variable {e e2 : Expr} {m : M τ (List α × List β)} {R : Rel α} {R2 : Rel β} {p pos tpos : Pos} {elts : List Expr} {kk : Nat}
end
end Zk

namespace Zk
open PySem L2 PyProof.Rows PySem.Spec
open PySem.W (kdx_alive)
/-! ### zip, its pairs kept by one name: the pair that was given out is there, or gone -/
section
variable {prog : Program} {w : World} {A : Around} {E : Value → Shared → Prop} {s : Shared} {z TI TO T i1 i2 l1 l2 : Addr} {k1 k2 : Nat} {P1 P2 : Heap → Nat → Prop} {g1 g2 : Nat → Option Value} {x y a b : Value} {f : Bool} {oT : Obj}
end
/-- what is known of such a zip between two turns -/
def ZipNow (h : Heap) (z TI TO : Addr) : Prop := IsZip h z TI TO .none ∨ ∃ T f, IsZipHeld h z TI TO T f
theorem ZipNow.lt {h : Heap} {z TI TO : Addr} (k : ZipNow h z TI TO) : z < h.objs.size := k.elim (fun e => Heap.lt_size e) fun ⟨_, _, e⟩ => Heap.lt_size e
theorem ZipNow.obj {h : Heap} {z TI TO : Addr} (k : ZipNow h z TI TO) : ∃ o, h.get? z = some o ∧ (∀ v, o.data ≠ .cell v) ∧ o.cls = .type "zip" := k.elim (fun e => ⟨_, e, fun v q => (nomatch q), rfl⟩) fun ⟨_, _, e⟩ => ⟨_, e, fun v q => (nomatch q), rfl⟩
theorem ZipNow.keep {h h' : Heap} {z TI TO : Addr} (k : ZipNow h z TI TO) (e : ∀ o, h.get? z = some o → h'.get? z = some o) : ZipNow h' z TI TO := k.elim (fun q => .inl (e _ q)) fun ⟨T, f, q⟩ => .inr ⟨T, f, e _ q⟩
section
variable {τ α β γ δ κ ρ ι θ : Type} {G : Gx} {c : Sc} {E : Eff τ} {W : WX} {Γ : Env}
variable {e e2 : Expr} {m : M τ (List α × List β)} {R : Rel α} {R2 : Rel β} {p pos tpos : Pos}
end
end Zk

namespace Zk
open PySem L2 PySem.Spec
/-! ### the list within a told tuple, of which something is changed that is never read again: how long it is, is kept -/
section
variable {τ α β γ δ κ ρ ι θ : Type} {G : Gx} {c : Sc} {E : Eff τ} {W : WX} {Γ Γ' : Env} {B : Bs} {σ : L2.St} {S S1 S' H H' : Hp} {b b' : τ}
structure JXt {α : Type} (R : (Addr → Prop) → Rel α) (f : α → Option Nat) (k : Nat) : Prop where
  h : ∀ {P : Addr → Prop} {T : Hp} {x : α} {v : V} {n : Nat}, (R P).is x T v → f x = some n → ∃ a us l vs, v = .ref a ∧ T a = some (.tup us) ∧ us[k]? = some (.ref l) ∧ P l ∧ T l = some (.lst vs) ∧ vs.length = n
end
end Zk

namespace L2
open PySem PySem.Spec PyProof.Rows
/-! ### X(e, ..), X an own exception class with an __init__ of its own: a value -/
def tExV (C : Addr) (sp : Sp) (dvs : List V) (ta : TA) : TE := fun σ H Q => ta σ H fun vs H1 => vs.length ≤ 1000 ∧ ∀ a, H1 a = none → sp (.ref a :: (vs ++ dvs)) (upd H1 a (exo a C none)) (fun v H2 => v = .non ∧ Q (.ref a) H2) (fun _ _ _ => False)
section
variable {X : Cx} {CX : CXT} {x : Str} {e : Expr} {es : List Expr} {ta : TA} {p pos : Pos} {C fI : Addr} {k : Nat} {fd : FuncData} {ps : List Str} {sp : Sp} {ds : List Value} {dvs : List V}
theorem pe_oexV (T : OexC X.K C) (iC : PySem.W.findIn X.K (.ref C) "__init__" = some (some (.ref fI))) (tI : PySem.W.typeIn X.K (.ref fI) = some (.type "function"))
    (F1 : FnOk X.prog X.w X.K X.mg X.base CX k fI fd ps sp) (hr : Room (k + 1) X.A) (hb : Binds X.K fd ps ds) (hd : Vals dvs ds) (hx : Passes CX X (fun _ _ _ => False)) (hg : Gl X x) (hm : X.mg x = some (.ref C)) (ha : PA X (e :: es) ta)
    (hdb : (x == ("__debug__" : Str)) = false := by decide) (he : starEach (e :: es) X.env = (false, eval e X.env) :: starEach es X.env := by rfl) (hpl : (backTo pos (starEach es X.env)).any (·.1) = false := by rfl) :
    PE X (.Call (.Name x p) (e :: es) [] pos) (tExV C sp dvs ta) := by
  refine ⟨fun pins s σ H Q I h => ?_⟩
  obtain ⟨nm, q, N, bs, bm, sn, sub, ab, col, dd, k0, k1, k2, k3, k5, hC, hbm⟩ := T.cls
  refine wpAny_Call_Name_kw (ld_glob I hg hm ?_ hdb)
  refine PySem.W.callWith_K (h₀ := X.base) I.ok.mod.kin T.kC (thn (ha.run pos pins s σ H _ I h) fun us s1 ⟨vs, H1, I1, r1, hz, q1⟩ => ⟨I1.kIn, ?_⟩) he hpl
  show wpAny _ _ (call (.ref C) us) _ _ _
  obtain ⟨hp, g, dr, tk, os⟩ := s1
  have hsz : hp.objs.size ≤ hp.objs.size + 1 := Nat.le_succ _
  have hn : H1 (hp.objs.size + 1) = none := I1.hok.fresh hsz
  have hq := q1 (hp.objs.size + 1) hn
  have kk : ∀ b o, hp.get? b = some o → ((hp.push (PySem.W.kdv_tup us)).push (PySem.HandSPX.excO C hp.objs.size)).get? b = some o := fun b o e => Heap.get?_push_of_some _ (Heap.get?_push_of_some _ e)
  have hget : ((hp.push (PySem.W.kdv_tup us)).push (PySem.HandSPX.excO C hp.objs.size)).get? (hp.objs.size + 1) = some (PySem.HandSPX.excO C hp.objs.size) := by heap_get
  have I2 : Inv X pins σ (upd H1 (hp.objs.size + 1) (exo (hp.objs.size + 1) C none)) ⟨(hp.push (PySem.W.kdv_tup us)).push (PySem.HandSPX.excO C hp.objs.size), g, dr, tk, os⟩ :=
    I1.laid (t' := tk) (a := hp.objs.size + 1) (o := exo (hp.objs.size + 1) C none) (h' := (hp.push (PySem.W.kdv_tup us)).push (PySem.HandSPX.excO C hp.objs.size)) kk hsz (exo_ok hget)
  have r2 : Vals (V.ref (hp.objs.size + 1) :: (vs ++ dvs)) (Value.ref (hp.objs.size + 1) :: (us ++ ds)) := .cons rfl (r1.append hd)
  have hl : (Value.ref (hp.objs.size + 1) :: us ++ ds).length = ps.length := by
    have e := r2.length
    rw [F1.len _ _ _ _ hq] at e
    exact e.symm
  have hus : us.length ≤ sizeLine := by
    rw [← Paired.length r1, sizeLine_eq]
    omega
  refine wpAny_call (PySem.HandSPX.call_own F.excBase_ValueError (fun Y => PySem.HandSPX.refsVE_contains Y bm hbm) (I1.kIn _ _ hC) (PySem.W.looks_findIn I1.kIn iC) (fun self => PySem.W.bind_fn I1.kIn self tI) hus
    (codeAny_mono (F1.run _ X.stack _ _ ⟨Value.ref (hp.objs.size + 1) :: us, []⟩ (Value.ref (hp.objs.size + 1) :: (us ++ ds)) _ _ (fun _ _ _ => False) (hr.make C us []) (I2.env0.make C us []) (hb _ (Value.ref (hp.objs.size + 1) :: us) I2.kIn hl) r2 hq) fun r s' hq' => ?_))
  cases r with
  | error er => exact hx pins σ _ _ er s' I2 hq'
  | ok fl =>
    cases fl with
    | ret u =>
      obtain ⟨v, H2, os2, bare2, un2, hok2, rv, ev, q2⟩ := hq'
      subst ev
      obtain ⟨h2, g2, d2, t2, os'⟩ := s'
      exact ⟨rv, ⟨.ref (hp.objs.size + 1), H2, I2.call' (ch := []) os2 un2 hok2 bare2 (fun b z => absurd z (by simp)), rfl, q2⟩⟩
    | next => exact False.elim hq'
    | brk => exact False.elim hq'
    | cont => exact False.elim hq'
theorem pe_oexV0 (T : OexC X.K C) (iC : PySem.W.findIn X.K (.ref C) "__init__" = some (some (.ref fI))) (tI : PySem.W.typeIn X.K (.ref fI) = some (.type "function"))
    (F1 : FnOk X.prog X.w X.K X.mg X.base CX k fI fd ps sp) (hr : Room (k + 1) X.A) (hb : Binds X.K fd ps ds) (hd : Vals dvs ds) (hx : Passes CX X (fun _ _ _ => False)) (hg : Gl X x) (hm : X.mg x = some (.ref C))
    (hdb : (x == ("__debug__" : Str)) = false := by decide) :
    PE X (.Call (.Name x p) [] [] pos) (tExV C sp dvs tNil) := by
  refine ⟨fun pins s σ H Q I h => ?_⟩
  obtain ⟨nm, q, N, bs, bm, sn, sub, ab, col, dd, k0, k1, k2, k3, k5, hC, hbm⟩ := T.cls
  refine wpAny_Call_Name_kw (ld_glob I hg hm ?_ hdb)
  obtain ⟨hz0, q0⟩ : ([] : List V).length ≤ 1000 ∧ _ := h
  refine PySem.W.callWith_K0 (first := []) I.kIn T.kC ?_
  show wpAny _ _ (call (.ref C) []) _ _ _
  obtain ⟨us, hu0⟩ : ∃ us : List Value, us = [] := ⟨[], rfl⟩
  obtain ⟨vs, hv0⟩ : ∃ vs : List V, vs = [] := ⟨[], rfl⟩
  rw [← hv0] at q0 hz0
  rw [← hu0]
  have r1 : Vals vs us := by rw [hu0, hv0]; exact .nil
  have hz : vs.length ≤ 1000 := hz0
  have q1 := q0
  have I1 := I
  obtain ⟨hp, g, dr, tk, os⟩ := s
  have hsz : hp.objs.size ≤ hp.objs.size + 1 := Nat.le_succ _
  have hn : H (hp.objs.size + 1) = none := I1.hok.fresh hsz
  have hq := q1 (hp.objs.size + 1) hn
  have kk : ∀ b o, hp.get? b = some o → ((hp.push (PySem.W.kdv_tup us)).push (PySem.HandSPX.excO C hp.objs.size)).get? b = some o := fun b o e => Heap.get?_push_of_some _ (Heap.get?_push_of_some _ e)
  have hget : ((hp.push (PySem.W.kdv_tup us)).push (PySem.HandSPX.excO C hp.objs.size)).get? (hp.objs.size + 1) = some (PySem.HandSPX.excO C hp.objs.size) := by heap_get
  have I2 : Inv X pins σ (upd H (hp.objs.size + 1) (exo (hp.objs.size + 1) C none)) ⟨(hp.push (PySem.W.kdv_tup us)).push (PySem.HandSPX.excO C hp.objs.size), g, dr, tk, os⟩ :=
    I1.laid (t' := tk) (a := hp.objs.size + 1) (o := exo (hp.objs.size + 1) C none) (h' := (hp.push (PySem.W.kdv_tup us)).push (PySem.HandSPX.excO C hp.objs.size)) kk hsz (exo_ok hget)
  have r2 : Vals (V.ref (hp.objs.size + 1) :: (vs ++ dvs)) (Value.ref (hp.objs.size + 1) :: (us ++ ds)) := .cons rfl (r1.append hd)
  have hl : (Value.ref (hp.objs.size + 1) :: us ++ ds).length = ps.length := by
    have e := r2.length
    rw [F1.len _ _ _ _ hq] at e
    exact e.symm
  have hus : us.length ≤ sizeLine := by
    rw [← Paired.length r1, sizeLine_eq]
    omega
  refine wpAny_call (PySem.HandSPX.call_own F.excBase_ValueError (fun Y => PySem.HandSPX.refsVE_contains Y bm hbm) (I1.kIn _ _ hC) (PySem.W.looks_findIn I1.kIn iC) (fun self => PySem.W.bind_fn I1.kIn self tI) hus
    (codeAny_mono (F1.run _ X.stack _ _ ⟨Value.ref (hp.objs.size + 1) :: us, []⟩ (Value.ref (hp.objs.size + 1) :: (us ++ ds)) _ _ (fun _ _ _ => False) (hr.make C us []) (I2.env0.make C us []) (hb _ (Value.ref (hp.objs.size + 1) :: us) I2.kIn hl) r2 hq) fun r s' hq' => ?_))
  cases r with
  | error er => exact hx pins σ _ _ er s' I2 hq'
  | ok fl =>
    cases fl with
    | ret u =>
      obtain ⟨v, H2, os2, bare2, un2, hok2, rv, ev, q2⟩ := hq'
      subst ev
      obtain ⟨h2, g2, d2, t2, os'⟩ := s'
      exact ⟨rv, ⟨.ref (hp.objs.size + 1), H2, I2.call' (ch := []) os2 un2 hok2 bare2 (fun b z => absurd z (by simp)), rfl, q2⟩⟩
    | next => exact False.elim hq'
    | brk => exact False.elim hq'
    | cont => exact False.elim hq'
/-- what stands at a: an exception of the class C, with a dict or without -/
def ExT (H : Hp) (a C : Addr) : Prop := (∃ d fs, H a = some (exo a C (some d)) ∧ H d = some (exd d fs)) ∨ H a = some (exo a C none) ∨ H a = some (ExO (.ref C) a)
theorem ext_inst {pins : List (Addr × Obj)} {σ : St} {H : Hp} {s : Shared} {a : Addr} (I : Inv X pins σ H s) (h : ExT H a C) : ∃ oe od, PySem.W.InstAt s.heap a oe C od := by
  rcases h with ⟨d, fs, ea, ed⟩ | ea | ea
  · obtain ⟨t0, ho⟩ := exo_at I.hok ea
    obtain ⟨mA, hns, rel⟩ := exd_at I.hok ed
    obtain ⟨od, hd, hl⟩ := lookIn_ns hns
    exact ⟨_, some od, ho, rfl, rfl, hd⟩
  · obtain ⟨t0, ho⟩ := exo_at I.hok ea
    exact ⟨_, none, ho, rfl, rfl, trivial⟩
  · obtain ⟨⟨oe, vs, ho, hz, hd, h1, _⟩, _, _⟩ := I.hok a _ ea
    obtain ⟨oc, odd, oda, osl⟩ := oe
    obtain ⟨z1, z2⟩ := hz
    dsimp only at z1 z2 hd
    subst z1 z2 hd
    exact ⟨_, none, ho, rfl, rfl, trivial⟩
/-- isinstance(x, c), x an exception that stands -/
def rIsX (K : PySem.W.Frag) : List V → Hp → VK → Prop := fun xs H Q => ∃ (a C : Addr) (c : V) (u : Value) (b : Bool), xs = [.ref a, c] ∧ ClsV c u ∧ ExT H a C ∧ ExcC K C ∧ PySem.W.kitOne K (.ref C) u = some b ∧ Q (.bl b) H
theorem kitx_own' {K : PySem.W.Frag} {D a : Addr} {oe : Obj} {od : Option Obj} (C : L2.ExcC K D) : PySem.W.KitX K (.ref a) (.ref D) (fun h => PySem.W.InstAt h a oe D od) :=
  PySem.W.kitx_exc (by obtain ⟨cd, hc, _⟩ := PySem.W.any_some C.hd; rw [hc]; rfl) C.hg C.hk C.hs C.ha C.hn C.ht C.hm
theorem call_isX : CallR X (.builtin "isinstance") (rIsX X.K) := by
  intro pins s σ H xs us Q I r h
  obtain ⟨a, D, c, u, b, rfl, k, ex, xc, e, q⟩ := h
  obtain ⟨u1, u2, rfl, r1, r2⟩ := vals2 r
  have e2 := k.eq r2
  subst e2
  cases r1
  obtain ⟨oe, od, J⟩ := ext_inst I ex
  exact PySem.W.kia_one (kitx_own' xc) I.kIn J e (fun z => nomatch z) fun tk => ⟨.bl b, H, I.tok tk, rfl, q⟩
/-- e.f, e an exception that stands -/
def tXfV (K : PySem.W.Frag) (f : Str) (te : TE) : TE := fun σ H Q => te σ H fun x H1 => ∃ (a D dd : Addr) (fs : List (Str × V)) (v : V), x = .ref a ∧ XfC K D ∧ PySem.W.findIn K (.ref D) f = some none ∧ H1 a = some (exo a D (some dd)) ∧ H1 dd = some (exd dd fs) ∧ fs.lookup f = some v ∧ Q v H1
theorem pe_xfV {te : TE} {n : Str} (he : PE X e te) (hb : attributeBase e n X.env (eval e X.env) = eval e X.env := by rfl) : PE X (.Attribute e n pos) (tXfV X.K n te) := by
  refine ⟨fun pins s σ H Q I h => ?_⟩
  refine attr_of hb (thn (he.run pins s σ H _ I h) fun u s1 hh => ?_)
  obtain ⟨x, H1, I1, rx, a, D, dd, fs, v, ex, T, hno, ea, ed, l, q⟩ := hh
  subst ex
  obtain rfl : u = Value.ref a := rx
  obtain ⟨t0, ho⟩ := exo_at I1.hok ea
  obtain ⟨mA, hns, hr⟩ := exd_at I1.hok ed
  obtain ⟨od, hd, hl⟩ := lookIn_ns hns
  obtain ⟨u, hu, ru⟩ := RelO.some_of (v := v) (o := mA n) (by rw [← l]; exact hr n)
  have J : PySem.W.InstAt s1.heap a _ D (some od) := ⟨ho, rfl, rfl, hd⟩
  exact HandSPX.exc_get I1.kIn J T.ga T.gg T.exC (PySem.W.findObj_own T.hdC hno rfl (by rw [hl, hu])) (handed_of ru) ⟨v, H1, I1.tok _, ru, q⟩
end
end L2
namespace Zk
open PySem L2
section
variable {τ α β γ δ κ ρ ι θ : Type} {G : Gx} {c : Sc} {E : Eff τ} {W : WX} {Γ Γ' : Env} {B : Bs} {σ : St} {S S1 S' H H' : Hp} {b b' : τ} {L : Ls κ ρ}
structure ValR (R : Rel α) (f : α → V) : Prop where
  is : ∀ {x : α} {S : Hp} {v : V}, R.is x S v → v = f x
theorem vr_int : ValR rInt V.int := ⟨fun h => h⟩
/-- an exception that stands, with its fields -/
def exF (S : Hp) (a C : Addr) (fs : List (Str × V)) : Prop := (fs = [] ∧ (S a = some (exo a C none) ∨ S a = some (ExO (.ref C) a))) ∨ ∃ d, S a = some (exo a C (some d)) ∧ S d = some (exd d fs)
theorem exF_mono {a C : Addr} {fs : List (Str × V)} (s : Same S S') (h : exF S a C fs) : exF S' a C fs := by
  rcases h with ⟨h1, h2⟩ | ⟨d, h1, h2⟩
  · exact .inl ⟨h1, h2.imp (s _ _) (s _ _)⟩
  · exact .inr ⟨d, s _ _ h1, s _ _ h2⟩
theorem exF_ext {a C : Addr} {fs : List (Str × V)} (h : exF S a C fs) : ExT S a C := by
  rcases h with ⟨_, h1 | h2⟩ | ⟨d, h1, h2⟩
  · exact .inr (.inl h1)
  · exact .inr (.inr h2)
  · exact .inl ⟨d, fs, h1, h2⟩
def rXc (G : Gx) : Rel Exc := ⟨fun x S v => ∃ a C, v = .ref a ∧ G.mg x.cls = some (.ref C) ∧ exF S a C x.fs, fun s ⟨a, C, h1, h2, h3⟩ => ⟨a, C, h1, h2, exF_mono s h3⟩⟩
theorem ext_same {a C : Addr} (s : Same S H) (h : ExT S a C) : ExT H a C := by
  rcases h with ⟨d, fs, h1, h2⟩ | h1 | h1
  · exact .inl ⟨d, fs, s _ _ h1, s _ _ h2⟩
  · exact .inr (.inl (s _ _ h1))
  · exact .inr (.inr (s _ _ h1))
/-- X(e), one field -/
theorem z_ex1 {x f : Str} {k : Nat} {ps : List Str} {C0 : Addr} {e : Expr} {p pos' : Pos} {R : Rel α} {v : α → V} {m : M τ α} (XA : XAtC G x k ps (spX1 G.K f) C0) (hf : PySem.W.findIn G.K (.ref C0) f = some none) (hk : k + 1 ≤ c.k) (g : Gb c x) (sc : ValR R v) (h : ZE G c E W Γ e m R)
    (hd : (x == ("__debug__" : Str)) = false := by decide) (hs : Star e [] := by intro _; rfl) (hpl : Plain1 [] := by intro _ _; rfl) {R' : Rel γ} {kf : α → γ} (cc : ∀ y S u w, R.is y S u → (rXc G).is ⟨x, [(f, v y)]⟩ S w → R'.is (kf y) S w) : ZE G c E W Γ (.Call (.Name x p) [e] [] pos') (zget kf m) R' := fun X C => by
  obtain ⟨fi, fd, i1, i2, i3, i4⟩ := XA.ini
  have i4' := i4
  rw [← C.prog, ← C.w, ← C.K, ← C.mg, ← C.base] at i4'
  have hm : X.mg x = some (.ref C0) := by rw [C.mg]; exact XA.mg
  have ox : OexC X.K C0 := by rw [C.K]; exact XA.ox
  rw [← C.K] at i1 i2 i3
  refine pe_wk (pe_oexV ox i1 i2 i4' (C.room.mono hk) i3 .nil passL (C.gl g) hm (za_one h hs X C) hd (hs _) (hpl _ _)) fun σ H Q hl ⟨B, S, b, hh, q⟩ => ?_
  refine tz_Abnd (A := fun x => [R.pr x]) hh q fun y b1 us S1 H1 s1 h1 r1 q1 => ?_
  match us, r1 with
  | [u], ⟨r, _⟩ =>
    refine ⟨by simp, fun a ha => ⟨a, u, C0, rfl, ox, by rw [C.K]; exact hf, upd_same, fun d hd hda => ?_⟩⟩
    have hd1 : H1 d = none := by rw [upd_ne hda] at hd; exact hd
    refine ⟨rfl, ?_⟩
    have eH : upd (upd (upd H1 a (exo a C0 none)) d (exd d [(f, u)])) a (exo a C0 (some d)) = upd (upd H1 d (exd d [(f, u)])) a (exo a C0 (some d)) := by
      funext z
      by_cases hz : z = a
      · subst hz; rw [upd_same, upd_same]
      · rw [upd_ne hz, upd_ne hz]
        by_cases hz2 : z = d
        · subst hz2; rw [upd_same, upd_same]
        · rw [upd_ne hz2, upd_ne hz2, upd_ne hz]
    rw [eH]
    have h2 := h1.new (o := exd d [(f, u)]) hd1
    have ha2 : (upd H1 d (exd d [(f, u)])) a = none := by rw [upd_ne (fun z => hda z.symm)]; exact ha
    have h3 := h2.new (o := exo a C0 (some d)) ha2
    have ss := (same_new (o := exd d [(f, u)]) (h1.same.free hd1)).trans (same_new (o := exo a C0 (some d)) (h2.same.free ha2))
    refine q1 (.ref a) _ _ ss h3 (cc _ _ _ _ (R.mono ss r) ⟨a, C0, rfl, XA.mg, .inr ⟨d, upd_same, ?_⟩⟩)
    rw [upd_ne hda, upd_same, sc.is r]
/-- X(e, e2), two fields -/
theorem z_ex2 {x f f2 : Str} {k : Nat} {ps : List Str} {C0 : Addr} {e e2 : Expr} {p pos' : Pos} {R : Rel α} {R2 : Rel β} {v : α → V} {v2 : β → V} {m : M τ α} {n : M τ β} (XA : XAtC G x k ps (spX2 G.K f f2) C0) (hf : PySem.W.findIn G.K (.ref C0) f = some none) (hf2 : PySem.W.findIn G.K (.ref C0) f2 = some none) (hk : k + 1 ≤ c.k) (g : Gb c x) (sc : ValR R v) (sc2 : ValR R2 v2) (h : ZE G c E W Γ e m R) (h2 : ZE G c E W Γ e2 n R2)
    (hd : (x == ("__debug__" : Str)) = false := by decide) (hs : Star e [e2] := by intro _; rfl) (hs2 : Star e2 [] := by intro _; rfl) (hpl : ∀ env : PySem.Env, (backTo pos' (starEach [e2] env)).any (·.1) = false := by intro _; rfl) {R' : Rel γ} {kf : α × β → γ} (cc : ∀ y S u u2 w, R.is y.1 S u → R2.is y.2 S u2 → (rXc G).is ⟨x, [(f2, v2 y.2), (f, v y.1)]⟩ S w → R'.is (kf y) S w) : ZE G c E W Γ (.Call (.Name x p) [e, e2] [] pos') (zget kf (zpair m n)) R' := fun X C => by
  obtain ⟨fi, fd, i1, i2, i3, i4⟩ := XA.ini
  have i4' := i4
  rw [← C.prog, ← C.w, ← C.K, ← C.mg, ← C.base] at i4'
  have hm : X.mg x = some (.ref C0) := by rw [C.mg]; exact XA.mg
  have ox : OexC X.K C0 := by rw [C.K]; exact XA.ox
  rw [← C.K] at i1 i2 i3
  refine pe_wk (pe_oexV ox i1 i2 i4' (C.room.mono hk) i3 .nil passL (C.gl g) hm (za_cons h (za_one h2 hs2) hs X C) hd (hs _) (hpl _)) fun σ H Q hl ⟨B, S, b, hh, q⟩ => ?_
  refine tz_Abnd (A := fun x => R.pr x.1 :: [R2.pr x.2]) hh q fun y b1 us S1 H1 s1 h1 r1 q1 => ?_
  match us, r1 with
  | [u, w], ⟨r, r2, _⟩ =>
    refine ⟨by simp, fun a ha => ⟨a, u, w, C0, rfl, ox, by rw [C.K]; exact hf, by rw [C.K]; exact hf2, upd_same, fun d hd hda => ?_⟩⟩
    have hd1 : H1 d = none := by rw [upd_ne hda] at hd; exact hd
    refine ⟨rfl, ?_⟩
    have eH : upd (upd (upd (upd H1 a (exo a C0 none)) d (exd d [(f, u)])) a (exo a C0 (some d))) d (exd d [(f2, w), (f, u)]) = upd (upd H1 d (exd d [(f2, w), (f, u)])) a (exo a C0 (some d)) := by
      funext z
      by_cases hz : z = a
      · subst hz; rw [upd_ne (fun z => hda z.symm), upd_same, upd_same]
      · by_cases hz2 : z = d
        · subst hz2; rw [upd_same, upd_ne hz, upd_same]
        · rw [upd_ne hz2, upd_ne hz, upd_ne hz2, upd_ne hz, upd_ne hz, upd_ne hz2]
    rw [eH]
    have h2 := h1.new (o := exd d [(f2, w), (f, u)]) hd1
    have ha2 : (upd H1 d (exd d [(f2, w), (f, u)])) a = none := by rw [upd_ne (fun z => hda z.symm)]; exact ha
    have h3 := h2.new (o := exo a C0 (some d)) ha2
    have ss := (same_new (o := exd d [(f2, w), (f, u)]) (h1.same.free hd1)).trans (same_new (o := exo a C0 (some d)) (h2.same.free ha2))
    refine q1 (.ref a) _ _ ss h3 (cc _ _ _ _ _ (R.mono ss r) (R2.mono ss r2) ⟨a, C0, rfl, XA.mg, .inr ⟨d, upd_same, ?_⟩⟩)
    rw [upd_ne hda, upd_same, sc.is r, sc2.is r2]
/-- the promise of an __init__ that keeps nothing -/
def spX0 (K : PySem.W.Frag) : Sp := fun vs H Q _ => ∃ a C, vs = [.ref a] ∧ OexC K C ∧ H a = some (exo a C none) ∧ Q .non H
theorem xini0 {qual bn : Str} {st : Stmt} {f A0 : Addr} {fd : FuncData} {mc : Value} {z : Str} {jz : Nat} {p1 p2 p3 p4 p5 p6 : Pos} {pl : PySem.Env → Sem Bool} (F : Fun G.K "__init__" qual st f fd) (sc : FnScope ["self"] ["self"] (defScope st))
    (hb : defBody st = [.Expr (.Call (.Attribute (.Name bn p1) "__init__" p2) [.Name "self" p3, .Constant (.str z) jz p4] [] p5) p6]) (T : AIn G.K A0 mc) (hm : G.mg bn = some (.ref A0))
    (gb : (defScope st).names.lookup bn = some .globalImplicit) (v0 : Vis (defScope st) "self") (hd : (bn == ("__debug__" : Str)) = false := by decide)
    (ht : EvM (.Name bn p1) "__init__" [.Name "self" p3, .Constant (.str z) jz p4] p2 p5 pl := by intro _; rfl) :
    FnOk G.P G.w G.K G.mg G.base (L2.CX G.P G.w) 1 f fd ["self"] (spX0 G.K) := by
  refine F.okX sc (fun vs H Q XE ⟨a, C, e, _⟩ => by rw [e]; rfl) (fun cdv A outer s H vs Q XE hr h => ?_)
  obtain ⟨a, C, rfl, ox, ha, q⟩ := h
  rw [hb]
  refine ⟨_, pss_one (ps_expr (pe_ainit T gb hm (pa_cons (pe_var (i := 0) rfl v0 (by decide) (by decide)) (pa_cons pe_str pa_nil)) (ht _) rfl rfl hd)), ?_⟩
  exact ⟨_, rfl, a, C, _, rfl, by simp, ox, ha, q⟩
/-- X(), no field -/
theorem z_ex0 {x : Str} {k : Nat} {ps : List Str} {C0 : Addr} {p pos' : Pos} (XA : XAtC G x k ps (spX0 G.K) C0) (hk : k + 1 ≤ c.k) (g : Gb c x)
    (hd : (x == ("__debug__" : Str)) = false := by decide) : ZE G c E W Γ (.Call (.Name x p) [] [] pos') (ret (⟨x, []⟩ : Exc)) (rXc G) := fun X C => by
  obtain ⟨fi, fd, i1, i2, i3, i4⟩ := XA.ini
  have i4' := i4
  rw [← C.prog, ← C.w, ← C.K, ← C.mg, ← C.base] at i4'
  have hm : X.mg x = some (.ref C0) := by rw [C.mg]; exact XA.mg
  have ox : OexC X.K C0 := by rw [C.K]; exact XA.ox
  rw [← C.K] at i1 i2 i3
  refine pe_wk (pe_oexV0 ox i1 i2 i4' (C.room.mono hk) i3 .nil passL (C.gl g) hm hd) fun σ H Q hl ⟨B, S, b, hh, q⟩ => ?_
  refine ⟨by simp, fun a ha => ⟨a, C0, rfl, ox, upd_same, rfl, ?_⟩⟩
  exact q (.ref a) _ _ (same_new (hh.same.free ha)) (hh.new ha) ⟨a, C0, rfl, XA.mg, .inl ⟨rfl, .inl upd_same⟩⟩
end
end Zk

namespace Zk
open PySem L2
/-! ### things whose lists may be appended to -/
def isLst : PyData → Bool | .list _ => true | _ => false
theorem isLst_iff {d : PyData} : isLst d = true ↔ ∃ x, d = .list x := by cases d <;> simp [isLst]
mutual
inductive DqP (P : Addr → Prop) (S : Hp) : V → PyData → Prop
  | non : DqP P S .non .none
  | bl (b : Bool) : DqP P S (.bl b) (.bool b)
  | int (i : Int) : DqP P S (.int i) (.int i)
  | str (x : Str) : DqP P S (.str x) (.str x)
  | lst {a : Addr} {xs : List V} {ds : List PyData} : P a → S a = some (.lst xs) → DqPs P S xs ds → DqP P S (.ref a) (.list ds)
  | tup {a : Addr} {xs : List V} {ds : List PyData} : S a = some (.tup xs) → DqPs P S xs ds → DqP P S (.ref a) (.tuple ds)
  | dct {a : Addr} {o : Obj} : S a = some (.frz o (.dK [])) → DqP P S (.ref a) (.dict [])
  | dc1 {a : Addr} {o : Obj} {k : Str} {v : V} {d : PyData} : S a = some (.frz o (.dK [(Sum.inr k, v)])) → DqP P S v d → d.hasDict = false → DqP P S (.ref a) (.dict [(.str k, d)])
inductive DqPs (P : Addr → Prop) (S : Hp) : List V → List PyData → Prop
  | nil : DqPs P S [] []
  | cons {v : V} {vs : List V} {d : PyData} {ds : List PyData} : DqP P S v d → DqPs P S vs ds → DqPs P S (v :: vs) (d :: ds)
end
section
variable {P Q : Addr → Prop} {S T : Hp}
mutual
theorem dqp_go (h1 : ∀ a vs, P a → S a = some (.lst vs) → Q a) (h2 : ∀ a o, S a = some o → (P a ∨ ∀ vs, o ≠ .lst vs) → T a = some o) : ∀ {v : V} {d : PyData}, DqP P S v d → DqP Q T v d
  | _, _, .non => .non
  | _, _, .bl b => .bl b
  | _, _, .int i => .int i
  | _, _, .str x => .str x
  | _, _, .lst p h q => .lst (h1 _ _ p h) (h2 _ _ h (.inl p)) (dqps_go h1 h2 q)
  | _, _, .tup h q => .tup (h2 _ _ h (.inr fun _ z => nomatch z)) (dqps_go h1 h2 q)
  | _, _, .dct h => .dct (h2 _ _ h (.inr fun _ z => nomatch z))
  | _, _, .dc1 h q e => .dc1 (h2 _ _ h (.inr fun _ z => nomatch z)) (dqp_go h1 h2 q) e
theorem dqps_go (h1 : ∀ a vs, P a → S a = some (.lst vs) → Q a) (h2 : ∀ a o, S a = some o → (P a ∨ ∀ vs, o ≠ .lst vs) → T a = some o) : ∀ {v : List V} {d : List PyData}, DqPs P S v d → DqPs Q T v d
  | _, _, .nil => .nil
  | _, _, .cons h q => .cons (dqp_go h1 h2 h) (dqps_go h1 h2 q)
end
theorem dqp_sm (s : Same S T) {v : V} {d : PyData} (h : DqP P S v d) : DqP P T v d := dqp_go (fun _ _ p _ => p) (fun a o e _ => s a o e) h
def rDP (P : Addr → Prop) : Rel PyData := ⟨fun d S v => DqP P S v d, fun s h => dqp_sm s h⟩
theorem tg_dp : TagR rDP := ⟨fun h a b => dqp_go a b h⟩
end
/-! what is left of a thing when a text is put behind a list in it -/
structure Mo (n k : Nat) (d : PyData) : Prop where
  s : d.showable = true
  h : d.depth ≤ n
  l : d.leavesShort 200 = true
  b : d.bulk ≤ k
structure Mos (n k : Nat) (d : List PyData) : Prop where
  s : PyData.showableAll d = true
  h : PyData.depthAll d ≤ n
  l : PyData.leavesShortAll 200 d = true
  b : PyData.bulkAll d ≤ k
def moreS : PyData := .str ("more" : Str)
theorem DqPs.snoc {P : Addr → Prop} {S : Hp} {v : V} {d : PyData} (h : DqP P S v d) : ∀ {vs : List V} {ds : List PyData}, DqPs P S vs ds → DqPs P S (vs ++ [v]) (ds ++ [d])
  | _, _, .nil => .cons h .nil
  | _, _, .cons a q => .cons a (DqPs.snoc h q)
theorem mos_snoc {n k : Nat} : ∀ {ds : List PyData}, Mos n k ds → Mos n (k + 5) (ds ++ [moreS])
  | [], h => ⟨by decide, by
      have : PyData.depthAll [moreS] = 0 := by decide +kernel
      show PyData.depthAll [moreS] ≤ n
      omega, by decide +kernel, by
      have : PyData.bulkAll [moreS] = 5 := by decide +kernel
      show PyData.bulkAll [moreS] ≤ k + 5
      omega⟩
  | d :: ds, h => by
    obtain ⟨h1, h2, h3, h4⟩ := h
    rw [PyData.showableAll, Bool.and_eq_true] at h1
    rw [PyData.depthAll] at h2
    rw [PyData.leavesShortAll, Bool.and_eq_true] at h3
    rw [PyData.bulkAll] at h4
    have q := mos_snoc (n := n) (k := PyData.bulkAll ds) (ds := ds) ⟨h1.2, by omega, h3.2, Nat.le_refl _⟩
    have b := q.b
    have dd := q.h
    exact ⟨by rw [List.cons_append, PyData.showableAll, h1.1, q.s]; rfl, by rw [List.cons_append, PyData.depthAll]; omega, by rw [List.cons_append, PyData.leavesShortAll, h3.1, q.l]; rfl, by rw [List.cons_append, PyData.bulkAll]; omega⟩
section
variable {P : Addr → Prop} {S T : Hp} {l : Addr} {ws : List V}
mutual
theorem dqp_more (hl : S l = some (.lst ws)) (h1 : T l = some (.lst (ws ++ [.str ("more" : Str)]))) (h2 : ∀ a o, a ≠ l → S a = some o → T a = some o) : ∀ {v : V} {d : PyData}, DqP P S v d → ∀ {n : Nat}, Mo n d.bulk d →
    ∃ d', DqP P T v d' ∧ Mo n (6 * d.bulk + 5) d' ∧ (d.hasDict = false → d'.hasDict = false) ∧ isLst d' = isLst d
  | _, _, .non, n, m => ⟨_, .non, ⟨m.s, m.h, m.l, by have := m.b; omega⟩, fun h => h, rfl⟩
  | _, _, .bl b, n, m => ⟨_, .bl b, ⟨m.s, m.h, m.l, by have := m.b; omega⟩, fun h => h, rfl⟩
  | _, _, .int i, n, m => ⟨_, .int i, ⟨m.s, m.h, m.l, by have := m.b; omega⟩, fun h => h, rfl⟩
  | _, _, .str x, n, m => ⟨_, .str x, ⟨m.s, m.h, m.l, by have := m.b; omega⟩, fun h => h, rfl⟩
  | _, _, .lst (a := a) (xs := xs) (ds := ds) p h q, n, m => by
    have md := m.h
    rw [PyData.depth] at md
    obtain ⟨ds', q', m', hd, _⟩ := dqps_more hl h1 h2 q (n := n - 1) ⟨by have := m.s; rw [PyData.showable] at this; exact this, by omega, by have := m.l; rw [PyData.leavesShort] at this; exact this, Nat.le_refl _⟩
    have mb := m'.b
    have mh := m'.h
    by_cases z : a = l
    · subst z
      have : xs = ws := by rw [hl] at h; cases h; rfl
      subst this
      have m2 := mos_snoc m'
      have mb2 := m2.b
      have mh2 := m2.h
      refine ⟨.list (ds' ++ [moreS]), .lst p h1 (q'.snoc (.str _)), ⟨by rw [PyData.showable]; exact m2.s, by rw [PyData.depth]; omega, by rw [PyData.leavesShort]; exact m2.l, by rw [PyData.bulk, PyData.bulk]; omega⟩, fun hh => ?_, rfl⟩
      rw [PyData.hasDict] at hh ⊢
      have : ∀ xs : List PyData, PyData.hasDictAll xs = false → PyData.hasDictAll (xs ++ [moreS]) = false := by
        intro xs
        induction xs with
        | nil => intro _; decide
        | cons x xs ih =>
          intro hx
          rw [PyData.hasDictAll, Bool.or_eq_false_iff] at hx
          rw [List.cons_append, PyData.hasDictAll, hx.1, ih hx.2]; rfl
      exact this _ (hd hh)
    · exact ⟨.list ds', .lst p (h2 _ _ z h) q', ⟨by rw [PyData.showable]; exact m'.s, by rw [PyData.depth]; omega, by rw [PyData.leavesShort]; exact m'.l, by rw [PyData.bulk, PyData.bulk]; omega⟩, fun hh => by rw [PyData.hasDict] at hh ⊢; exact hd hh, rfl⟩
  | _, _, .tup (a := a) (xs := xs) (ds := ds) h q, n, m => by
    have md := m.h
    rw [PyData.depth] at md
    obtain ⟨ds', q', m', hd, _⟩ := dqps_more hl h1 h2 q (n := n - 1) ⟨by have := m.s; rw [PyData.showable] at this; exact this, by omega, by have := m.l; rw [PyData.leavesShort] at this; exact this, Nat.le_refl _⟩
    have mb := m'.b
    have mh := m'.h
    have z : a ≠ l := fun z => by subst z; rw [hl] at h; cases h
    exact ⟨.tuple ds', .tup (h2 _ _ z h) q', ⟨by rw [PyData.showable]; exact m'.s, by rw [PyData.depth]; omega, by rw [PyData.leavesShort]; exact m'.l, by rw [PyData.bulk, PyData.bulk]; omega⟩, fun hh => by rw [PyData.hasDict] at hh ⊢; exact hd hh, rfl⟩
  | _, _, .dct (a := a) h, n, m => ⟨_, .dct (h2 _ _ (fun z => by subst z; rw [hl] at h; cases h) h), ⟨m.s, m.h, m.l, by have := m.b; omega⟩, fun h => h, rfl⟩
  | _, _, .dc1 (a := a) (k := k) (d := d) h q e, n, m => by
    have ms := m.s
    have mh := m.h
    have ml := m.l
    rw [PyData.showable, PyData.showableKv, PyData.showableKv] at ms
    rw [PyData.depth, PyData.depthKv, PyData.depthKv] at mh
    rw [PyData.leavesShort, PyData.leavesShortKv, PyData.leavesShortKv] at ml
    simp only [Bool.and_eq_true] at ms ml
    obtain ⟨d', q', m', hd, _⟩ := dqp_more hl h1 h2 q (n := n - 1) ⟨ms.1.2, by omega, ml.1.2, Nat.le_refl _⟩
    have mb := m'.b
    have mh' := m'.h
    refine ⟨.dict [(.str k, d')], .dc1 (h2 _ _ (fun z => by subst z; rw [hl] at h; cases h) h) q' (hd e), ⟨?_, ?_, ?_, ?_⟩, (fun hh => by simp [PyData.hasDict] at hh), rfl⟩
    · rw [PyData.showable, PyData.showableKv, PyData.showableKv, ms.1.1, m'.s]; rfl
    · rw [PyData.depth, PyData.depthKv, PyData.depthKv]; omega
    · rw [PyData.leavesShort, PyData.leavesShortKv, PyData.leavesShortKv, ml.1.1, m'.l]; rfl
    · simp only [PyData.bulk, PyData.bulkKv]; omega
theorem dqps_more (hl : S l = some (.lst ws)) (h1 : T l = some (.lst (ws ++ [.str ("more" : Str)]))) (h2 : ∀ a o, a ≠ l → S a = some o → T a = some o) : ∀ {v : List V} {d : List PyData}, DqPs P S v d → ∀ {n : Nat}, Mos n (PyData.bulkAll d) d →
    ∃ d', DqPs P T v d' ∧ Mos n (6 * PyData.bulkAll d) d' ∧ (PyData.hasDictAll d = false → PyData.hasDictAll d' = false) ∧ d'.map isLst = d.map isLst
  | _, _, .nil, n, m => ⟨_, .nil, ⟨m.s, m.h, m.l, by have := m.b; omega⟩, fun h => h, rfl⟩
  | _, _, .cons (d := d) (ds := ds) h q, n, m => by
    obtain ⟨k1, k2, k3, k4⟩ := m
    rw [PyData.showableAll, Bool.and_eq_true] at k1
    rw [PyData.depthAll] at k2
    rw [PyData.leavesShortAll, Bool.and_eq_true] at k3
    obtain ⟨d', q1, m1, e1, i1⟩ := dqp_more hl h1 h2 h (n := n) ⟨k1.1, by omega, k3.1, Nat.le_refl _⟩
    obtain ⟨ds', q2, m2, e2, i2⟩ := dqps_more hl h1 h2 q (n := n) ⟨k1.2, by omega, k3.2, Nat.le_refl _⟩
    have b1 := m1.b
    have b2 := m2.b
    have c1 := m1.h
    have c2 := m2.h
    refine ⟨d' :: ds', .cons q1 q2, ⟨by rw [PyData.showableAll, m1.s, m2.s]; rfl, by rw [PyData.depthAll]; omega, by rw [PyData.leavesShortAll, m1.l, m2.l]; rfl, by rw [PyData.bulkAll, PyData.bulkAll]; omega⟩, fun hh => ?_, by rw [List.map_cons, List.map_cons, i1, i2]⟩
    rw [PyData.hasDictAll, Bool.or_eq_false_iff] at hh
    rw [PyData.hasDictAll, e1 hh.1, e2 hh.2]; rfl
end
end
end Zk

namespace Zk
open PySem L2
/-! ### repr of things whose lists may change -/
theorem dict_low {prog : Program} {w : World} {h₀ : Heap} {a : Addr} {kvs : List (PyData × PyData)} {as : List Addr} (r : Reads h₀ (.ref a) (.dict kvs) as) (hs : (PyData.dict kvs).showable = true) (hsys : (a == sysModules) = false)
    (hk : PyData.hasDictAll (kvs.map (·.1)) = false) (hv : PyData.hasDictAll (kvs.map (·.2)) = false) (hz : (PyData.dict kvs).shown.length ≤ sizeLine) : Low prog w h₀ (PyData.dict kvs).depth fun bs => ReprK prog w bs h₀ (PyData.dict kvs).depth (.ref a) (PyData.dict kvs).shown := by
  have r0 := r
  cases r with
  | @dict _ o es n _ as₁ bs₁ h1 h2 h3 h4 h5 =>
    have hz' : (dictText (PyData.shownKv kvs)).length ≤ sizeLine := by simpa only [PyData.shown] using hz
    obtain ⟨hs1, hs2⟩ := PyData.showableKv_split kvs (by simpa [PyData.showable] using hs)
    obtain ⟨b1, hb1, k1⟩ := ReprAllK.of_readsAll (prog := prog) (w := w) h4 hs1 (fun z => by rw [hk] at z; cases z) (fun t ht => let ⟨p, hp, hl⟩ := PyData.shownKv_key_le kvs t ht; Nat.le_trans hl (Nat.le_trans (dictText_mem_le hp) hz'))
    obtain ⟨b2, hb2, k2⟩ := ReprAllK.of_readsAll (prog := prog) (w := w) h5 hs2 (fun z => by rw [hv] at z; cases z) (fun t ht => let ⟨p, hp, hl⟩ := PyData.shownKv_val_le kvs t ht; Nat.le_trans hl (Nat.le_trans (dictText_mem_le hp) hz'))
    have hb : ReadAtMost h₀ (PyData.depthKv kvs) (b1 ++ b2) := (hb1.mono (PyData.depthAll_keys_le kvs)).append (hb2.mono (PyData.depthAll_vals_le kvs))
    have hna : a ∉ b1 ++ b2 := not_mem_of_deeper r0 (by simp only [PyData.depth]; omega) hb
    refine ⟨a :: (b1 ++ b2), ReadAtMost.cons r0 (by simp only [PyData.depth]; omega) hb, ?_⟩
    simp only [PyData.depth, PyData.shown, PyData.shownKv_eq]
    exact ReprK.dict h1 h2 h3 hsys hna (ReprEntriesK.of_two es.toList _ _
      (k1.more_le (fun b hb => List.mem_append_left _ hb) (PyData.depthAll_keys_le kvs)) (k2.more_le (fun b hb => List.mem_append_right _ hb) (PyData.depthAll_vals_le kvs)))
section
variable {X : Cx} {pins : List (Addr × Obj)} {σ : L2.St} {H : Hp} {s : Shared} {P : Addr → Prop}
theorem dq1_reads (I : Inv X pins σ H s) {a : Addr} {o : Obj} {k : Str} {v : V} {d : PyData} (hs : H a = some (.frz o (.dK [(Sum.inr k, v)]))) (hv : ∀ u, RelV v u → ∃ as, Reads s.heap u d as) : ∃ as, Reads s.heap (.ref a) (.dict [(.str k, d)]) as ∧ (a == sysModules) = false := by
  obtain ⟨_, lo, vs, ra, da⟩ := dk_rd I.hok (.inr ⟨_, hs⟩)
  cases ra with
  | @cons _ w _ ws kk rr =>
    cases rr
    obtain ⟨wk, wv⟩ := w
    obtain ⟨k1, k2⟩ := kk
    have e1 : (Sum.inr k : Key) = wk := k1
    subst e1
    have k2 : RelV v wv := k2
    obtain ⟨as, q⟩ := hv wv k2
    have rd := PyProof.V.reads_dictOf (enc := encK) (fun k key hk => by
      rcases keyIs_shape hk with ⟨i, t, rfl, rfl⟩ | ⟨x, t, rfl, rfl⟩
      · exact .int i t
      · exact .str x t) da (PyProof.V.PairsRead.cons (enc := encK) (k := (Sum.inr k : Key)) q .nil)
    exact ⟨_, rd, lo⟩
mutual
theorem DqP.rds (I : Inv X pins σ H s) : ∀ (d : PyData) (v : V) (u : Value), DqP P H v d → RelV v u → ∃ as, Reads s.heap u d as
  | .none, v, u, h, r => by cases h; cases (show u = Value.none from r); exact ⟨_, .none⟩
  | .bool _, v, u, h, r => by cases h; cases (show u = Value.bool _ from r); exact ⟨_, .bool _⟩
  | .int _, v, u, h, r => by cases h; obtain ⟨t, q⟩ := (show ∃ t, u = Value.int _ t from r); cases q; exact ⟨_, .int _ t⟩
  | .str _, v, u, h, r => by cases h; obtain ⟨t, q⟩ := (show ∃ t, u = Value.str _ t from r); cases q; exact ⟨_, .str _ t⟩
  | .list ds, v, u, h, r => by
    cases h with
    | lst hp hs ha =>
      cases r
      obtain ⟨its, rv, ⟨ob, n, e1, e2, _, e3⟩, _⟩ := I.list (SqL.of (K := X.K) hs)
      exact let ⟨_, q⟩ := DqPs.rds I ds _ its ha rv; ⟨_, .list e1 e2 e3 q⟩
  | .tuple ds, v, u, h, r => by
    cases h with
    | tup hs ha =>
      cases r
      obtain ⟨its, rv, ⟨ob, e1, e2, n, e3⟩, _⟩ := I.tuple (SqT.of (K := X.K) hs)
      exact let ⟨_, q⟩ := DqPs.rds I ds _ its ha rv; ⟨_, .tuple e1 e2 e3 q⟩
  | .dict kvs, v, u, h, r => by
    cases h with
    | dct hs =>
      cases r
      exact let ⟨as, q, _⟩ := dq0_reads I hs; ⟨as, q⟩
    | @dc1 a o k w d hs hq e =>
      cases r
      exact let ⟨as, q, _⟩ := dq1_reads I hs (fun u ru => DqP.rds I d w u hq ru); ⟨as, q⟩
theorem DqPs.rds (I : Inv X pins σ H s) : ∀ (ds : List PyData) (vs : List V) (us : List Value), DqPs P H vs ds → Vals vs us → ∃ as, ReadsAll s.heap us ds as
  | [], _, _, .nil, .nil => ⟨_, .nil⟩
  | d :: ds, _, _, .cons h h2, .cons r r2 => let ⟨_, q⟩ := DqP.rds I d _ _ h r; let ⟨_, q2⟩ := DqPs.rds I ds _ _ h2 r2; ⟨_, .cons q q2⟩
end
mutual
theorem DqP.low (I : Inv X pins σ H s) : ∀ (d : PyData) (v : V) (u : Value), DqP P H v d → RelV v u → d.showable = true → d.shown.length ≤ sizeLine → Low X.prog X.w s.heap d.depth fun bs => ReprK X.prog X.w bs s.heap d.depth u d.shown
  | .none, v, u, h, r, e, z => let ⟨_, q⟩ := DqP.rds I _ v u h r; ReprK.of_reads q e (fun y => nomatch y) z
  | .bool _, v, u, h, r, e, z => let ⟨_, q⟩ := DqP.rds I _ v u h r; ReprK.of_reads q e (fun y => nomatch y) z
  | .int _, v, u, h, r, e, z => let ⟨_, q⟩ := DqP.rds I _ v u h r; ReprK.of_reads q e (fun y => nomatch y) z
  | .str _, v, u, h, r, e, z => let ⟨_, q⟩ := DqP.rds I _ v u h r; ReprK.of_reads q e (fun y => nomatch y) z
  | .dict _, v, u, h, r, e, z => by
    cases h with
    | dct hs =>
      cases r
      obtain ⟨as, q, n⟩ := dq0_reads I hs
      exact ReprK.of_reads q e (fun _ => n) z
    | @dc1 a o k w d hs hq e' =>
      cases r
      obtain ⟨as, q, n⟩ := dq1_reads I hs (fun u ru => DqP.rds I d w u hq ru)
      exact dict_low q e n (by simp [PyData.hasDictAll, PyData.hasDict]) (by simp [PyData.hasDictAll, e']) z
  | .list ds, v, u, h, r, e, z => by
    cases h with
    | lst hp hs ha =>
      cases r
      obtain ⟨its, rv, ⟨ob, n, e1, e2, _, e3⟩, _⟩ := I.list (SqL.of (K := X.K) hs)
      obtain ⟨as, q⟩ := DqPs.rds I ds _ its ha rv
      have q0 := Reads.list e1 e2 e3 q
      have z' : (listText (PyData.shownAll ds)).length ≤ sizeLine := by rw [PyData.shown] at z; exact z
      obtain ⟨bs, l1, l2⟩ := DqPs.low I ds _ its ha rv (by simpa [PyData.showable] using e) fun t ht => Nat.le_trans (listText_mem_le ht) z'
      have lt : PyData.depthAll ds < (PyData.list ds).depth := by simp only [PyData.depth]; omega
      refine ⟨_ :: bs, ReadAtMost.cons q0 (Nat.le_of_lt lt) l1, ?_⟩
      rw [PyData.depth, PyData.shown]
      generalize PyData.shownAll ds = ts at l2 ⊢
      cases l2 with
      | nil => rw [show listText [] = "[]" from listText_nil]; exact ReprK.listEmpty e1 e2 e3
      | cons k1 k2 => exact ReprK.list e1 e2 e3 (not_mem_of_deeper q0 lt l1) (by simpa using k2.length_eq) fun i y g => (ReprAllK.cons k1 k2).item i y (by simpa using g)
  | .tuple ds, v, u, h, r, e, z => by
    cases h with
    | tup hs ha =>
      cases r
      obtain ⟨its, rv, ⟨ob, e1, e2, n, e3⟩, _⟩ := I.tuple (SqT.of (K := X.K) hs)
      obtain ⟨as, q⟩ := DqPs.rds I ds _ its ha rv
      have q0 := Reads.tuple e1 e2 e3 q
      have z' : (tupleText (PyData.shownAll ds)).length ≤ sizeLine := by rw [PyData.shown] at z; exact z
      obtain ⟨bs, l1, l2⟩ := DqPs.low I ds _ its ha rv (by simpa [PyData.showable] using e) fun t ht => Nat.le_trans (tupleText_mem_le ht) z'
      have lt : PyData.depthAll ds < (PyData.tuple ds).depth := by simp only [PyData.depth]; omega
      refine ⟨_ :: bs, ReadAtMost.cons q0 (Nat.le_of_lt lt) l1, ?_⟩
      rw [PyData.depth, PyData.shown]
      exact ReprK.tuple e1 e2 e3 (not_mem_of_deeper q0 lt l1) (by simpa using l2)
theorem DqPs.low (I : Inv X pins σ H s) : ∀ (ds : List PyData) (vs : List V) (us : List Value), DqPs P H vs ds → Vals vs us → PyData.showableAll ds = true → (∀ t ∈ PyData.shownAll ds, t.length ≤ sizeLine) →
    Low X.prog X.w s.heap (PyData.depthAll ds) fun bs => ReprAllK X.prog X.w bs s.heap (PyData.depthAll ds) us (PyData.shownAll ds)
  | [], _, _, .nil, .nil, _, _ => ⟨[], (fun _ y => nomatch y), by rw [PyData.shownAll]; exact .nil⟩
  | d :: ds, _, _, .cons h h2, .cons r r2, e, z => by
    obtain ⟨e1, e2⟩ : d.showable = true ∧ PyData.showableAll ds = true := by simpa [PyData.showableAll] using e
    rw [PyData.shownAll] at z
    obtain ⟨bs, l1, k1⟩ := DqP.low I d _ _ h r e1 (z _ List.mem_cons_self)
    obtain ⟨cs, l2, k2⟩ := DqPs.low I ds _ _ h2 r2 e2 fun t ht => z t (List.mem_cons_of_mem _ ht)
    have m1 : d.depth ≤ PyData.depthAll (d :: ds) := by rw [PyData.depthAll]; exact Nat.le_max_left _ _
    have m2 : PyData.depthAll ds ≤ PyData.depthAll (d :: ds) := by rw [PyData.depthAll]; exact Nat.le_max_right _ _
    refine ⟨bs ++ cs, (l1.mono m1).append (l2.mono m2), ?_⟩
    rw [PyData.shownAll]
    exact .cons ((k1.more fun _ y => List.mem_append_left _ y).level_le m1) (k2.more_le (fun _ y => List.mem_append_right _ y) m2)
end
end
/-- repr of a list of such things -/
def rReprP : List V → Hp → VK → Prop := fun xs H Q => ∃ a vs d0 ds, xs = [.ref a] ∧ H a = some (.lst vs) ∧ DqPs (fun _ => True) H vs (d0 :: ds) ∧ (PyData.list (d0 :: ds)).showable = true ∧ (PyData.list (d0 :: ds)).depth ≤ 60 ∧ (PyData.list (d0 :: ds)).shown.length ≤ sizeLine ∧ Q (.str (PyData.list (d0 :: ds)).shown) H
theorem cr_reprP {X : Cx} (hg : X.A.guards = some []) (hu : X.A.units + 64 < cLine) : CallR X (.builtin "repr") rReprP := by
  intro pins s σ H xs us Q I r h
  obtain ⟨a, vs, d0, ds0, rfl, hl, q', h1, h3, h4, q⟩ := h
  generalize hds : d0 :: ds0 = ds at q' h1 h3 h4 q
  obtain ⟨u, rfl, rx⟩ := vals1 r
  obtain rfl : u = Value.ref a := rx
  obtain ⟨its, rv, ⟨ob, n, e1, e2, _, e3⟩, _⟩ := I.list (SqL.of (K := X.K) hl)
  obtain ⟨as, rd⟩ := DqPs.rds I ds _ its q' rv
  have z' : (listText (PyData.shownAll ds)).length ≤ sizeLine := by rw [PyData.shown] at h4; exact h4
  obtain ⟨bs, l1, l2⟩ := DqPs.low I ds _ its q' rv (by simpa [PyData.showable] using h1) fun t ht => Nat.le_trans (listText_mem_le ht) z'
  have hd1 : PyData.depthAll ds + 1 ≤ 60 := by simp only [PyData.depth] at h3; omega
  have ni := not_mem_of_deeper (Reads.list e1 e2 e3 rd) (n := PyData.depthAll ds) (by simp only [PyData.depth]; omega) l1
  simp only [PyData.shown] at q
  cases its with
  | nil =>
    cases rv
    cases q'
    cases hds
  | cons u0 us0 =>
    generalize PyData.shownAll ds = ts at l2 q z'
    obtain ⟨k1, k2⟩ : ∃ t0 ts0, ts = t0 :: ts0 ∧ ReprK X.prog X.w bs s.heap (PyData.depthAll ds) u0 t0 ∧ ReprAllK X.prog X.w bs s.heap (PyData.depthAll ds) us0 ts0 := by cases l2 with | cons k1 k2 => exact ⟨_, _, rfl, k1, k2⟩
    obtain ⟨ts0, rfl, k1, k2⟩ := k2
    exact call_repr_slot (by omega) ⟨ob, e1, e2⟩ F.slot_list_repr.toG (call_list_reprK e1 e2 e3 ni (by simpa using k2.length_eq) (fun i y g => (ReprAllK.cons k1 k2).item i y (by simpa using g)) hg (fun b _ => Clear.nil b) (by show X.A.units + 1 + _ < cLine; omega) (fun _ _ z => z) (fun h' u tk k => ⟨_, _, rfl, ⟨.str _, H, I.kept (t' := tk) k, ⟨_, rfl⟩, q⟩⟩) z')
end Zk

namespace Zk
open PySem L2
/-! ### things told by their places in a list of one's own, whose lists may be appended to -/
def rNth (vs : List V) : Rel Int := ⟨fun i _ v => 0 ≤ i ∧ vs[i.toNat]? = some v, fun _ h => h⟩
def gNth (vs : List V) (i : Int) : V := (vs[i.toNat]?).getD .non
theorem vr_nth {vs : List V} : ValR (rNth vs) (gNth vs) := ⟨fun ⟨_, h⟩ => by unfold gNth; rw [h]; rfl⟩
def mosB (n k : Nat) (d : List PyData) : Bool := PyData.showableAll d && decide (PyData.depthAll d ≤ n) && PyData.leavesShortAll 200 d && decide (PyData.bulkAll d ≤ k)
theorem mosB_iff {n k : Nat} {d : List PyData} (h : mosB n k d = true) : Mos n k d := by
  unfold mosB at h
  simp only [Bool.and_eq_true, decide_eq_true_eq] at h
  exact ⟨h.1.1.1, h.1.1.2, h.1.2, h.2⟩
def kB : Nat → Nat | 0 => 60 | n + 1 => 6 * kB n
theorem DqPs.len {P : Addr → Prop} {S : Hp} : ∀ {vs : List V} {ds : List PyData}, DqPs P S vs ds → vs.length = ds.length
  | _, _, .nil => rfl
  | _, _, .cons _ q => by simp [DqPs.len q]
theorem DqPs.get {P : Addr → Prop} {S : Hp} : ∀ {vs : List V} {ds : List PyData} {i : Nat} {v : V}, DqPs P S vs ds → vs[i]? = some v → ∃ d, ds[i]? = some d ∧ DqP P S v d
  | _, _, 0, _, .cons a q, h => by simp at h; subst h; exact ⟨_, rfl, a⟩
  | _, _, i + 1, _, .cons a q, h => by
    obtain ⟨d, h1, h2⟩ := DqPs.get (i := i) q (by simpa using h)
    exact ⟨d, by simpa using h1, h2⟩
theorem depth_get : ∀ {ds : List PyData} {i : Nat} {d : PyData}, ds[i]? = some d → d.depth ≤ PyData.depthAll ds
  | d :: ds, 0, e, h => by simp at h; subst h; rw [PyData.depthAll]; omega
  | d :: ds, i + 1, e, h => by
    have := depth_get (ds := ds) (i := i) (by simpa using h)
    rw [PyData.depthAll]; omega
/-- no list holds itself -/
theorem no_self {P : Addr → Prop} {S : Hp} {l : Addr} {vs : List V} {i : Nat} (hl : S l = some (.lst vs)) (hi : vs[i]? = some (.ref l)) : ∀ (n : Nat) (d : PyData), d.depth ≤ n → DqP P S (.ref l) d → False
  | n, d, hd, h => by
    cases h with
    | lst p e q =>
      have e' := hl.symm.trans e
      cases e'
      obtain ⟨d2, g1, g2⟩ := q.get hi
      have := depth_get g1
      rw [PyData.depth] at hd
      cases n with
      | zero => omega
      | succ n => exact no_self hl hi n d2 (by omega) g2
    | tup e q => rw [hl] at e; cases e
    | dct e => rw [hl] at e; cases e
    | dc1 e q z => rw [hl] at e; cases e
theorem DqPs.of_all {P : Addr → Prop} {S : Hp} : ∀ {ds : List PyData} {vs : List V}, All2 (fun d v => DqP P S v d) ds vs → DqPs P S vs ds
  | [], [], _ => .nil
  | _ :: _, _ :: _, ⟨a, b⟩ => .cons a (DqPs.of_all b)
  | [], _ :: _, h => h.elim
  | _ :: _, [], h => h.elim
/-- a list of one's own that holds the values vs, which are of the kinds ks, c times appended to -/
def thO (vs : List V) (ks : List Bool) (c : Nat) : PrO := ⟨fun S H v F => ∃ l, v = .ref l ∧ F l ∧ H l = some (.lst vs) ∧ (∀ a, F a → ∃ ws, H a = some (.lst ws)) ∧
    ∃ ds, Mos 6 (kB c) ds ∧ ds.map isLst = ks ∧ ∀ T, Same S T → (∀ a o, F a → H a = some o → T a = some o) → DqPs F T vs ds,
  fun s k ⟨l, e, f, hl, h1, ds, m, e2, h2⟩ => ⟨l, e, f, k _ _ f hl, fun a fa => let ⟨ws, e⟩ := h1 a fa; ⟨ws, k _ _ fa e⟩, ds, m, e2, fun T sT kT => h2 T (s.trans sT) fun a o fa e => kT a o fa (k a o fa e)⟩⟩
section
variable {τ α β γ δ κ ρ ι θ : Type} {G : Gx} {c : Sc} {E : Eff τ} {W : WX} {Γ Γ' : Env} {B : Bs} {σ : L2.St} {S S1 S' H H' : Hp} {b b' : τ} {L : Ls κ ρ} {vs : List V} {ks : List Bool} {n k : Nat}
/-- what is seen of a thing's own list, at the heap -/
theorem thO_at (hh : Hold E B Γ b σ S H) (hi : Γ[k]? = some (.ow (thO vs ks n))) : ∃ l F, σ[k]? = some (some (.ref l)) ∧ F l ∧ H l = some (.lst vs) ∧ (∀ a, F a → ∃ ws, H a = some (.lst ws)) ∧ ∃ ds, Mos 6 (kB n) ds ∧ ds.map isLst = ks ∧ DqPs F H vs ds := by
  obtain ⟨Fs, hF, hs⟩ := id hh.sl
  obtain ⟨v, e1, l, rfl, fl, hl, h1, ds, m, e2, h2⟩ := hs k _ hi
  exact ⟨l, Fs k, slot_get e1, fl, hl, h1, ds, m, e2, h2 H hh.same fun a o _ e => e⟩
/-- the values get names -/
theorem zb_th {ds : List PyData} {sts : List Stmt} {m : M τ (Fl β κ ρ)} {Γn : β → Env} (hi : Γ[k]? = some (.ow (treeF (fun P => rLP P (rDP P)) ds)))
    (h : ∀ vs, ZB G c E W L (Γ.set k (.ow (thO vs (ds.map isLst) 0))) sts m Γn) : ZB G c E W L Γ sts (chk (mosB 6 60 ds = true) m) Γn := fun X C => by
  by_cases hm : mosB 6 60 ds = true
  · rw [show (chk (mosB 6 60 ds = true) m) = m from if_pos hm]
    exact pss_wk (pss_ex fun vs => h vs X C) fun D σ H _ ⟨B, S, b, hh, q⟩ => by
      obtain ⟨Fs, hF, hs⟩ := id hh.sl
      obtain ⟨v, e1, hl, hv⟩ := hs k _ hi
      obtain ⟨l, vs, rfl, fl, el, q1⟩ := hv H hh.same fun a o _ e => e
      refine ⟨vs, B, S, b, ⟨hh.kp, hh.ef, Fs, hF, fun j s e => ?_⟩, q⟩
      rcases set_get e with ⟨rfl, rfl⟩ | ⟨_, e⟩
      · refine ⟨_, e1, l, rfl, fl, el, hl, ds, mosB_iff hm, rfl, fun T sT kT => ?_⟩
        · obtain ⟨l', vs', e', f', el', q'⟩ := hv T sT kT
          cases e'
          have := kT _ _ fl el
          rw [this] at el'
          cases el'
          exact DqPs.of_all q'
      · exact hs j s e
  · rw [show (chk (mosB 6 60 ds = true) m) = stk from if_neg hm]
    exact pss_wk (h [] X C) fun D σ H _ ⟨B, S, b, hh, q⟩ => q.elim
end
end Zk

namespace Zk
open PySem L2
abbrev ExM := Str × List (Str × Int)
def toE (g : Int → V) (x : ExM) : Exc := ⟨x.1, x.2.map fun t => (t.1, g t.2)⟩
theorem toE_look {g : Int → V} {f : Str} : ∀ {xs : List (Str × Int)}, (xs.map fun t => (t.1, g t.2)).lookup f = (xs.lookup f).map g
  | [] => rfl
  | (k, v) :: xs => by
    rw [List.map_cons, List.lookup, List.lookup]
    cases f == k with
    | true => rfl
    | false => exact toE_look
theorem look_mem {f : Str} {i : Int} : ∀ {xs : List (Str × Int)}, xs.lookup f = some i → (f, i) ∈ xs
  | (k, v) :: xs, h => by
    rw [List.lookup] at h
    cases e : f == k with
    | true =>
      rw [e] at h
      have := Option.some.inj h
      have e2 : f = k := eq_of_beq e
      subst this e2
      exact List.mem_cons_self
    | false => rw [e] at h; exact List.mem_cons_of_mem _ (look_mem h)
section
variable {τ α β γ δ κ ρ ι θ : Type} {G : Gx} {c : Sc} {E : Eff τ} {W : WX} {Γ Γ' : Env} {B : Bs} {σ : L2.St} {S S1 S' H H' : Hp} {b b' : τ} {L : Ls κ ρ} {vs : List V} {ks : List Bool} {n k : Nat}
/-- an exception that stands, its fields told by their places -/
def rXn (G : Gx) (vs : List V) : Rel ExM := ⟨fun x S v => (rXc G).is (toE (gNth vs) x) S v ∧ ∀ t ∈ x.2, 0 ≤ t.2 ∧ t.2.toNat < vs.length, fun s ⟨h, h2⟩ => ⟨(rXc G).mono s h, h2⟩⟩
theorem nth_lt {i : Int} {v : V} (h : (rNth vs).is i S v) : 0 ≤ i ∧ i.toNat < vs.length := ⟨h.1, (List.getElem?_eq_some_iff.mp h.2).1⟩
theorem nth_of {i : Int} (h : 0 ≤ i ∧ i.toNat < vs.length) : (rNth vs).is i S (gNth vs i) := ⟨h.1, by unfold gNth; rw [List.getElem?_eq_getElem h.2]; rfl⟩
theorem z_exn1 {x f : Str} {k : Nat} {ps : List Str} {C0 : Addr} {e : Expr} {p pos' : Pos} {m : M τ Int} (XA : XAtC G x k ps (spX1 G.K f) C0) (hf : PySem.W.findIn G.K (.ref C0) f = some none) (hk : k + 1 ≤ c.k) (g : Gb c x) (h : ZE G c E W Γ e m (rNth vs))
    (hd : (x == ("__debug__" : Str)) = false := by decide) (hs : Star e [] := by intro _; rfl) (hpl : Plain1 [] := by intro _ _; rfl) : ZE G c E W Γ (.Call (.Name x p) [e] [] pos') (zget (fun y => ((x, [(f, y)]) : ExM)) m) (rXn G vs) :=
  z_ex1 XA hf hk g vr_nth h hd hs hpl fun y S u w hy hw => ⟨hw, fun t ht => by rw [List.mem_singleton.mp ht]; exact nth_lt hy⟩
theorem z_exn2 {x f f2 : Str} {k : Nat} {ps : List Str} {C0 : Addr} {e e2 : Expr} {p pos' : Pos} {m n : M τ Int} (XA : XAtC G x k ps (spX2 G.K f f2) C0) (hf : PySem.W.findIn G.K (.ref C0) f = some none) (hf2 : PySem.W.findIn G.K (.ref C0) f2 = some none) (hk : k + 1 ≤ c.k) (g : Gb c x) (h : ZE G c E W Γ e m (rNth vs)) (h2 : ZE G c E W Γ e2 n (rNth vs))
    (hd : (x == ("__debug__" : Str)) = false := by decide) (hs : Star e [e2] := by intro _; rfl) (hs2 : Star e2 [] := by intro _; rfl) (hpl : ∀ env : PySem.Env, (backTo pos' (starEach [e2] env)).any (·.1) = false := by intro _; rfl) : ZE G c E W Γ (.Call (.Name x p) [e, e2] [] pos') (zget (fun y => ((x, [(f2, y.2), (f, y.1)]) : ExM)) (zpair m n)) (rXn G vs) :=
  z_ex2 XA hf hf2 hk g vr_nth vr_nth h h2 hd hs hs2 hpl fun y S u u2 w hy hy2 hw => ⟨hw, fun t ht => by
    rcases List.mem_cons.mp ht with rfl | ht
    · exact nth_lt hy2
    · rw [List.mem_singleton.mp ht]; exact nth_lt hy⟩
theorem aft_ret2 {R1 : Rel β} {R2 : Rel γ} {x : β} {y : γ} {Q : VK} (cc : ∀ S v, R1.is x S v → R2.is y S v) (h : aft G E W B Γ σ S R2 Q (ret y b)) : aft G E W B Γ σ S R1 Q (ret x b) := fun v S1 H1 s h1 r => h v S1 H1 s h1 (cc _ _ r)
theorem z_exn0 {x : Str} {k : Nat} {ps : List Str} {C0 : Addr} {p pos' : Pos} (XA : XAtC G x k ps (spX0 G.K) C0) (hk : k + 1 ≤ c.k) (g : Gb c x) (hd : (x == ("__debug__" : Str)) = false := by decide) : ZE G c E W Γ (.Call (.Name x p) [] [] pos') (ret ((x, []) : ExM)) (rXn G vs) := fun X C =>
  pe_wk (z_ex0 XA hk g hd X C) fun σ H Q _ ⟨B, S, b, hh, q⟩ => ⟨B, S, b, hh, aft_ret2 (R1 := rXc G) (R2 := rXn G vs) (x := (⟨x, []⟩ : Exc)) (y := ((x, []) : ExM)) (fun S v h => ⟨h, fun t ht => by cases ht⟩) q⟩
/-- isinstance(x, c) -/
theorem z_isXn {t : Str → Option Bool} {p : Pos} {ex y : Expr} {v0 : V} {u0 : Value} {m : M τ ExM} {pos' : Pos} (bl : Blt G c "isinstance" (.builtin "isinstance")) (h : ZE G c E W Γ ex m (rXn G vs)) (hy : ∀ X, CtxOk G c W X → PE X y fun σ H Q => Q v0 H) (hcv : ClsV v0 u0)
    (ht : ∀ k b, t k = some b → ∃ D, G.mg k = some (.ref D) ∧ L2.ExcC G.K D ∧ PySem.W.kitOne G.K (.ref D) u0 = some b)
    (hs : Star ex [y] := by intro _; rfl) (hs2 : Star y [] := by intro _; rfl) : ZE G c E W Γ (.Call (.Name "isinstance" p) [ex, y] [] pos') (zgetP (fun x => t x.1) m) rBl := fun X C => by
  refine pe_wk (pe_callB call_isX (C.gl bl.g) (by rw [C.mg]; exact bl.m) bl.v (pa_cons (h X C) (pa_cons (hy X C) pa_nil (hs2 X.env)) (hs X.env)) bl.n bl.d (hs X.env) (by show (backTo _ (starEach [y] X.env)).any _ = false; rw [hs2 X.env]; rfl)) fun σ H Q _ ⟨B, S, b, hh, q⟩ => ?_
  refine tz_bnd hh q fun x b1 v S1 H1 s1 h1 r1 q1 => ?_
  obtain ⟨⟨a, D, rfl, g1, ef⟩, _⟩ := r1
  have q1 : aft G E W B Γ σ S1 rBl Q (mopt (t x.1) b1) := q1
  cases e : t x.1 with
  | none => rw [e] at q1; exact q1.elim
  | some z =>
    rw [e] at q1
    obtain ⟨D', m1, xc, m2⟩ := ht _ _ e
    have : D' = D := by
      have g1 : G.mg x.1 = some (.ref D) := g1
      rw [m1] at g1; cases g1; rfl
    subst this
    rw [← C.K] at xc m2
    exact ⟨a, D', v0, u0, z, rfl, hcv, ext_same h1.same (exF_ext ef), xc, m2, aft_ret h1 q1 rfl⟩
theorem hyE_own {y : Str} {p2 : Pos} {C0 : Addr} (g2 : Gb c y) (m2 : G.mg y = some (.ref C0)) (hd2 : (y == ("__debug__" : Str)) = false := by decide) : ∀ X, CtxOk G c W X → PE X (.Name y p2) fun σ H Q => Q (.ref C0) H := fun X C =>
  pe_glob (v := .ref C0) (C.gl g2) (by rw [C.mg]; exact m2) rfl hd2
/-- e.f -/
def xfN (ns : List Str) (fld : Str) (x : ExM) : Option Int := if x.1 ∈ ns then x.2.lookup fld else none
theorem z_fN {ns : List Str} {fld : Str} {ex : Expr} {m : M τ ExM} {pos' : Pos} (h : ZE G c E W Γ ex m (rXn G vs)) (hf : ∀ k ∈ ns, FldC G k fld)
    (hb : ∀ env : PySem.Env, attributeBase ex fld env (eval ex env) = eval ex env := by intro _; rfl) : ZE G c E W Γ (.Attribute ex fld pos') (zgetP (xfN ns fld) m) (rNth vs) := fun X C => by
  refine pe_wk (pe_xfV (h X C) (hb X.env)) fun σ H Q _ ⟨B, S, b, hh, q⟩ => ?_
  refine tz_bnd hh q fun x b1 v S1 H1 s1 h1 r1 q1 => ?_
  obtain ⟨⟨a, D, rfl, g1, ef⟩, hr⟩ := r1
  unfold xfN at q1
  split at q1
  · rename_i hx
    obtain ⟨D', m1, xf, no⟩ := (hf _ hx).h
    have : D' = D := by
      have g1 : G.mg x.1 = some (.ref D) := g1
      rw [m1] at g1; cases g1; rfl
    subst this
    cases el : x.2.lookup fld with
    | none => rw [el] at q1; exact q1.elim
    | some w =>
      rw [el] at q1
      have el2 : (toE (gNth vs) x).fs.lookup fld = some (gNth vs w) := by
        show (x.2.map fun t => (t.1, gNth vs t.2)).lookup fld = _
        rw [toE_look, el]; rfl
      rcases ef with ⟨e0, _⟩ | ⟨d, ea, ed⟩
      · rw [e0] at el2; cases el2
      · exact ⟨a, D', d, _, _, rfl, by rw [C.K]; exact xf, by rw [C.K]; exact no, h1.same _ _ ea, h1.same _ _ ed, el2, aft_ret h1 q1 (nth_of (hr _ (look_mem el)))⟩
  · exact q1.elim
end
end Zk

namespace Zk
open PySem L2
section
variable {τ α β γ δ κ ρ ι θ : Type} {G : Gx} {c : Sc} {E : Eff τ} {W : WX} {Γ Γ' : Env} {B : Bs} {σ : L2.St} {S S1 S' H H' : Hp} {b b' : τ} {L : Ls κ ρ} {vs : List V} {ks : List Bool} {n k : Nat} {N : Hp} {P : Addr → Prop}
/-! ### new things -/
theorem z_dp {R : Rel α} {f : α → PyData} {m : M τ α} {e : Expr} (d : ∀ x S v, R.is x S v → DqP P S v (f x)) (h : ZE G c E W Γ e m R) : ZE G c E W Γ e (zget f m) (rDP P) := fun X C => pe_wk (h X C) fun σ H Q _ ⟨B, S, b, hh, q⟩ => by
  exact tz_bnd hh q fun x b1 v S1 H1 s1 h1 r1 q1 => aft_ret h1 q1 (d _ _ _ r1)
theorem dp_int (x : Int) (S : Hp) (v : V) (h : rInt.is x S v) : DqP P S v (.int x) := by cases h; exact .int x
theorem dp_bl (x : Bool) (S : Hp) (v : V) (h : rBl.is x S v) : DqP P S v (.bool x) := by cases h; exact .bl x
theorem dp_str (x : Str) (S : Hp) (v : V) (h : rStr.is x S v) : DqP P S v (.str x) := by cases h; exact .str x
theorem dp_non (x : Unit) (S : Hp) (v : V) (h : rNon.is x S v) : DqP P S v .none := by cases h; exact .non
theorem dp_t2 (x : Int × Int) (S : Hp) (v : V) (h : (rT2 rInt rInt).is x S v) : DqP P S v (.tuple [.int x.1, .int x.2]) := by
  obtain ⟨a, u, w, rfl, e, h1, h2⟩ := h
  cases h1; cases h2
  exact .tup e (.cons (.int _) (.cons (.int _) .nil))
theorem dps_int {S : Hp} : ∀ {xs : List Int} {ws : List V}, All2 (fun x v => rInt.is x S v) xs ws → DqPs P S ws (xs.map .int)
  | [], [], _ => .nil
  | x :: xs, w :: ws, ⟨a, q⟩ => by cases a; exact .cons (.int x) (dps_int q)
  | [], _ :: _, h => h.elim
  | _ :: _, [], h => h.elim
theorem dp_lp (x : List Int) (S : Hp) (v : V) (h : (rLP P rInt).is x S v) : DqP P S v (.list (x.map .int)) := by
  obtain ⟨a, ws, rfl, p, e, q⟩ := h
  exact .lst p e (dps_int q)
theorem dps_lp {S : Hp} : ∀ {xs : List (List Int)} {ws : List V}, All2 (fun x v => (rLP P rInt).is x S v) xs ws → DqPs P S ws (xs.map fun ys => .list (ys.map .int))
  | [], [], _ => .nil
  | x :: xs, w :: ws, ⟨a, q⟩ => .cons (dp_lp _ _ _ a) (dps_lp q)
  | [], _ :: _, h => h.elim
  | _ :: _, [], h => h.elim
theorem dp_lpp (x : List (List Int)) (S : Hp) (v : V) (h : (rLP P (rLP P rInt)).is x S v) : DqP P S v (.list (x.map fun ys => .list (ys.map .int))) := by
  obtain ⟨a, ws, rfl, p, e, q⟩ := h
  exact .lst p e (dps_lp q)
/-- {}, as a thing -/
def dc0 (xs : List (Str × Int)) : Option PyData := if xs = [] then some (.dict []) else none
theorem z_dp0 {m : M τ (List (Str × Int))} {e : Expr} (h : ZE G c E W Γ e m (rDct (kyF G kyfS) rInt)) : ZE G c E W Γ e (zgetP dc0 m) (rDP P) := fun X C => pe_wk (h X C) fun σ H Q _ ⟨B, S, b, hh, q⟩ => by
  refine tz_bnd hh q fun x b1 v S1 H1 s1 h1 r1 q1 => ?_
  cases x with
  | cons y ys => exact q1.elim
  | nil =>
    obtain ⟨a, o, es, e1, e2, q2⟩ := dct_flat r1
    cases es with
    | cons y ys => exact q2.elim
    | nil =>
      subst e1
      exact aft_ret h1 q1 (DqP.dct e2)
theorem dp_rec {key : Str} (x : List Int) (S : Hp) (v : V) (h : (rRec [key] (fun x : List Int => [(rLP P rInt).pr x])).is x S v) : DqP P S v (.dict [(.str key, .list (x.map .int))]) := by
  obtain ⟨a, o, es, rfl, e, hk, q⟩ := h
  match es, hk, q with
  | [(kk, w)], hk, ⟨q1, _⟩ =>
    have : kk = Sum.inr key := by simpa using hk
    subst this
    refine .dc1 e (dp_lp _ _ _ q1) ?_
    have : ∀ xs : List Int, PyData.hasDictAll (xs.map PyData.int) = false := by
      intro xs
      induction xs with
      | nil => simp [PyData.hasDictAll]
      | cons x xs ih => simp [PyData.hasDictAll, PyData.hasDict, ih]
    simp only [PyData.hasDict, this]
/-! ### a thing out of the list -/
theorem atI_at {i : Int} (h : 0 ≤ i ∧ i.toNat < vs.length) : atI vs i = vs[i.toNat]? := by rw [atI_nat h.1 h.2, List.getElem?_eq_getElem h.2]
theorem z_nthAt {x : Str} {e : Expr} {p pos : Pos} {m : M τ Int} (nm : Nm c k x) (hi : Γ[k]? = some (.ow (thO vs ks n))) (h : ZE G c E W Γ e m rInt) (hs : PIx e := by intro _ _; rfl) : ZE G c E W Γ (.Subscript (.Name x p) e pos) (bnd m fun i => chk (0 ≤ i ∧ i.toNat < ks.length) (ret i)) (rNth vs) := fun X C =>
  pe_wk (pe_ix ix_list (pe_var (C.hi nm.n) (by rw [C.sc]; exact nm.v) nm.d nm.cd) (h X C) hs) fun σ H Q _ ⟨B, S, b, hh, q⟩ => by
    obtain ⟨l, F, e1, _⟩ := thO_at hh hi
    refine ⟨_, e1, tz_bnd hh q fun i b1 w S1 H1 s1 h1 r1 q1 => ?_⟩
    cases r1
    obtain ⟨hr, q2⟩ := aft_chk q1
    obtain ⟨l', F', e1', _, hl, _, ds, _, hk, dq⟩ := thO_at h1 hi
    rw [e1] at e1'; cases e1'
    have hlen : vs.length = ks.length := by rw [dq.len, ← hk, List.length_map]
    have hr' : 0 ≤ i ∧ i.toNat < vs.length := by rw [hlen]; exact hr
    exact ⟨l, vs, i, gNth vs i, rfl, rfl, .of hl, by rw [atI_at hr']; exact (nth_of (S := S) hr').2, aft_ret h1 q2 (nth_of hr')⟩
/-- isinstance(thing, list) -/
theorem dqp_ty {K : PySem.W.Frag} {F : Addr → Prop} {v : V} {d : PyData} (h : DqP F H v d) : ∃ t, TyX K H v t ∧ PySem.W.kitOne K t (.type "list") = some (isLst d) := by
  cases h with
  | non => exact ⟨_, .base .non, L2.kit_ty (by decide +kernel)⟩
  | bl b => exact ⟨_, .base (.bl b), L2.kit_ty (show kitB "bool" "list" = some false by decide +kernel)⟩
  | int i => exact ⟨_, .base (.int i), L2.kit_ty (show kitB "int" "list" = some false by decide +kernel)⟩
  | str x => exact ⟨_, .base (.str x), L2.kit_ty (show kitB "str" "list" = some false by decide +kernel)⟩
  | lst p e q => exact ⟨_, .base (.lst e), L2.kit_ty (show kitB "list" "list" = some true by decide +kernel)⟩
  | tup e q => exact ⟨_, .base (.tup e), L2.kit_ty (show kitB "tuple" "list" = some false by decide +kernel)⟩
  | dct e => exact ⟨_, .fDict e, L2.kit_ty (show kitB "dict" "list" = some false by decide +kernel)⟩
  | dc1 e q z => exact ⟨_, .fDict e, L2.kit_ty (show kitB "dict" "list" = some false by decide +kernel)⟩
theorem z_isLst {p p2 pos' : Pos} {ex : Expr} {m : M τ Int} (bl : Blt G c "isinstance" (.builtin "isinstance")) (bl2 : Blt G c "list" (.type "list")) (hi : Γ[k]? = some (.ow (thO vs ks n))) (h : ZE G c E W Γ ex m (rNth vs))
    (hs : Star ex [.Name "list" p2] := by intro _; rfl) (hs2 : Star (.Name "list" p2) [] := by intro _; rfl) : ZE G c E W Γ (.Call (.Name "isinstance" p) [ex, .Name "list" p2] [] pos') (zgetP (fun i => ks[i.toNat]?) m) rBl := fun X C => by
  refine pe_wk (pe_callB call_isi (C.gl bl.g) (by rw [C.mg]; exact bl.m) bl.v (pa_cons (h X C) (pa_cons (pe_bltn (v := .ty "list") (C.gl bl2.g) (by rw [C.mg]; exact bl2.m) bl2.v rfl bl2.n bl2.d) pa_nil (hs2 X.env)) (hs X.env)) bl.n bl.d (hs X.env) (by show (backTo _ (starEach [.Name "list" p2] X.env)).any _ = false; rw [hs2 X.env]; rfl)) fun σ H Q _ ⟨B, S, b, hh, q⟩ => ?_
  refine tz_bnd hh q fun i b1 v S1 H1 s1 h1 r1 q1 => ?_
  obtain ⟨h0, hv⟩ := r1
  obtain ⟨l', F', e1', _, hl, _, ds, _, hk, dq⟩ := thO_at h1 hi
  obtain ⟨d, g1, g2⟩ := dq.get hv
  obtain ⟨t, ty, kt⟩ := dqp_ty (K := X.K) g2
  have q1 : aft G E W B Γ σ S1 rBl Q (mopt (ks[i.toNat]?) b1) := q1
  rw [← hk, List.getElem?_map, g1] at q1
  exact ⟨v, .ty "list", t, .type "list", isLst d, rfl, .ty "list", ty, kt, aft_ret h1 q1 rfl⟩
end
end Zk

namespace Zk
open PySem L2
theorem mos_get {n k : Nat} : ∀ {ds : List PyData} {i : Nat} {d : PyData}, Mos n k ds → ds[i]? = some d → Mo n k d
  | d :: ds, 0, e, ⟨h1, h2, h3, h4⟩, h => by
    simp at h; subst h
    rw [PyData.showableAll, Bool.and_eq_true] at h1
    rw [PyData.depthAll] at h2
    rw [PyData.leavesShortAll, Bool.and_eq_true] at h3
    rw [PyData.bulkAll] at h4
    exact ⟨h1.1, by omega, h3.1, by omega⟩
  | d :: ds, i + 1, e, ⟨h1, h2, h3, h4⟩, h => by
    rw [PyData.showableAll, Bool.and_eq_true] at h1
    rw [PyData.depthAll] at h2
    rw [PyData.leavesShortAll, Bool.and_eq_true] at h3
    rw [PyData.bulkAll] at h4
    exact mos_get (ds := ds) (i := i) ⟨h1.2, by omega, h3.2, by omega⟩ (by simpa using h)
theorem mo_none {n k : Nat} : Mo n k .none := ⟨by simp [PyData.showable], by simp [PyData.depth], by simp [PyData.leavesShort], by simp [PyData.bulk]⟩
theorem mos_map {α : Type} {f : α → PyData} {n k : Nat} : ∀ {xs : List α}, (∀ x ∈ xs, Mo n k (f x)) → Mos n ((k + 1) * xs.length) (xs.map f)
  | [], _ => ⟨by simp [PyData.showableAll], by simp [PyData.depthAll], by simp [PyData.leavesShortAll], by simp [PyData.bulkAll]⟩
  | x :: xs, h => by
    have h0 := h x (by simp)
    have q := mos_map (xs := xs) fun y hy => h y (by simp [hy])
    have b1 := h0.b; have b2 := q.b; have c1 := h0.h; have c2 := q.h
    refine ⟨by rw [List.map_cons, PyData.showableAll, h0.s, q.s]; rfl, by rw [List.map_cons, PyData.depthAll]; omega, by rw [List.map_cons, PyData.leavesShortAll, h0.l, q.l]; rfl, ?_⟩
    rw [List.map_cons, PyData.bulkAll, List.length_cons, Nat.mul_add, Nat.mul_one]
    omega
/-- what stands for a place -/
def dNth (ds : List PyData) (i : Int) : PyData := (ds[i.toNat]?).getD .none
section
variable {τ α β γ δ κ ρ ι θ : Type} {G : Gx} {c : Sc} {E : Eff τ} {W : WX} {Γ Γ' : Env} {B : Bs} {σ : L2.St} {S S1 S' H H' : Hp} {b b' : τ} {L : Ls κ ρ} {vs : List V} {ks : List Bool} {n k : Nat} {N : Hp} {P F : Addr → Prop}
theorem nth_all {ds : List PyData} (dq : DqPs F H vs ds) : ∀ {xs : List Int} {ws : List V}, All2 (fun x v => (rNth vs).is x S v) xs ws → DqPs (fun _ => True) H ws (xs.map (dNth ds)) ∧ ws = xs.map (gNth vs)
  | [], [], _ => ⟨.nil, rfl⟩
  | x :: xs, w :: ws, ⟨a, q⟩ => by
    obtain ⟨d, g1, g2⟩ := dq.get a.2
    obtain ⟨q1, q2⟩ := nth_all dq q
    have e1 : dNth ds x = d := by unfold dNth; rw [g1]; rfl
    refine ⟨?_, by rw [List.map_cons, ← q2, vr_nth.is (S := S) a]⟩
    rw [List.map_cons, e1]
    exact .cons (dqp_go (fun _ _ _ _ => trivial) (fun _ _ e _ => e) g2) q1
  | [], _ :: _, h => h.elim
  | _ :: _, [], h => h.elim
theorem kB2 {n : Nat} (h : n ≤ 2) : kB n ≤ 2160 := by
  match n, h with
  | 0, _ => decide
  | 1, _ => decide
  | 2, _ => decide
/-- repr(x) and repr(y) compared, where x and y hold the very same things -/
theorem z_reprC {op : CmpOp} {r : R2} {res : Bool} {x x2 y : Str} {j : Nat} {ea : Expr} {m : M τ (List Int)} {ys : List Int} {p1 p2 p3 p4 p5 pos : Pos} (hgd : c.gd = true) (ho : ∀ X, CtxOk G c W X → OpR X (compareOp op) r) (hr : ∀ {s : Str} {H : Hp} {Q : VK}, Q (.bl res) H → r (.str s) (.str s) H Q)
    (bl : Blt G c x (.builtin "repr")) (bl2 : Blt G c x2 (.builtin "repr")) (hi : Γ[k]? = some (.ow (thO vs ks n))) (hn : n ≤ 2) (ha : ZE G c E W Γ ea m (rLst (rNth vs))) (nm : Nm c j y) (hj : Γ[j]? = some (.st ((rLst (rNth vs)).pr ys)))
    (hm : op ≠ .In := by decide) (hm2 : op ≠ .NotIn := by decide) (hs : Star ea [] := by intro _; rfl) (hs2 : Star (.Name y p4) [] := by intro _; rfl) :
    ZE G c E W Γ (.Compare (.Call (.Name x p1) [ea] [] p2) [op] [.Call (.Name x2 p3) [.Name y p4] [] p5] pos) (bnd m fun xs => chk (xs = ys ∧ xs ≠ [] ∧ xs.length ≤ 20) (ret res)) rBl := fun X C => by
  refine pe_wk (pe_cmpR (ho X C) (pe_callB (cr_reprP (C.gds hgd) C.room.units) (C.gl bl.g) (by rw [C.mg]; exact bl.m) bl.v (pa_cons (ha X C) pa_nil (hs X.env)) bl.n bl.d (hs X.env) (by rfl))
    (pe_callB (cr_reprP (C.gds hgd) C.room.units) (C.gl bl2.g) (by rw [C.mg]; exact bl2.m) bl2.v (pa_cons (pe_var (C.hi nm.n) (by rw [C.sc]; exact nm.v) nm.d nm.cd) pa_nil (hs2 X.env)) bl2.n bl2.d (hs2 X.env) (by rfl)) (nomark _ hm hm2)) fun σ H Q _ ⟨B, S, b, hh, q⟩ => ?_
  refine tz_bnd hh q fun xs b1 v S1 H1 s1 h1 r1 q1 => ?_
  obtain ⟨⟨e1, hne, hl⟩, q2⟩ := aft_chk q1
  subst e1
  obtain ⟨l, F, e0, fl, el, hls, ds, mo, hk, dq⟩ := thO_at h1 hi
  obtain ⟨a, ws, rfl, ea1, qa⟩ := r1
  obtain ⟨Fs, hF, hsl⟩ := id h1.sl
  obtain ⟨v2, e2, a2, ws2, rfl, ea2, qa2⟩ := hsl j _ hj
  obtain ⟨d1, w1⟩ := nth_all dq qa
  obtain ⟨d2, w2⟩ := nth_all dq qa2
  have mm : Mos 6 ((kB n + 1) * xs.length) (xs.map (dNth ds)) := mos_map fun i hi => by
    unfold dNth
    cases z : ds[i.toNat]? with
    | none => exact mo_none
    | some d => exact mos_get mo z
  have bd : (kB n + 1) * xs.length ≤ 2161 * 20 := Nat.mul_le_mul (by have := kB2 hn; omega) hl
  obtain ⟨m1, m2, m3, m4⟩ := mm
  have f1 : (PyData.list (xs.map (dNth ds))).showable = true := by rw [PyData.showable]; exact m1
  have f2 : (PyData.list (xs.map (dNth ds))).depth ≤ 60 := by rw [PyData.depth]; omega
  have f3 : (PyData.list (xs.map (dNth ds))).shown.length ≤ sizeLine := by
    have h7 := PyData.shown_le_bulk 200 (by omega) (PyData.list (xs.map (dNth ds))) (by rw [PyData.leavesShort]; exact m3)
    have h8 : (PyData.list (xs.map (dNth ds))).bulk ≤ 2161 * 20 := by rw [PyData.bulk]; omega
    have h9 : (200 + 2) * (PyData.list (xs.map (dNth ds))).bulk ≤ (200 + 2) * (2161 * 20) := Nat.mul_le_mul_left _ h8
    have : sizeLine = 16777216 := by decide
    omega
  cases xs with
  | nil => exact absurd rfl hne
  | cons x0 xs =>
    rw [List.map_cons] at d1 d2 f1 f2 f3
    exact ⟨a, ws, _, _, rfl, h1.same _ _ ea1, d1, f1, f2, f3, _, slot_get e2, a2, ws2, _, _, rfl, h1.same _ _ ea2, d2, f1, f2, f3, hr (aft_ret h1 q2 rfl)⟩
theorem zt_reprC {op : CmpOp} {r : R2} {res : Bool} {x x2 y : Str} {j : Nat} {ea : Expr} {m : M τ (List Int)} {ys : List Int} {p1 p2 p3 p4 p5 pos : Pos} (hgd : c.gd = true) (ho : ∀ X, CtxOk G c W X → OpR X (compareOp op) r) (hr : ∀ {s : Str} {H : Hp} {Q : VK}, Q (.bl res) H → r (.str s) (.str s) H Q)
    (bl : Blt G c x (.builtin "repr")) (bl2 : Blt G c x2 (.builtin "repr")) (hi : Γ[k]? = some (.ow (thO vs ks n))) (hn : n ≤ 2) (ha : ZE G c E W Γ ea m (rLst (rNth vs))) (nm : Nm c j y) (hj : Γ[j]? = some (.st ((rLst (rNth vs)).pr ys)))
    (hm : op ≠ .In := by decide) (hm2 : op ≠ .NotIn := by decide) (hs : Star ea [] := by intro _; rfl) (hs2 : Star (.Name y p4) [] := by intro _; rfl) :
    ZT G c E W Γ (.Compare (.Call (.Name x p1) [ea] [] p2) [op] [.Call (.Name x2 p3) [.Name y p4] [] p5] pos) (bnd m fun xs => chk (xs = ys ∧ xs ≠ [] ∧ xs.length ≤ 20) (ret res)) := fun X C => by
  refine pt_wk (pt_cmpR (ho X C) (pe_callB (cr_reprP (C.gds hgd) C.room.units) (C.gl bl.g) (by rw [C.mg]; exact bl.m) bl.v (pa_cons (ha X C) pa_nil (hs X.env)) bl.n bl.d (hs X.env) (by rfl))
    (pe_callB (cr_reprP (C.gds hgd) C.room.units) (C.gl bl2.g) (by rw [C.mg]; exact bl2.m) bl2.v (pa_cons (pe_var (C.hi nm.n) (by rw [C.sc]; exact nm.v) nm.d nm.cd) pa_nil (hs2 X.env)) bl2.n bl2.d (hs2 X.env) (by rfl)) (nomark _ hm hm2)) fun σ H Q _ ⟨B, S, b, hh, q0⟩ => ?_
  have q := aft_T q0
  refine tz_bnd hh q fun xs b1 v S1 H1 s1 h1 r1 q1 => ?_
  obtain ⟨⟨e1, hne, hl⟩, q2⟩ := aft_chk q1
  subst e1
  obtain ⟨l, F, e0, fl, el, hls, ds, mo, hk, dq⟩ := thO_at h1 hi
  obtain ⟨a, ws, rfl, ea1, qa⟩ := r1
  obtain ⟨Fs, hF, hsl⟩ := id h1.sl
  obtain ⟨v2, e2, a2, ws2, rfl, ea2, qa2⟩ := hsl j _ hj
  obtain ⟨d1, w1⟩ := nth_all dq qa
  obtain ⟨d2, w2⟩ := nth_all dq qa2
  have mm : Mos 6 ((kB n + 1) * xs.length) (xs.map (dNth ds)) := mos_map fun i hi => by
    unfold dNth
    cases z : ds[i.toNat]? with
    | none => exact mo_none
    | some d => exact mos_get mo z
  have bd : (kB n + 1) * xs.length ≤ 2161 * 20 := Nat.mul_le_mul (by have := kB2 hn; omega) hl
  obtain ⟨m1, m2, m3, m4⟩ := mm
  have f1 : (PyData.list (xs.map (dNth ds))).showable = true := by rw [PyData.showable]; exact m1
  have f2 : (PyData.list (xs.map (dNth ds))).depth ≤ 60 := by rw [PyData.depth]; omega
  have f3 : (PyData.list (xs.map (dNth ds))).shown.length ≤ sizeLine := by
    have h7 := PyData.shown_le_bulk 200 (by omega) (PyData.list (xs.map (dNth ds))) (by rw [PyData.leavesShort]; exact m3)
    have h8 : (PyData.list (xs.map (dNth ds))).bulk ≤ 2161 * 20 := by rw [PyData.bulk]; omega
    have h9 : (200 + 2) * (PyData.list (xs.map (dNth ds))).bulk ≤ (200 + 2) * (2161 * 20) := Nat.mul_le_mul_left _ h8
    have : sizeLine = 16777216 := by decide
    omega
  cases xs with
  | nil => exact absurd rfl hne
  | cons x0 xs =>
    rw [List.map_cons] at d1 d2 f1 f2 f3
    exact ⟨a, ws, _, _, rfl, h1.same _ _ ea1, d1, f1, f2, f3, _, slot_get e2, a2, ws2, _, _, rfl, h1.same _ _ ea2, d2, f1, f2, f3, hr (aft_ret h1 q2 rfl)⟩
theorem req_str {s : Str} {H : Hp} {Q : VK} (h : Q (.bl true) H) : L2.rEq (.str s) (.str s) H Q := ⟨rfl, by rw [decide_eq_true rfl]; exact h⟩
theorem rne_str {s : Str} {H : Hp} {Q : VK} (h : Q (.bl false) H) : L2.rNe (.str s) (.str s) H Q := ⟨rfl, by rw [decide_eq_true rfl]; exact h⟩
/-- thing.append("more") -/
theorem zs_more {j : Nat} {x : Str} {jz : Nat} {i : Int} {p1 p2 apos cpos pos : Pos} (nm : Nm c j x) (hj : Γ[j]? = some (.st ((rNth vs).pr i))) (hi : Γ[k]? = some (.ow (thO vs ks n)))
    (hb : BmEnv (.Name x p1) "append" [.Constant (.str ("more" : Str)) jz p2] apos cpos := by exact ⟨fun _ => rfl, fun _ => rfl, rfl, fun _ _ _ h => by cases h; exact ⟨rfl, rfl⟩⟩) (hs : Star (.Constant (.str ("more" : Str)) jz p2) [] := by intro _; rfl) :
    ZS G c E W L Γ (.Expr (.Call (.Attribute (.Name x p1) "append" apos) [.Constant (.str ("more" : Str)) jz p2] [] cpos) pos) (chk (ks[i.toNat]? = some true ∧ n ≤ 1) (ret (.nx ())) : M τ (Fl Unit κ ρ)) (fun _ => Γ.set k (.ow (thO vs ks (n + 1)))) := fun X C =>
  ps_wk (ps_expr (pe_bm PySem.F.plainAttrs_list PySem.F.slot_list_append PySem.F.type_list_append mt_append (pe_var (C.hi nm.n) (by rw [C.sc]; exact nm.v) nm.d nm.cd) (pa_cons pe_str pa_nil (hs X.env)) (hb.base _) (hb.few _) hb.line (hb.star _ _ _ rfl).1 (hb.star _ _ _ rfl).2) rfl) fun D σ H hl ⟨B, S, b, hh, q⟩ => by
    classical
    unfold chk at q
    by_cases hz : ks[i.toNat]? = some true ∧ n ≤ 1
    case neg => rw [if_neg hz] at q; exact q.elim
    rw [if_pos hz] at q
    obtain ⟨Fs, hF, hsl⟩ := id hh.sl
    obtain ⟨v, e1, h0, hv⟩ := hsl j _ hj
    obtain ⟨l, F, e0, fl, el, hls, ds, mo, hk, dq⟩ := thO_at hh hi
    obtain ⟨d, g1, g2⟩ := dq.get hv
    have hd : isLst d = true := by
      have := hz.1
      rw [← hk, List.getElem?_map, g1] at this
      exact Option.some.inj this
    obtain ⟨dx, rfl⟩ := isLst_iff.mp hd
    cases g2 with
    | @lst a ws _ pa ea qa =>
      have hlen : ws.length ≤ 2160 := by
        have m1 := mos_get mo g1
        have : ws.length ≤ PyData.bulkAll dx := by
          rw [qa.len]
          have : ∀ xs : List PyData, xs.length ≤ PyData.bulkAll xs := by
            intro xs
            induction xs with
            | nil => simp
            | cons x xs ih => rw [PyData.bulkAll, List.length_cons]; omega
          exact this dx
        have m2 := m1.b
        rw [PyData.bulk] at m2
        have := kB2 (n := n) (by omega)
        omega
      have hs64 : sizeLine = 16777216 := by decide
      refine ⟨.ref a, slot_get e1, .inl ⟨rfl, ws, .of ea⟩, ?_⟩
      refine ⟨a, ws, .str ("more" : Str), rfl, rfl, ea, by omega, q σ S _ (Same.refl _) (hh.chg2 hi fun v' F' q1 hF0 hq => ?_)⟩
      obtain ⟨l', ev, fl', el', hls', ds', mo', hk', dq'⟩ := hq
      have dqH := dq' H hh.same fun a o _ e => e
      have fa : F' a := by
        obtain ⟨d2, _, g2⟩ := dqH.get hv
        cases g2 with
        | lst p e _ => exact p
        | tup e _ => rw [ea] at e; cases e
        | dct e => rw [ea] at e; cases e
        | dc1 e _ _ => rw [ea] at e; cases e
      have hal : l' ≠ a := fun z => by
        subst z
        obtain ⟨d2, _, g2⟩ := dqH.get hv
        exact no_self el' hv _ d2 (Nat.le_refl _) g2
      let T0 : Hp := fun z => if F' z then H z else S z
      let T1 : Hp := fun z => if F' z then upd H a (.lst (ws ++ [.str ("more" : Str)])) z else S z
      have t0y : ∀ z, F' z → T0 z = H z := fun z h => if_pos h
      have t0n : ∀ z, ¬ F' z → T0 z = S z := fun z h => if_neg h
      have t1y : ∀ z, F' z → T1 z = upd H a (.lst (ws ++ [.str ("more" : Str)])) z := fun z h => if_pos h
      have t1n : ∀ z, ¬ F' z → T1 z = S z := fun z h => if_neg h
      have dqT := dq' T0 (fun z o e => by rw [t0n z fun f => by rw [hF0 z f] at e; cases e]; exact e) fun z o f e => by rw [t0y z f]; exact e
      obtain ⟨ds2, q2, m2, _, i2⟩ := dqps_more (S := T0) (T := T1) (l := a) (ws := ws) (by rw [t0y a fa]; exact ea) (by rw [t1y a fa]; exact upd_same) (fun z o hz e => by
        by_cases f : F' z
        · rw [t1y z f, upd_ne hz, ← t0y z f]; exact e
        · rw [t1n z f, ← t0n z f]; exact e) dqT (n := 6) ⟨mo'.s, mo'.h, mo'.l, Nat.le_refl _⟩
      refine ⟨fa, l', ev, fl', by rw [upd_ne hal]; exact el', fun z fz => ?_, ds2, ⟨m2.s, m2.h, m2.l, by have := m2.b; have := mo'.b; show _ ≤ 6 * kB n; omega⟩, by rw [i2]; exact hk', fun T sT kT => ?_⟩
      · by_cases za : z = a
        · subst za; exact ⟨_, upd_same⟩
        · obtain ⟨us, e⟩ := hls' z fz
          exact ⟨us, by rw [upd_ne za]; exact e⟩
      · exact dqps_go (fun _ _ p _ => p) (fun z o e hp => by
          by_cases f : F' z
          · rw [t1y z f] at e; exact kT z o f e
          · rw [t1n z f] at e; exact sT z o e) q2
end
end Zk

namespace Zk
open PySem L2
/-- what an own class of exceptions without an __init__ says of itself -/
structure XAtA (G : Gx) (x : Str) (C : Addr) : Prop where
  mg : G.mg x = some (.ref C)
  kc : PySem.W.keepIn G.K (.ref C) = true
  ex : ∃ bm, ExcBaseFacts "ValueError" "ValueError.__new__" "ValueError.__init__" bm ∧ PySem.W.excIn G.K C bm "ValueError.__new__" = true
section
variable {τ α β γ δ κ ρ ι θ : Type} {G : Gx} {c : Sc} {E : Eff τ} {W : WX} {Γ Γ' : Env} {B : Bs} {σ : L2.St} {S S1 S' H H' : Hp} {b b' : τ} {L : Ls κ ρ} {vs : List V} {ks : List Bool} {n k : Nat}
/-- X("a text"), X without an __init__ -/
theorem z_exnA {x : Str} {C0 : Addr} {t : Str} {j : Nat} {p p2 pos' : Pos} (XA : XAtA G x C0) (g : Gb c x) (hd : (x == ("__debug__" : Str)) = false := by decide) (hs : Star (.Constant (.str t) j p2) [] := by intro _; rfl) :
    ZE G c E W Γ (.Call (.Name x p) [.Constant (.str t) j p2] [] pos') (ret ((x, []) : ExM)) (rXn G vs) := fun X C => by
  obtain ⟨bm, F, q⟩ := XA.ex
  rw [← C.K] at q
  have hm : X.mg x = some (.ref C0) := by rw [C.mg]; exact XA.mg
  have hk : PySem.W.keepIn X.K (.ref C0) = true := by rw [C.K]; exact XA.kc
  refine pe_wk (pe_exc1 F q hm hk (C.gl g) pe_str (hs X.env) hd) fun σ H Q hl ⟨B, S, b, hh, q⟩ => ?_
  intro a ha
  exact q (.ref a) _ _ (same_new (hh.same.free ha)) (hh.new ha) ⟨⟨a, C0, rfl, XA.mg, .inl ⟨rfl, .inr upd_same⟩⟩, fun t ht => by cases ht⟩
/-- raise X(e), told by whatever stands for e -/
theorem zs_raiseV {x f : Str} {k : Nat} {ps : List Str} {C0 : Addr} {e : Expr} {p pos pos' : Pos} {R : Rel α} {v : α → V} {m : M τ α} {Γn : β → Env} (XA : XAtC G x k ps (spX1 G.K f) C0) (hf : PySem.W.findIn G.K (.ref C0) f = some none) (hk : k + 1 ≤ c.k) (g : Gb c x) (sc : ValR R v) (h : ZE G c E W Γ e m R) (sx : Sub E Γ L.x)
    (hd : (x == ("__debug__" : Str)) = false := by decide) (hs : Star e [] := by intro _; rfl) (hpl : Plain1 [] := by intro _ _; rfl) : ZS G c E W L Γ (.Raise (some (.Call (.Name x p) [e] [] pos')) none pos) (zraise x f v m) Γn := fun X C => by
  obtain ⟨fi, fd, i1, i2, i3, i4⟩ := XA.ini
  have i4' := i4
  rw [← C.prog, ← C.w, ← C.K, ← C.mg, ← C.base] at i4'
  have hm : X.mg x = some (.ref C0) := by rw [C.mg]; exact XA.mg
  have ox : OexC X.K C0 := by rw [C.K]; exact XA.ox
  rw [← C.K] at i1 i2 i3
  refine ps_wk (ps_raise C.calm C.takes (pmk_oex ox i1 i2 i4' (C.room.mono hk) i3 .nil passL (C.gl g) hm (za_one h hs X C) hd (hs _) (hpl _ _))) fun D σ H hl ⟨B, S, b, hh, q⟩ => ?_
  refine tzS_bndA (A := fun x => [R.pr x]) sx hh q fun y b1 us S1 H1 s1 h1 r1 q1 => ?_
  match us, r1 with
  | [u], ⟨r, _⟩ =>
    refine ⟨by simp, fun a ha => ⟨a, u, C0, rfl, ox, by rw [C.K]; exact hf, upd_same, fun d hd hda => ?_⟩⟩
    have hd1 : H1 d = none := by rw [upd_ne hda] at hd; exact hd
    refine ⟨rfl, d, [(f, u)], upd_same, by rw [upd_ne hda, upd_same], hd1, ?_⟩
    rw [del_upd ha hda]
    have sd := h1.same.free hd1
    have h2 : Hold E B Γ b1 σ S1 (upd H1 d (.xd [(f, u)])) := h1.grow (Same.refl _) (fun a o e => by rw [upd_ne (ne_of_none (h1.same _ _ e) hd1)]; exact h1.same _ _ e) (fun a o e1 e2 => ⟨e1, by rw [upd_ne (ne_of_none e2 hd1)]; exact e2⟩) fun a _ e => e
    obtain ⟨S3, _, h3⟩ := sx h2
    exact q1 _ _ σ S3 _ h3 ⟨C0, XA.mg, rfl, .inr ⟨d, rfl, by rw [upd_same, sc.is r]⟩⟩
end
end Zk

namespace Zk
open PySem L2
section
variable {τ α β γ δ κ ρ ι θ : Type} {G : Gx} {c : Sc} {E : Eff τ} {W : WX} {Γ Γ' : Env} {B : Bs} {σ : L2.St} {S S1 S' H H' : Hp} {b b' : τ} {L : Ls κ ρ} {i : Nat}
/-! ### try where own things are known -/
theorem Hold.rebaseW (h : Hold E B Γ b σ S H) : ∃ B' : Bs, B'.S = S ∧ Hold E B' Γ b σ S H ∧ ∀ (Γ' : Env) (b' : τ) (σ' : L2.St) (S' H' : Hp), Hold E B' Γ' b' σ' S' H' → Hold E B Γ' b' σ' S' H' := by
  classical
  obtain ⟨kp, ef, Fs, ft, sl⟩ := h
  let HB : Hp := fun a => if ∃ i, Fs i a then none else H a
  have hy : ∀ a, (∃ i, Fs i a) → HB a = none := fun a z => if_pos z
  have hn : ∀ a, ¬ (∃ i, Fs i a) → HB a = H a := fun a z => if_neg z
  refine ⟨⟨S, HB⟩, rfl, ⟨⟨kp.same, Same.refl _, fun a o e1 e2 _ => ⟨e1, ?_⟩⟩, ef, Fs, ⟨fun i a f => ?_, ft.ds⟩, sl⟩, fun Γ' b' σ' S' H' k => ?_⟩
  · have e2 : HB a = some o := e2
    by_cases z : ∃ i, Fs i a
    · rw [hy a z] at e2; cases e2
    · rw [hn a z] at e2; exact e2
  · obtain ⟨f1, f2, f3, f4⟩ := ft.at_ i a f
    exact ⟨f1, hy a ⟨i, f⟩, f3, f4⟩
  · obtain ⟨kp', ef', Gs, gt, sl'⟩ := k
    have nf : ∀ a o, B.S a = none → B.H a = some o → ¬ E.own a → HB a = some o ∧ S a = none := fun a o e1 e2 e3 => by
      obtain ⟨q1, q2⟩ := kp.kp a o e1 e2 e3
      refine ⟨?_, q1⟩
      rw [hn a fun ⟨i, f⟩ => by rw [(ft.at_ i a f).2.1] at e2; cases e2]
      exact q2
    refine ⟨⟨kp'.same, kp.up.trans kp'.up, fun a o e1 e2 e3 => ?_⟩, ef', Gs, ⟨fun i a f => ?_, gt.ds⟩, sl'⟩
    · obtain ⟨q1, q2⟩ := nf a o e1 e2 e3
      exact kp'.kp a o q2 q1 e3
    · obtain ⟨f1, f2, f3, f4⟩ := gt.at_ i a f
      refine ⟨f1, ?_, f3, f4⟩
      cases q : B.H a with
      | none => rfl
      | some o =>
        exfalso
        have f2 : HB a = none := f2
        cases q2 : B.S a with
        | some o' =>
          have := kp'.up _ _ (kp.up _ _ q2)
          rw [f1] at this; cases this
        | none =>
          have := (nf a o q2 q f3).1
          rw [f2] at this; cases this
theorem aft_debaseW {Γn : α → Env} {D : Ends} {L' : Ls κ ρ} {B' : Bs} (h : ∀ (Γ' : Env) (b' : τ) (σ' : L2.St) (S' H' : Hp), Hold E B' Γ' b' σ' S' H' → Hold E B Γ' b' σ' S' H') (hk : L'.k = L.k) (hR : L'.R = L.R) (ho : L'.o = L.o) (W' : WX) : ∀ {o : Out τ (Fl α κ ρ)}, (∀ x b', o ≠ .exc x b') → aftS G E W L B S Γn D o → aftS G E W' L' B' S Γn D o := by
  intro o no q
  cases o with
  | stuck => exact q
  | exc x b' => exact absurd rfl (no x b')
  | ok r b' =>
    cases r with
    | nx a => exact fun σ' S' H' s k => q σ' S' H' s (h _ _ _ _ _ k)
    | rt r => exact fun v σ' S' H' k e => q v σ' S' H' (h _ _ _ _ _ (by rw [← ho]; exact k)) (by rw [← hR]; exact e)
    | bk a => exact fun σ' S' H' s k => q σ' S' H' s (h _ _ _ _ _ (by rw [← hk]; exact k))
    | ct a => exact fun σ' S' H' s k => q σ' S' H' s (h _ _ _ _ _ (by rw [← hk]; exact k))
theorem zs_tryW {Γx : Env} {x n : Str} {i : Nat} {C0 : Addr} {cat : Str → Option Bool} {body : List Stmt} {b0 : Stmt} {suite : List Stmt} {np pos pos' : Pos} {m : M τ (Fl α κ ρ)} {hm : Exc → M τ (Fl α κ ρ)} {Γn : α → Env} (nm : Ns c i n) (hk : c.sc.names.lookup n = some .local) (g : Gb c x) (hg : G.mg x = some (.ref C0)) (hd : (x == ("__debug__" : Str)) = false) (hf : c.fn = true)
    (hcat : ∀ n b C', cat n = some b → G.mg n = some (.ref C') → PySem.W.exmOne G.K (.ref C') (.ref C0) = some b) (sx : ∀ B b σ S H, Hold E B Γx b σ S H → ∃ S', Hold E B L.x b σ S' H)
    (ux : Unk i Γx) (un : ∀ a, Unk i (Γn a)) (uk : ∀ a, Unk i (L.k a))
    (h : ∀ W', ZB G c E W' (L.keep Γx) Γ body m Γn) (hh : HB G c E W L Γx i (b0 :: suite) hm Γn) : ZS G c E W L Γ (.Try body [.ExceptHandler (some (.Name x np)) (some n) (b0 :: suite) pos'] [] [] pos) (ztryX cat m hm) Γn := fun X C =>
  ps_wk (ps_try_as (C.isfn hf).1 (C.isfn hf).2 C.set_hN (C.hi nm.n) (by show X.env.scope.names.lookup n = _; rw [C.sc]; exact hk) ⟨C.gl g, hd, .inl (by rw [C.mg]; exact hg)⟩ C.takes (fun W' pn xe tk ow => h W' _ (C.tr tk ow)) (ts := fun a cls d D σ H => ∃ (σ0 : L2.St), ∃ B S b x, σ = σ0.set i (some (.ref a)) ∧ Hold E B Γx b σ S H ∧ XAt G x H cls d ∧ aftS G E W L B S Γn D (hm x b))
    (fun a oe cls d pn zc fl => pss_wk (hh X _ a oe cls d ⟨C, zc, fl, pn, rfl⟩) fun D σ H hl ⟨σ0, B, S, b, x, e, h1, xa, q⟩ => ⟨B, S, b, x, ⟨h1, xa, .inr (by
      subst e
      rw [List.getElem?_set_self]
      rw [List.length_set] at hl
      rw [hl]
      exact (List.getElem?_eq_some_iff.mp (C.hi nm.n)).1)⟩, q⟩)) fun D σ H hl ⟨B, S, b, hh, q⟩ => by
    obtain ⟨B', eB, hb, db⟩ := hh.rebaseW
    refine ⟨B', S, b, hb, ?_⟩
    unfold ztryX at q
    cases e1 : m b with
    | stuck => rw [e1] at q; exact q.elim
    | ok a b1 =>
      rw [e1] at q
      exact aft_debaseW (L := L) (L' := L.keep Γx) (o := .ok a b1) db rfl rfl rfl _ (fun x b' z => by cases z) q
    | exc x1 b1 =>
      rw [e1] at q
      intro cl d σ' S' H' h1 xa
      dsimp only at q
      obtain ⟨C', k1, k2, _⟩ := id xa
      have hs : Same S S' := by have := h1.kp.up; rw [eB] at this; exact this
      have h2 := db _ _ _ _ _ h1
      cases e2 : cat x1.cls with
      | none => rw [e2] at q; exact q.elim
      | some t =>
        rw [e2] at q
        have ex := hcat _ _ _ e2 k1
        refine ⟨t, by rw [C.K, k2]; exact ex, fun et a ha => ?_, fun et => ?_⟩
        · subst et
          refine ⟨σ', B, S', b1, x1, rfl, hold_set_unk ux h2, xa, ?_⟩
          have q2 : aftS G E W L B S' Γn D (hm x1 b1) := aft_up (hm := hm x1) hs q
          cases e3 : hm x1 b1 with
          | stuck => rw [e3] at q2; exact q2.elim
          | exc z b2 => rw [e3] at q2; exact q2
          | ok r b2 =>
            rw [e3] at q2
            cases r with
            | nx r => exact fun σ2 S2 H2 s2 h2 => q2 _ S2 H2 s2 (hold_set_unk (un r) h2)
            | rt r => exact q2
            | bk r => exact fun σ2 S2 H2 s2 h2 => q2 _ S2 H2 s2 (hold_set_unk (uk r) h2)
            | ct r => exact fun σ2 S2 H2 s2 h2 => q2 _ S2 H2 s2 (hold_set_unk (uk r) h2)
        · subst et
          obtain ⟨S2, h3⟩ := sx _ _ _ _ _ h2
          exact q cl d σ' S2 H' h3 xa
/-- x.append(e) within a suite -/
theorem hs_app {j : Nat} {x : Str} {e : Expr} {R : Rel α} {xs : List α} {f : Exc → Option α} {p1 apos cpos pos : Pos} (n : Nm c j x) (hj : Γ[j]? = some (.ow (ownL R xs))) (h : HE G c E W Γ i e f R)
    (hb : BmEnv (.Name x p1) "append" [e] apos cpos := by exact ⟨fun _ => rfl, fun _ => rfl, rfl, fun _ _ _ h => by cases h; exact ⟨rfl, rfl⟩⟩) (hs : Star e [] := by intro _; rfl) :
    HS G c E W L Γ i (.Expr (.Call (.Attribute (.Name x p1) "append" apos) [e] [] cpos) pos) (fun z => bnd (mopt (f z)) fun v => chk (xs.length < sizeLine) (ret (.nx v))) (fun v => Γ.set j (.ow (ownL R (xs ++ [v])))) := fun X X' a oe cls d C => by
  have C0 := C.C
  obtain ⟨pn, ep⟩ := C.pn
  subst ep
  refine ps_wk (ps_expr (pe_bm PySem.F.plainAttrs_list PySem.F.slot_list_append PySem.F.type_list_append mt_append (pe_var (X := X.suite a ((a, oe) :: pn)) (C0.hi n.n) (by show Vis X.env.scope _; rw [C0.sc]; exact n.v) n.d n.cd) (pa_cons (h X _ a oe cls d C) pa_nil (hs X.env)) (hb.base _) (hb.few _) hb.line (hb.star _ _ _ rfl).1 (hb.star _ _ _ rfl).2) rfl) fun D σ H hl ⟨B, S, b, x, su, q⟩ => ?_
  obtain ⟨l, vs, e1, e2, e3⟩ := own_at su.hh hj
  refine ⟨.ref l, e1, .inl ⟨rfl, vs, .of e2⟩, ?_⟩
  dsimp only at q
  cases ef : f x with
  | none => rw [ef] at q; exact q.elim
  | some y =>
    rw [ef] at q
    refine ⟨B, S, b, x, y, su, ef, fun v S1 H1 s1 h1 xa r => ?_⟩
    obtain ⟨l', vs', e1', e2', e3'⟩ := own_at h1 hj
    rw [e1] at e1'; cases e1'
    have q : aftS G E W L B S (fun v => Γ.set j (.ow (ownL R (xs ++ [v])))) D (chk (xs.length < sizeLine) (ret (.nx y)) b) := q
    unfold chk at q
    by_cases hz : xs.length < sizeLine
    · rw [if_pos hz] at q
      exact ⟨l, vs', v, rfl, rfl, e2', by rw [← e3'.length]; exact hz, q σ S1 _ s1 (h1.chg hj ownL_feet e1 ⟨l, _, rfl, fun _ => Iff.rfl, upd_same, e3'.append ⟨r, trivial⟩⟩)⟩
    · rw [if_neg hz] at q; exact q.elim
/-- raise X(e, e2) -/
theorem zs_raiseV2 {x f f2 : Str} {k : Nat} {ps : List Str} {C0 : Addr} {e e2 : Expr} {p pos pos' : Pos} {R : Rel α} {R2 : Rel β} {v : α → V} {v2 : β → V} {m : M τ α} {n : M τ β} {Γn : γ → Env} (XA : XAtC G x k ps (spX2 G.K f f2) C0) (hf : PySem.W.findIn G.K (.ref C0) f = some none) (hf2 : PySem.W.findIn G.K (.ref C0) f2 = some none) (hk : k + 1 ≤ c.k) (g : Gb c x) (sc : ValR R v) (sc2 : ValR R2 v2) (h : ZE G c E W Γ e m R) (h2 : ZE G c E W Γ e2 n R2) (sx : Sub E Γ L.x)
    (hd : (x == ("__debug__" : Str)) = false := by decide) (hs : Star e [e2] := by intro _; rfl) (hs2 : Star e2 [] := by intro _; rfl) (hpl : ∀ env : PySem.Env, (backTo pos' (starEach [e2] env)).any (·.1) = false := by intro _; rfl) : ZS G c E W L Γ (.Raise (some (.Call (.Name x p) [e, e2] [] pos')) none pos) (bnd (zpair m n) fun y => rse ⟨x, [(f2, v2 y.2), (f, v y.1)]⟩) Γn := fun X C => by
  obtain ⟨fi, fd, i1, i2, i3, i4⟩ := XA.ini
  have i4' := i4
  rw [← C.prog, ← C.w, ← C.K, ← C.mg, ← C.base] at i4'
  have hm : X.mg x = some (.ref C0) := by rw [C.mg]; exact XA.mg
  have ox : OexC X.K C0 := by rw [C.K]; exact XA.ox
  rw [← C.K] at i1 i2 i3
  refine ps_wk (ps_raise C.calm C.takes (pmk_oex ox i1 i2 i4' (C.room.mono hk) i3 .nil passL (C.gl g) hm (za_cons h (za_one h2 hs2) hs X C) hd (hs _) (hpl _))) fun D σ H hl ⟨B, S, b, hh, q⟩ => ?_
  refine tzS_bndA (A := fun x => R.pr x.1 :: [R2.pr x.2]) sx hh q fun y b1 us S1 H1 s1 h1 r1 q1 => ?_
  match us, r1 with
  | [u, w], ⟨r, r2, _⟩ =>
    refine ⟨by simp, fun a ha => ⟨a, u, w, C0, rfl, ox, by rw [C.K]; exact hf, by rw [C.K]; exact hf2, upd_same, fun d hd hda => ?_⟩⟩
    have hd1 : H1 d = none := by rw [upd_ne hda] at hd; exact hd
    refine ⟨rfl, d, [(f2, w), (f, u)], by rw [upd_ne (fun z => hda z.symm), upd_same], upd_same, hd1, ?_⟩
    have eH : upd (del (upd (upd (upd (upd H1 a (exo a C0 none)) d (exd d [(f, u)])) a (exo a C0 (some d))) d (exd d [(f2, w), (f, u)])) a) d (.xd [(f2, w), (f, u)]) = upd H1 d (.xd [(f2, w), (f, u)]) := by
      funext z
      by_cases hz : z = d
      · subst hz; rw [upd_same, upd_same]
      · rw [upd_ne hz, upd_ne hz]
        by_cases hza : z = a
        · subst hza; rw [del_same, ha]
        · rw [del_ne hza, upd_ne hz, upd_ne hza, upd_ne hz, upd_ne hza]
    rw [eH]
    have sd := h1.same.free hd1
    have h2 : Hold E B Γ b1 σ S1 (upd H1 d (.xd [(f2, w), (f, u)])) := h1.grow (Same.refl _) (fun a o e => by rw [upd_ne (ne_of_none (h1.same _ _ e) hd1)]; exact h1.same _ _ e) (fun a o e1 e2 => ⟨e1, by rw [upd_ne (ne_of_none e2 hd1)]; exact e2⟩) fun a _ e => e
    obtain ⟨S3, _, h3⟩ := sx h2
    exact q1 _ _ σ S3 _ h3 ⟨C0, XA.mg, rfl, .inr ⟨d, rfl, by rw [upd_same, sc.is r, sc2.is r2]⟩⟩
end
end Zk

namespace Zk
open PySem L2
section
variable {τ α β γ δ κ ρ ι θ : Type} {G : Gx} {c : Sc} {E : Eff τ} {W : WX} {Γ Γ' : Env} {B : Bs} {σ : L2.St} {S S1 S' H H' : Hp} {b b' : τ} {L : Ls κ ρ} {i : Nat}
theorem xini2 {qual fld fld2 pn qn bn : Str} {st : Stmt} {f A0 : Addr} {fd : FuncData} {mc : Value} {z : Str} {jz : Nat} {p1 p2 p3 p4 p5 p6 p7 p8 p9 p10 p11 p12 p13 p14 : Pos} {pl : PySem.Env → Sem Bool} (F : Fun G.K "__init__" qual st f fd) (sc : FnScope ["self", pn, qn] ["self", pn, qn] (defScope st))
    (hb : defBody st = [.Expr (.Call (.Attribute (.Name bn p1) "__init__" p2) [.Name "self" p3, .Constant (.str z) jz p4] [] p5) p6, .Assign [.Attribute (.Name "self" p7) fld p8] (.Name pn p9) p10, .Assign [.Attribute (.Name "self" p11) fld2 p12] (.Name qn p13) p14]) (T : AIn G.K A0 mc) (hm : G.mg bn = some (.ref A0))
    (gb : (defScope st).names.lookup bn = some .globalImplicit) (v0 : Vis (defScope st) "self") (v1 : Vis (defScope st) pn) (v2 : Vis (defScope st) qn) (hd : (bn == ("__debug__" : Str)) = false := by decide) (hd1 : (pn == ("__debug__" : Str)) = false := by decide) (hd2 : (pn == ("__classdict__" : Str)) = false := by decide) (hd3 : (qn == ("__debug__" : Str)) = false := by decide) (hd4 : (qn == ("__classdict__" : Str)) = false := by decide)
    (ht : EvM (.Name bn p1) "__init__" [.Name "self" p3, .Constant (.str z) jz p4] p2 p5 pl := by intro _; rfl)
    (hsw : ∀ env : PySem.Env, swapsWith (.Name pn p9) (some (.Attribute (.Name "self" p7) fld p8)) p10.line env = pure false := by intro _; rfl)
    (hsw2 : ∀ env : PySem.Env, swapsWith (.Name qn p13) (some (.Attribute (.Name "self" p11) fld2 p12)) p14.line env = pure false := by intro _; rfl) :
    FnOk G.P G.w G.K G.mg G.base (L2.CX G.P G.w) 1 f fd ["self", pn, qn] (spX2 G.K fld fld2) := by
  refine F.okX sc (fun vs H Q XE ⟨a, v, w, C, e, _⟩ => by rw [e]; rfl) (fun cdv A outer s H vs Q XE hr h => ?_)
  obtain ⟨a, v, w, C, rfl, ox, hn, hn2, ha, q⟩ := h
  rw [hb]
  refine ⟨_, pss_cons (ps_expr (pe_ainit T gb hm (pa_cons (pe_var (i := 0) rfl v0 (by decide) (by decide)) (pa_cons pe_str pa_nil)) (ht _) rfl rfl hd)) (pss_cons (ps_ost (pe_var (i := 0) rfl v0 (by decide) (by decide)) (pe_var (i := 1) rfl v1 hd1 hd2) (hsw _)) (pss_one (ps_ost (pe_var (i := 0) rfl v0 (by decide) (by decide)) (pe_var (i := 2) rfl v2 hd3 hd4) (hsw2 _)))), ?_⟩
  exact ⟨_, rfl, a, C, _, rfl, by simp, ox, ha, _, rfl, _, rfl, a, C, rfl, ox, hn, .inl ⟨ha, fun d hd hne => ⟨_, rfl, _, rfl, a, C, rfl, ox, hn2, .inr ⟨d, [(fld, v)], upd_same, by rw [upd_ne hne, upd_same], by simp, q d hd hne⟩⟩⟩⟩
theorem hyE_ty {y : Str} {n : String} {p2 : Pos} (b2 : Blt G c y (.type n)) : ∀ X, CtxOk G c W X → PE X (.Name y p2) fun σ H Q => Q (.ty n) H := fun X C =>
  pe_bltn (v := .ty n) (C.gl b2.g) (by rw [C.mg]; exact b2.m) b2.v rfl b2.n b2.d
theorem zb_chk {p : Prop} [Decidable p] {sts : List Stmt} {m : M τ (Fl α κ ρ)} {Γn : α → Env} (h : p → ZB G c E W L Γ sts m Γn) : ZB G c E W L Γ sts (chk p m) Γn := fun X C => by
  by_cases hp : p
  · rw [show (chk p m) = m from if_pos hp]; exact h hp X C
  · rw [show (chk p m) = stk from if_neg hp]; exact ⟨fun pins s σ H D I ⟨B, S, b, hh, q⟩ => q.elim⟩
end
end Zk

namespace Zk
open PySem L2

def top (i : Nat) : Stmt := PySem.Challenge.pw_aheadpays_k17_refusals_apart.main.body.getD i (.Pass ⟨0, 0, 0, 0⟩)
abbrev t_w_take : Stmt := top 25
abbrev t_w_made : Stmt := top 27
abbrev t_w_sorts : Stmt := top 26
abbrev t_w_fields : Stmt := top 28
abbrev t_w_raised : Stmt := top 29
abbrev t_law : Stmt := top 30
abbrev t_Again_init : Stmt := inClass (top 5) 0
abbrev t_Apart_init : Stmt := inClass (top 11) 0
abbrev t_Few_init : Stmt := inClass (top 17) 0
abbrev t_Full_init : Stmt := inClass (top 15) 0
abbrev t_Lacks_init : Stmt := inClass (top 6) 0
abbrev t_NoBook_init : Stmt := inClass (top 22) 0
abbrev t_NoDeed_init : Stmt := inClass (top 18) 0
abbrev t_NoLine_init : Stmt := inClass (top 21) 0
abbrev t_NoText_init : Stmt := inClass (top 20) 0
abbrev t_NoWalker_init : Stmt := inClass (top 4) 0
abbrev t_NotPlain_init : Stmt := inClass (top 13) 0
abbrev t_Nothing_init : Stmt := inClass (top 19) 0
abbrev t_Short_init : Stmt := inClass (top 7) 0
abbrev t_Stopped_init : Stmt := inClass (top 10) 0
abbrev t_Taken_init : Stmt := inClass (top 16) 0
abbrev t_TooFar_init : Stmt := inClass (top 8) 0
abbrev t_TooGreat_init : Stmt := inClass (top 9) 0
abbrev t_TooMany_init : Stmt := inClass (top 12) 0
abbrev t_Twice_init : Stmt := inClass (top 3) 0
abbrev t_Unlike_init : Stmt := inClass (top 14) 0
abbrev t_Wrong_init : Stmt := inClass (top 2) 0
structure Cl where
  Again : Addr
  Apart : Addr
  Few : Addr
  Full : Addr
  Lacks : Addr
  NoBook : Addr
  NoDeed : Addr
  NoLine : Addr
  NoText : Addr
  NoWalker : Addr
  NotPlain : Addr
  Nothing : Addr
  Short : Addr
  Stopped : Addr
  Taken : Addr
  TooFar : Addr
  TooGreat : Addr
  TooMany : Addr
  Twice : Addr
  Unlike : Addr
  Wrong : Addr
  AheadError : Addr
abbrev t_w_bag : Stmt := top 24
structure Txt (G : Gx) (D : Cl) : Prop where
  b_ValueError : G.mg "ValueError" = none
  b_abs : G.mg "abs" = none
  b_isinstance : G.mg "isinstance" = none
  b_len : G.mg "len" = none
  b_list : G.mg "list" = none
  b_range : G.mg "range" = none
  b_repr : G.mg "repr" = none
  g_AheadError : G.mg "AheadError" = some (.ref D.AheadError)
  ain_AheadError : ∃ mc, AIn G.K D.AheadError mc
  kc_AheadError : PySem.W.keepIn G.K (.ref D.AheadError) = true
  xe_AheadError : PySem.W.excIn G.K D.AheadError [.type "ValueError", .type "Exception", .type "BaseException", .type "object"] "ValueError.__new__" = true
  g_Again : G.mg "Again" = some (.ref D.Again)
  ox_Again : OexC G.K D.Again
  xi_Again : ∃ f fd, PySem.W.findIn G.K (.ref D.Again) "__init__" = some (some (.ref f)) ∧ PySem.W.typeIn G.K (.ref f) = some (.type "function") ∧ Binds G.K fd ["self", "one", "other"] [] ∧ Fun G.K "__init__" "Again.__init__" t_Again_init f fd
  xf_Again : PySem.W.findIn G.K (.ref D.Again) "one" = some none
  xg2_Again : PySem.W.findIn G.K (.ref D.Again) "other" = some none
  g_Apart : G.mg "Apart" = some (.ref D.Apart)
  ox_Apart : OexC G.K D.Apart
  xi_Apart : ∃ f fd, PySem.W.findIn G.K (.ref D.Apart) "__init__" = some (some (.ref f)) ∧ PySem.W.typeIn G.K (.ref f) = some (.type "function") ∧ Binds G.K fd ["self", "name"] [] ∧ Fun G.K "__init__" "Apart.__init__" t_Apart_init f fd
  xf_Apart : PySem.W.findIn G.K (.ref D.Apart) "name" = some none
  g_Few : G.mg "Few" = some (.ref D.Few)
  ox_Few : OexC G.K D.Few
  xi_Few : ∃ f fd, PySem.W.findIn G.K (.ref D.Few) "__init__" = some (some (.ref f)) ∧ PySem.W.typeIn G.K (.ref f) = some (.type "function") ∧ Binds G.K fd ["self"] [] ∧ Fun G.K "__init__" "Few.__init__" t_Few_init f fd
  g_Full : G.mg "Full" = some (.ref D.Full)
  ox_Full : OexC G.K D.Full
  xi_Full : ∃ f fd, PySem.W.findIn G.K (.ref D.Full) "__init__" = some (some (.ref f)) ∧ PySem.W.typeIn G.K (.ref f) = some (.type "function") ∧ Binds G.K fd ["self", "most"] [] ∧ Fun G.K "__init__" "Full.__init__" t_Full_init f fd
  xf_Full : PySem.W.findIn G.K (.ref D.Full) "most" = some none
  g_Lacks : G.mg "Lacks" = some (.ref D.Lacks)
  ox_Lacks : OexC G.K D.Lacks
  xi_Lacks : ∃ f fd, PySem.W.findIn G.K (.ref D.Lacks) "__init__" = some (some (.ref f)) ∧ PySem.W.typeIn G.K (.ref f) = some (.type "function") ∧ Binds G.K fd ["self", "name"] [] ∧ Fun G.K "__init__" "Lacks.__init__" t_Lacks_init f fd
  xf_Lacks : PySem.W.findIn G.K (.ref D.Lacks) "name" = some none
  g_NoBook : G.mg "NoBook" = some (.ref D.NoBook)
  ox_NoBook : OexC G.K D.NoBook
  xi_NoBook : ∃ f fd, PySem.W.findIn G.K (.ref D.NoBook) "__init__" = some (some (.ref f)) ∧ PySem.W.typeIn G.K (.ref f) = some (.type "function") ∧ Binds G.K fd ["self"] [] ∧ Fun G.K "__init__" "NoBook.__init__" t_NoBook_init f fd
  g_NoDeed : G.mg "NoDeed" = some (.ref D.NoDeed)
  ox_NoDeed : OexC G.K D.NoDeed
  xi_NoDeed : ∃ f fd, PySem.W.findIn G.K (.ref D.NoDeed) "__init__" = some (some (.ref f)) ∧ PySem.W.typeIn G.K (.ref f) = some (.type "function") ∧ Binds G.K fd ["self"] [] ∧ Fun G.K "__init__" "NoDeed.__init__" t_NoDeed_init f fd
  g_NoLine : G.mg "NoLine" = some (.ref D.NoLine)
  ox_NoLine : OexC G.K D.NoLine
  xi_NoLine : ∃ f fd, PySem.W.findIn G.K (.ref D.NoLine) "__init__" = some (some (.ref f)) ∧ PySem.W.typeIn G.K (.ref f) = some (.type "function") ∧ Binds G.K fd ["self"] [] ∧ Fun G.K "__init__" "NoLine.__init__" t_NoLine_init f fd
  g_NoText : G.mg "NoText" = some (.ref D.NoText)
  ox_NoText : OexC G.K D.NoText
  xi_NoText : ∃ f fd, PySem.W.findIn G.K (.ref D.NoText) "__init__" = some (some (.ref f)) ∧ PySem.W.typeIn G.K (.ref f) = some (.type "function") ∧ Binds G.K fd ["self"] [] ∧ Fun G.K "__init__" "NoText.__init__" t_NoText_init f fd
  g_NoWalker : G.mg "NoWalker" = some (.ref D.NoWalker)
  ox_NoWalker : OexC G.K D.NoWalker
  xi_NoWalker : ∃ f fd, PySem.W.findIn G.K (.ref D.NoWalker) "__init__" = some (some (.ref f)) ∧ PySem.W.typeIn G.K (.ref f) = some (.type "function") ∧ Binds G.K fd ["self", "name"] [] ∧ Fun G.K "__init__" "NoWalker.__init__" t_NoWalker_init f fd
  xf_NoWalker : PySem.W.findIn G.K (.ref D.NoWalker) "name" = some none
  g_NotPlain : G.mg "NotPlain" = some (.ref D.NotPlain)
  ox_NotPlain : OexC G.K D.NotPlain
  xi_NotPlain : ∃ f fd, PySem.W.findIn G.K (.ref D.NotPlain) "__init__" = some (some (.ref f)) ∧ PySem.W.typeIn G.K (.ref f) = some (.type "function") ∧ Binds G.K fd ["self", "one", "other"] [] ∧ Fun G.K "__init__" "NotPlain.__init__" t_NotPlain_init f fd
  xf_NotPlain : PySem.W.findIn G.K (.ref D.NotPlain) "one" = some none
  xg2_NotPlain : PySem.W.findIn G.K (.ref D.NotPlain) "other" = some none
  g_Nothing : G.mg "Nothing" = some (.ref D.Nothing)
  ox_Nothing : OexC G.K D.Nothing
  xi_Nothing : ∃ f fd, PySem.W.findIn G.K (.ref D.Nothing) "__init__" = some (some (.ref f)) ∧ PySem.W.typeIn G.K (.ref f) = some (.type "function") ∧ Binds G.K fd ["self"] [] ∧ Fun G.K "__init__" "Nothing.__init__" t_Nothing_init f fd
  g_Short : G.mg "Short" = some (.ref D.Short)
  ox_Short : OexC G.K D.Short
  xi_Short : ∃ f fd, PySem.W.findIn G.K (.ref D.Short) "__init__" = some (some (.ref f)) ∧ PySem.W.typeIn G.K (.ref f) = some (.type "function") ∧ Binds G.K fd ["self", "name"] [] ∧ Fun G.K "__init__" "Short.__init__" t_Short_init f fd
  xf_Short : PySem.W.findIn G.K (.ref D.Short) "name" = some none
  g_Stopped : G.mg "Stopped" = some (.ref D.Stopped)
  ox_Stopped : OexC G.K D.Stopped
  xi_Stopped : ∃ f fd, PySem.W.findIn G.K (.ref D.Stopped) "__init__" = some (some (.ref f)) ∧ PySem.W.typeIn G.K (.ref f) = some (.type "function") ∧ Binds G.K fd ["self", "at"] [] ∧ Fun G.K "__init__" "Stopped.__init__" t_Stopped_init f fd
  xf_Stopped : PySem.W.findIn G.K (.ref D.Stopped) "at" = some none
  g_Taken : G.mg "Taken" = some (.ref D.Taken)
  ox_Taken : OexC G.K D.Taken
  xi_Taken : ∃ f fd, PySem.W.findIn G.K (.ref D.Taken) "__init__" = some (some (.ref f)) ∧ PySem.W.typeIn G.K (.ref f) = some (.type "function") ∧ Binds G.K fd ["self", "name"] [] ∧ Fun G.K "__init__" "Taken.__init__" t_Taken_init f fd
  xf_Taken : PySem.W.findIn G.K (.ref D.Taken) "name" = some none
  g_TooFar : G.mg "TooFar" = some (.ref D.TooFar)
  ox_TooFar : OexC G.K D.TooFar
  xi_TooFar : ∃ f fd, PySem.W.findIn G.K (.ref D.TooFar) "__init__" = some (some (.ref f)) ∧ PySem.W.typeIn G.K (.ref f) = some (.type "function") ∧ Binds G.K fd ["self", "most"] [] ∧ Fun G.K "__init__" "TooFar.__init__" t_TooFar_init f fd
  xf_TooFar : PySem.W.findIn G.K (.ref D.TooFar) "most" = some none
  g_TooGreat : G.mg "TooGreat" = some (.ref D.TooGreat)
  ox_TooGreat : OexC G.K D.TooGreat
  xi_TooGreat : ∃ f fd, PySem.W.findIn G.K (.ref D.TooGreat) "__init__" = some (some (.ref f)) ∧ PySem.W.typeIn G.K (.ref f) = some (.type "function") ∧ Binds G.K fd ["self", "most"] [] ∧ Fun G.K "__init__" "TooGreat.__init__" t_TooGreat_init f fd
  xf_TooGreat : PySem.W.findIn G.K (.ref D.TooGreat) "most" = some none
  g_TooMany : G.mg "TooMany" = some (.ref D.TooMany)
  ox_TooMany : OexC G.K D.TooMany
  xi_TooMany : ∃ f fd, PySem.W.findIn G.K (.ref D.TooMany) "__init__" = some (some (.ref f)) ∧ PySem.W.typeIn G.K (.ref f) = some (.type "function") ∧ Binds G.K fd ["self", "most"] [] ∧ Fun G.K "__init__" "TooMany.__init__" t_TooMany_init f fd
  xf_TooMany : PySem.W.findIn G.K (.ref D.TooMany) "most" = some none
  g_Twice : G.mg "Twice" = some (.ref D.Twice)
  ox_Twice : OexC G.K D.Twice
  xi_Twice : ∃ f fd, PySem.W.findIn G.K (.ref D.Twice) "__init__" = some (some (.ref f)) ∧ PySem.W.typeIn G.K (.ref f) = some (.type "function") ∧ Binds G.K fd ["self", "name"] [] ∧ Fun G.K "__init__" "Twice.__init__" t_Twice_init f fd
  xf_Twice : PySem.W.findIn G.K (.ref D.Twice) "name" = some none
  g_Unlike : G.mg "Unlike" = some (.ref D.Unlike)
  ox_Unlike : OexC G.K D.Unlike
  xi_Unlike : ∃ f fd, PySem.W.findIn G.K (.ref D.Unlike) "__init__" = some (some (.ref f)) ∧ PySem.W.typeIn G.K (.ref f) = some (.type "function") ∧ Binds G.K fd ["self"] [] ∧ Fun G.K "__init__" "Unlike.__init__" t_Unlike_init f fd
  g_Wrong : G.mg "Wrong" = some (.ref D.Wrong)
  ox_Wrong : OexC G.K D.Wrong
  xi_Wrong : ∃ f fd, PySem.W.findIn G.K (.ref D.Wrong) "__init__" = some (some (.ref f)) ∧ PySem.W.typeIn G.K (.ref f) = some (.type "function") ∧ Binds G.K fd ["self", "at"] [] ∧ Fun G.K "__init__" "Wrong.__init__" t_Wrong_init f fd
  xf_Wrong : PySem.W.findIn G.K (.ref D.Wrong) "at" = some none
  xc_Again : L2.ExcC G.K D.Again
  xc_AheadError : L2.ExcC G.K D.AheadError
  xc_Apart : L2.ExcC G.K D.Apart
  xc_Few : L2.ExcC G.K D.Few
  xc_Full : L2.ExcC G.K D.Full
  xc_Lacks : L2.ExcC G.K D.Lacks
  xc_NoBook : L2.ExcC G.K D.NoBook
  xc_NoDeed : L2.ExcC G.K D.NoDeed
  xc_NoLine : L2.ExcC G.K D.NoLine
  xc_NoText : L2.ExcC G.K D.NoText
  xc_NoWalker : L2.ExcC G.K D.NoWalker
  xc_NotPlain : L2.ExcC G.K D.NotPlain
  xc_Nothing : L2.ExcC G.K D.Nothing
  xc_Short : L2.ExcC G.K D.Short
  xc_Stopped : L2.ExcC G.K D.Stopped
  xc_Taken : L2.ExcC G.K D.Taken
  xc_TooFar : L2.ExcC G.K D.TooFar
  xc_TooGreat : L2.ExcC G.K D.TooGreat
  xc_TooMany : L2.ExcC G.K D.TooMany
  xc_Twice : L2.ExcC G.K D.Twice
  xc_Unlike : L2.ExcC G.K D.Unlike
  xc_Wrong : L2.ExcC G.K D.Wrong
  ki_Again_Again : PySem.W.kitOne G.K (.ref D.Again) (.ref D.Again) = some true
  ki_Again_AheadError : PySem.W.kitOne G.K (.ref D.Again) (.ref D.AheadError) = some true
  ki_Again_Apart : PySem.W.kitOne G.K (.ref D.Again) (.ref D.Apart) = some false
  ki_Again_Few : PySem.W.kitOne G.K (.ref D.Again) (.ref D.Few) = some false
  ki_Again_Full : PySem.W.kitOne G.K (.ref D.Again) (.ref D.Full) = some false
  ki_Again_Lacks : PySem.W.kitOne G.K (.ref D.Again) (.ref D.Lacks) = some false
  ki_Again_NoBook : PySem.W.kitOne G.K (.ref D.Again) (.ref D.NoBook) = some false
  ki_Again_NoDeed : PySem.W.kitOne G.K (.ref D.Again) (.ref D.NoDeed) = some false
  ki_Again_NoLine : PySem.W.kitOne G.K (.ref D.Again) (.ref D.NoLine) = some false
  ki_Again_NoText : PySem.W.kitOne G.K (.ref D.Again) (.ref D.NoText) = some false
  ki_Again_NoWalker : PySem.W.kitOne G.K (.ref D.Again) (.ref D.NoWalker) = some false
  ki_Again_NotPlain : PySem.W.kitOne G.K (.ref D.Again) (.ref D.NotPlain) = some false
  ki_Again_Nothing : PySem.W.kitOne G.K (.ref D.Again) (.ref D.Nothing) = some false
  ki_Again_Short : PySem.W.kitOne G.K (.ref D.Again) (.ref D.Short) = some false
  ki_Again_Stopped : PySem.W.kitOne G.K (.ref D.Again) (.ref D.Stopped) = some false
  ki_Again_Taken : PySem.W.kitOne G.K (.ref D.Again) (.ref D.Taken) = some false
  ki_Again_TooFar : PySem.W.kitOne G.K (.ref D.Again) (.ref D.TooFar) = some false
  ki_Again_TooGreat : PySem.W.kitOne G.K (.ref D.Again) (.ref D.TooGreat) = some false
  ki_Again_TooMany : PySem.W.kitOne G.K (.ref D.Again) (.ref D.TooMany) = some false
  ki_Again_Twice : PySem.W.kitOne G.K (.ref D.Again) (.ref D.Twice) = some false
  ki_Again_Unlike : PySem.W.kitOne G.K (.ref D.Again) (.ref D.Unlike) = some false
  ki_Again_ValueError : PySem.W.kitOne G.K (.ref D.Again) (.type "ValueError") = some true
  ki_Again_Wrong : PySem.W.kitOne G.K (.ref D.Again) (.ref D.Wrong) = some false
  ki_AheadError_Again : PySem.W.kitOne G.K (.ref D.AheadError) (.ref D.Again) = some false
  ki_AheadError_AheadError : PySem.W.kitOne G.K (.ref D.AheadError) (.ref D.AheadError) = some true
  ki_AheadError_Apart : PySem.W.kitOne G.K (.ref D.AheadError) (.ref D.Apart) = some false
  ki_AheadError_Few : PySem.W.kitOne G.K (.ref D.AheadError) (.ref D.Few) = some false
  ki_AheadError_Full : PySem.W.kitOne G.K (.ref D.AheadError) (.ref D.Full) = some false
  ki_AheadError_Lacks : PySem.W.kitOne G.K (.ref D.AheadError) (.ref D.Lacks) = some false
  ki_AheadError_NoBook : PySem.W.kitOne G.K (.ref D.AheadError) (.ref D.NoBook) = some false
  ki_AheadError_NoDeed : PySem.W.kitOne G.K (.ref D.AheadError) (.ref D.NoDeed) = some false
  ki_AheadError_NoLine : PySem.W.kitOne G.K (.ref D.AheadError) (.ref D.NoLine) = some false
  ki_AheadError_NoText : PySem.W.kitOne G.K (.ref D.AheadError) (.ref D.NoText) = some false
  ki_AheadError_NoWalker : PySem.W.kitOne G.K (.ref D.AheadError) (.ref D.NoWalker) = some false
  ki_AheadError_NotPlain : PySem.W.kitOne G.K (.ref D.AheadError) (.ref D.NotPlain) = some false
  ki_AheadError_Nothing : PySem.W.kitOne G.K (.ref D.AheadError) (.ref D.Nothing) = some false
  ki_AheadError_Short : PySem.W.kitOne G.K (.ref D.AheadError) (.ref D.Short) = some false
  ki_AheadError_Stopped : PySem.W.kitOne G.K (.ref D.AheadError) (.ref D.Stopped) = some false
  ki_AheadError_Taken : PySem.W.kitOne G.K (.ref D.AheadError) (.ref D.Taken) = some false
  ki_AheadError_TooFar : PySem.W.kitOne G.K (.ref D.AheadError) (.ref D.TooFar) = some false
  ki_AheadError_TooGreat : PySem.W.kitOne G.K (.ref D.AheadError) (.ref D.TooGreat) = some false
  ki_AheadError_TooMany : PySem.W.kitOne G.K (.ref D.AheadError) (.ref D.TooMany) = some false
  ki_AheadError_Twice : PySem.W.kitOne G.K (.ref D.AheadError) (.ref D.Twice) = some false
  ki_AheadError_Unlike : PySem.W.kitOne G.K (.ref D.AheadError) (.ref D.Unlike) = some false
  ki_AheadError_ValueError : PySem.W.kitOne G.K (.ref D.AheadError) (.type "ValueError") = some true
  ki_AheadError_Wrong : PySem.W.kitOne G.K (.ref D.AheadError) (.ref D.Wrong) = some false
  ki_Apart_Again : PySem.W.kitOne G.K (.ref D.Apart) (.ref D.Again) = some false
  ki_Apart_AheadError : PySem.W.kitOne G.K (.ref D.Apart) (.ref D.AheadError) = some true
  ki_Apart_Apart : PySem.W.kitOne G.K (.ref D.Apart) (.ref D.Apart) = some true
  ki_Apart_Few : PySem.W.kitOne G.K (.ref D.Apart) (.ref D.Few) = some false
  ki_Apart_Full : PySem.W.kitOne G.K (.ref D.Apart) (.ref D.Full) = some false
  ki_Apart_Lacks : PySem.W.kitOne G.K (.ref D.Apart) (.ref D.Lacks) = some false
  ki_Apart_NoBook : PySem.W.kitOne G.K (.ref D.Apart) (.ref D.NoBook) = some false
  ki_Apart_NoDeed : PySem.W.kitOne G.K (.ref D.Apart) (.ref D.NoDeed) = some false
  ki_Apart_NoLine : PySem.W.kitOne G.K (.ref D.Apart) (.ref D.NoLine) = some false
  ki_Apart_NoText : PySem.W.kitOne G.K (.ref D.Apart) (.ref D.NoText) = some false
  ki_Apart_NoWalker : PySem.W.kitOne G.K (.ref D.Apart) (.ref D.NoWalker) = some false
  ki_Apart_NotPlain : PySem.W.kitOne G.K (.ref D.Apart) (.ref D.NotPlain) = some false
  ki_Apart_Nothing : PySem.W.kitOne G.K (.ref D.Apart) (.ref D.Nothing) = some false
  ki_Apart_Short : PySem.W.kitOne G.K (.ref D.Apart) (.ref D.Short) = some false
  ki_Apart_Stopped : PySem.W.kitOne G.K (.ref D.Apart) (.ref D.Stopped) = some false
  ki_Apart_Taken : PySem.W.kitOne G.K (.ref D.Apart) (.ref D.Taken) = some false
  ki_Apart_TooFar : PySem.W.kitOne G.K (.ref D.Apart) (.ref D.TooFar) = some false
  ki_Apart_TooGreat : PySem.W.kitOne G.K (.ref D.Apart) (.ref D.TooGreat) = some false
  ki_Apart_TooMany : PySem.W.kitOne G.K (.ref D.Apart) (.ref D.TooMany) = some false
  ki_Apart_Twice : PySem.W.kitOne G.K (.ref D.Apart) (.ref D.Twice) = some false
  ki_Apart_Unlike : PySem.W.kitOne G.K (.ref D.Apart) (.ref D.Unlike) = some false
  ki_Apart_ValueError : PySem.W.kitOne G.K (.ref D.Apart) (.type "ValueError") = some true
  ki_Apart_Wrong : PySem.W.kitOne G.K (.ref D.Apart) (.ref D.Wrong) = some false
  ki_Few_Again : PySem.W.kitOne G.K (.ref D.Few) (.ref D.Again) = some false
  ki_Few_AheadError : PySem.W.kitOne G.K (.ref D.Few) (.ref D.AheadError) = some true
  ki_Few_Apart : PySem.W.kitOne G.K (.ref D.Few) (.ref D.Apart) = some false
  ki_Few_Few : PySem.W.kitOne G.K (.ref D.Few) (.ref D.Few) = some true
  ki_Few_Full : PySem.W.kitOne G.K (.ref D.Few) (.ref D.Full) = some false
  ki_Few_Lacks : PySem.W.kitOne G.K (.ref D.Few) (.ref D.Lacks) = some false
  ki_Few_NoBook : PySem.W.kitOne G.K (.ref D.Few) (.ref D.NoBook) = some false
  ki_Few_NoDeed : PySem.W.kitOne G.K (.ref D.Few) (.ref D.NoDeed) = some false
  ki_Few_NoLine : PySem.W.kitOne G.K (.ref D.Few) (.ref D.NoLine) = some false
  ki_Few_NoText : PySem.W.kitOne G.K (.ref D.Few) (.ref D.NoText) = some false
  ki_Few_NoWalker : PySem.W.kitOne G.K (.ref D.Few) (.ref D.NoWalker) = some false
  ki_Few_NotPlain : PySem.W.kitOne G.K (.ref D.Few) (.ref D.NotPlain) = some false
  ki_Few_Nothing : PySem.W.kitOne G.K (.ref D.Few) (.ref D.Nothing) = some false
  ki_Few_Short : PySem.W.kitOne G.K (.ref D.Few) (.ref D.Short) = some false
  ki_Few_Stopped : PySem.W.kitOne G.K (.ref D.Few) (.ref D.Stopped) = some false
  ki_Few_Taken : PySem.W.kitOne G.K (.ref D.Few) (.ref D.Taken) = some false
  ki_Few_TooFar : PySem.W.kitOne G.K (.ref D.Few) (.ref D.TooFar) = some false
  ki_Few_TooGreat : PySem.W.kitOne G.K (.ref D.Few) (.ref D.TooGreat) = some false
  ki_Few_TooMany : PySem.W.kitOne G.K (.ref D.Few) (.ref D.TooMany) = some false
  ki_Few_Twice : PySem.W.kitOne G.K (.ref D.Few) (.ref D.Twice) = some false
  ki_Few_Unlike : PySem.W.kitOne G.K (.ref D.Few) (.ref D.Unlike) = some false
  ki_Few_ValueError : PySem.W.kitOne G.K (.ref D.Few) (.type "ValueError") = some true
  ki_Few_Wrong : PySem.W.kitOne G.K (.ref D.Few) (.ref D.Wrong) = some false
  ki_Full_Again : PySem.W.kitOne G.K (.ref D.Full) (.ref D.Again) = some false
  ki_Full_AheadError : PySem.W.kitOne G.K (.ref D.Full) (.ref D.AheadError) = some true
  ki_Full_Apart : PySem.W.kitOne G.K (.ref D.Full) (.ref D.Apart) = some false
  ki_Full_Few : PySem.W.kitOne G.K (.ref D.Full) (.ref D.Few) = some false
  ki_Full_Full : PySem.W.kitOne G.K (.ref D.Full) (.ref D.Full) = some true
  ki_Full_Lacks : PySem.W.kitOne G.K (.ref D.Full) (.ref D.Lacks) = some false
  ki_Full_NoBook : PySem.W.kitOne G.K (.ref D.Full) (.ref D.NoBook) = some false
  ki_Full_NoDeed : PySem.W.kitOne G.K (.ref D.Full) (.ref D.NoDeed) = some false
  ki_Full_NoLine : PySem.W.kitOne G.K (.ref D.Full) (.ref D.NoLine) = some false
  ki_Full_NoText : PySem.W.kitOne G.K (.ref D.Full) (.ref D.NoText) = some false
  ki_Full_NoWalker : PySem.W.kitOne G.K (.ref D.Full) (.ref D.NoWalker) = some false
  ki_Full_NotPlain : PySem.W.kitOne G.K (.ref D.Full) (.ref D.NotPlain) = some false
  ki_Full_Nothing : PySem.W.kitOne G.K (.ref D.Full) (.ref D.Nothing) = some false
  ki_Full_Short : PySem.W.kitOne G.K (.ref D.Full) (.ref D.Short) = some false
  ki_Full_Stopped : PySem.W.kitOne G.K (.ref D.Full) (.ref D.Stopped) = some false
  ki_Full_Taken : PySem.W.kitOne G.K (.ref D.Full) (.ref D.Taken) = some false
  ki_Full_TooFar : PySem.W.kitOne G.K (.ref D.Full) (.ref D.TooFar) = some false
  ki_Full_TooGreat : PySem.W.kitOne G.K (.ref D.Full) (.ref D.TooGreat) = some false
  ki_Full_TooMany : PySem.W.kitOne G.K (.ref D.Full) (.ref D.TooMany) = some false
  ki_Full_Twice : PySem.W.kitOne G.K (.ref D.Full) (.ref D.Twice) = some false
  ki_Full_Unlike : PySem.W.kitOne G.K (.ref D.Full) (.ref D.Unlike) = some false
  ki_Full_ValueError : PySem.W.kitOne G.K (.ref D.Full) (.type "ValueError") = some true
  ki_Full_Wrong : PySem.W.kitOne G.K (.ref D.Full) (.ref D.Wrong) = some false
  ki_Lacks_Again : PySem.W.kitOne G.K (.ref D.Lacks) (.ref D.Again) = some false
  ki_Lacks_AheadError : PySem.W.kitOne G.K (.ref D.Lacks) (.ref D.AheadError) = some true
  ki_Lacks_Apart : PySem.W.kitOne G.K (.ref D.Lacks) (.ref D.Apart) = some false
  ki_Lacks_Few : PySem.W.kitOne G.K (.ref D.Lacks) (.ref D.Few) = some false
  ki_Lacks_Full : PySem.W.kitOne G.K (.ref D.Lacks) (.ref D.Full) = some false
  ki_Lacks_Lacks : PySem.W.kitOne G.K (.ref D.Lacks) (.ref D.Lacks) = some true
  ki_Lacks_NoBook : PySem.W.kitOne G.K (.ref D.Lacks) (.ref D.NoBook) = some false
  ki_Lacks_NoDeed : PySem.W.kitOne G.K (.ref D.Lacks) (.ref D.NoDeed) = some false
  ki_Lacks_NoLine : PySem.W.kitOne G.K (.ref D.Lacks) (.ref D.NoLine) = some false
  ki_Lacks_NoText : PySem.W.kitOne G.K (.ref D.Lacks) (.ref D.NoText) = some false
  ki_Lacks_NoWalker : PySem.W.kitOne G.K (.ref D.Lacks) (.ref D.NoWalker) = some false
  ki_Lacks_NotPlain : PySem.W.kitOne G.K (.ref D.Lacks) (.ref D.NotPlain) = some false
  ki_Lacks_Nothing : PySem.W.kitOne G.K (.ref D.Lacks) (.ref D.Nothing) = some false
  ki_Lacks_Short : PySem.W.kitOne G.K (.ref D.Lacks) (.ref D.Short) = some false
  ki_Lacks_Stopped : PySem.W.kitOne G.K (.ref D.Lacks) (.ref D.Stopped) = some false
  ki_Lacks_Taken : PySem.W.kitOne G.K (.ref D.Lacks) (.ref D.Taken) = some false
  ki_Lacks_TooFar : PySem.W.kitOne G.K (.ref D.Lacks) (.ref D.TooFar) = some false
  ki_Lacks_TooGreat : PySem.W.kitOne G.K (.ref D.Lacks) (.ref D.TooGreat) = some false
  ki_Lacks_TooMany : PySem.W.kitOne G.K (.ref D.Lacks) (.ref D.TooMany) = some false
  ki_Lacks_Twice : PySem.W.kitOne G.K (.ref D.Lacks) (.ref D.Twice) = some false
  ki_Lacks_Unlike : PySem.W.kitOne G.K (.ref D.Lacks) (.ref D.Unlike) = some false
  ki_Lacks_ValueError : PySem.W.kitOne G.K (.ref D.Lacks) (.type "ValueError") = some true
  ki_Lacks_Wrong : PySem.W.kitOne G.K (.ref D.Lacks) (.ref D.Wrong) = some false
  ki_NoBook_Again : PySem.W.kitOne G.K (.ref D.NoBook) (.ref D.Again) = some false
  ki_NoBook_AheadError : PySem.W.kitOne G.K (.ref D.NoBook) (.ref D.AheadError) = some true
  ki_NoBook_Apart : PySem.W.kitOne G.K (.ref D.NoBook) (.ref D.Apart) = some false
  ki_NoBook_Few : PySem.W.kitOne G.K (.ref D.NoBook) (.ref D.Few) = some false
  ki_NoBook_Full : PySem.W.kitOne G.K (.ref D.NoBook) (.ref D.Full) = some false
  ki_NoBook_Lacks : PySem.W.kitOne G.K (.ref D.NoBook) (.ref D.Lacks) = some false
  ki_NoBook_NoBook : PySem.W.kitOne G.K (.ref D.NoBook) (.ref D.NoBook) = some true
  ki_NoBook_NoDeed : PySem.W.kitOne G.K (.ref D.NoBook) (.ref D.NoDeed) = some false
  ki_NoBook_NoLine : PySem.W.kitOne G.K (.ref D.NoBook) (.ref D.NoLine) = some false
  ki_NoBook_NoText : PySem.W.kitOne G.K (.ref D.NoBook) (.ref D.NoText) = some false
  ki_NoBook_NoWalker : PySem.W.kitOne G.K (.ref D.NoBook) (.ref D.NoWalker) = some false
  ki_NoBook_NotPlain : PySem.W.kitOne G.K (.ref D.NoBook) (.ref D.NotPlain) = some false
  ki_NoBook_Nothing : PySem.W.kitOne G.K (.ref D.NoBook) (.ref D.Nothing) = some false
  ki_NoBook_Short : PySem.W.kitOne G.K (.ref D.NoBook) (.ref D.Short) = some false
  ki_NoBook_Stopped : PySem.W.kitOne G.K (.ref D.NoBook) (.ref D.Stopped) = some false
  ki_NoBook_Taken : PySem.W.kitOne G.K (.ref D.NoBook) (.ref D.Taken) = some false
  ki_NoBook_TooFar : PySem.W.kitOne G.K (.ref D.NoBook) (.ref D.TooFar) = some false
  ki_NoBook_TooGreat : PySem.W.kitOne G.K (.ref D.NoBook) (.ref D.TooGreat) = some false
  ki_NoBook_TooMany : PySem.W.kitOne G.K (.ref D.NoBook) (.ref D.TooMany) = some false
  ki_NoBook_Twice : PySem.W.kitOne G.K (.ref D.NoBook) (.ref D.Twice) = some false
  ki_NoBook_Unlike : PySem.W.kitOne G.K (.ref D.NoBook) (.ref D.Unlike) = some false
  ki_NoBook_ValueError : PySem.W.kitOne G.K (.ref D.NoBook) (.type "ValueError") = some true
  ki_NoBook_Wrong : PySem.W.kitOne G.K (.ref D.NoBook) (.ref D.Wrong) = some false
  ki_NoDeed_Again : PySem.W.kitOne G.K (.ref D.NoDeed) (.ref D.Again) = some false
  ki_NoDeed_AheadError : PySem.W.kitOne G.K (.ref D.NoDeed) (.ref D.AheadError) = some true
  ki_NoDeed_Apart : PySem.W.kitOne G.K (.ref D.NoDeed) (.ref D.Apart) = some false
  ki_NoDeed_Few : PySem.W.kitOne G.K (.ref D.NoDeed) (.ref D.Few) = some false
  ki_NoDeed_Full : PySem.W.kitOne G.K (.ref D.NoDeed) (.ref D.Full) = some false
  ki_NoDeed_Lacks : PySem.W.kitOne G.K (.ref D.NoDeed) (.ref D.Lacks) = some false
  ki_NoDeed_NoBook : PySem.W.kitOne G.K (.ref D.NoDeed) (.ref D.NoBook) = some false
  ki_NoDeed_NoDeed : PySem.W.kitOne G.K (.ref D.NoDeed) (.ref D.NoDeed) = some true
  ki_NoDeed_NoLine : PySem.W.kitOne G.K (.ref D.NoDeed) (.ref D.NoLine) = some false
  ki_NoDeed_NoText : PySem.W.kitOne G.K (.ref D.NoDeed) (.ref D.NoText) = some false
  ki_NoDeed_NoWalker : PySem.W.kitOne G.K (.ref D.NoDeed) (.ref D.NoWalker) = some false
  ki_NoDeed_NotPlain : PySem.W.kitOne G.K (.ref D.NoDeed) (.ref D.NotPlain) = some false
  ki_NoDeed_Nothing : PySem.W.kitOne G.K (.ref D.NoDeed) (.ref D.Nothing) = some false
  ki_NoDeed_Short : PySem.W.kitOne G.K (.ref D.NoDeed) (.ref D.Short) = some false
  ki_NoDeed_Stopped : PySem.W.kitOne G.K (.ref D.NoDeed) (.ref D.Stopped) = some false
  ki_NoDeed_Taken : PySem.W.kitOne G.K (.ref D.NoDeed) (.ref D.Taken) = some false
  ki_NoDeed_TooFar : PySem.W.kitOne G.K (.ref D.NoDeed) (.ref D.TooFar) = some false
  ki_NoDeed_TooGreat : PySem.W.kitOne G.K (.ref D.NoDeed) (.ref D.TooGreat) = some false
  ki_NoDeed_TooMany : PySem.W.kitOne G.K (.ref D.NoDeed) (.ref D.TooMany) = some false
  ki_NoDeed_Twice : PySem.W.kitOne G.K (.ref D.NoDeed) (.ref D.Twice) = some false
  ki_NoDeed_Unlike : PySem.W.kitOne G.K (.ref D.NoDeed) (.ref D.Unlike) = some false
  ki_NoDeed_ValueError : PySem.W.kitOne G.K (.ref D.NoDeed) (.type "ValueError") = some true
  ki_NoDeed_Wrong : PySem.W.kitOne G.K (.ref D.NoDeed) (.ref D.Wrong) = some false
  ki_NoLine_Again : PySem.W.kitOne G.K (.ref D.NoLine) (.ref D.Again) = some false
  ki_NoLine_AheadError : PySem.W.kitOne G.K (.ref D.NoLine) (.ref D.AheadError) = some true
  ki_NoLine_Apart : PySem.W.kitOne G.K (.ref D.NoLine) (.ref D.Apart) = some false
  ki_NoLine_Few : PySem.W.kitOne G.K (.ref D.NoLine) (.ref D.Few) = some false
  ki_NoLine_Full : PySem.W.kitOne G.K (.ref D.NoLine) (.ref D.Full) = some false
  ki_NoLine_Lacks : PySem.W.kitOne G.K (.ref D.NoLine) (.ref D.Lacks) = some false
  ki_NoLine_NoBook : PySem.W.kitOne G.K (.ref D.NoLine) (.ref D.NoBook) = some false
  ki_NoLine_NoDeed : PySem.W.kitOne G.K (.ref D.NoLine) (.ref D.NoDeed) = some false
  ki_NoLine_NoLine : PySem.W.kitOne G.K (.ref D.NoLine) (.ref D.NoLine) = some true
  ki_NoLine_NoText : PySem.W.kitOne G.K (.ref D.NoLine) (.ref D.NoText) = some false
  ki_NoLine_NoWalker : PySem.W.kitOne G.K (.ref D.NoLine) (.ref D.NoWalker) = some false
  ki_NoLine_NotPlain : PySem.W.kitOne G.K (.ref D.NoLine) (.ref D.NotPlain) = some false
  ki_NoLine_Nothing : PySem.W.kitOne G.K (.ref D.NoLine) (.ref D.Nothing) = some false
  ki_NoLine_Short : PySem.W.kitOne G.K (.ref D.NoLine) (.ref D.Short) = some false
  ki_NoLine_Stopped : PySem.W.kitOne G.K (.ref D.NoLine) (.ref D.Stopped) = some false
  ki_NoLine_Taken : PySem.W.kitOne G.K (.ref D.NoLine) (.ref D.Taken) = some false
  ki_NoLine_TooFar : PySem.W.kitOne G.K (.ref D.NoLine) (.ref D.TooFar) = some false
  ki_NoLine_TooGreat : PySem.W.kitOne G.K (.ref D.NoLine) (.ref D.TooGreat) = some false
  ki_NoLine_TooMany : PySem.W.kitOne G.K (.ref D.NoLine) (.ref D.TooMany) = some false
  ki_NoLine_Twice : PySem.W.kitOne G.K (.ref D.NoLine) (.ref D.Twice) = some false
  ki_NoLine_Unlike : PySem.W.kitOne G.K (.ref D.NoLine) (.ref D.Unlike) = some false
  ki_NoLine_ValueError : PySem.W.kitOne G.K (.ref D.NoLine) (.type "ValueError") = some true
  ki_NoLine_Wrong : PySem.W.kitOne G.K (.ref D.NoLine) (.ref D.Wrong) = some false
  ki_NoText_Again : PySem.W.kitOne G.K (.ref D.NoText) (.ref D.Again) = some false
  ki_NoText_AheadError : PySem.W.kitOne G.K (.ref D.NoText) (.ref D.AheadError) = some true
  ki_NoText_Apart : PySem.W.kitOne G.K (.ref D.NoText) (.ref D.Apart) = some false
  ki_NoText_Few : PySem.W.kitOne G.K (.ref D.NoText) (.ref D.Few) = some false
  ki_NoText_Full : PySem.W.kitOne G.K (.ref D.NoText) (.ref D.Full) = some false
  ki_NoText_Lacks : PySem.W.kitOne G.K (.ref D.NoText) (.ref D.Lacks) = some false
  ki_NoText_NoBook : PySem.W.kitOne G.K (.ref D.NoText) (.ref D.NoBook) = some false
  ki_NoText_NoDeed : PySem.W.kitOne G.K (.ref D.NoText) (.ref D.NoDeed) = some false
  ki_NoText_NoLine : PySem.W.kitOne G.K (.ref D.NoText) (.ref D.NoLine) = some false
  ki_NoText_NoText : PySem.W.kitOne G.K (.ref D.NoText) (.ref D.NoText) = some true
  ki_NoText_NoWalker : PySem.W.kitOne G.K (.ref D.NoText) (.ref D.NoWalker) = some false
  ki_NoText_NotPlain : PySem.W.kitOne G.K (.ref D.NoText) (.ref D.NotPlain) = some false
  ki_NoText_Nothing : PySem.W.kitOne G.K (.ref D.NoText) (.ref D.Nothing) = some false
  ki_NoText_Short : PySem.W.kitOne G.K (.ref D.NoText) (.ref D.Short) = some false
  ki_NoText_Stopped : PySem.W.kitOne G.K (.ref D.NoText) (.ref D.Stopped) = some false
  ki_NoText_Taken : PySem.W.kitOne G.K (.ref D.NoText) (.ref D.Taken) = some false
  ki_NoText_TooFar : PySem.W.kitOne G.K (.ref D.NoText) (.ref D.TooFar) = some false
  ki_NoText_TooGreat : PySem.W.kitOne G.K (.ref D.NoText) (.ref D.TooGreat) = some false
  ki_NoText_TooMany : PySem.W.kitOne G.K (.ref D.NoText) (.ref D.TooMany) = some false
  ki_NoText_Twice : PySem.W.kitOne G.K (.ref D.NoText) (.ref D.Twice) = some false
  ki_NoText_Unlike : PySem.W.kitOne G.K (.ref D.NoText) (.ref D.Unlike) = some false
  ki_NoText_ValueError : PySem.W.kitOne G.K (.ref D.NoText) (.type "ValueError") = some true
  ki_NoText_Wrong : PySem.W.kitOne G.K (.ref D.NoText) (.ref D.Wrong) = some false
  ki_NoWalker_Again : PySem.W.kitOne G.K (.ref D.NoWalker) (.ref D.Again) = some false
  ki_NoWalker_AheadError : PySem.W.kitOne G.K (.ref D.NoWalker) (.ref D.AheadError) = some true
  ki_NoWalker_Apart : PySem.W.kitOne G.K (.ref D.NoWalker) (.ref D.Apart) = some false
  ki_NoWalker_Few : PySem.W.kitOne G.K (.ref D.NoWalker) (.ref D.Few) = some false
  ki_NoWalker_Full : PySem.W.kitOne G.K (.ref D.NoWalker) (.ref D.Full) = some false
  ki_NoWalker_Lacks : PySem.W.kitOne G.K (.ref D.NoWalker) (.ref D.Lacks) = some false
  ki_NoWalker_NoBook : PySem.W.kitOne G.K (.ref D.NoWalker) (.ref D.NoBook) = some false
  ki_NoWalker_NoDeed : PySem.W.kitOne G.K (.ref D.NoWalker) (.ref D.NoDeed) = some false
  ki_NoWalker_NoLine : PySem.W.kitOne G.K (.ref D.NoWalker) (.ref D.NoLine) = some false
  ki_NoWalker_NoText : PySem.W.kitOne G.K (.ref D.NoWalker) (.ref D.NoText) = some false
  ki_NoWalker_NoWalker : PySem.W.kitOne G.K (.ref D.NoWalker) (.ref D.NoWalker) = some true
  ki_NoWalker_NotPlain : PySem.W.kitOne G.K (.ref D.NoWalker) (.ref D.NotPlain) = some false
  ki_NoWalker_Nothing : PySem.W.kitOne G.K (.ref D.NoWalker) (.ref D.Nothing) = some false
  ki_NoWalker_Short : PySem.W.kitOne G.K (.ref D.NoWalker) (.ref D.Short) = some false
  ki_NoWalker_Stopped : PySem.W.kitOne G.K (.ref D.NoWalker) (.ref D.Stopped) = some false
  ki_NoWalker_Taken : PySem.W.kitOne G.K (.ref D.NoWalker) (.ref D.Taken) = some false
  ki_NoWalker_TooFar : PySem.W.kitOne G.K (.ref D.NoWalker) (.ref D.TooFar) = some false
  ki_NoWalker_TooGreat : PySem.W.kitOne G.K (.ref D.NoWalker) (.ref D.TooGreat) = some false
  ki_NoWalker_TooMany : PySem.W.kitOne G.K (.ref D.NoWalker) (.ref D.TooMany) = some false
  ki_NoWalker_Twice : PySem.W.kitOne G.K (.ref D.NoWalker) (.ref D.Twice) = some false
  ki_NoWalker_Unlike : PySem.W.kitOne G.K (.ref D.NoWalker) (.ref D.Unlike) = some false
  ki_NoWalker_ValueError : PySem.W.kitOne G.K (.ref D.NoWalker) (.type "ValueError") = some true
  ki_NoWalker_Wrong : PySem.W.kitOne G.K (.ref D.NoWalker) (.ref D.Wrong) = some false
  ki_NotPlain_Again : PySem.W.kitOne G.K (.ref D.NotPlain) (.ref D.Again) = some false
  ki_NotPlain_AheadError : PySem.W.kitOne G.K (.ref D.NotPlain) (.ref D.AheadError) = some true
  ki_NotPlain_Apart : PySem.W.kitOne G.K (.ref D.NotPlain) (.ref D.Apart) = some false
  ki_NotPlain_Few : PySem.W.kitOne G.K (.ref D.NotPlain) (.ref D.Few) = some false
  ki_NotPlain_Full : PySem.W.kitOne G.K (.ref D.NotPlain) (.ref D.Full) = some false
  ki_NotPlain_Lacks : PySem.W.kitOne G.K (.ref D.NotPlain) (.ref D.Lacks) = some false
  ki_NotPlain_NoBook : PySem.W.kitOne G.K (.ref D.NotPlain) (.ref D.NoBook) = some false
  ki_NotPlain_NoDeed : PySem.W.kitOne G.K (.ref D.NotPlain) (.ref D.NoDeed) = some false
  ki_NotPlain_NoLine : PySem.W.kitOne G.K (.ref D.NotPlain) (.ref D.NoLine) = some false
  ki_NotPlain_NoText : PySem.W.kitOne G.K (.ref D.NotPlain) (.ref D.NoText) = some false
  ki_NotPlain_NoWalker : PySem.W.kitOne G.K (.ref D.NotPlain) (.ref D.NoWalker) = some false
  ki_NotPlain_NotPlain : PySem.W.kitOne G.K (.ref D.NotPlain) (.ref D.NotPlain) = some true
  ki_NotPlain_Nothing : PySem.W.kitOne G.K (.ref D.NotPlain) (.ref D.Nothing) = some false
  ki_NotPlain_Short : PySem.W.kitOne G.K (.ref D.NotPlain) (.ref D.Short) = some false
  ki_NotPlain_Stopped : PySem.W.kitOne G.K (.ref D.NotPlain) (.ref D.Stopped) = some false
  ki_NotPlain_Taken : PySem.W.kitOne G.K (.ref D.NotPlain) (.ref D.Taken) = some false
  ki_NotPlain_TooFar : PySem.W.kitOne G.K (.ref D.NotPlain) (.ref D.TooFar) = some false
  ki_NotPlain_TooGreat : PySem.W.kitOne G.K (.ref D.NotPlain) (.ref D.TooGreat) = some false
  ki_NotPlain_TooMany : PySem.W.kitOne G.K (.ref D.NotPlain) (.ref D.TooMany) = some false
  ki_NotPlain_Twice : PySem.W.kitOne G.K (.ref D.NotPlain) (.ref D.Twice) = some false
  ki_NotPlain_Unlike : PySem.W.kitOne G.K (.ref D.NotPlain) (.ref D.Unlike) = some false
  ki_NotPlain_ValueError : PySem.W.kitOne G.K (.ref D.NotPlain) (.type "ValueError") = some true
  ki_NotPlain_Wrong : PySem.W.kitOne G.K (.ref D.NotPlain) (.ref D.Wrong) = some false
  ki_Nothing_Again : PySem.W.kitOne G.K (.ref D.Nothing) (.ref D.Again) = some false
  ki_Nothing_AheadError : PySem.W.kitOne G.K (.ref D.Nothing) (.ref D.AheadError) = some true
  ki_Nothing_Apart : PySem.W.kitOne G.K (.ref D.Nothing) (.ref D.Apart) = some false
  ki_Nothing_Few : PySem.W.kitOne G.K (.ref D.Nothing) (.ref D.Few) = some false
  ki_Nothing_Full : PySem.W.kitOne G.K (.ref D.Nothing) (.ref D.Full) = some false
  ki_Nothing_Lacks : PySem.W.kitOne G.K (.ref D.Nothing) (.ref D.Lacks) = some false
  ki_Nothing_NoBook : PySem.W.kitOne G.K (.ref D.Nothing) (.ref D.NoBook) = some false
  ki_Nothing_NoDeed : PySem.W.kitOne G.K (.ref D.Nothing) (.ref D.NoDeed) = some false
  ki_Nothing_NoLine : PySem.W.kitOne G.K (.ref D.Nothing) (.ref D.NoLine) = some false
  ki_Nothing_NoText : PySem.W.kitOne G.K (.ref D.Nothing) (.ref D.NoText) = some false
  ki_Nothing_NoWalker : PySem.W.kitOne G.K (.ref D.Nothing) (.ref D.NoWalker) = some false
  ki_Nothing_NotPlain : PySem.W.kitOne G.K (.ref D.Nothing) (.ref D.NotPlain) = some false
  ki_Nothing_Nothing : PySem.W.kitOne G.K (.ref D.Nothing) (.ref D.Nothing) = some true
  ki_Nothing_Short : PySem.W.kitOne G.K (.ref D.Nothing) (.ref D.Short) = some false
  ki_Nothing_Stopped : PySem.W.kitOne G.K (.ref D.Nothing) (.ref D.Stopped) = some false
  ki_Nothing_Taken : PySem.W.kitOne G.K (.ref D.Nothing) (.ref D.Taken) = some false
  ki_Nothing_TooFar : PySem.W.kitOne G.K (.ref D.Nothing) (.ref D.TooFar) = some false
  ki_Nothing_TooGreat : PySem.W.kitOne G.K (.ref D.Nothing) (.ref D.TooGreat) = some false
  ki_Nothing_TooMany : PySem.W.kitOne G.K (.ref D.Nothing) (.ref D.TooMany) = some false
  ki_Nothing_Twice : PySem.W.kitOne G.K (.ref D.Nothing) (.ref D.Twice) = some false
  ki_Nothing_Unlike : PySem.W.kitOne G.K (.ref D.Nothing) (.ref D.Unlike) = some false
  ki_Nothing_ValueError : PySem.W.kitOne G.K (.ref D.Nothing) (.type "ValueError") = some true
  ki_Nothing_Wrong : PySem.W.kitOne G.K (.ref D.Nothing) (.ref D.Wrong) = some false
  ki_Short_Again : PySem.W.kitOne G.K (.ref D.Short) (.ref D.Again) = some false
  ki_Short_AheadError : PySem.W.kitOne G.K (.ref D.Short) (.ref D.AheadError) = some true
  ki_Short_Apart : PySem.W.kitOne G.K (.ref D.Short) (.ref D.Apart) = some false
  ki_Short_Few : PySem.W.kitOne G.K (.ref D.Short) (.ref D.Few) = some false
  ki_Short_Full : PySem.W.kitOne G.K (.ref D.Short) (.ref D.Full) = some false
  ki_Short_Lacks : PySem.W.kitOne G.K (.ref D.Short) (.ref D.Lacks) = some false
  ki_Short_NoBook : PySem.W.kitOne G.K (.ref D.Short) (.ref D.NoBook) = some false
  ki_Short_NoDeed : PySem.W.kitOne G.K (.ref D.Short) (.ref D.NoDeed) = some false
  ki_Short_NoLine : PySem.W.kitOne G.K (.ref D.Short) (.ref D.NoLine) = some false
  ki_Short_NoText : PySem.W.kitOne G.K (.ref D.Short) (.ref D.NoText) = some false
  ki_Short_NoWalker : PySem.W.kitOne G.K (.ref D.Short) (.ref D.NoWalker) = some false
  ki_Short_NotPlain : PySem.W.kitOne G.K (.ref D.Short) (.ref D.NotPlain) = some false
  ki_Short_Nothing : PySem.W.kitOne G.K (.ref D.Short) (.ref D.Nothing) = some false
  ki_Short_Short : PySem.W.kitOne G.K (.ref D.Short) (.ref D.Short) = some true
  ki_Short_Stopped : PySem.W.kitOne G.K (.ref D.Short) (.ref D.Stopped) = some false
  ki_Short_Taken : PySem.W.kitOne G.K (.ref D.Short) (.ref D.Taken) = some false
  ki_Short_TooFar : PySem.W.kitOne G.K (.ref D.Short) (.ref D.TooFar) = some false
  ki_Short_TooGreat : PySem.W.kitOne G.K (.ref D.Short) (.ref D.TooGreat) = some false
  ki_Short_TooMany : PySem.W.kitOne G.K (.ref D.Short) (.ref D.TooMany) = some false
  ki_Short_Twice : PySem.W.kitOne G.K (.ref D.Short) (.ref D.Twice) = some false
  ki_Short_Unlike : PySem.W.kitOne G.K (.ref D.Short) (.ref D.Unlike) = some false
  ki_Short_ValueError : PySem.W.kitOne G.K (.ref D.Short) (.type "ValueError") = some true
  ki_Short_Wrong : PySem.W.kitOne G.K (.ref D.Short) (.ref D.Wrong) = some false
  ki_Stopped_Again : PySem.W.kitOne G.K (.ref D.Stopped) (.ref D.Again) = some false
  ki_Stopped_AheadError : PySem.W.kitOne G.K (.ref D.Stopped) (.ref D.AheadError) = some true
  ki_Stopped_Apart : PySem.W.kitOne G.K (.ref D.Stopped) (.ref D.Apart) = some false
  ki_Stopped_Few : PySem.W.kitOne G.K (.ref D.Stopped) (.ref D.Few) = some false
  ki_Stopped_Full : PySem.W.kitOne G.K (.ref D.Stopped) (.ref D.Full) = some false
  ki_Stopped_Lacks : PySem.W.kitOne G.K (.ref D.Stopped) (.ref D.Lacks) = some false
  ki_Stopped_NoBook : PySem.W.kitOne G.K (.ref D.Stopped) (.ref D.NoBook) = some false
  ki_Stopped_NoDeed : PySem.W.kitOne G.K (.ref D.Stopped) (.ref D.NoDeed) = some false
  ki_Stopped_NoLine : PySem.W.kitOne G.K (.ref D.Stopped) (.ref D.NoLine) = some false
  ki_Stopped_NoText : PySem.W.kitOne G.K (.ref D.Stopped) (.ref D.NoText) = some false
  ki_Stopped_NoWalker : PySem.W.kitOne G.K (.ref D.Stopped) (.ref D.NoWalker) = some false
  ki_Stopped_NotPlain : PySem.W.kitOne G.K (.ref D.Stopped) (.ref D.NotPlain) = some false
  ki_Stopped_Nothing : PySem.W.kitOne G.K (.ref D.Stopped) (.ref D.Nothing) = some false
  ki_Stopped_Short : PySem.W.kitOne G.K (.ref D.Stopped) (.ref D.Short) = some false
  ki_Stopped_Stopped : PySem.W.kitOne G.K (.ref D.Stopped) (.ref D.Stopped) = some true
  ki_Stopped_Taken : PySem.W.kitOne G.K (.ref D.Stopped) (.ref D.Taken) = some false
  ki_Stopped_TooFar : PySem.W.kitOne G.K (.ref D.Stopped) (.ref D.TooFar) = some false
  ki_Stopped_TooGreat : PySem.W.kitOne G.K (.ref D.Stopped) (.ref D.TooGreat) = some false
  ki_Stopped_TooMany : PySem.W.kitOne G.K (.ref D.Stopped) (.ref D.TooMany) = some false
  ki_Stopped_Twice : PySem.W.kitOne G.K (.ref D.Stopped) (.ref D.Twice) = some false
  ki_Stopped_Unlike : PySem.W.kitOne G.K (.ref D.Stopped) (.ref D.Unlike) = some false
  ki_Stopped_ValueError : PySem.W.kitOne G.K (.ref D.Stopped) (.type "ValueError") = some true
  ki_Stopped_Wrong : PySem.W.kitOne G.K (.ref D.Stopped) (.ref D.Wrong) = some false
  ki_Taken_Again : PySem.W.kitOne G.K (.ref D.Taken) (.ref D.Again) = some false
  ki_Taken_AheadError : PySem.W.kitOne G.K (.ref D.Taken) (.ref D.AheadError) = some true
  ki_Taken_Apart : PySem.W.kitOne G.K (.ref D.Taken) (.ref D.Apart) = some false
  ki_Taken_Few : PySem.W.kitOne G.K (.ref D.Taken) (.ref D.Few) = some false
  ki_Taken_Full : PySem.W.kitOne G.K (.ref D.Taken) (.ref D.Full) = some false
  ki_Taken_Lacks : PySem.W.kitOne G.K (.ref D.Taken) (.ref D.Lacks) = some false
  ki_Taken_NoBook : PySem.W.kitOne G.K (.ref D.Taken) (.ref D.NoBook) = some false
  ki_Taken_NoDeed : PySem.W.kitOne G.K (.ref D.Taken) (.ref D.NoDeed) = some false
  ki_Taken_NoLine : PySem.W.kitOne G.K (.ref D.Taken) (.ref D.NoLine) = some false
  ki_Taken_NoText : PySem.W.kitOne G.K (.ref D.Taken) (.ref D.NoText) = some false
  ki_Taken_NoWalker : PySem.W.kitOne G.K (.ref D.Taken) (.ref D.NoWalker) = some false
  ki_Taken_NotPlain : PySem.W.kitOne G.K (.ref D.Taken) (.ref D.NotPlain) = some false
  ki_Taken_Nothing : PySem.W.kitOne G.K (.ref D.Taken) (.ref D.Nothing) = some false
  ki_Taken_Short : PySem.W.kitOne G.K (.ref D.Taken) (.ref D.Short) = some false
  ki_Taken_Stopped : PySem.W.kitOne G.K (.ref D.Taken) (.ref D.Stopped) = some false
  ki_Taken_Taken : PySem.W.kitOne G.K (.ref D.Taken) (.ref D.Taken) = some true
  ki_Taken_TooFar : PySem.W.kitOne G.K (.ref D.Taken) (.ref D.TooFar) = some false
  ki_Taken_TooGreat : PySem.W.kitOne G.K (.ref D.Taken) (.ref D.TooGreat) = some false
  ki_Taken_TooMany : PySem.W.kitOne G.K (.ref D.Taken) (.ref D.TooMany) = some false
  ki_Taken_Twice : PySem.W.kitOne G.K (.ref D.Taken) (.ref D.Twice) = some false
  ki_Taken_Unlike : PySem.W.kitOne G.K (.ref D.Taken) (.ref D.Unlike) = some false
  ki_Taken_ValueError : PySem.W.kitOne G.K (.ref D.Taken) (.type "ValueError") = some true
  ki_Taken_Wrong : PySem.W.kitOne G.K (.ref D.Taken) (.ref D.Wrong) = some false
  ki_TooFar_Again : PySem.W.kitOne G.K (.ref D.TooFar) (.ref D.Again) = some false
  ki_TooFar_AheadError : PySem.W.kitOne G.K (.ref D.TooFar) (.ref D.AheadError) = some true
  ki_TooFar_Apart : PySem.W.kitOne G.K (.ref D.TooFar) (.ref D.Apart) = some false
  ki_TooFar_Few : PySem.W.kitOne G.K (.ref D.TooFar) (.ref D.Few) = some false
  ki_TooFar_Full : PySem.W.kitOne G.K (.ref D.TooFar) (.ref D.Full) = some false
  ki_TooFar_Lacks : PySem.W.kitOne G.K (.ref D.TooFar) (.ref D.Lacks) = some false
  ki_TooFar_NoBook : PySem.W.kitOne G.K (.ref D.TooFar) (.ref D.NoBook) = some false
  ki_TooFar_NoDeed : PySem.W.kitOne G.K (.ref D.TooFar) (.ref D.NoDeed) = some false
  ki_TooFar_NoLine : PySem.W.kitOne G.K (.ref D.TooFar) (.ref D.NoLine) = some false
  ki_TooFar_NoText : PySem.W.kitOne G.K (.ref D.TooFar) (.ref D.NoText) = some false
  ki_TooFar_NoWalker : PySem.W.kitOne G.K (.ref D.TooFar) (.ref D.NoWalker) = some false
  ki_TooFar_NotPlain : PySem.W.kitOne G.K (.ref D.TooFar) (.ref D.NotPlain) = some false
  ki_TooFar_Nothing : PySem.W.kitOne G.K (.ref D.TooFar) (.ref D.Nothing) = some false
  ki_TooFar_Short : PySem.W.kitOne G.K (.ref D.TooFar) (.ref D.Short) = some false
  ki_TooFar_Stopped : PySem.W.kitOne G.K (.ref D.TooFar) (.ref D.Stopped) = some false
  ki_TooFar_Taken : PySem.W.kitOne G.K (.ref D.TooFar) (.ref D.Taken) = some false
  ki_TooFar_TooFar : PySem.W.kitOne G.K (.ref D.TooFar) (.ref D.TooFar) = some true
  ki_TooFar_TooGreat : PySem.W.kitOne G.K (.ref D.TooFar) (.ref D.TooGreat) = some false
  ki_TooFar_TooMany : PySem.W.kitOne G.K (.ref D.TooFar) (.ref D.TooMany) = some false
  ki_TooFar_Twice : PySem.W.kitOne G.K (.ref D.TooFar) (.ref D.Twice) = some false
  ki_TooFar_Unlike : PySem.W.kitOne G.K (.ref D.TooFar) (.ref D.Unlike) = some false
  ki_TooFar_ValueError : PySem.W.kitOne G.K (.ref D.TooFar) (.type "ValueError") = some true
  ki_TooFar_Wrong : PySem.W.kitOne G.K (.ref D.TooFar) (.ref D.Wrong) = some false
  ki_TooGreat_Again : PySem.W.kitOne G.K (.ref D.TooGreat) (.ref D.Again) = some false
  ki_TooGreat_AheadError : PySem.W.kitOne G.K (.ref D.TooGreat) (.ref D.AheadError) = some true
  ki_TooGreat_Apart : PySem.W.kitOne G.K (.ref D.TooGreat) (.ref D.Apart) = some false
  ki_TooGreat_Few : PySem.W.kitOne G.K (.ref D.TooGreat) (.ref D.Few) = some false
  ki_TooGreat_Full : PySem.W.kitOne G.K (.ref D.TooGreat) (.ref D.Full) = some false
  ki_TooGreat_Lacks : PySem.W.kitOne G.K (.ref D.TooGreat) (.ref D.Lacks) = some false
  ki_TooGreat_NoBook : PySem.W.kitOne G.K (.ref D.TooGreat) (.ref D.NoBook) = some false
  ki_TooGreat_NoDeed : PySem.W.kitOne G.K (.ref D.TooGreat) (.ref D.NoDeed) = some false
  ki_TooGreat_NoLine : PySem.W.kitOne G.K (.ref D.TooGreat) (.ref D.NoLine) = some false
  ki_TooGreat_NoText : PySem.W.kitOne G.K (.ref D.TooGreat) (.ref D.NoText) = some false
  ki_TooGreat_NoWalker : PySem.W.kitOne G.K (.ref D.TooGreat) (.ref D.NoWalker) = some false
  ki_TooGreat_NotPlain : PySem.W.kitOne G.K (.ref D.TooGreat) (.ref D.NotPlain) = some false
  ki_TooGreat_Nothing : PySem.W.kitOne G.K (.ref D.TooGreat) (.ref D.Nothing) = some false
  ki_TooGreat_Short : PySem.W.kitOne G.K (.ref D.TooGreat) (.ref D.Short) = some false
  ki_TooGreat_Stopped : PySem.W.kitOne G.K (.ref D.TooGreat) (.ref D.Stopped) = some false
  ki_TooGreat_Taken : PySem.W.kitOne G.K (.ref D.TooGreat) (.ref D.Taken) = some false
  ki_TooGreat_TooFar : PySem.W.kitOne G.K (.ref D.TooGreat) (.ref D.TooFar) = some false
  ki_TooGreat_TooGreat : PySem.W.kitOne G.K (.ref D.TooGreat) (.ref D.TooGreat) = some true
  ki_TooGreat_TooMany : PySem.W.kitOne G.K (.ref D.TooGreat) (.ref D.TooMany) = some false
  ki_TooGreat_Twice : PySem.W.kitOne G.K (.ref D.TooGreat) (.ref D.Twice) = some false
  ki_TooGreat_Unlike : PySem.W.kitOne G.K (.ref D.TooGreat) (.ref D.Unlike) = some false
  ki_TooGreat_ValueError : PySem.W.kitOne G.K (.ref D.TooGreat) (.type "ValueError") = some true
  ki_TooGreat_Wrong : PySem.W.kitOne G.K (.ref D.TooGreat) (.ref D.Wrong) = some false
  ki_TooMany_Again : PySem.W.kitOne G.K (.ref D.TooMany) (.ref D.Again) = some false
  ki_TooMany_AheadError : PySem.W.kitOne G.K (.ref D.TooMany) (.ref D.AheadError) = some true
  ki_TooMany_Apart : PySem.W.kitOne G.K (.ref D.TooMany) (.ref D.Apart) = some false
  ki_TooMany_Few : PySem.W.kitOne G.K (.ref D.TooMany) (.ref D.Few) = some false
  ki_TooMany_Full : PySem.W.kitOne G.K (.ref D.TooMany) (.ref D.Full) = some false
  ki_TooMany_Lacks : PySem.W.kitOne G.K (.ref D.TooMany) (.ref D.Lacks) = some false
  ki_TooMany_NoBook : PySem.W.kitOne G.K (.ref D.TooMany) (.ref D.NoBook) = some false
  ki_TooMany_NoDeed : PySem.W.kitOne G.K (.ref D.TooMany) (.ref D.NoDeed) = some false
  ki_TooMany_NoLine : PySem.W.kitOne G.K (.ref D.TooMany) (.ref D.NoLine) = some false
  ki_TooMany_NoText : PySem.W.kitOne G.K (.ref D.TooMany) (.ref D.NoText) = some false
  ki_TooMany_NoWalker : PySem.W.kitOne G.K (.ref D.TooMany) (.ref D.NoWalker) = some false
  ki_TooMany_NotPlain : PySem.W.kitOne G.K (.ref D.TooMany) (.ref D.NotPlain) = some false
  ki_TooMany_Nothing : PySem.W.kitOne G.K (.ref D.TooMany) (.ref D.Nothing) = some false
  ki_TooMany_Short : PySem.W.kitOne G.K (.ref D.TooMany) (.ref D.Short) = some false
  ki_TooMany_Stopped : PySem.W.kitOne G.K (.ref D.TooMany) (.ref D.Stopped) = some false
  ki_TooMany_Taken : PySem.W.kitOne G.K (.ref D.TooMany) (.ref D.Taken) = some false
  ki_TooMany_TooFar : PySem.W.kitOne G.K (.ref D.TooMany) (.ref D.TooFar) = some false
  ki_TooMany_TooGreat : PySem.W.kitOne G.K (.ref D.TooMany) (.ref D.TooGreat) = some false
  ki_TooMany_TooMany : PySem.W.kitOne G.K (.ref D.TooMany) (.ref D.TooMany) = some true
  ki_TooMany_Twice : PySem.W.kitOne G.K (.ref D.TooMany) (.ref D.Twice) = some false
  ki_TooMany_Unlike : PySem.W.kitOne G.K (.ref D.TooMany) (.ref D.Unlike) = some false
  ki_TooMany_ValueError : PySem.W.kitOne G.K (.ref D.TooMany) (.type "ValueError") = some true
  ki_TooMany_Wrong : PySem.W.kitOne G.K (.ref D.TooMany) (.ref D.Wrong) = some false
  ki_Twice_Again : PySem.W.kitOne G.K (.ref D.Twice) (.ref D.Again) = some false
  ki_Twice_AheadError : PySem.W.kitOne G.K (.ref D.Twice) (.ref D.AheadError) = some true
  ki_Twice_Apart : PySem.W.kitOne G.K (.ref D.Twice) (.ref D.Apart) = some false
  ki_Twice_Few : PySem.W.kitOne G.K (.ref D.Twice) (.ref D.Few) = some false
  ki_Twice_Full : PySem.W.kitOne G.K (.ref D.Twice) (.ref D.Full) = some false
  ki_Twice_Lacks : PySem.W.kitOne G.K (.ref D.Twice) (.ref D.Lacks) = some false
  ki_Twice_NoBook : PySem.W.kitOne G.K (.ref D.Twice) (.ref D.NoBook) = some false
  ki_Twice_NoDeed : PySem.W.kitOne G.K (.ref D.Twice) (.ref D.NoDeed) = some false
  ki_Twice_NoLine : PySem.W.kitOne G.K (.ref D.Twice) (.ref D.NoLine) = some false
  ki_Twice_NoText : PySem.W.kitOne G.K (.ref D.Twice) (.ref D.NoText) = some false
  ki_Twice_NoWalker : PySem.W.kitOne G.K (.ref D.Twice) (.ref D.NoWalker) = some false
  ki_Twice_NotPlain : PySem.W.kitOne G.K (.ref D.Twice) (.ref D.NotPlain) = some false
  ki_Twice_Nothing : PySem.W.kitOne G.K (.ref D.Twice) (.ref D.Nothing) = some false
  ki_Twice_Short : PySem.W.kitOne G.K (.ref D.Twice) (.ref D.Short) = some false
  ki_Twice_Stopped : PySem.W.kitOne G.K (.ref D.Twice) (.ref D.Stopped) = some false
  ki_Twice_Taken : PySem.W.kitOne G.K (.ref D.Twice) (.ref D.Taken) = some false
  ki_Twice_TooFar : PySem.W.kitOne G.K (.ref D.Twice) (.ref D.TooFar) = some false
  ki_Twice_TooGreat : PySem.W.kitOne G.K (.ref D.Twice) (.ref D.TooGreat) = some false
  ki_Twice_TooMany : PySem.W.kitOne G.K (.ref D.Twice) (.ref D.TooMany) = some false
  ki_Twice_Twice : PySem.W.kitOne G.K (.ref D.Twice) (.ref D.Twice) = some true
  ki_Twice_Unlike : PySem.W.kitOne G.K (.ref D.Twice) (.ref D.Unlike) = some false
  ki_Twice_ValueError : PySem.W.kitOne G.K (.ref D.Twice) (.type "ValueError") = some true
  ki_Twice_Wrong : PySem.W.kitOne G.K (.ref D.Twice) (.ref D.Wrong) = some false
  ki_Unlike_Again : PySem.W.kitOne G.K (.ref D.Unlike) (.ref D.Again) = some false
  ki_Unlike_AheadError : PySem.W.kitOne G.K (.ref D.Unlike) (.ref D.AheadError) = some true
  ki_Unlike_Apart : PySem.W.kitOne G.K (.ref D.Unlike) (.ref D.Apart) = some false
  ki_Unlike_Few : PySem.W.kitOne G.K (.ref D.Unlike) (.ref D.Few) = some false
  ki_Unlike_Full : PySem.W.kitOne G.K (.ref D.Unlike) (.ref D.Full) = some false
  ki_Unlike_Lacks : PySem.W.kitOne G.K (.ref D.Unlike) (.ref D.Lacks) = some false
  ki_Unlike_NoBook : PySem.W.kitOne G.K (.ref D.Unlike) (.ref D.NoBook) = some false
  ki_Unlike_NoDeed : PySem.W.kitOne G.K (.ref D.Unlike) (.ref D.NoDeed) = some false
  ki_Unlike_NoLine : PySem.W.kitOne G.K (.ref D.Unlike) (.ref D.NoLine) = some false
  ki_Unlike_NoText : PySem.W.kitOne G.K (.ref D.Unlike) (.ref D.NoText) = some false
  ki_Unlike_NoWalker : PySem.W.kitOne G.K (.ref D.Unlike) (.ref D.NoWalker) = some false
  ki_Unlike_NotPlain : PySem.W.kitOne G.K (.ref D.Unlike) (.ref D.NotPlain) = some false
  ki_Unlike_Nothing : PySem.W.kitOne G.K (.ref D.Unlike) (.ref D.Nothing) = some false
  ki_Unlike_Short : PySem.W.kitOne G.K (.ref D.Unlike) (.ref D.Short) = some false
  ki_Unlike_Stopped : PySem.W.kitOne G.K (.ref D.Unlike) (.ref D.Stopped) = some false
  ki_Unlike_Taken : PySem.W.kitOne G.K (.ref D.Unlike) (.ref D.Taken) = some false
  ki_Unlike_TooFar : PySem.W.kitOne G.K (.ref D.Unlike) (.ref D.TooFar) = some false
  ki_Unlike_TooGreat : PySem.W.kitOne G.K (.ref D.Unlike) (.ref D.TooGreat) = some false
  ki_Unlike_TooMany : PySem.W.kitOne G.K (.ref D.Unlike) (.ref D.TooMany) = some false
  ki_Unlike_Twice : PySem.W.kitOne G.K (.ref D.Unlike) (.ref D.Twice) = some false
  ki_Unlike_Unlike : PySem.W.kitOne G.K (.ref D.Unlike) (.ref D.Unlike) = some true
  ki_Unlike_ValueError : PySem.W.kitOne G.K (.ref D.Unlike) (.type "ValueError") = some true
  ki_Unlike_Wrong : PySem.W.kitOne G.K (.ref D.Unlike) (.ref D.Wrong) = some false
  ki_Wrong_Again : PySem.W.kitOne G.K (.ref D.Wrong) (.ref D.Again) = some false
  ki_Wrong_AheadError : PySem.W.kitOne G.K (.ref D.Wrong) (.ref D.AheadError) = some true
  ki_Wrong_Apart : PySem.W.kitOne G.K (.ref D.Wrong) (.ref D.Apart) = some false
  ki_Wrong_Few : PySem.W.kitOne G.K (.ref D.Wrong) (.ref D.Few) = some false
  ki_Wrong_Full : PySem.W.kitOne G.K (.ref D.Wrong) (.ref D.Full) = some false
  ki_Wrong_Lacks : PySem.W.kitOne G.K (.ref D.Wrong) (.ref D.Lacks) = some false
  ki_Wrong_NoBook : PySem.W.kitOne G.K (.ref D.Wrong) (.ref D.NoBook) = some false
  ki_Wrong_NoDeed : PySem.W.kitOne G.K (.ref D.Wrong) (.ref D.NoDeed) = some false
  ki_Wrong_NoLine : PySem.W.kitOne G.K (.ref D.Wrong) (.ref D.NoLine) = some false
  ki_Wrong_NoText : PySem.W.kitOne G.K (.ref D.Wrong) (.ref D.NoText) = some false
  ki_Wrong_NoWalker : PySem.W.kitOne G.K (.ref D.Wrong) (.ref D.NoWalker) = some false
  ki_Wrong_NotPlain : PySem.W.kitOne G.K (.ref D.Wrong) (.ref D.NotPlain) = some false
  ki_Wrong_Nothing : PySem.W.kitOne G.K (.ref D.Wrong) (.ref D.Nothing) = some false
  ki_Wrong_Short : PySem.W.kitOne G.K (.ref D.Wrong) (.ref D.Short) = some false
  ki_Wrong_Stopped : PySem.W.kitOne G.K (.ref D.Wrong) (.ref D.Stopped) = some false
  ki_Wrong_Taken : PySem.W.kitOne G.K (.ref D.Wrong) (.ref D.Taken) = some false
  ki_Wrong_TooFar : PySem.W.kitOne G.K (.ref D.Wrong) (.ref D.TooFar) = some false
  ki_Wrong_TooGreat : PySem.W.kitOne G.K (.ref D.Wrong) (.ref D.TooGreat) = some false
  ki_Wrong_TooMany : PySem.W.kitOne G.K (.ref D.Wrong) (.ref D.TooMany) = some false
  ki_Wrong_Twice : PySem.W.kitOne G.K (.ref D.Wrong) (.ref D.Twice) = some false
  ki_Wrong_Unlike : PySem.W.kitOne G.K (.ref D.Wrong) (.ref D.Unlike) = some false
  ki_Wrong_ValueError : PySem.W.kitOne G.K (.ref D.Wrong) (.type "ValueError") = some true
  ki_Wrong_Wrong : PySem.W.kitOne G.K (.ref D.Wrong) (.ref D.Wrong) = some true
  em_Again_AheadError : PySem.W.exmOne G.K (.ref D.Again) (.ref D.AheadError) = some true
  em_NoWalker_AheadError : PySem.W.exmOne G.K (.ref D.NoWalker) (.ref D.AheadError) = some true
  em_Wrong_AheadError : PySem.W.exmOne G.K (.ref D.Wrong) (.ref D.AheadError) = some true
  d_w_bag : ∃ f fd, G.mg "_law_bag" = some (.ref f) ∧ PySem.W.keepIn G.K (.ref f) = true ∧ Binds G.K fd ["_law_script"] [] ∧ Fun G.K "_law_bag" "_law_bag" t_w_bag f fd
  d_w_take : ∃ f fd, G.mg "_law_take" = some (.ref f) ∧ PySem.W.keepIn G.K (.ref f) = true ∧ Binds G.K fd ["_law_bag_here", "_law_many"] [] ∧ Fun G.K "_law_take" "_law_take" t_w_take f fd
  d_w_made : ∃ f fd, G.mg "_law_made" = some (.ref f) ∧ PySem.W.keepIn G.K (.ref f) = true ∧ Binds G.K fd ["_law_a", "_law_b"] [] ∧ Fun G.K "_law_made" "_law_made" t_w_made f fd
  d_w_sorts : ∃ f fd, G.mg "_law_sorts" = some (.ref f) ∧ PySem.W.keepIn G.K (.ref f) = true ∧ Binds G.K fd ["_law_e"] [] ∧ Fun G.K "_law_sorts" "_law_sorts" t_w_sorts f fd
  d_w_fields : ∃ f fd, G.mg "_law_fields" = some (.ref f) ∧ PySem.W.keepIn G.K (.ref f) = true ∧ Binds G.K fd ["_law_made_here"] [] ∧ Fun G.K "_law_fields" "_law_fields" t_w_fields f fd
  d_w_raised : ∃ f fd, G.mg "_law_raised" = some (.ref f) ∧ PySem.W.keepIn G.K (.ref f) = true ∧ Binds G.K fd ["_law_a"] [] ∧ Fun G.K "_law_raised" "_law_raised" t_w_raised f fd
theorem x_Again {G : Gx} {D : Cl} (T : Txt G D) : XAtC G "Again" 1 ["self", "one", "other"] (spX2 G.K "one" "other") D.Again :=
  let ⟨mc, hA⟩ := T.ain_AheadError; let ⟨f, fd, h1, h2, h3, h4⟩ := T.xi_Again
  ⟨T.g_Again, T.ox_Again, f, fd, h1, h2, h3, xini2 h4 ⟨rfl, rfl, rfl, by decide +kernel, rfl, by decide +kernel, by decide +kernel⟩ rfl hA T.g_AheadError rfl (.inl rfl) (.inl rfl) (.inl rfl)⟩
theorem x_Apart {G : Gx} {D : Cl} (T : Txt G D) : XAtC G "Apart" 1 ["self", "name"] (spX1 G.K "name") D.Apart :=
  let ⟨mc, hA⟩ := T.ain_AheadError; let ⟨f, fd, h1, h2, h3, h4⟩ := T.xi_Apart
  ⟨T.g_Apart, T.ox_Apart, f, fd, h1, h2, h3, xini1 h4 ⟨rfl, rfl, rfl, by decide +kernel, rfl, by decide +kernel, by decide +kernel⟩ rfl hA T.g_AheadError rfl (.inl rfl) (.inl rfl)⟩
theorem x_Few {G : Gx} {D : Cl} (T : Txt G D) : XAtC G "Few" 1 ["self"] (spX0 G.K) D.Few :=
  let ⟨mc, hA⟩ := T.ain_AheadError; let ⟨f, fd, h1, h2, h3, h4⟩ := T.xi_Few
  ⟨T.g_Few, T.ox_Few, f, fd, h1, h2, h3, xini0 h4 ⟨rfl, rfl, rfl, by decide +kernel, rfl, by decide +kernel, by decide +kernel⟩ rfl hA T.g_AheadError rfl (.inl rfl)⟩
theorem x_Full {G : Gx} {D : Cl} (T : Txt G D) : XAtC G "Full" 1 ["self", "most"] (spX1 G.K "most") D.Full :=
  let ⟨mc, hA⟩ := T.ain_AheadError; let ⟨f, fd, h1, h2, h3, h4⟩ := T.xi_Full
  ⟨T.g_Full, T.ox_Full, f, fd, h1, h2, h3, xini1 h4 ⟨rfl, rfl, rfl, by decide +kernel, rfl, by decide +kernel, by decide +kernel⟩ rfl hA T.g_AheadError rfl (.inl rfl) (.inl rfl)⟩
theorem x_Lacks {G : Gx} {D : Cl} (T : Txt G D) : XAtC G "Lacks" 1 ["self", "name"] (spX1 G.K "name") D.Lacks :=
  let ⟨mc, hA⟩ := T.ain_AheadError; let ⟨f, fd, h1, h2, h3, h4⟩ := T.xi_Lacks
  ⟨T.g_Lacks, T.ox_Lacks, f, fd, h1, h2, h3, xini1 h4 ⟨rfl, rfl, rfl, by decide +kernel, rfl, by decide +kernel, by decide +kernel⟩ rfl hA T.g_AheadError rfl (.inl rfl) (.inl rfl)⟩
theorem x_NoBook {G : Gx} {D : Cl} (T : Txt G D) : XAtC G "NoBook" 1 ["self"] (spX0 G.K) D.NoBook :=
  let ⟨mc, hA⟩ := T.ain_AheadError; let ⟨f, fd, h1, h2, h3, h4⟩ := T.xi_NoBook
  ⟨T.g_NoBook, T.ox_NoBook, f, fd, h1, h2, h3, xini0 h4 ⟨rfl, rfl, rfl, by decide +kernel, rfl, by decide +kernel, by decide +kernel⟩ rfl hA T.g_AheadError rfl (.inl rfl)⟩
theorem x_NoDeed {G : Gx} {D : Cl} (T : Txt G D) : XAtC G "NoDeed" 1 ["self"] (spX0 G.K) D.NoDeed :=
  let ⟨mc, hA⟩ := T.ain_AheadError; let ⟨f, fd, h1, h2, h3, h4⟩ := T.xi_NoDeed
  ⟨T.g_NoDeed, T.ox_NoDeed, f, fd, h1, h2, h3, xini0 h4 ⟨rfl, rfl, rfl, by decide +kernel, rfl, by decide +kernel, by decide +kernel⟩ rfl hA T.g_AheadError rfl (.inl rfl)⟩
theorem x_NoLine {G : Gx} {D : Cl} (T : Txt G D) : XAtC G "NoLine" 1 ["self"] (spX0 G.K) D.NoLine :=
  let ⟨mc, hA⟩ := T.ain_AheadError; let ⟨f, fd, h1, h2, h3, h4⟩ := T.xi_NoLine
  ⟨T.g_NoLine, T.ox_NoLine, f, fd, h1, h2, h3, xini0 h4 ⟨rfl, rfl, rfl, by decide +kernel, rfl, by decide +kernel, by decide +kernel⟩ rfl hA T.g_AheadError rfl (.inl rfl)⟩
theorem x_NoText {G : Gx} {D : Cl} (T : Txt G D) : XAtC G "NoText" 1 ["self"] (spX0 G.K) D.NoText :=
  let ⟨mc, hA⟩ := T.ain_AheadError; let ⟨f, fd, h1, h2, h3, h4⟩ := T.xi_NoText
  ⟨T.g_NoText, T.ox_NoText, f, fd, h1, h2, h3, xini0 h4 ⟨rfl, rfl, rfl, by decide +kernel, rfl, by decide +kernel, by decide +kernel⟩ rfl hA T.g_AheadError rfl (.inl rfl)⟩
theorem x_NoWalker {G : Gx} {D : Cl} (T : Txt G D) : XAtC G "NoWalker" 1 ["self", "name"] (spX1 G.K "name") D.NoWalker :=
  let ⟨mc, hA⟩ := T.ain_AheadError; let ⟨f, fd, h1, h2, h3, h4⟩ := T.xi_NoWalker
  ⟨T.g_NoWalker, T.ox_NoWalker, f, fd, h1, h2, h3, xini1 h4 ⟨rfl, rfl, rfl, by decide +kernel, rfl, by decide +kernel, by decide +kernel⟩ rfl hA T.g_AheadError rfl (.inl rfl) (.inl rfl)⟩
theorem x_NotPlain {G : Gx} {D : Cl} (T : Txt G D) : XAtC G "NotPlain" 1 ["self", "one", "other"] (spX2 G.K "one" "other") D.NotPlain :=
  let ⟨mc, hA⟩ := T.ain_AheadError; let ⟨f, fd, h1, h2, h3, h4⟩ := T.xi_NotPlain
  ⟨T.g_NotPlain, T.ox_NotPlain, f, fd, h1, h2, h3, xini2 h4 ⟨rfl, rfl, rfl, by decide +kernel, rfl, by decide +kernel, by decide +kernel⟩ rfl hA T.g_AheadError rfl (.inl rfl) (.inl rfl) (.inl rfl)⟩
theorem x_Nothing {G : Gx} {D : Cl} (T : Txt G D) : XAtC G "Nothing" 1 ["self"] (spX0 G.K) D.Nothing :=
  let ⟨mc, hA⟩ := T.ain_AheadError; let ⟨f, fd, h1, h2, h3, h4⟩ := T.xi_Nothing
  ⟨T.g_Nothing, T.ox_Nothing, f, fd, h1, h2, h3, xini0 h4 ⟨rfl, rfl, rfl, by decide +kernel, rfl, by decide +kernel, by decide +kernel⟩ rfl hA T.g_AheadError rfl (.inl rfl)⟩
theorem x_Short {G : Gx} {D : Cl} (T : Txt G D) : XAtC G "Short" 1 ["self", "name"] (spX1 G.K "name") D.Short :=
  let ⟨mc, hA⟩ := T.ain_AheadError; let ⟨f, fd, h1, h2, h3, h4⟩ := T.xi_Short
  ⟨T.g_Short, T.ox_Short, f, fd, h1, h2, h3, xini1 h4 ⟨rfl, rfl, rfl, by decide +kernel, rfl, by decide +kernel, by decide +kernel⟩ rfl hA T.g_AheadError rfl (.inl rfl) (.inl rfl)⟩
theorem x_Stopped {G : Gx} {D : Cl} (T : Txt G D) : XAtC G "Stopped" 1 ["self", "at"] (spX1 G.K "at") D.Stopped :=
  let ⟨mc, hA⟩ := T.ain_AheadError; let ⟨f, fd, h1, h2, h3, h4⟩ := T.xi_Stopped
  ⟨T.g_Stopped, T.ox_Stopped, f, fd, h1, h2, h3, xini1 h4 ⟨rfl, rfl, rfl, by decide +kernel, rfl, by decide +kernel, by decide +kernel⟩ rfl hA T.g_AheadError rfl (.inl rfl) (.inl rfl)⟩
theorem x_Taken {G : Gx} {D : Cl} (T : Txt G D) : XAtC G "Taken" 1 ["self", "name"] (spX1 G.K "name") D.Taken :=
  let ⟨mc, hA⟩ := T.ain_AheadError; let ⟨f, fd, h1, h2, h3, h4⟩ := T.xi_Taken
  ⟨T.g_Taken, T.ox_Taken, f, fd, h1, h2, h3, xini1 h4 ⟨rfl, rfl, rfl, by decide +kernel, rfl, by decide +kernel, by decide +kernel⟩ rfl hA T.g_AheadError rfl (.inl rfl) (.inl rfl)⟩
theorem x_TooFar {G : Gx} {D : Cl} (T : Txt G D) : XAtC G "TooFar" 1 ["self", "most"] (spX1 G.K "most") D.TooFar :=
  let ⟨mc, hA⟩ := T.ain_AheadError; let ⟨f, fd, h1, h2, h3, h4⟩ := T.xi_TooFar
  ⟨T.g_TooFar, T.ox_TooFar, f, fd, h1, h2, h3, xini1 h4 ⟨rfl, rfl, rfl, by decide +kernel, rfl, by decide +kernel, by decide +kernel⟩ rfl hA T.g_AheadError rfl (.inl rfl) (.inl rfl)⟩
theorem x_TooGreat {G : Gx} {D : Cl} (T : Txt G D) : XAtC G "TooGreat" 1 ["self", "most"] (spX1 G.K "most") D.TooGreat :=
  let ⟨mc, hA⟩ := T.ain_AheadError; let ⟨f, fd, h1, h2, h3, h4⟩ := T.xi_TooGreat
  ⟨T.g_TooGreat, T.ox_TooGreat, f, fd, h1, h2, h3, xini1 h4 ⟨rfl, rfl, rfl, by decide +kernel, rfl, by decide +kernel, by decide +kernel⟩ rfl hA T.g_AheadError rfl (.inl rfl) (.inl rfl)⟩
theorem x_TooMany {G : Gx} {D : Cl} (T : Txt G D) : XAtC G "TooMany" 1 ["self", "most"] (spX1 G.K "most") D.TooMany :=
  let ⟨mc, hA⟩ := T.ain_AheadError; let ⟨f, fd, h1, h2, h3, h4⟩ := T.xi_TooMany
  ⟨T.g_TooMany, T.ox_TooMany, f, fd, h1, h2, h3, xini1 h4 ⟨rfl, rfl, rfl, by decide +kernel, rfl, by decide +kernel, by decide +kernel⟩ rfl hA T.g_AheadError rfl (.inl rfl) (.inl rfl)⟩
theorem x_Twice {G : Gx} {D : Cl} (T : Txt G D) : XAtC G "Twice" 1 ["self", "name"] (spX1 G.K "name") D.Twice :=
  let ⟨mc, hA⟩ := T.ain_AheadError; let ⟨f, fd, h1, h2, h3, h4⟩ := T.xi_Twice
  ⟨T.g_Twice, T.ox_Twice, f, fd, h1, h2, h3, xini1 h4 ⟨rfl, rfl, rfl, by decide +kernel, rfl, by decide +kernel, by decide +kernel⟩ rfl hA T.g_AheadError rfl (.inl rfl) (.inl rfl)⟩
theorem x_Unlike {G : Gx} {D : Cl} (T : Txt G D) : XAtC G "Unlike" 1 ["self"] (spX0 G.K) D.Unlike :=
  let ⟨mc, hA⟩ := T.ain_AheadError; let ⟨f, fd, h1, h2, h3, h4⟩ := T.xi_Unlike
  ⟨T.g_Unlike, T.ox_Unlike, f, fd, h1, h2, h3, xini0 h4 ⟨rfl, rfl, rfl, by decide +kernel, rfl, by decide +kernel, by decide +kernel⟩ rfl hA T.g_AheadError rfl (.inl rfl)⟩
theorem x_Wrong {G : Gx} {D : Cl} (T : Txt G D) : XAtC G "Wrong" 1 ["self", "at"] (spX1 G.K "at") D.Wrong :=
  let ⟨mc, hA⟩ := T.ain_AheadError; let ⟨f, fd, h1, h2, h3, h4⟩ := T.xi_Wrong
  ⟨T.g_Wrong, T.ox_Wrong, f, fd, h1, h2, h3, xini1 h4 ⟨rfl, rfl, rfl, by decide +kernel, rfl, by decide +kernel, by decide +kernel⟩ rfl hA T.g_AheadError rfl (.inl rfl) (.inl rfl)⟩
def is_Wrong (n : Str) : Option Bool := if n = ("Wrong" : Str) then some true else if n = ("Twice" : Str) then some false else if n = ("NoWalker" : Str) then some false else if n = ("Again" : Str) then some false else if n = ("Lacks" : Str) then some false else if n = ("Short" : Str) then some false else if n = ("TooFar" : Str) then some false else if n = ("TooGreat" : Str) then some false else if n = ("Stopped" : Str) then some false else if n = ("Apart" : Str) then some false else if n = ("TooMany" : Str) then some false else if n = ("NotPlain" : Str) then some false else if n = ("Unlike" : Str) then some false else if n = ("Full" : Str) then some false else if n = ("Taken" : Str) then some false else if n = ("Few" : Str) then some false else if n = ("NoDeed" : Str) then some false else if n = ("Nothing" : Str) then some false else if n = ("NoText" : Str) then some false else if n = ("NoLine" : Str) then some false else if n = ("NoBook" : Str) then some false else if n = ("AheadError" : Str) then some false else none
theorem it_Wrong {G : Gx} {D : Cl} (T : Txt G D) : ∀ k b, is_Wrong k = some b → ∃ D', G.mg k = some (.ref D') ∧ L2.ExcC G.K D' ∧ PySem.W.kitOne G.K (.ref D') (.ref D.Wrong) = some b := (it_cons T.g_Wrong T.xc_Wrong T.ki_Wrong_Wrong (it_cons T.g_Twice T.xc_Twice T.ki_Twice_Wrong (it_cons T.g_NoWalker T.xc_NoWalker T.ki_NoWalker_Wrong (it_cons T.g_Again T.xc_Again T.ki_Again_Wrong (it_cons T.g_Lacks T.xc_Lacks T.ki_Lacks_Wrong (it_cons T.g_Short T.xc_Short T.ki_Short_Wrong (it_cons T.g_TooFar T.xc_TooFar T.ki_TooFar_Wrong (it_cons T.g_TooGreat T.xc_TooGreat T.ki_TooGreat_Wrong (it_cons T.g_Stopped T.xc_Stopped T.ki_Stopped_Wrong (it_cons T.g_Apart T.xc_Apart T.ki_Apart_Wrong (it_cons T.g_TooMany T.xc_TooMany T.ki_TooMany_Wrong (it_cons T.g_NotPlain T.xc_NotPlain T.ki_NotPlain_Wrong (it_cons T.g_Unlike T.xc_Unlike T.ki_Unlike_Wrong (it_cons T.g_Full T.xc_Full T.ki_Full_Wrong (it_cons T.g_Taken T.xc_Taken T.ki_Taken_Wrong (it_cons T.g_Few T.xc_Few T.ki_Few_Wrong (it_cons T.g_NoDeed T.xc_NoDeed T.ki_NoDeed_Wrong (it_cons T.g_Nothing T.xc_Nothing T.ki_Nothing_Wrong (it_cons T.g_NoText T.xc_NoText T.ki_NoText_Wrong (it_cons T.g_NoLine T.xc_NoLine T.ki_NoLine_Wrong (it_cons T.g_NoBook T.xc_NoBook T.ki_NoBook_Wrong (it_cons T.g_AheadError T.xc_AheadError T.ki_AheadError_Wrong it_nil))))))))))))))))))))))
def is_Twice (n : Str) : Option Bool := if n = ("Wrong" : Str) then some false else if n = ("Twice" : Str) then some true else if n = ("NoWalker" : Str) then some false else if n = ("Again" : Str) then some false else if n = ("Lacks" : Str) then some false else if n = ("Short" : Str) then some false else if n = ("TooFar" : Str) then some false else if n = ("TooGreat" : Str) then some false else if n = ("Stopped" : Str) then some false else if n = ("Apart" : Str) then some false else if n = ("TooMany" : Str) then some false else if n = ("NotPlain" : Str) then some false else if n = ("Unlike" : Str) then some false else if n = ("Full" : Str) then some false else if n = ("Taken" : Str) then some false else if n = ("Few" : Str) then some false else if n = ("NoDeed" : Str) then some false else if n = ("Nothing" : Str) then some false else if n = ("NoText" : Str) then some false else if n = ("NoLine" : Str) then some false else if n = ("NoBook" : Str) then some false else if n = ("AheadError" : Str) then some false else none
theorem it_Twice {G : Gx} {D : Cl} (T : Txt G D) : ∀ k b, is_Twice k = some b → ∃ D', G.mg k = some (.ref D') ∧ L2.ExcC G.K D' ∧ PySem.W.kitOne G.K (.ref D') (.ref D.Twice) = some b := (it_cons T.g_Wrong T.xc_Wrong T.ki_Wrong_Twice (it_cons T.g_Twice T.xc_Twice T.ki_Twice_Twice (it_cons T.g_NoWalker T.xc_NoWalker T.ki_NoWalker_Twice (it_cons T.g_Again T.xc_Again T.ki_Again_Twice (it_cons T.g_Lacks T.xc_Lacks T.ki_Lacks_Twice (it_cons T.g_Short T.xc_Short T.ki_Short_Twice (it_cons T.g_TooFar T.xc_TooFar T.ki_TooFar_Twice (it_cons T.g_TooGreat T.xc_TooGreat T.ki_TooGreat_Twice (it_cons T.g_Stopped T.xc_Stopped T.ki_Stopped_Twice (it_cons T.g_Apart T.xc_Apart T.ki_Apart_Twice (it_cons T.g_TooMany T.xc_TooMany T.ki_TooMany_Twice (it_cons T.g_NotPlain T.xc_NotPlain T.ki_NotPlain_Twice (it_cons T.g_Unlike T.xc_Unlike T.ki_Unlike_Twice (it_cons T.g_Full T.xc_Full T.ki_Full_Twice (it_cons T.g_Taken T.xc_Taken T.ki_Taken_Twice (it_cons T.g_Few T.xc_Few T.ki_Few_Twice (it_cons T.g_NoDeed T.xc_NoDeed T.ki_NoDeed_Twice (it_cons T.g_Nothing T.xc_Nothing T.ki_Nothing_Twice (it_cons T.g_NoText T.xc_NoText T.ki_NoText_Twice (it_cons T.g_NoLine T.xc_NoLine T.ki_NoLine_Twice (it_cons T.g_NoBook T.xc_NoBook T.ki_NoBook_Twice (it_cons T.g_AheadError T.xc_AheadError T.ki_AheadError_Twice it_nil))))))))))))))))))))))
def is_NoWalker (n : Str) : Option Bool := if n = ("Wrong" : Str) then some false else if n = ("Twice" : Str) then some false else if n = ("NoWalker" : Str) then some true else if n = ("Again" : Str) then some false else if n = ("Lacks" : Str) then some false else if n = ("Short" : Str) then some false else if n = ("TooFar" : Str) then some false else if n = ("TooGreat" : Str) then some false else if n = ("Stopped" : Str) then some false else if n = ("Apart" : Str) then some false else if n = ("TooMany" : Str) then some false else if n = ("NotPlain" : Str) then some false else if n = ("Unlike" : Str) then some false else if n = ("Full" : Str) then some false else if n = ("Taken" : Str) then some false else if n = ("Few" : Str) then some false else if n = ("NoDeed" : Str) then some false else if n = ("Nothing" : Str) then some false else if n = ("NoText" : Str) then some false else if n = ("NoLine" : Str) then some false else if n = ("NoBook" : Str) then some false else if n = ("AheadError" : Str) then some false else none
theorem it_NoWalker {G : Gx} {D : Cl} (T : Txt G D) : ∀ k b, is_NoWalker k = some b → ∃ D', G.mg k = some (.ref D') ∧ L2.ExcC G.K D' ∧ PySem.W.kitOne G.K (.ref D') (.ref D.NoWalker) = some b := (it_cons T.g_Wrong T.xc_Wrong T.ki_Wrong_NoWalker (it_cons T.g_Twice T.xc_Twice T.ki_Twice_NoWalker (it_cons T.g_NoWalker T.xc_NoWalker T.ki_NoWalker_NoWalker (it_cons T.g_Again T.xc_Again T.ki_Again_NoWalker (it_cons T.g_Lacks T.xc_Lacks T.ki_Lacks_NoWalker (it_cons T.g_Short T.xc_Short T.ki_Short_NoWalker (it_cons T.g_TooFar T.xc_TooFar T.ki_TooFar_NoWalker (it_cons T.g_TooGreat T.xc_TooGreat T.ki_TooGreat_NoWalker (it_cons T.g_Stopped T.xc_Stopped T.ki_Stopped_NoWalker (it_cons T.g_Apart T.xc_Apart T.ki_Apart_NoWalker (it_cons T.g_TooMany T.xc_TooMany T.ki_TooMany_NoWalker (it_cons T.g_NotPlain T.xc_NotPlain T.ki_NotPlain_NoWalker (it_cons T.g_Unlike T.xc_Unlike T.ki_Unlike_NoWalker (it_cons T.g_Full T.xc_Full T.ki_Full_NoWalker (it_cons T.g_Taken T.xc_Taken T.ki_Taken_NoWalker (it_cons T.g_Few T.xc_Few T.ki_Few_NoWalker (it_cons T.g_NoDeed T.xc_NoDeed T.ki_NoDeed_NoWalker (it_cons T.g_Nothing T.xc_Nothing T.ki_Nothing_NoWalker (it_cons T.g_NoText T.xc_NoText T.ki_NoText_NoWalker (it_cons T.g_NoLine T.xc_NoLine T.ki_NoLine_NoWalker (it_cons T.g_NoBook T.xc_NoBook T.ki_NoBook_NoWalker (it_cons T.g_AheadError T.xc_AheadError T.ki_AheadError_NoWalker it_nil))))))))))))))))))))))
def is_Again (n : Str) : Option Bool := if n = ("Wrong" : Str) then some false else if n = ("Twice" : Str) then some false else if n = ("NoWalker" : Str) then some false else if n = ("Again" : Str) then some true else if n = ("Lacks" : Str) then some false else if n = ("Short" : Str) then some false else if n = ("TooFar" : Str) then some false else if n = ("TooGreat" : Str) then some false else if n = ("Stopped" : Str) then some false else if n = ("Apart" : Str) then some false else if n = ("TooMany" : Str) then some false else if n = ("NotPlain" : Str) then some false else if n = ("Unlike" : Str) then some false else if n = ("Full" : Str) then some false else if n = ("Taken" : Str) then some false else if n = ("Few" : Str) then some false else if n = ("NoDeed" : Str) then some false else if n = ("Nothing" : Str) then some false else if n = ("NoText" : Str) then some false else if n = ("NoLine" : Str) then some false else if n = ("NoBook" : Str) then some false else if n = ("AheadError" : Str) then some false else none
theorem it_Again {G : Gx} {D : Cl} (T : Txt G D) : ∀ k b, is_Again k = some b → ∃ D', G.mg k = some (.ref D') ∧ L2.ExcC G.K D' ∧ PySem.W.kitOne G.K (.ref D') (.ref D.Again) = some b := (it_cons T.g_Wrong T.xc_Wrong T.ki_Wrong_Again (it_cons T.g_Twice T.xc_Twice T.ki_Twice_Again (it_cons T.g_NoWalker T.xc_NoWalker T.ki_NoWalker_Again (it_cons T.g_Again T.xc_Again T.ki_Again_Again (it_cons T.g_Lacks T.xc_Lacks T.ki_Lacks_Again (it_cons T.g_Short T.xc_Short T.ki_Short_Again (it_cons T.g_TooFar T.xc_TooFar T.ki_TooFar_Again (it_cons T.g_TooGreat T.xc_TooGreat T.ki_TooGreat_Again (it_cons T.g_Stopped T.xc_Stopped T.ki_Stopped_Again (it_cons T.g_Apart T.xc_Apart T.ki_Apart_Again (it_cons T.g_TooMany T.xc_TooMany T.ki_TooMany_Again (it_cons T.g_NotPlain T.xc_NotPlain T.ki_NotPlain_Again (it_cons T.g_Unlike T.xc_Unlike T.ki_Unlike_Again (it_cons T.g_Full T.xc_Full T.ki_Full_Again (it_cons T.g_Taken T.xc_Taken T.ki_Taken_Again (it_cons T.g_Few T.xc_Few T.ki_Few_Again (it_cons T.g_NoDeed T.xc_NoDeed T.ki_NoDeed_Again (it_cons T.g_Nothing T.xc_Nothing T.ki_Nothing_Again (it_cons T.g_NoText T.xc_NoText T.ki_NoText_Again (it_cons T.g_NoLine T.xc_NoLine T.ki_NoLine_Again (it_cons T.g_NoBook T.xc_NoBook T.ki_NoBook_Again (it_cons T.g_AheadError T.xc_AheadError T.ki_AheadError_Again it_nil))))))))))))))))))))))
def is_Lacks (n : Str) : Option Bool := if n = ("Wrong" : Str) then some false else if n = ("Twice" : Str) then some false else if n = ("NoWalker" : Str) then some false else if n = ("Again" : Str) then some false else if n = ("Lacks" : Str) then some true else if n = ("Short" : Str) then some false else if n = ("TooFar" : Str) then some false else if n = ("TooGreat" : Str) then some false else if n = ("Stopped" : Str) then some false else if n = ("Apart" : Str) then some false else if n = ("TooMany" : Str) then some false else if n = ("NotPlain" : Str) then some false else if n = ("Unlike" : Str) then some false else if n = ("Full" : Str) then some false else if n = ("Taken" : Str) then some false else if n = ("Few" : Str) then some false else if n = ("NoDeed" : Str) then some false else if n = ("Nothing" : Str) then some false else if n = ("NoText" : Str) then some false else if n = ("NoLine" : Str) then some false else if n = ("NoBook" : Str) then some false else if n = ("AheadError" : Str) then some false else none
theorem it_Lacks {G : Gx} {D : Cl} (T : Txt G D) : ∀ k b, is_Lacks k = some b → ∃ D', G.mg k = some (.ref D') ∧ L2.ExcC G.K D' ∧ PySem.W.kitOne G.K (.ref D') (.ref D.Lacks) = some b := (it_cons T.g_Wrong T.xc_Wrong T.ki_Wrong_Lacks (it_cons T.g_Twice T.xc_Twice T.ki_Twice_Lacks (it_cons T.g_NoWalker T.xc_NoWalker T.ki_NoWalker_Lacks (it_cons T.g_Again T.xc_Again T.ki_Again_Lacks (it_cons T.g_Lacks T.xc_Lacks T.ki_Lacks_Lacks (it_cons T.g_Short T.xc_Short T.ki_Short_Lacks (it_cons T.g_TooFar T.xc_TooFar T.ki_TooFar_Lacks (it_cons T.g_TooGreat T.xc_TooGreat T.ki_TooGreat_Lacks (it_cons T.g_Stopped T.xc_Stopped T.ki_Stopped_Lacks (it_cons T.g_Apart T.xc_Apart T.ki_Apart_Lacks (it_cons T.g_TooMany T.xc_TooMany T.ki_TooMany_Lacks (it_cons T.g_NotPlain T.xc_NotPlain T.ki_NotPlain_Lacks (it_cons T.g_Unlike T.xc_Unlike T.ki_Unlike_Lacks (it_cons T.g_Full T.xc_Full T.ki_Full_Lacks (it_cons T.g_Taken T.xc_Taken T.ki_Taken_Lacks (it_cons T.g_Few T.xc_Few T.ki_Few_Lacks (it_cons T.g_NoDeed T.xc_NoDeed T.ki_NoDeed_Lacks (it_cons T.g_Nothing T.xc_Nothing T.ki_Nothing_Lacks (it_cons T.g_NoText T.xc_NoText T.ki_NoText_Lacks (it_cons T.g_NoLine T.xc_NoLine T.ki_NoLine_Lacks (it_cons T.g_NoBook T.xc_NoBook T.ki_NoBook_Lacks (it_cons T.g_AheadError T.xc_AheadError T.ki_AheadError_Lacks it_nil))))))))))))))))))))))
def is_Short (n : Str) : Option Bool := if n = ("Wrong" : Str) then some false else if n = ("Twice" : Str) then some false else if n = ("NoWalker" : Str) then some false else if n = ("Again" : Str) then some false else if n = ("Lacks" : Str) then some false else if n = ("Short" : Str) then some true else if n = ("TooFar" : Str) then some false else if n = ("TooGreat" : Str) then some false else if n = ("Stopped" : Str) then some false else if n = ("Apart" : Str) then some false else if n = ("TooMany" : Str) then some false else if n = ("NotPlain" : Str) then some false else if n = ("Unlike" : Str) then some false else if n = ("Full" : Str) then some false else if n = ("Taken" : Str) then some false else if n = ("Few" : Str) then some false else if n = ("NoDeed" : Str) then some false else if n = ("Nothing" : Str) then some false else if n = ("NoText" : Str) then some false else if n = ("NoLine" : Str) then some false else if n = ("NoBook" : Str) then some false else if n = ("AheadError" : Str) then some false else none
theorem it_Short {G : Gx} {D : Cl} (T : Txt G D) : ∀ k b, is_Short k = some b → ∃ D', G.mg k = some (.ref D') ∧ L2.ExcC G.K D' ∧ PySem.W.kitOne G.K (.ref D') (.ref D.Short) = some b := (it_cons T.g_Wrong T.xc_Wrong T.ki_Wrong_Short (it_cons T.g_Twice T.xc_Twice T.ki_Twice_Short (it_cons T.g_NoWalker T.xc_NoWalker T.ki_NoWalker_Short (it_cons T.g_Again T.xc_Again T.ki_Again_Short (it_cons T.g_Lacks T.xc_Lacks T.ki_Lacks_Short (it_cons T.g_Short T.xc_Short T.ki_Short_Short (it_cons T.g_TooFar T.xc_TooFar T.ki_TooFar_Short (it_cons T.g_TooGreat T.xc_TooGreat T.ki_TooGreat_Short (it_cons T.g_Stopped T.xc_Stopped T.ki_Stopped_Short (it_cons T.g_Apart T.xc_Apart T.ki_Apart_Short (it_cons T.g_TooMany T.xc_TooMany T.ki_TooMany_Short (it_cons T.g_NotPlain T.xc_NotPlain T.ki_NotPlain_Short (it_cons T.g_Unlike T.xc_Unlike T.ki_Unlike_Short (it_cons T.g_Full T.xc_Full T.ki_Full_Short (it_cons T.g_Taken T.xc_Taken T.ki_Taken_Short (it_cons T.g_Few T.xc_Few T.ki_Few_Short (it_cons T.g_NoDeed T.xc_NoDeed T.ki_NoDeed_Short (it_cons T.g_Nothing T.xc_Nothing T.ki_Nothing_Short (it_cons T.g_NoText T.xc_NoText T.ki_NoText_Short (it_cons T.g_NoLine T.xc_NoLine T.ki_NoLine_Short (it_cons T.g_NoBook T.xc_NoBook T.ki_NoBook_Short (it_cons T.g_AheadError T.xc_AheadError T.ki_AheadError_Short it_nil))))))))))))))))))))))
def is_TooFar (n : Str) : Option Bool := if n = ("Wrong" : Str) then some false else if n = ("Twice" : Str) then some false else if n = ("NoWalker" : Str) then some false else if n = ("Again" : Str) then some false else if n = ("Lacks" : Str) then some false else if n = ("Short" : Str) then some false else if n = ("TooFar" : Str) then some true else if n = ("TooGreat" : Str) then some false else if n = ("Stopped" : Str) then some false else if n = ("Apart" : Str) then some false else if n = ("TooMany" : Str) then some false else if n = ("NotPlain" : Str) then some false else if n = ("Unlike" : Str) then some false else if n = ("Full" : Str) then some false else if n = ("Taken" : Str) then some false else if n = ("Few" : Str) then some false else if n = ("NoDeed" : Str) then some false else if n = ("Nothing" : Str) then some false else if n = ("NoText" : Str) then some false else if n = ("NoLine" : Str) then some false else if n = ("NoBook" : Str) then some false else if n = ("AheadError" : Str) then some false else none
theorem it_TooFar {G : Gx} {D : Cl} (T : Txt G D) : ∀ k b, is_TooFar k = some b → ∃ D', G.mg k = some (.ref D') ∧ L2.ExcC G.K D' ∧ PySem.W.kitOne G.K (.ref D') (.ref D.TooFar) = some b := (it_cons T.g_Wrong T.xc_Wrong T.ki_Wrong_TooFar (it_cons T.g_Twice T.xc_Twice T.ki_Twice_TooFar (it_cons T.g_NoWalker T.xc_NoWalker T.ki_NoWalker_TooFar (it_cons T.g_Again T.xc_Again T.ki_Again_TooFar (it_cons T.g_Lacks T.xc_Lacks T.ki_Lacks_TooFar (it_cons T.g_Short T.xc_Short T.ki_Short_TooFar (it_cons T.g_TooFar T.xc_TooFar T.ki_TooFar_TooFar (it_cons T.g_TooGreat T.xc_TooGreat T.ki_TooGreat_TooFar (it_cons T.g_Stopped T.xc_Stopped T.ki_Stopped_TooFar (it_cons T.g_Apart T.xc_Apart T.ki_Apart_TooFar (it_cons T.g_TooMany T.xc_TooMany T.ki_TooMany_TooFar (it_cons T.g_NotPlain T.xc_NotPlain T.ki_NotPlain_TooFar (it_cons T.g_Unlike T.xc_Unlike T.ki_Unlike_TooFar (it_cons T.g_Full T.xc_Full T.ki_Full_TooFar (it_cons T.g_Taken T.xc_Taken T.ki_Taken_TooFar (it_cons T.g_Few T.xc_Few T.ki_Few_TooFar (it_cons T.g_NoDeed T.xc_NoDeed T.ki_NoDeed_TooFar (it_cons T.g_Nothing T.xc_Nothing T.ki_Nothing_TooFar (it_cons T.g_NoText T.xc_NoText T.ki_NoText_TooFar (it_cons T.g_NoLine T.xc_NoLine T.ki_NoLine_TooFar (it_cons T.g_NoBook T.xc_NoBook T.ki_NoBook_TooFar (it_cons T.g_AheadError T.xc_AheadError T.ki_AheadError_TooFar it_nil))))))))))))))))))))))
def is_TooGreat (n : Str) : Option Bool := if n = ("Wrong" : Str) then some false else if n = ("Twice" : Str) then some false else if n = ("NoWalker" : Str) then some false else if n = ("Again" : Str) then some false else if n = ("Lacks" : Str) then some false else if n = ("Short" : Str) then some false else if n = ("TooFar" : Str) then some false else if n = ("TooGreat" : Str) then some true else if n = ("Stopped" : Str) then some false else if n = ("Apart" : Str) then some false else if n = ("TooMany" : Str) then some false else if n = ("NotPlain" : Str) then some false else if n = ("Unlike" : Str) then some false else if n = ("Full" : Str) then some false else if n = ("Taken" : Str) then some false else if n = ("Few" : Str) then some false else if n = ("NoDeed" : Str) then some false else if n = ("Nothing" : Str) then some false else if n = ("NoText" : Str) then some false else if n = ("NoLine" : Str) then some false else if n = ("NoBook" : Str) then some false else if n = ("AheadError" : Str) then some false else none
theorem it_TooGreat {G : Gx} {D : Cl} (T : Txt G D) : ∀ k b, is_TooGreat k = some b → ∃ D', G.mg k = some (.ref D') ∧ L2.ExcC G.K D' ∧ PySem.W.kitOne G.K (.ref D') (.ref D.TooGreat) = some b := (it_cons T.g_Wrong T.xc_Wrong T.ki_Wrong_TooGreat (it_cons T.g_Twice T.xc_Twice T.ki_Twice_TooGreat (it_cons T.g_NoWalker T.xc_NoWalker T.ki_NoWalker_TooGreat (it_cons T.g_Again T.xc_Again T.ki_Again_TooGreat (it_cons T.g_Lacks T.xc_Lacks T.ki_Lacks_TooGreat (it_cons T.g_Short T.xc_Short T.ki_Short_TooGreat (it_cons T.g_TooFar T.xc_TooFar T.ki_TooFar_TooGreat (it_cons T.g_TooGreat T.xc_TooGreat T.ki_TooGreat_TooGreat (it_cons T.g_Stopped T.xc_Stopped T.ki_Stopped_TooGreat (it_cons T.g_Apart T.xc_Apart T.ki_Apart_TooGreat (it_cons T.g_TooMany T.xc_TooMany T.ki_TooMany_TooGreat (it_cons T.g_NotPlain T.xc_NotPlain T.ki_NotPlain_TooGreat (it_cons T.g_Unlike T.xc_Unlike T.ki_Unlike_TooGreat (it_cons T.g_Full T.xc_Full T.ki_Full_TooGreat (it_cons T.g_Taken T.xc_Taken T.ki_Taken_TooGreat (it_cons T.g_Few T.xc_Few T.ki_Few_TooGreat (it_cons T.g_NoDeed T.xc_NoDeed T.ki_NoDeed_TooGreat (it_cons T.g_Nothing T.xc_Nothing T.ki_Nothing_TooGreat (it_cons T.g_NoText T.xc_NoText T.ki_NoText_TooGreat (it_cons T.g_NoLine T.xc_NoLine T.ki_NoLine_TooGreat (it_cons T.g_NoBook T.xc_NoBook T.ki_NoBook_TooGreat (it_cons T.g_AheadError T.xc_AheadError T.ki_AheadError_TooGreat it_nil))))))))))))))))))))))
def is_Stopped (n : Str) : Option Bool := if n = ("Wrong" : Str) then some false else if n = ("Twice" : Str) then some false else if n = ("NoWalker" : Str) then some false else if n = ("Again" : Str) then some false else if n = ("Lacks" : Str) then some false else if n = ("Short" : Str) then some false else if n = ("TooFar" : Str) then some false else if n = ("TooGreat" : Str) then some false else if n = ("Stopped" : Str) then some true else if n = ("Apart" : Str) then some false else if n = ("TooMany" : Str) then some false else if n = ("NotPlain" : Str) then some false else if n = ("Unlike" : Str) then some false else if n = ("Full" : Str) then some false else if n = ("Taken" : Str) then some false else if n = ("Few" : Str) then some false else if n = ("NoDeed" : Str) then some false else if n = ("Nothing" : Str) then some false else if n = ("NoText" : Str) then some false else if n = ("NoLine" : Str) then some false else if n = ("NoBook" : Str) then some false else if n = ("AheadError" : Str) then some false else none
theorem it_Stopped {G : Gx} {D : Cl} (T : Txt G D) : ∀ k b, is_Stopped k = some b → ∃ D', G.mg k = some (.ref D') ∧ L2.ExcC G.K D' ∧ PySem.W.kitOne G.K (.ref D') (.ref D.Stopped) = some b := (it_cons T.g_Wrong T.xc_Wrong T.ki_Wrong_Stopped (it_cons T.g_Twice T.xc_Twice T.ki_Twice_Stopped (it_cons T.g_NoWalker T.xc_NoWalker T.ki_NoWalker_Stopped (it_cons T.g_Again T.xc_Again T.ki_Again_Stopped (it_cons T.g_Lacks T.xc_Lacks T.ki_Lacks_Stopped (it_cons T.g_Short T.xc_Short T.ki_Short_Stopped (it_cons T.g_TooFar T.xc_TooFar T.ki_TooFar_Stopped (it_cons T.g_TooGreat T.xc_TooGreat T.ki_TooGreat_Stopped (it_cons T.g_Stopped T.xc_Stopped T.ki_Stopped_Stopped (it_cons T.g_Apart T.xc_Apart T.ki_Apart_Stopped (it_cons T.g_TooMany T.xc_TooMany T.ki_TooMany_Stopped (it_cons T.g_NotPlain T.xc_NotPlain T.ki_NotPlain_Stopped (it_cons T.g_Unlike T.xc_Unlike T.ki_Unlike_Stopped (it_cons T.g_Full T.xc_Full T.ki_Full_Stopped (it_cons T.g_Taken T.xc_Taken T.ki_Taken_Stopped (it_cons T.g_Few T.xc_Few T.ki_Few_Stopped (it_cons T.g_NoDeed T.xc_NoDeed T.ki_NoDeed_Stopped (it_cons T.g_Nothing T.xc_Nothing T.ki_Nothing_Stopped (it_cons T.g_NoText T.xc_NoText T.ki_NoText_Stopped (it_cons T.g_NoLine T.xc_NoLine T.ki_NoLine_Stopped (it_cons T.g_NoBook T.xc_NoBook T.ki_NoBook_Stopped (it_cons T.g_AheadError T.xc_AheadError T.ki_AheadError_Stopped it_nil))))))))))))))))))))))
def is_Apart (n : Str) : Option Bool := if n = ("Wrong" : Str) then some false else if n = ("Twice" : Str) then some false else if n = ("NoWalker" : Str) then some false else if n = ("Again" : Str) then some false else if n = ("Lacks" : Str) then some false else if n = ("Short" : Str) then some false else if n = ("TooFar" : Str) then some false else if n = ("TooGreat" : Str) then some false else if n = ("Stopped" : Str) then some false else if n = ("Apart" : Str) then some true else if n = ("TooMany" : Str) then some false else if n = ("NotPlain" : Str) then some false else if n = ("Unlike" : Str) then some false else if n = ("Full" : Str) then some false else if n = ("Taken" : Str) then some false else if n = ("Few" : Str) then some false else if n = ("NoDeed" : Str) then some false else if n = ("Nothing" : Str) then some false else if n = ("NoText" : Str) then some false else if n = ("NoLine" : Str) then some false else if n = ("NoBook" : Str) then some false else if n = ("AheadError" : Str) then some false else none
theorem it_Apart {G : Gx} {D : Cl} (T : Txt G D) : ∀ k b, is_Apart k = some b → ∃ D', G.mg k = some (.ref D') ∧ L2.ExcC G.K D' ∧ PySem.W.kitOne G.K (.ref D') (.ref D.Apart) = some b := (it_cons T.g_Wrong T.xc_Wrong T.ki_Wrong_Apart (it_cons T.g_Twice T.xc_Twice T.ki_Twice_Apart (it_cons T.g_NoWalker T.xc_NoWalker T.ki_NoWalker_Apart (it_cons T.g_Again T.xc_Again T.ki_Again_Apart (it_cons T.g_Lacks T.xc_Lacks T.ki_Lacks_Apart (it_cons T.g_Short T.xc_Short T.ki_Short_Apart (it_cons T.g_TooFar T.xc_TooFar T.ki_TooFar_Apart (it_cons T.g_TooGreat T.xc_TooGreat T.ki_TooGreat_Apart (it_cons T.g_Stopped T.xc_Stopped T.ki_Stopped_Apart (it_cons T.g_Apart T.xc_Apart T.ki_Apart_Apart (it_cons T.g_TooMany T.xc_TooMany T.ki_TooMany_Apart (it_cons T.g_NotPlain T.xc_NotPlain T.ki_NotPlain_Apart (it_cons T.g_Unlike T.xc_Unlike T.ki_Unlike_Apart (it_cons T.g_Full T.xc_Full T.ki_Full_Apart (it_cons T.g_Taken T.xc_Taken T.ki_Taken_Apart (it_cons T.g_Few T.xc_Few T.ki_Few_Apart (it_cons T.g_NoDeed T.xc_NoDeed T.ki_NoDeed_Apart (it_cons T.g_Nothing T.xc_Nothing T.ki_Nothing_Apart (it_cons T.g_NoText T.xc_NoText T.ki_NoText_Apart (it_cons T.g_NoLine T.xc_NoLine T.ki_NoLine_Apart (it_cons T.g_NoBook T.xc_NoBook T.ki_NoBook_Apart (it_cons T.g_AheadError T.xc_AheadError T.ki_AheadError_Apart it_nil))))))))))))))))))))))
def is_TooMany (n : Str) : Option Bool := if n = ("Wrong" : Str) then some false else if n = ("Twice" : Str) then some false else if n = ("NoWalker" : Str) then some false else if n = ("Again" : Str) then some false else if n = ("Lacks" : Str) then some false else if n = ("Short" : Str) then some false else if n = ("TooFar" : Str) then some false else if n = ("TooGreat" : Str) then some false else if n = ("Stopped" : Str) then some false else if n = ("Apart" : Str) then some false else if n = ("TooMany" : Str) then some true else if n = ("NotPlain" : Str) then some false else if n = ("Unlike" : Str) then some false else if n = ("Full" : Str) then some false else if n = ("Taken" : Str) then some false else if n = ("Few" : Str) then some false else if n = ("NoDeed" : Str) then some false else if n = ("Nothing" : Str) then some false else if n = ("NoText" : Str) then some false else if n = ("NoLine" : Str) then some false else if n = ("NoBook" : Str) then some false else if n = ("AheadError" : Str) then some false else none
theorem it_TooMany {G : Gx} {D : Cl} (T : Txt G D) : ∀ k b, is_TooMany k = some b → ∃ D', G.mg k = some (.ref D') ∧ L2.ExcC G.K D' ∧ PySem.W.kitOne G.K (.ref D') (.ref D.TooMany) = some b := (it_cons T.g_Wrong T.xc_Wrong T.ki_Wrong_TooMany (it_cons T.g_Twice T.xc_Twice T.ki_Twice_TooMany (it_cons T.g_NoWalker T.xc_NoWalker T.ki_NoWalker_TooMany (it_cons T.g_Again T.xc_Again T.ki_Again_TooMany (it_cons T.g_Lacks T.xc_Lacks T.ki_Lacks_TooMany (it_cons T.g_Short T.xc_Short T.ki_Short_TooMany (it_cons T.g_TooFar T.xc_TooFar T.ki_TooFar_TooMany (it_cons T.g_TooGreat T.xc_TooGreat T.ki_TooGreat_TooMany (it_cons T.g_Stopped T.xc_Stopped T.ki_Stopped_TooMany (it_cons T.g_Apart T.xc_Apart T.ki_Apart_TooMany (it_cons T.g_TooMany T.xc_TooMany T.ki_TooMany_TooMany (it_cons T.g_NotPlain T.xc_NotPlain T.ki_NotPlain_TooMany (it_cons T.g_Unlike T.xc_Unlike T.ki_Unlike_TooMany (it_cons T.g_Full T.xc_Full T.ki_Full_TooMany (it_cons T.g_Taken T.xc_Taken T.ki_Taken_TooMany (it_cons T.g_Few T.xc_Few T.ki_Few_TooMany (it_cons T.g_NoDeed T.xc_NoDeed T.ki_NoDeed_TooMany (it_cons T.g_Nothing T.xc_Nothing T.ki_Nothing_TooMany (it_cons T.g_NoText T.xc_NoText T.ki_NoText_TooMany (it_cons T.g_NoLine T.xc_NoLine T.ki_NoLine_TooMany (it_cons T.g_NoBook T.xc_NoBook T.ki_NoBook_TooMany (it_cons T.g_AheadError T.xc_AheadError T.ki_AheadError_TooMany it_nil))))))))))))))))))))))
def is_NotPlain (n : Str) : Option Bool := if n = ("Wrong" : Str) then some false else if n = ("Twice" : Str) then some false else if n = ("NoWalker" : Str) then some false else if n = ("Again" : Str) then some false else if n = ("Lacks" : Str) then some false else if n = ("Short" : Str) then some false else if n = ("TooFar" : Str) then some false else if n = ("TooGreat" : Str) then some false else if n = ("Stopped" : Str) then some false else if n = ("Apart" : Str) then some false else if n = ("TooMany" : Str) then some false else if n = ("NotPlain" : Str) then some true else if n = ("Unlike" : Str) then some false else if n = ("Full" : Str) then some false else if n = ("Taken" : Str) then some false else if n = ("Few" : Str) then some false else if n = ("NoDeed" : Str) then some false else if n = ("Nothing" : Str) then some false else if n = ("NoText" : Str) then some false else if n = ("NoLine" : Str) then some false else if n = ("NoBook" : Str) then some false else if n = ("AheadError" : Str) then some false else none
theorem it_NotPlain {G : Gx} {D : Cl} (T : Txt G D) : ∀ k b, is_NotPlain k = some b → ∃ D', G.mg k = some (.ref D') ∧ L2.ExcC G.K D' ∧ PySem.W.kitOne G.K (.ref D') (.ref D.NotPlain) = some b := (it_cons T.g_Wrong T.xc_Wrong T.ki_Wrong_NotPlain (it_cons T.g_Twice T.xc_Twice T.ki_Twice_NotPlain (it_cons T.g_NoWalker T.xc_NoWalker T.ki_NoWalker_NotPlain (it_cons T.g_Again T.xc_Again T.ki_Again_NotPlain (it_cons T.g_Lacks T.xc_Lacks T.ki_Lacks_NotPlain (it_cons T.g_Short T.xc_Short T.ki_Short_NotPlain (it_cons T.g_TooFar T.xc_TooFar T.ki_TooFar_NotPlain (it_cons T.g_TooGreat T.xc_TooGreat T.ki_TooGreat_NotPlain (it_cons T.g_Stopped T.xc_Stopped T.ki_Stopped_NotPlain (it_cons T.g_Apart T.xc_Apart T.ki_Apart_NotPlain (it_cons T.g_TooMany T.xc_TooMany T.ki_TooMany_NotPlain (it_cons T.g_NotPlain T.xc_NotPlain T.ki_NotPlain_NotPlain (it_cons T.g_Unlike T.xc_Unlike T.ki_Unlike_NotPlain (it_cons T.g_Full T.xc_Full T.ki_Full_NotPlain (it_cons T.g_Taken T.xc_Taken T.ki_Taken_NotPlain (it_cons T.g_Few T.xc_Few T.ki_Few_NotPlain (it_cons T.g_NoDeed T.xc_NoDeed T.ki_NoDeed_NotPlain (it_cons T.g_Nothing T.xc_Nothing T.ki_Nothing_NotPlain (it_cons T.g_NoText T.xc_NoText T.ki_NoText_NotPlain (it_cons T.g_NoLine T.xc_NoLine T.ki_NoLine_NotPlain (it_cons T.g_NoBook T.xc_NoBook T.ki_NoBook_NotPlain (it_cons T.g_AheadError T.xc_AheadError T.ki_AheadError_NotPlain it_nil))))))))))))))))))))))
def is_Unlike (n : Str) : Option Bool := if n = ("Wrong" : Str) then some false else if n = ("Twice" : Str) then some false else if n = ("NoWalker" : Str) then some false else if n = ("Again" : Str) then some false else if n = ("Lacks" : Str) then some false else if n = ("Short" : Str) then some false else if n = ("TooFar" : Str) then some false else if n = ("TooGreat" : Str) then some false else if n = ("Stopped" : Str) then some false else if n = ("Apart" : Str) then some false else if n = ("TooMany" : Str) then some false else if n = ("NotPlain" : Str) then some false else if n = ("Unlike" : Str) then some true else if n = ("Full" : Str) then some false else if n = ("Taken" : Str) then some false else if n = ("Few" : Str) then some false else if n = ("NoDeed" : Str) then some false else if n = ("Nothing" : Str) then some false else if n = ("NoText" : Str) then some false else if n = ("NoLine" : Str) then some false else if n = ("NoBook" : Str) then some false else if n = ("AheadError" : Str) then some false else none
theorem it_Unlike {G : Gx} {D : Cl} (T : Txt G D) : ∀ k b, is_Unlike k = some b → ∃ D', G.mg k = some (.ref D') ∧ L2.ExcC G.K D' ∧ PySem.W.kitOne G.K (.ref D') (.ref D.Unlike) = some b := (it_cons T.g_Wrong T.xc_Wrong T.ki_Wrong_Unlike (it_cons T.g_Twice T.xc_Twice T.ki_Twice_Unlike (it_cons T.g_NoWalker T.xc_NoWalker T.ki_NoWalker_Unlike (it_cons T.g_Again T.xc_Again T.ki_Again_Unlike (it_cons T.g_Lacks T.xc_Lacks T.ki_Lacks_Unlike (it_cons T.g_Short T.xc_Short T.ki_Short_Unlike (it_cons T.g_TooFar T.xc_TooFar T.ki_TooFar_Unlike (it_cons T.g_TooGreat T.xc_TooGreat T.ki_TooGreat_Unlike (it_cons T.g_Stopped T.xc_Stopped T.ki_Stopped_Unlike (it_cons T.g_Apart T.xc_Apart T.ki_Apart_Unlike (it_cons T.g_TooMany T.xc_TooMany T.ki_TooMany_Unlike (it_cons T.g_NotPlain T.xc_NotPlain T.ki_NotPlain_Unlike (it_cons T.g_Unlike T.xc_Unlike T.ki_Unlike_Unlike (it_cons T.g_Full T.xc_Full T.ki_Full_Unlike (it_cons T.g_Taken T.xc_Taken T.ki_Taken_Unlike (it_cons T.g_Few T.xc_Few T.ki_Few_Unlike (it_cons T.g_NoDeed T.xc_NoDeed T.ki_NoDeed_Unlike (it_cons T.g_Nothing T.xc_Nothing T.ki_Nothing_Unlike (it_cons T.g_NoText T.xc_NoText T.ki_NoText_Unlike (it_cons T.g_NoLine T.xc_NoLine T.ki_NoLine_Unlike (it_cons T.g_NoBook T.xc_NoBook T.ki_NoBook_Unlike (it_cons T.g_AheadError T.xc_AheadError T.ki_AheadError_Unlike it_nil))))))))))))))))))))))
def is_Full (n : Str) : Option Bool := if n = ("Wrong" : Str) then some false else if n = ("Twice" : Str) then some false else if n = ("NoWalker" : Str) then some false else if n = ("Again" : Str) then some false else if n = ("Lacks" : Str) then some false else if n = ("Short" : Str) then some false else if n = ("TooFar" : Str) then some false else if n = ("TooGreat" : Str) then some false else if n = ("Stopped" : Str) then some false else if n = ("Apart" : Str) then some false else if n = ("TooMany" : Str) then some false else if n = ("NotPlain" : Str) then some false else if n = ("Unlike" : Str) then some false else if n = ("Full" : Str) then some true else if n = ("Taken" : Str) then some false else if n = ("Few" : Str) then some false else if n = ("NoDeed" : Str) then some false else if n = ("Nothing" : Str) then some false else if n = ("NoText" : Str) then some false else if n = ("NoLine" : Str) then some false else if n = ("NoBook" : Str) then some false else if n = ("AheadError" : Str) then some false else none
theorem it_Full {G : Gx} {D : Cl} (T : Txt G D) : ∀ k b, is_Full k = some b → ∃ D', G.mg k = some (.ref D') ∧ L2.ExcC G.K D' ∧ PySem.W.kitOne G.K (.ref D') (.ref D.Full) = some b := (it_cons T.g_Wrong T.xc_Wrong T.ki_Wrong_Full (it_cons T.g_Twice T.xc_Twice T.ki_Twice_Full (it_cons T.g_NoWalker T.xc_NoWalker T.ki_NoWalker_Full (it_cons T.g_Again T.xc_Again T.ki_Again_Full (it_cons T.g_Lacks T.xc_Lacks T.ki_Lacks_Full (it_cons T.g_Short T.xc_Short T.ki_Short_Full (it_cons T.g_TooFar T.xc_TooFar T.ki_TooFar_Full (it_cons T.g_TooGreat T.xc_TooGreat T.ki_TooGreat_Full (it_cons T.g_Stopped T.xc_Stopped T.ki_Stopped_Full (it_cons T.g_Apart T.xc_Apart T.ki_Apart_Full (it_cons T.g_TooMany T.xc_TooMany T.ki_TooMany_Full (it_cons T.g_NotPlain T.xc_NotPlain T.ki_NotPlain_Full (it_cons T.g_Unlike T.xc_Unlike T.ki_Unlike_Full (it_cons T.g_Full T.xc_Full T.ki_Full_Full (it_cons T.g_Taken T.xc_Taken T.ki_Taken_Full (it_cons T.g_Few T.xc_Few T.ki_Few_Full (it_cons T.g_NoDeed T.xc_NoDeed T.ki_NoDeed_Full (it_cons T.g_Nothing T.xc_Nothing T.ki_Nothing_Full (it_cons T.g_NoText T.xc_NoText T.ki_NoText_Full (it_cons T.g_NoLine T.xc_NoLine T.ki_NoLine_Full (it_cons T.g_NoBook T.xc_NoBook T.ki_NoBook_Full (it_cons T.g_AheadError T.xc_AheadError T.ki_AheadError_Full it_nil))))))))))))))))))))))
def is_Taken (n : Str) : Option Bool := if n = ("Wrong" : Str) then some false else if n = ("Twice" : Str) then some false else if n = ("NoWalker" : Str) then some false else if n = ("Again" : Str) then some false else if n = ("Lacks" : Str) then some false else if n = ("Short" : Str) then some false else if n = ("TooFar" : Str) then some false else if n = ("TooGreat" : Str) then some false else if n = ("Stopped" : Str) then some false else if n = ("Apart" : Str) then some false else if n = ("TooMany" : Str) then some false else if n = ("NotPlain" : Str) then some false else if n = ("Unlike" : Str) then some false else if n = ("Full" : Str) then some false else if n = ("Taken" : Str) then some true else if n = ("Few" : Str) then some false else if n = ("NoDeed" : Str) then some false else if n = ("Nothing" : Str) then some false else if n = ("NoText" : Str) then some false else if n = ("NoLine" : Str) then some false else if n = ("NoBook" : Str) then some false else if n = ("AheadError" : Str) then some false else none
theorem it_Taken {G : Gx} {D : Cl} (T : Txt G D) : ∀ k b, is_Taken k = some b → ∃ D', G.mg k = some (.ref D') ∧ L2.ExcC G.K D' ∧ PySem.W.kitOne G.K (.ref D') (.ref D.Taken) = some b := (it_cons T.g_Wrong T.xc_Wrong T.ki_Wrong_Taken (it_cons T.g_Twice T.xc_Twice T.ki_Twice_Taken (it_cons T.g_NoWalker T.xc_NoWalker T.ki_NoWalker_Taken (it_cons T.g_Again T.xc_Again T.ki_Again_Taken (it_cons T.g_Lacks T.xc_Lacks T.ki_Lacks_Taken (it_cons T.g_Short T.xc_Short T.ki_Short_Taken (it_cons T.g_TooFar T.xc_TooFar T.ki_TooFar_Taken (it_cons T.g_TooGreat T.xc_TooGreat T.ki_TooGreat_Taken (it_cons T.g_Stopped T.xc_Stopped T.ki_Stopped_Taken (it_cons T.g_Apart T.xc_Apart T.ki_Apart_Taken (it_cons T.g_TooMany T.xc_TooMany T.ki_TooMany_Taken (it_cons T.g_NotPlain T.xc_NotPlain T.ki_NotPlain_Taken (it_cons T.g_Unlike T.xc_Unlike T.ki_Unlike_Taken (it_cons T.g_Full T.xc_Full T.ki_Full_Taken (it_cons T.g_Taken T.xc_Taken T.ki_Taken_Taken (it_cons T.g_Few T.xc_Few T.ki_Few_Taken (it_cons T.g_NoDeed T.xc_NoDeed T.ki_NoDeed_Taken (it_cons T.g_Nothing T.xc_Nothing T.ki_Nothing_Taken (it_cons T.g_NoText T.xc_NoText T.ki_NoText_Taken (it_cons T.g_NoLine T.xc_NoLine T.ki_NoLine_Taken (it_cons T.g_NoBook T.xc_NoBook T.ki_NoBook_Taken (it_cons T.g_AheadError T.xc_AheadError T.ki_AheadError_Taken it_nil))))))))))))))))))))))
def is_Few (n : Str) : Option Bool := if n = ("Wrong" : Str) then some false else if n = ("Twice" : Str) then some false else if n = ("NoWalker" : Str) then some false else if n = ("Again" : Str) then some false else if n = ("Lacks" : Str) then some false else if n = ("Short" : Str) then some false else if n = ("TooFar" : Str) then some false else if n = ("TooGreat" : Str) then some false else if n = ("Stopped" : Str) then some false else if n = ("Apart" : Str) then some false else if n = ("TooMany" : Str) then some false else if n = ("NotPlain" : Str) then some false else if n = ("Unlike" : Str) then some false else if n = ("Full" : Str) then some false else if n = ("Taken" : Str) then some false else if n = ("Few" : Str) then some true else if n = ("NoDeed" : Str) then some false else if n = ("Nothing" : Str) then some false else if n = ("NoText" : Str) then some false else if n = ("NoLine" : Str) then some false else if n = ("NoBook" : Str) then some false else if n = ("AheadError" : Str) then some false else none
theorem it_Few {G : Gx} {D : Cl} (T : Txt G D) : ∀ k b, is_Few k = some b → ∃ D', G.mg k = some (.ref D') ∧ L2.ExcC G.K D' ∧ PySem.W.kitOne G.K (.ref D') (.ref D.Few) = some b := (it_cons T.g_Wrong T.xc_Wrong T.ki_Wrong_Few (it_cons T.g_Twice T.xc_Twice T.ki_Twice_Few (it_cons T.g_NoWalker T.xc_NoWalker T.ki_NoWalker_Few (it_cons T.g_Again T.xc_Again T.ki_Again_Few (it_cons T.g_Lacks T.xc_Lacks T.ki_Lacks_Few (it_cons T.g_Short T.xc_Short T.ki_Short_Few (it_cons T.g_TooFar T.xc_TooFar T.ki_TooFar_Few (it_cons T.g_TooGreat T.xc_TooGreat T.ki_TooGreat_Few (it_cons T.g_Stopped T.xc_Stopped T.ki_Stopped_Few (it_cons T.g_Apart T.xc_Apart T.ki_Apart_Few (it_cons T.g_TooMany T.xc_TooMany T.ki_TooMany_Few (it_cons T.g_NotPlain T.xc_NotPlain T.ki_NotPlain_Few (it_cons T.g_Unlike T.xc_Unlike T.ki_Unlike_Few (it_cons T.g_Full T.xc_Full T.ki_Full_Few (it_cons T.g_Taken T.xc_Taken T.ki_Taken_Few (it_cons T.g_Few T.xc_Few T.ki_Few_Few (it_cons T.g_NoDeed T.xc_NoDeed T.ki_NoDeed_Few (it_cons T.g_Nothing T.xc_Nothing T.ki_Nothing_Few (it_cons T.g_NoText T.xc_NoText T.ki_NoText_Few (it_cons T.g_NoLine T.xc_NoLine T.ki_NoLine_Few (it_cons T.g_NoBook T.xc_NoBook T.ki_NoBook_Few (it_cons T.g_AheadError T.xc_AheadError T.ki_AheadError_Few it_nil))))))))))))))))))))))
def is_NoDeed (n : Str) : Option Bool := if n = ("Wrong" : Str) then some false else if n = ("Twice" : Str) then some false else if n = ("NoWalker" : Str) then some false else if n = ("Again" : Str) then some false else if n = ("Lacks" : Str) then some false else if n = ("Short" : Str) then some false else if n = ("TooFar" : Str) then some false else if n = ("TooGreat" : Str) then some false else if n = ("Stopped" : Str) then some false else if n = ("Apart" : Str) then some false else if n = ("TooMany" : Str) then some false else if n = ("NotPlain" : Str) then some false else if n = ("Unlike" : Str) then some false else if n = ("Full" : Str) then some false else if n = ("Taken" : Str) then some false else if n = ("Few" : Str) then some false else if n = ("NoDeed" : Str) then some true else if n = ("Nothing" : Str) then some false else if n = ("NoText" : Str) then some false else if n = ("NoLine" : Str) then some false else if n = ("NoBook" : Str) then some false else if n = ("AheadError" : Str) then some false else none
theorem it_NoDeed {G : Gx} {D : Cl} (T : Txt G D) : ∀ k b, is_NoDeed k = some b → ∃ D', G.mg k = some (.ref D') ∧ L2.ExcC G.K D' ∧ PySem.W.kitOne G.K (.ref D') (.ref D.NoDeed) = some b := (it_cons T.g_Wrong T.xc_Wrong T.ki_Wrong_NoDeed (it_cons T.g_Twice T.xc_Twice T.ki_Twice_NoDeed (it_cons T.g_NoWalker T.xc_NoWalker T.ki_NoWalker_NoDeed (it_cons T.g_Again T.xc_Again T.ki_Again_NoDeed (it_cons T.g_Lacks T.xc_Lacks T.ki_Lacks_NoDeed (it_cons T.g_Short T.xc_Short T.ki_Short_NoDeed (it_cons T.g_TooFar T.xc_TooFar T.ki_TooFar_NoDeed (it_cons T.g_TooGreat T.xc_TooGreat T.ki_TooGreat_NoDeed (it_cons T.g_Stopped T.xc_Stopped T.ki_Stopped_NoDeed (it_cons T.g_Apart T.xc_Apart T.ki_Apart_NoDeed (it_cons T.g_TooMany T.xc_TooMany T.ki_TooMany_NoDeed (it_cons T.g_NotPlain T.xc_NotPlain T.ki_NotPlain_NoDeed (it_cons T.g_Unlike T.xc_Unlike T.ki_Unlike_NoDeed (it_cons T.g_Full T.xc_Full T.ki_Full_NoDeed (it_cons T.g_Taken T.xc_Taken T.ki_Taken_NoDeed (it_cons T.g_Few T.xc_Few T.ki_Few_NoDeed (it_cons T.g_NoDeed T.xc_NoDeed T.ki_NoDeed_NoDeed (it_cons T.g_Nothing T.xc_Nothing T.ki_Nothing_NoDeed (it_cons T.g_NoText T.xc_NoText T.ki_NoText_NoDeed (it_cons T.g_NoLine T.xc_NoLine T.ki_NoLine_NoDeed (it_cons T.g_NoBook T.xc_NoBook T.ki_NoBook_NoDeed (it_cons T.g_AheadError T.xc_AheadError T.ki_AheadError_NoDeed it_nil))))))))))))))))))))))
def is_Nothing (n : Str) : Option Bool := if n = ("Wrong" : Str) then some false else if n = ("Twice" : Str) then some false else if n = ("NoWalker" : Str) then some false else if n = ("Again" : Str) then some false else if n = ("Lacks" : Str) then some false else if n = ("Short" : Str) then some false else if n = ("TooFar" : Str) then some false else if n = ("TooGreat" : Str) then some false else if n = ("Stopped" : Str) then some false else if n = ("Apart" : Str) then some false else if n = ("TooMany" : Str) then some false else if n = ("NotPlain" : Str) then some false else if n = ("Unlike" : Str) then some false else if n = ("Full" : Str) then some false else if n = ("Taken" : Str) then some false else if n = ("Few" : Str) then some false else if n = ("NoDeed" : Str) then some false else if n = ("Nothing" : Str) then some true else if n = ("NoText" : Str) then some false else if n = ("NoLine" : Str) then some false else if n = ("NoBook" : Str) then some false else if n = ("AheadError" : Str) then some false else none
theorem it_Nothing {G : Gx} {D : Cl} (T : Txt G D) : ∀ k b, is_Nothing k = some b → ∃ D', G.mg k = some (.ref D') ∧ L2.ExcC G.K D' ∧ PySem.W.kitOne G.K (.ref D') (.ref D.Nothing) = some b := (it_cons T.g_Wrong T.xc_Wrong T.ki_Wrong_Nothing (it_cons T.g_Twice T.xc_Twice T.ki_Twice_Nothing (it_cons T.g_NoWalker T.xc_NoWalker T.ki_NoWalker_Nothing (it_cons T.g_Again T.xc_Again T.ki_Again_Nothing (it_cons T.g_Lacks T.xc_Lacks T.ki_Lacks_Nothing (it_cons T.g_Short T.xc_Short T.ki_Short_Nothing (it_cons T.g_TooFar T.xc_TooFar T.ki_TooFar_Nothing (it_cons T.g_TooGreat T.xc_TooGreat T.ki_TooGreat_Nothing (it_cons T.g_Stopped T.xc_Stopped T.ki_Stopped_Nothing (it_cons T.g_Apart T.xc_Apart T.ki_Apart_Nothing (it_cons T.g_TooMany T.xc_TooMany T.ki_TooMany_Nothing (it_cons T.g_NotPlain T.xc_NotPlain T.ki_NotPlain_Nothing (it_cons T.g_Unlike T.xc_Unlike T.ki_Unlike_Nothing (it_cons T.g_Full T.xc_Full T.ki_Full_Nothing (it_cons T.g_Taken T.xc_Taken T.ki_Taken_Nothing (it_cons T.g_Few T.xc_Few T.ki_Few_Nothing (it_cons T.g_NoDeed T.xc_NoDeed T.ki_NoDeed_Nothing (it_cons T.g_Nothing T.xc_Nothing T.ki_Nothing_Nothing (it_cons T.g_NoText T.xc_NoText T.ki_NoText_Nothing (it_cons T.g_NoLine T.xc_NoLine T.ki_NoLine_Nothing (it_cons T.g_NoBook T.xc_NoBook T.ki_NoBook_Nothing (it_cons T.g_AheadError T.xc_AheadError T.ki_AheadError_Nothing it_nil))))))))))))))))))))))
def is_NoText (n : Str) : Option Bool := if n = ("Wrong" : Str) then some false else if n = ("Twice" : Str) then some false else if n = ("NoWalker" : Str) then some false else if n = ("Again" : Str) then some false else if n = ("Lacks" : Str) then some false else if n = ("Short" : Str) then some false else if n = ("TooFar" : Str) then some false else if n = ("TooGreat" : Str) then some false else if n = ("Stopped" : Str) then some false else if n = ("Apart" : Str) then some false else if n = ("TooMany" : Str) then some false else if n = ("NotPlain" : Str) then some false else if n = ("Unlike" : Str) then some false else if n = ("Full" : Str) then some false else if n = ("Taken" : Str) then some false else if n = ("Few" : Str) then some false else if n = ("NoDeed" : Str) then some false else if n = ("Nothing" : Str) then some false else if n = ("NoText" : Str) then some true else if n = ("NoLine" : Str) then some false else if n = ("NoBook" : Str) then some false else if n = ("AheadError" : Str) then some false else none
theorem it_NoText {G : Gx} {D : Cl} (T : Txt G D) : ∀ k b, is_NoText k = some b → ∃ D', G.mg k = some (.ref D') ∧ L2.ExcC G.K D' ∧ PySem.W.kitOne G.K (.ref D') (.ref D.NoText) = some b := (it_cons T.g_Wrong T.xc_Wrong T.ki_Wrong_NoText (it_cons T.g_Twice T.xc_Twice T.ki_Twice_NoText (it_cons T.g_NoWalker T.xc_NoWalker T.ki_NoWalker_NoText (it_cons T.g_Again T.xc_Again T.ki_Again_NoText (it_cons T.g_Lacks T.xc_Lacks T.ki_Lacks_NoText (it_cons T.g_Short T.xc_Short T.ki_Short_NoText (it_cons T.g_TooFar T.xc_TooFar T.ki_TooFar_NoText (it_cons T.g_TooGreat T.xc_TooGreat T.ki_TooGreat_NoText (it_cons T.g_Stopped T.xc_Stopped T.ki_Stopped_NoText (it_cons T.g_Apart T.xc_Apart T.ki_Apart_NoText (it_cons T.g_TooMany T.xc_TooMany T.ki_TooMany_NoText (it_cons T.g_NotPlain T.xc_NotPlain T.ki_NotPlain_NoText (it_cons T.g_Unlike T.xc_Unlike T.ki_Unlike_NoText (it_cons T.g_Full T.xc_Full T.ki_Full_NoText (it_cons T.g_Taken T.xc_Taken T.ki_Taken_NoText (it_cons T.g_Few T.xc_Few T.ki_Few_NoText (it_cons T.g_NoDeed T.xc_NoDeed T.ki_NoDeed_NoText (it_cons T.g_Nothing T.xc_Nothing T.ki_Nothing_NoText (it_cons T.g_NoText T.xc_NoText T.ki_NoText_NoText (it_cons T.g_NoLine T.xc_NoLine T.ki_NoLine_NoText (it_cons T.g_NoBook T.xc_NoBook T.ki_NoBook_NoText (it_cons T.g_AheadError T.xc_AheadError T.ki_AheadError_NoText it_nil))))))))))))))))))))))
def is_NoLine (n : Str) : Option Bool := if n = ("Wrong" : Str) then some false else if n = ("Twice" : Str) then some false else if n = ("NoWalker" : Str) then some false else if n = ("Again" : Str) then some false else if n = ("Lacks" : Str) then some false else if n = ("Short" : Str) then some false else if n = ("TooFar" : Str) then some false else if n = ("TooGreat" : Str) then some false else if n = ("Stopped" : Str) then some false else if n = ("Apart" : Str) then some false else if n = ("TooMany" : Str) then some false else if n = ("NotPlain" : Str) then some false else if n = ("Unlike" : Str) then some false else if n = ("Full" : Str) then some false else if n = ("Taken" : Str) then some false else if n = ("Few" : Str) then some false else if n = ("NoDeed" : Str) then some false else if n = ("Nothing" : Str) then some false else if n = ("NoText" : Str) then some false else if n = ("NoLine" : Str) then some true else if n = ("NoBook" : Str) then some false else if n = ("AheadError" : Str) then some false else none
theorem it_NoLine {G : Gx} {D : Cl} (T : Txt G D) : ∀ k b, is_NoLine k = some b → ∃ D', G.mg k = some (.ref D') ∧ L2.ExcC G.K D' ∧ PySem.W.kitOne G.K (.ref D') (.ref D.NoLine) = some b := (it_cons T.g_Wrong T.xc_Wrong T.ki_Wrong_NoLine (it_cons T.g_Twice T.xc_Twice T.ki_Twice_NoLine (it_cons T.g_NoWalker T.xc_NoWalker T.ki_NoWalker_NoLine (it_cons T.g_Again T.xc_Again T.ki_Again_NoLine (it_cons T.g_Lacks T.xc_Lacks T.ki_Lacks_NoLine (it_cons T.g_Short T.xc_Short T.ki_Short_NoLine (it_cons T.g_TooFar T.xc_TooFar T.ki_TooFar_NoLine (it_cons T.g_TooGreat T.xc_TooGreat T.ki_TooGreat_NoLine (it_cons T.g_Stopped T.xc_Stopped T.ki_Stopped_NoLine (it_cons T.g_Apart T.xc_Apart T.ki_Apart_NoLine (it_cons T.g_TooMany T.xc_TooMany T.ki_TooMany_NoLine (it_cons T.g_NotPlain T.xc_NotPlain T.ki_NotPlain_NoLine (it_cons T.g_Unlike T.xc_Unlike T.ki_Unlike_NoLine (it_cons T.g_Full T.xc_Full T.ki_Full_NoLine (it_cons T.g_Taken T.xc_Taken T.ki_Taken_NoLine (it_cons T.g_Few T.xc_Few T.ki_Few_NoLine (it_cons T.g_NoDeed T.xc_NoDeed T.ki_NoDeed_NoLine (it_cons T.g_Nothing T.xc_Nothing T.ki_Nothing_NoLine (it_cons T.g_NoText T.xc_NoText T.ki_NoText_NoLine (it_cons T.g_NoLine T.xc_NoLine T.ki_NoLine_NoLine (it_cons T.g_NoBook T.xc_NoBook T.ki_NoBook_NoLine (it_cons T.g_AheadError T.xc_AheadError T.ki_AheadError_NoLine it_nil))))))))))))))))))))))
def is_NoBook (n : Str) : Option Bool := if n = ("Wrong" : Str) then some false else if n = ("Twice" : Str) then some false else if n = ("NoWalker" : Str) then some false else if n = ("Again" : Str) then some false else if n = ("Lacks" : Str) then some false else if n = ("Short" : Str) then some false else if n = ("TooFar" : Str) then some false else if n = ("TooGreat" : Str) then some false else if n = ("Stopped" : Str) then some false else if n = ("Apart" : Str) then some false else if n = ("TooMany" : Str) then some false else if n = ("NotPlain" : Str) then some false else if n = ("Unlike" : Str) then some false else if n = ("Full" : Str) then some false else if n = ("Taken" : Str) then some false else if n = ("Few" : Str) then some false else if n = ("NoDeed" : Str) then some false else if n = ("Nothing" : Str) then some false else if n = ("NoText" : Str) then some false else if n = ("NoLine" : Str) then some false else if n = ("NoBook" : Str) then some true else if n = ("AheadError" : Str) then some false else none
theorem it_NoBook {G : Gx} {D : Cl} (T : Txt G D) : ∀ k b, is_NoBook k = some b → ∃ D', G.mg k = some (.ref D') ∧ L2.ExcC G.K D' ∧ PySem.W.kitOne G.K (.ref D') (.ref D.NoBook) = some b := (it_cons T.g_Wrong T.xc_Wrong T.ki_Wrong_NoBook (it_cons T.g_Twice T.xc_Twice T.ki_Twice_NoBook (it_cons T.g_NoWalker T.xc_NoWalker T.ki_NoWalker_NoBook (it_cons T.g_Again T.xc_Again T.ki_Again_NoBook (it_cons T.g_Lacks T.xc_Lacks T.ki_Lacks_NoBook (it_cons T.g_Short T.xc_Short T.ki_Short_NoBook (it_cons T.g_TooFar T.xc_TooFar T.ki_TooFar_NoBook (it_cons T.g_TooGreat T.xc_TooGreat T.ki_TooGreat_NoBook (it_cons T.g_Stopped T.xc_Stopped T.ki_Stopped_NoBook (it_cons T.g_Apart T.xc_Apart T.ki_Apart_NoBook (it_cons T.g_TooMany T.xc_TooMany T.ki_TooMany_NoBook (it_cons T.g_NotPlain T.xc_NotPlain T.ki_NotPlain_NoBook (it_cons T.g_Unlike T.xc_Unlike T.ki_Unlike_NoBook (it_cons T.g_Full T.xc_Full T.ki_Full_NoBook (it_cons T.g_Taken T.xc_Taken T.ki_Taken_NoBook (it_cons T.g_Few T.xc_Few T.ki_Few_NoBook (it_cons T.g_NoDeed T.xc_NoDeed T.ki_NoDeed_NoBook (it_cons T.g_Nothing T.xc_Nothing T.ki_Nothing_NoBook (it_cons T.g_NoText T.xc_NoText T.ki_NoText_NoBook (it_cons T.g_NoLine T.xc_NoLine T.ki_NoLine_NoBook (it_cons T.g_NoBook T.xc_NoBook T.ki_NoBook_NoBook (it_cons T.g_AheadError T.xc_AheadError T.ki_AheadError_NoBook it_nil))))))))))))))))))))))
def is_AheadError (n : Str) : Option Bool := if n = ("Wrong" : Str) then some true else if n = ("Twice" : Str) then some true else if n = ("NoWalker" : Str) then some true else if n = ("Again" : Str) then some true else if n = ("Lacks" : Str) then some true else if n = ("Short" : Str) then some true else if n = ("TooFar" : Str) then some true else if n = ("TooGreat" : Str) then some true else if n = ("Stopped" : Str) then some true else if n = ("Apart" : Str) then some true else if n = ("TooMany" : Str) then some true else if n = ("NotPlain" : Str) then some true else if n = ("Unlike" : Str) then some true else if n = ("Full" : Str) then some true else if n = ("Taken" : Str) then some true else if n = ("Few" : Str) then some true else if n = ("NoDeed" : Str) then some true else if n = ("Nothing" : Str) then some true else if n = ("NoText" : Str) then some true else if n = ("NoLine" : Str) then some true else if n = ("NoBook" : Str) then some true else if n = ("AheadError" : Str) then some true else none
theorem it_AheadError {G : Gx} {D : Cl} (T : Txt G D) : ∀ k b, is_AheadError k = some b → ∃ D', G.mg k = some (.ref D') ∧ L2.ExcC G.K D' ∧ PySem.W.kitOne G.K (.ref D') (.ref D.AheadError) = some b := (it_cons T.g_Wrong T.xc_Wrong T.ki_Wrong_AheadError (it_cons T.g_Twice T.xc_Twice T.ki_Twice_AheadError (it_cons T.g_NoWalker T.xc_NoWalker T.ki_NoWalker_AheadError (it_cons T.g_Again T.xc_Again T.ki_Again_AheadError (it_cons T.g_Lacks T.xc_Lacks T.ki_Lacks_AheadError (it_cons T.g_Short T.xc_Short T.ki_Short_AheadError (it_cons T.g_TooFar T.xc_TooFar T.ki_TooFar_AheadError (it_cons T.g_TooGreat T.xc_TooGreat T.ki_TooGreat_AheadError (it_cons T.g_Stopped T.xc_Stopped T.ki_Stopped_AheadError (it_cons T.g_Apart T.xc_Apart T.ki_Apart_AheadError (it_cons T.g_TooMany T.xc_TooMany T.ki_TooMany_AheadError (it_cons T.g_NotPlain T.xc_NotPlain T.ki_NotPlain_AheadError (it_cons T.g_Unlike T.xc_Unlike T.ki_Unlike_AheadError (it_cons T.g_Full T.xc_Full T.ki_Full_AheadError (it_cons T.g_Taken T.xc_Taken T.ki_Taken_AheadError (it_cons T.g_Few T.xc_Few T.ki_Few_AheadError (it_cons T.g_NoDeed T.xc_NoDeed T.ki_NoDeed_AheadError (it_cons T.g_Nothing T.xc_Nothing T.ki_Nothing_AheadError (it_cons T.g_NoText T.xc_NoText T.ki_NoText_AheadError (it_cons T.g_NoLine T.xc_NoLine T.ki_NoLine_AheadError (it_cons T.g_NoBook T.xc_NoBook T.ki_NoBook_AheadError (it_cons T.g_AheadError T.xc_AheadError T.ki_AheadError_AheadError it_nil))))))))))))))))))))))
def is_ValueError (n : Str) : Option Bool := if n = ("Wrong" : Str) then some true else if n = ("Twice" : Str) then some true else if n = ("NoWalker" : Str) then some true else if n = ("Again" : Str) then some true else if n = ("Lacks" : Str) then some true else if n = ("Short" : Str) then some true else if n = ("TooFar" : Str) then some true else if n = ("TooGreat" : Str) then some true else if n = ("Stopped" : Str) then some true else if n = ("Apart" : Str) then some true else if n = ("TooMany" : Str) then some true else if n = ("NotPlain" : Str) then some true else if n = ("Unlike" : Str) then some true else if n = ("Full" : Str) then some true else if n = ("Taken" : Str) then some true else if n = ("Few" : Str) then some true else if n = ("NoDeed" : Str) then some true else if n = ("Nothing" : Str) then some true else if n = ("NoText" : Str) then some true else if n = ("NoLine" : Str) then some true else if n = ("NoBook" : Str) then some true else if n = ("AheadError" : Str) then some true else none
theorem it_ValueError {G : Gx} {D : Cl} (T : Txt G D) : ∀ k b, is_ValueError k = some b → ∃ D', G.mg k = some (.ref D') ∧ L2.ExcC G.K D' ∧ PySem.W.kitOne G.K (.ref D') (.type "ValueError") = some b := (it_cons T.g_Wrong T.xc_Wrong T.ki_Wrong_ValueError (it_cons T.g_Twice T.xc_Twice T.ki_Twice_ValueError (it_cons T.g_NoWalker T.xc_NoWalker T.ki_NoWalker_ValueError (it_cons T.g_Again T.xc_Again T.ki_Again_ValueError (it_cons T.g_Lacks T.xc_Lacks T.ki_Lacks_ValueError (it_cons T.g_Short T.xc_Short T.ki_Short_ValueError (it_cons T.g_TooFar T.xc_TooFar T.ki_TooFar_ValueError (it_cons T.g_TooGreat T.xc_TooGreat T.ki_TooGreat_ValueError (it_cons T.g_Stopped T.xc_Stopped T.ki_Stopped_ValueError (it_cons T.g_Apart T.xc_Apart T.ki_Apart_ValueError (it_cons T.g_TooMany T.xc_TooMany T.ki_TooMany_ValueError (it_cons T.g_NotPlain T.xc_NotPlain T.ki_NotPlain_ValueError (it_cons T.g_Unlike T.xc_Unlike T.ki_Unlike_ValueError (it_cons T.g_Full T.xc_Full T.ki_Full_ValueError (it_cons T.g_Taken T.xc_Taken T.ki_Taken_ValueError (it_cons T.g_Few T.xc_Few T.ki_Few_ValueError (it_cons T.g_NoDeed T.xc_NoDeed T.ki_NoDeed_ValueError (it_cons T.g_Nothing T.xc_Nothing T.ki_Nothing_ValueError (it_cons T.g_NoText T.xc_NoText T.ki_NoText_ValueError (it_cons T.g_NoLine T.xc_NoLine T.ki_NoLine_ValueError (it_cons T.g_NoBook T.xc_NoBook T.ki_NoBook_ValueError (it_cons T.g_AheadError T.xc_AheadError T.ki_AheadError_ValueError it_nil))))))))))))))))))))))
theorem xA_AheadError {G : Gx} {D : Cl} (T : Txt G D) : XAtA G "AheadError" D.AheadError := ⟨T.g_AheadError, T.kc_AheadError, _, F.excBase_ValueError, T.xe_AheadError⟩
variable {vs_ : List V}
def k_w_bag : Sc := ⟨["_law_script", "_law_cell"], defScope t_w_bag, 0, true, fun _ => true, false⟩
theorem sc_w_bag : FnScope ["_law_script", "_law_cell"] ["_law_script"] (defScope t_w_bag) := ⟨rfl, rfl, rfl, by decide +kernel, rfl, by decide +kernel, by decide +kernel⟩
theorem n_w_bag_0 : Nm k_w_bag 0 "_law_script" := nm_of (by decide +kernel)
noncomputable def w_cells (p : List Int) : M Unit (List Int) := (zlc (fun e1 => (ret true)) (fun e1 => (zapp fabs (ret e1))) (zsl (ret p) (ret none) (zsome (ret (63 : Int)))))
theorem f_w_bag {G : Gx} {D : Cl} (T : Txt G D) {f : Addr} {fd : FuncData} (F : Fun G.K "_law_bag" "_law_bag" t_w_bag f fd) : FnG false G.P G.w G.K G.mg G.base 1 f fd ["_law_script"] (spBag G.K w_cells) :=
  bag_ok F sc_w_bag rfl (fun p W => show ZF G k_w_bag _ W [.st ((rSc G.K rInt).pr p), .no] _ (w_cells p) _ from (zf_lc (Lc.mk (own := [("_law_cell", 1)]) (blk_of rfl (by decide +kernel)) (zi_list (z_slSc (z_var n_w_bag_0) zp_no (zp_so z_int))) (zg_name (ns_of (i := 1) (by decide +kernel)) (by decide)) (fun e1 => zts_nil) (fun e1 => (z_abs (blt_of (u := .builtin "abs") T.b_abs (by decide +kernel)) (z_var (nm_of (i := 1) (by decide +kernel))))) (lc_no ⟨rfl, trivial⟩) (fun _ _ => rfl))))
theorem at_w_bag {G : Gx} {D : Cl} (T : Txt G D) : FnAt false G "_law_bag" 1 ["_law_script"] (spBag G.K w_cells) :=
  let ⟨f, fd, h1, h2, h3, h4⟩ := T.d_w_bag; ⟨f, fd, h1, h2, h3, f_w_bag T h4⟩

def k_w_take : Sc := ⟨["_law_bag_here", "_law_many", "_law_first", "_law_second", "_law_cell", "_law_value"], defScope t_w_take, 0, true, fun _ => true, false⟩
theorem sc_w_take : FnScope ["_law_bag_here", "_law_many", "_law_first", "_law_second", "_law_cell", "_law_value"] ["_law_bag_here", "_law_many"] (defScope t_w_take) := ⟨rfl, rfl, rfl, by decide +kernel, rfl, by decide +kernel, by decide +kernel⟩
theorem n_w_take_0 : Nm k_w_take 0 "_law_bag_here" := nm_of (by decide +kernel)
theorem n_w_take_1 : Nm k_w_take 1 "_law_many" := nm_of (by decide +kernel)
theorem n_w_take_2 : Nm k_w_take 2 "_law_first" := nm_of (by decide +kernel)
theorem s_w_take_2 : Ns k_w_take 2 "_law_first" := ns_of (by decide +kernel)
theorem n_w_take_3 : Nm k_w_take 3 "_law_second" := nm_of (by decide +kernel)
theorem s_w_take_3 : Ns k_w_take 3 "_law_second" := ns_of (by decide +kernel)
theorem n_w_take_4 : Nm k_w_take 4 "_law_cell" := nm_of (by decide +kernel)
theorem s_w_take_4 : Ns k_w_take 4 "_law_cell" := ns_of (by decide +kernel)
theorem n_w_take_5 : Nm k_w_take 5 "_law_value" := nm_of (by decide +kernel)
theorem s_w_take_5 : Ns k_w_take 5 "_law_value" := ns_of (by decide +kernel)
noncomputable def b_w_take (p : (Unit × Int)) : M Bag (Fl Unit Empty Int) :=
  (zseq (zifS (zop2 feq (bget Bag.big) (ret (0 : Int)))
    (zseq (zset (ret (0 : Int))) fun cell1 =>
    (zseq (zifS (zop2 ilt (bget Bag.pos) (zapp blen (ret ())))
      (zseq (zset (bcell (ret ()) (bget Bag.pos))) fun cell3 =>
      (znx cell3))
      (znx cell1)) fun j2 =>
    (zseq (bput (fun s v => { s with pos := v }) (zop2 iadd (bget Bag.pos) (ret (1 : Int)))) fun _ =>
    (zseq (zifS (zop2 ige (ret j2) (ret (1000000000000000000 : Int)))
      (zseq (bput (fun s v => { s with big := v }) (ret j2)) fun _ =>
      (znx ()))
      (znx ())) fun _ =>
    (zseq (bput (fun s v => { s with mix := v }) (zop2 imod (zop2 iadd (zop2 iadd (zop2 imul (bget Bag.mix) (ret (48271 : Int))) (zop2 imod (ret j2) (ret (2147483647 : Int)))) (zop2 imul (ret (7919 : Int)) (bget Bag.pos))) (ret (2147483647 : Int)))) fun _ =>
    (znx ()))))))
    (znx ())) fun _ =>
  (zseq (zifS (zop2 igt (bget Bag.big) (ret (0 : Int)))
    (zseq (zset (zop2 imod (bget Bag.big) (ret p.2))) fun value4 =>
    (zseq (bput (fun s v => { s with big := v }) (zop2 idiv (bget Bag.big) (ret p.2))) fun _ =>
    (zrt (ret value4))))
    (znx ())) fun _ =>
  (zseq (zset (zop2 imod (zop2 imul (zop2 iadd (bget Bag.mix) (ret (1 : Int))) (ret (39373 : Int))) (ret (1000000007 : Int)))) fun first5 =>
  (zseq (zset (zop2 imod (zop2 imul (zop2 imod (zop2 imul (ret first5) (ret first5)) (ret (998244353 : Int))) (ret (30011 : Int))) (ret (998244353 : Int)))) fun second6 =>
  (zseq (zifS (zop2 igt (ret p.2) (ret (1000000 : Int)))
    (zrt (zop2 imod (zop2 iadd (zop2 imul (ret second6) (ret (1000000007 : Int))) (ret first5)) (ret p.2)))
    (znx ())) fun _ =>
  (zrt (zop2 imod (zop2 idiv (ret second6) (ret (7 : Int))) (ret p.2))))))))
noncomputable def m_w_take (p : (Unit × Int)) : M Bag Int := zbody (b_w_take p)
theorem f_w_take {G : Gx} {D : Cl} (T : Txt G D) {f : Addr} {fd : FuncData} (F : Fun G.K "_law_take" "_law_take" t_w_take f fd) : FnG false G.P G.w G.K G.mg G.base 1 f fd ["_law_bag_here", "_law_many"] (spZ G (fun q : Addr × Addr => bagE q.1 q.2) (fun (q : Addr × Addr) (p : (Unit × Int)) => [(rRef q.1).pr p.1, rInt.pr p.2]) m_w_take rInt) :=
  fn_ok (g := false) (k := 0) (mb := b_w_take) (n := fun _ _ => stk) (Γn := fun _ _ _ => []) F sc_w_take (fun _ _ => rfl) (fun _ => rfl) (.inl fun _ _ => rfl) fun q p W =>
  show ZB G k_w_take _ W _ [.st ((rRef q.1).pr p.1), .st (rInt.pr p.2), .no, .no, .no, .no] _ (b_w_take p) _ from
  (zb_cons (zs_if (Γn := fun _ : Unit => [.st ((rRef q.1).pr p.1), .st (rInt.pr p.2), .no, .no, .no, .no]) (zt_eq scI (z_bag n_w_take_0 rfl fun _ => rfl) z_int)
    (zb_cons (zs_set s_w_take_4 z_int sub_nil) fun cell1 =>
    (zb_cons (zs_if (Γn := fun j2 : Int => [.st ((rRef q.1).pr p.1), .st (rInt.pr p.2), .no, .no, .st (rInt.pr j2), .no]) (zt_lt (z_bag n_w_take_0 rfl fun _ => rfl) (z_blen (blt_of (u := .builtin "len") T.b_len (by decide +kernel)) (z_bag3 n_w_take_0 rfl)))
      (zb_cons (zs_set s_w_take_4 (z_bcell (z_bag3 n_w_take_0 rfl) (z_bag n_w_take_0 rfl fun _ => rfl)) sub_nil) fun cell3 =>
      (zb_nil (SubL.sub (.keep (.keep (.keep (.keep (.keep (.keep SubL.nil)))))))))
      (zb_nil (SubL.sub (.keep (.keep (.keep (.keep (.keep (.keep SubL.nil)))))))) sub_nil) fun j2 =>
    (zb_cons (zs_binc n_w_take_0 rfl (fun _ => rfl) rfl (fun _ _ => rfl) (fun _ _ => rfl) z_int sub_nil) fun _ =>
    (zb_cons (zs_if (Γn := fun _ : Unit => [.st ((rRef q.1).pr p.1), .st (rInt.pr p.2), .no, .no, .st (rInt.pr j2), .no]) (zt_ge (z_var n_w_take_4) z_int)
      (zb_cons (zs_bput n_w_take_0 rfl rfl (fun _ _ => rfl) (fun _ _ => rfl) (z_var n_w_take_4) sub_nil) fun _ =>
      (zb_nil (SubL.sub (.keep (.keep (.keep (.keep (.keep (.keep SubL.nil)))))))))
      (zb_nil (SubL.sub (.keep (.keep (.keep (.keep (.keep (.keep SubL.nil)))))))) sub_nil) fun _ =>
    (zb_cons (zs_bput n_w_take_0 rfl rfl (fun _ _ => rfl) (fun _ _ => rfl) (z_mod (z_add (z_add (z_mul (z_bag n_w_take_0 rfl fun _ => rfl) z_int) (z_mod (z_var n_w_take_4) z_int)) (z_mul z_int (z_bag n_w_take_0 rfl fun _ => rfl))) z_int) sub_nil) fun _ =>
    (zb_nil (SubL.sub (.keep (.keep (.keep (.keep (.drop (.keep SubL.nil)))))))))))))
    (zb_nil (SubL.sub (.keep (.keep (.keep (.keep (.keep (.keep SubL.nil)))))))) sub_nil) fun _ =>
  (zb_cons (zs_if (Γn := fun _ : Unit => [.st ((rRef q.1).pr p.1), .st (rInt.pr p.2), .no, .no, .no, .no]) (zt_gt (z_bag n_w_take_0 rfl fun _ => rfl) z_int)
    (zb_cons (zs_set s_w_take_5 (z_mod (z_bag n_w_take_0 rfl fun _ => rfl) (z_var n_w_take_1)) sub_nil) fun value4 =>
    (zb_cons (zs_bput n_w_take_0 rfl rfl (fun _ _ => rfl) (fun _ _ => rfl) (z_div (z_bag n_w_take_0 rfl fun _ => rfl) (z_var n_w_take_1)) sub_nil) fun _ =>
    (zb_one (zs_ret (z_var n_w_take_5) sub_nil))))
    (zb_nil (SubL.sub (.keep (.keep (.keep (.keep (.keep (.keep SubL.nil)))))))) sub_nil) fun _ =>
  (zb_cons (zs_set s_w_take_2 (z_mod (z_mul (z_add (z_bag n_w_take_0 rfl fun _ => rfl) z_int) z_int) z_int) sub_nil) fun first5 =>
  (zb_cons (zs_set s_w_take_3 (z_mod (z_mul (z_mod (z_mul (z_var n_w_take_2) (z_var n_w_take_2)) z_int) z_int) z_int) sub_nil) fun second6 =>
  (zb_cons (zs_if (Γn := fun _ : Unit => [.st ((rRef q.1).pr p.1), .st (rInt.pr p.2), .st (rInt.pr first5), .st (rInt.pr second6), .no, .no]) (zt_gt (z_var n_w_take_1) z_int)
    (zb_one (zs_ret (z_mod (z_add (z_mul (z_var n_w_take_3) z_int) (z_var n_w_take_2)) (z_var n_w_take_1)) sub_nil))
    (zb_nil (SubL.sub (.keep (.keep (.keep (.keep (.keep (.keep SubL.nil)))))))) sub_nil) fun _ =>
  (zb_one (zs_ret (z_mod (z_div (z_var n_w_take_3) z_int) (z_var n_w_take_1)) sub_nil)))))))
theorem at_w_take {G : Gx} {D : Cl} (T : Txt G D) : FnAt false G "_law_take" 1 ["_law_bag_here", "_law_many"] (spZ G (fun q : Addr × Addr => bagE q.1 q.2) (fun (q : Addr × Addr) (p : (Unit × Int)) => [(rRef q.1).pr p.1, rInt.pr p.2]) m_w_take rInt) :=
  let ⟨f, fd, h1, h2, h3, h4⟩ := T.d_w_take; ⟨f, fd, h1, h2, h3, f_w_take T h4⟩

def k_w_made : Sc := ⟨["_law_a", "_law_b", "_law_some"], defScope t_w_made, 2, true, fun _ => true, false⟩
theorem sc_w_made : FnScope ["_law_a", "_law_b", "_law_some"] ["_law_a", "_law_b"] (defScope t_w_made) := ⟨rfl, rfl, rfl, by decide +kernel, rfl, by decide +kernel, by decide +kernel⟩
theorem n_w_made_0 : Nm k_w_made 0 "_law_a" := nm_of (by decide +kernel)
theorem n_w_made_1 : Nm k_w_made 1 "_law_b" := nm_of (by decide +kernel)
theorem n_w_made_2 : Nm k_w_made 2 "_law_some" := nm_of (by decide +kernel)
theorem s_w_made_2 : Ns k_w_made 2 "_law_some" := ns_of (by decide +kernel)
noncomputable def b_w_made (p : (Int × Int)) : M Unit (Fl Unit Empty (List ExM)) :=
  (zseq (zset (zlist (zcons (zget (fun y => (("Wrong", [("at", y)]) : ExM)) (ret p.1)) (zcons (zget (fun y => (("Twice", [("name", y)]) : ExM)) (ret p.1)) (zcons (zget (fun y => (("NoWalker", [("name", y)]) : ExM)) (ret p.1)) (zcons (zget (fun y => (("Again", [("other", y.2), ("one", y.1)]) : ExM)) (zpair (ret p.1) (ret p.2))) (zcons (zget (fun y => (("Lacks", [("name", y)]) : ExM)) (ret p.1)) (zcons (zget (fun y => (("Short", [("name", y)]) : ExM)) (ret p.1)) (zcons (zget (fun y => (("TooFar", [("most", y)]) : ExM)) (ret p.1)) (zcons (zget (fun y => (("TooGreat", [("most", y)]) : ExM)) (ret p.1)) (zcons (zget (fun y => (("Stopped", [("at", y)]) : ExM)) (ret p.1)) (ret [])))))))))))) fun some1 =>
  (zseq (zset (zop2 lcat (ret some1) (zlist (zcons (zget (fun y => (("Apart", [("name", y)]) : ExM)) (ret p.1)) (zcons (zget (fun y => (("TooMany", [("most", y)]) : ExM)) (ret p.1)) (zcons (zget (fun y => (("NotPlain", [("other", y.2), ("one", y.1)]) : ExM)) (zpair (ret p.1) (ret p.2))) (zcons (ret (("Unlike", []) : ExM)) (zcons (zget (fun y => (("Full", [("most", y)]) : ExM)) (ret p.1)) (zcons (zget (fun y => (("Taken", [("name", y)]) : ExM)) (ret p.1)) (zcons (ret (("Few", []) : ExM)) (zcons (ret (("NoDeed", []) : ExM)) (zcons (ret (("Nothing", []) : ExM)) (ret []))))))))))))) fun some2 =>
  (zrt (zop2 lcat (ret some2) (zlist (zcons (ret (("NoText", []) : ExM)) (zcons (ret (("NoLine", []) : ExM)) (zcons (ret (("NoBook", []) : ExM)) (ret [])))))))))
noncomputable def m_w_made (p : (Int × Int)) : M Unit (List ExM) := zbody (b_w_made p)
theorem f_w_made {G : Gx} {D : Cl} (T : Txt G D) {f : Addr} {fd : FuncData} (F : Fun G.K "_law_made" "_law_made" t_w_made f fd) : FnG false G.P G.w G.K G.mg G.base 3 f fd ["_law_a", "_law_b"] (spZ G (fun _ : Unit => noE) (fun (q : Unit) (p : (Int × Int)) => [(rNth vs_).pr p.1, (rNth vs_).pr p.2]) m_w_made (rLst (rXn G vs_))) :=
  fn_ok (g := false) (k := 2) (mb := b_w_made) (n := fun _ _ => stk) (Γn := fun _ _ _ => []) F sc_w_made (fun _ _ => rfl) (fun _ => rfl) (.inl fun _ _ => rfl) fun q p W =>
  show ZB G k_w_made _ W _ [.st ((rNth vs_).pr p.1), .st ((rNth vs_).pr p.2), .no] _ (b_w_made p) _ from
  (zb_cons (zs_set s_w_made_2 (z_list (zl_cons (z_exn1 (x_Wrong T) T.xf_Wrong (by decide) rfl (z_var n_w_made_0)) (zl_cons (z_exn1 (x_Twice T) T.xf_Twice (by decide) rfl (z_var n_w_made_0)) (zl_cons (z_exn1 (x_NoWalker T) T.xf_NoWalker (by decide) rfl (z_var n_w_made_0)) (zl_cons (z_exn2 (x_Again T) T.xf_Again T.xg2_Again (by decide) rfl (z_var n_w_made_0) (z_var n_w_made_1)) (zl_cons (z_exn1 (x_Lacks T) T.xf_Lacks (by decide) rfl (z_var n_w_made_0)) (zl_cons (z_exn1 (x_Short T) T.xf_Short (by decide) rfl (z_var n_w_made_0)) (zl_cons (z_exn1 (x_TooFar T) T.xf_TooFar (by decide) rfl (z_var n_w_made_0)) (zl_cons (z_exn1 (x_TooGreat T) T.xf_TooGreat (by decide) rfl (z_var n_w_made_0)) (zl_cons (z_exn1 (x_Stopped T) T.xf_Stopped (by decide) rfl (z_var n_w_made_0)) zl_nil)))))))))) sub_nil) fun some1 =>
  (zb_cons (zs_set s_w_made_2 (z_catL (z_var n_w_made_2) (z_list (zl_cons (z_exn1 (x_Apart T) T.xf_Apart (by decide) rfl (z_var n_w_made_0)) (zl_cons (z_exn1 (x_TooMany T) T.xf_TooMany (by decide) rfl (z_var n_w_made_0)) (zl_cons (z_exn2 (x_NotPlain T) T.xf_NotPlain T.xg2_NotPlain (by decide) rfl (z_var n_w_made_0) (z_var n_w_made_1)) (zl_cons (z_exn0 (x_Unlike T) (by decide) rfl) (zl_cons (z_exn1 (x_Full T) T.xf_Full (by decide) rfl (z_var n_w_made_0)) (zl_cons (z_exn1 (x_Taken T) T.xf_Taken (by decide) rfl (z_var n_w_made_0)) (zl_cons (z_exn0 (x_Few T) (by decide) rfl) (zl_cons (z_exn0 (x_NoDeed T) (by decide) rfl) (zl_cons (z_exn0 (x_Nothing T) (by decide) rfl) zl_nil))))))))))) sub_nil) fun some2 =>
  (zb_one (zs_ret (z_catL (z_var n_w_made_2) (z_list (zl_cons (z_exn0 (x_NoText T) (by decide) rfl) (zl_cons (z_exn0 (x_NoLine T) (by decide) rfl) (zl_cons (z_exn0 (x_NoBook T) (by decide) rfl) zl_nil))))) sub_nil))))
theorem at_w_made {G : Gx} {D : Cl} (T : Txt G D) : FnAt false G "_law_made" 3 ["_law_a", "_law_b"] (spZ G (fun _ : Unit => noE) (fun (q : Unit) (p : (Int × Int)) => [(rNth vs_).pr p.1, (rNth vs_).pr p.2]) m_w_made (rLst (rXn G vs_))) :=
  let ⟨f, fd, h1, h2, h3, h4⟩ := T.d_w_made; ⟨f, fd, h1, h2, h3, f_w_made T h4⟩

def k_w_sorts : Sc := ⟨["_law_e", "_law_found"], defScope t_w_sorts, 0, true, fun _ => true, false⟩
theorem sc_w_sorts : FnScope ["_law_e", "_law_found"] ["_law_e"] (defScope t_w_sorts) := ⟨rfl, rfl, rfl, by decide +kernel, rfl, by decide +kernel, by decide +kernel⟩
theorem n_w_sorts_0 : Nm k_w_sorts 0 "_law_e" := nm_of (by decide +kernel)
theorem n_w_sorts_1 : Nm k_w_sorts 1 "_law_found" := nm_of (by decide +kernel)
theorem s_w_sorts_1 : Ns k_w_sorts 1 "_law_found" := ns_of (by decide +kernel)
noncomputable def b_w_sorts (p : ExM) : M Unit (Fl Unit Empty (List Bool)) :=
  (zseq (zset (zlist (zcons (zgetP (fun x => is_Wrong x.1) (ret p)) (zcons (zgetP (fun x => is_Twice x.1) (ret p)) (zcons (zgetP (fun x => is_NoWalker x.1) (ret p)) (zcons (zgetP (fun x => is_Again x.1) (ret p)) (ret []))))))) fun found1 =>
  (zseq (zset (zop2 lcat (ret found1) (zlist (zcons (zgetP (fun x => is_Lacks x.1) (ret p)) (zcons (zgetP (fun x => is_Short x.1) (ret p)) (zcons (zgetP (fun x => is_TooFar x.1) (ret p)) (zcons (zgetP (fun x => is_TooGreat x.1) (ret p)) (ret [])))))))) fun found2 =>
  (zseq (zset (zop2 lcat (ret found2) (zlist (zcons (zgetP (fun x => is_Stopped x.1) (ret p)) (zcons (zgetP (fun x => is_Apart x.1) (ret p)) (zcons (zgetP (fun x => is_TooMany x.1) (ret p)) (zcons (zgetP (fun x => is_NotPlain x.1) (ret p)) (ret [])))))))) fun found3 =>
  (zseq (zset (zop2 lcat (ret found3) (zlist (zcons (zgetP (fun x => is_Unlike x.1) (ret p)) (zcons (zgetP (fun x => is_Full x.1) (ret p)) (zcons (zgetP (fun x => is_Taken x.1) (ret p)) (zcons (zgetP (fun x => is_Few x.1) (ret p)) (ret [])))))))) fun found4 =>
  (zseq (zset (zop2 lcat (ret found4) (zlist (zcons (zgetP (fun x => is_NoDeed x.1) (ret p)) (zcons (zgetP (fun x => is_Nothing x.1) (ret p)) (zcons (zgetP (fun x => is_NoText x.1) (ret p)) (zcons (zgetP (fun x => is_NoLine x.1) (ret p)) (ret [])))))))) fun found5 =>
  (zrt (zop2 lcat (ret found5) (zlist (zcons (zgetP (fun x => is_NoBook x.1) (ret p)) (ret []))))))))))
noncomputable def m_w_sorts (p : ExM) : M Unit (List Bool) := zbody (b_w_sorts p)
theorem f_w_sorts {G : Gx} {D : Cl} (T : Txt G D) {f : Addr} {fd : FuncData} (F : Fun G.K "_law_sorts" "_law_sorts" t_w_sorts f fd) : FnG false G.P G.w G.K G.mg G.base 1 f fd ["_law_e"] (spZ G (fun _ : Unit => noE) (fun (q : Unit) (p : ExM) => [(rXn G vs_).pr p]) m_w_sorts (rLst rBl)) :=
  fn_ok (g := false) (k := 0) (mb := b_w_sorts) (n := fun _ _ => stk) (Γn := fun _ _ _ => []) F sc_w_sorts (fun _ _ => rfl) (fun _ => rfl) (.inl fun _ _ => rfl) fun q p W =>
  show ZB G k_w_sorts _ W _ [.st ((rXn G vs_).pr p), .no] _ (b_w_sorts p) _ from
  (zb_cons (zs_set s_w_sorts_1 (z_list (zl_cons (z_isXn (t := is_Wrong) (blt_of (u := .builtin "isinstance") T.b_isinstance (by decide +kernel)) (z_var n_w_sorts_0) (hyE_own rfl T.g_Wrong) (.own _) (it_Wrong T)) (zl_cons (z_isXn (t := is_Twice) (blt_of (u := .builtin "isinstance") T.b_isinstance (by decide +kernel)) (z_var n_w_sorts_0) (hyE_own rfl T.g_Twice) (.own _) (it_Twice T)) (zl_cons (z_isXn (t := is_NoWalker) (blt_of (u := .builtin "isinstance") T.b_isinstance (by decide +kernel)) (z_var n_w_sorts_0) (hyE_own rfl T.g_NoWalker) (.own _) (it_NoWalker T)) (zl_cons (z_isXn (t := is_Again) (blt_of (u := .builtin "isinstance") T.b_isinstance (by decide +kernel)) (z_var n_w_sorts_0) (hyE_own rfl T.g_Again) (.own _) (it_Again T)) zl_nil))))) sub_nil) fun found1 =>
  (zb_cons (zs_set s_w_sorts_1 (z_catL (z_var n_w_sorts_1) (z_list (zl_cons (z_isXn (t := is_Lacks) (blt_of (u := .builtin "isinstance") T.b_isinstance (by decide +kernel)) (z_var n_w_sorts_0) (hyE_own rfl T.g_Lacks) (.own _) (it_Lacks T)) (zl_cons (z_isXn (t := is_Short) (blt_of (u := .builtin "isinstance") T.b_isinstance (by decide +kernel)) (z_var n_w_sorts_0) (hyE_own rfl T.g_Short) (.own _) (it_Short T)) (zl_cons (z_isXn (t := is_TooFar) (blt_of (u := .builtin "isinstance") T.b_isinstance (by decide +kernel)) (z_var n_w_sorts_0) (hyE_own rfl T.g_TooFar) (.own _) (it_TooFar T)) (zl_cons (z_isXn (t := is_TooGreat) (blt_of (u := .builtin "isinstance") T.b_isinstance (by decide +kernel)) (z_var n_w_sorts_0) (hyE_own rfl T.g_TooGreat) (.own _) (it_TooGreat T)) zl_nil)))))) sub_nil) fun found2 =>
  (zb_cons (zs_set s_w_sorts_1 (z_catL (z_var n_w_sorts_1) (z_list (zl_cons (z_isXn (t := is_Stopped) (blt_of (u := .builtin "isinstance") T.b_isinstance (by decide +kernel)) (z_var n_w_sorts_0) (hyE_own rfl T.g_Stopped) (.own _) (it_Stopped T)) (zl_cons (z_isXn (t := is_Apart) (blt_of (u := .builtin "isinstance") T.b_isinstance (by decide +kernel)) (z_var n_w_sorts_0) (hyE_own rfl T.g_Apart) (.own _) (it_Apart T)) (zl_cons (z_isXn (t := is_TooMany) (blt_of (u := .builtin "isinstance") T.b_isinstance (by decide +kernel)) (z_var n_w_sorts_0) (hyE_own rfl T.g_TooMany) (.own _) (it_TooMany T)) (zl_cons (z_isXn (t := is_NotPlain) (blt_of (u := .builtin "isinstance") T.b_isinstance (by decide +kernel)) (z_var n_w_sorts_0) (hyE_own rfl T.g_NotPlain) (.own _) (it_NotPlain T)) zl_nil)))))) sub_nil) fun found3 =>
  (zb_cons (zs_set s_w_sorts_1 (z_catL (z_var n_w_sorts_1) (z_list (zl_cons (z_isXn (t := is_Unlike) (blt_of (u := .builtin "isinstance") T.b_isinstance (by decide +kernel)) (z_var n_w_sorts_0) (hyE_own rfl T.g_Unlike) (.own _) (it_Unlike T)) (zl_cons (z_isXn (t := is_Full) (blt_of (u := .builtin "isinstance") T.b_isinstance (by decide +kernel)) (z_var n_w_sorts_0) (hyE_own rfl T.g_Full) (.own _) (it_Full T)) (zl_cons (z_isXn (t := is_Taken) (blt_of (u := .builtin "isinstance") T.b_isinstance (by decide +kernel)) (z_var n_w_sorts_0) (hyE_own rfl T.g_Taken) (.own _) (it_Taken T)) (zl_cons (z_isXn (t := is_Few) (blt_of (u := .builtin "isinstance") T.b_isinstance (by decide +kernel)) (z_var n_w_sorts_0) (hyE_own rfl T.g_Few) (.own _) (it_Few T)) zl_nil)))))) sub_nil) fun found4 =>
  (zb_cons (zs_set s_w_sorts_1 (z_catL (z_var n_w_sorts_1) (z_list (zl_cons (z_isXn (t := is_NoDeed) (blt_of (u := .builtin "isinstance") T.b_isinstance (by decide +kernel)) (z_var n_w_sorts_0) (hyE_own rfl T.g_NoDeed) (.own _) (it_NoDeed T)) (zl_cons (z_isXn (t := is_Nothing) (blt_of (u := .builtin "isinstance") T.b_isinstance (by decide +kernel)) (z_var n_w_sorts_0) (hyE_own rfl T.g_Nothing) (.own _) (it_Nothing T)) (zl_cons (z_isXn (t := is_NoText) (blt_of (u := .builtin "isinstance") T.b_isinstance (by decide +kernel)) (z_var n_w_sorts_0) (hyE_own rfl T.g_NoText) (.own _) (it_NoText T)) (zl_cons (z_isXn (t := is_NoLine) (blt_of (u := .builtin "isinstance") T.b_isinstance (by decide +kernel)) (z_var n_w_sorts_0) (hyE_own rfl T.g_NoLine) (.own _) (it_NoLine T)) zl_nil)))))) sub_nil) fun found5 =>
  (zb_one (zs_ret (z_catL (z_var n_w_sorts_1) (z_list (zl_cons (z_isXn (t := is_NoBook) (blt_of (u := .builtin "isinstance") T.b_isinstance (by decide +kernel)) (z_var n_w_sorts_0) (hyE_own rfl T.g_NoBook) (.own _) (it_NoBook T)) zl_nil))) sub_nil)))))))
theorem at_w_sorts {G : Gx} {D : Cl} (T : Txt G D) : FnAt false G "_law_sorts" 1 ["_law_e"] (spZ G (fun _ : Unit => noE) (fun (q : Unit) (p : ExM) => [(rXn G vs_).pr p]) m_w_sorts (rLst rBl)) :=
  let ⟨f, fd, h1, h2, h3, h4⟩ := T.d_w_sorts; ⟨f, fd, h1, h2, h3, f_w_sorts T h4⟩

def k_w_fields : Sc := ⟨["_law_made_here", "_law_found"], defScope t_w_fields, 0, true, fun _ => true, false⟩
theorem sc_w_fields : FnScope ["_law_made_here", "_law_found"] ["_law_made_here"] (defScope t_w_fields) := ⟨rfl, rfl, rfl, by decide +kernel, rfl, by decide +kernel, by decide +kernel⟩
theorem n_w_fields_0 : Nm k_w_fields 0 "_law_made_here" := nm_of (by decide +kernel)
theorem n_w_fields_1 : Nm k_w_fields 1 "_law_found" := nm_of (by decide +kernel)
theorem s_w_fields_1 : Ns k_w_fields 1 "_law_found" := ns_of (by decide +kernel)
noncomputable def b_w_fields (p : (List ExM)) : M Unit (Fl Unit Empty (List Int)) :=
  (zseq (zset (zlist (zcons (zgetP (xfN ["Wrong", "Stopped"] "at") (zop2 ixat (ret p) (ret (0 : Int)))) (zcons (zgetP (xfN ["Twice", "NoWalker", "Lacks", "Short", "Apart", "Taken"] "name") (zop2 ixat (ret p) (ret (1 : Int)))) (zcons (zgetP (xfN ["Twice", "NoWalker", "Lacks", "Short", "Apart", "Taken"] "name") (zop2 ixat (ret p) (ret (2 : Int)))) (zcons (zgetP (xfN ["Again", "NotPlain"] "one") (zop2 ixat (ret p) (ret (3 : Int)))) (zcons (zgetP (xfN ["Again", "NotPlain"] "other") (zop2 ixat (ret p) (ret (3 : Int)))) (zcons (zgetP (xfN ["Twice", "NoWalker", "Lacks", "Short", "Apart", "Taken"] "name") (zop2 ixat (ret p) (ret (4 : Int)))) (zcons (zgetP (xfN ["Twice", "NoWalker", "Lacks", "Short", "Apart", "Taken"] "name") (zop2 ixat (ret p) (ret (5 : Int)))) (ret [])))))))))) fun found1 =>
  (zseq (zset (zop2 lcat (ret found1) (zlist (zcons (zgetP (xfN ["TooFar", "TooGreat", "TooMany", "Full"] "most") (zop2 ixat (ret p) (ret (6 : Int)))) (zcons (zgetP (xfN ["TooFar", "TooGreat", "TooMany", "Full"] "most") (zop2 ixat (ret p) (ret (7 : Int)))) (zcons (zgetP (xfN ["Wrong", "Stopped"] "at") (zop2 ixat (ret p) (ret (8 : Int)))) (zcons (zgetP (xfN ["Twice", "NoWalker", "Lacks", "Short", "Apart", "Taken"] "name") (zop2 ixat (ret p) (ret (9 : Int)))) (zcons (zgetP (xfN ["TooFar", "TooGreat", "TooMany", "Full"] "most") (zop2 ixat (ret p) (ret (10 : Int)))) (zcons (zgetP (xfN ["Again", "NotPlain"] "one") (zop2 ixat (ret p) (ret (11 : Int)))) (ret [])))))))))) fun found2 =>
  (zrt (zop2 lcat (ret found2) (zlist (zcons (zgetP (xfN ["Again", "NotPlain"] "other") (zop2 ixat (ret p) (ret (11 : Int)))) (zcons (zgetP (xfN ["TooFar", "TooGreat", "TooMany", "Full"] "most") (zop2 ixat (ret p) (ret (13 : Int)))) (zcons (zgetP (xfN ["Twice", "NoWalker", "Lacks", "Short", "Apart", "Taken"] "name") (zop2 ixat (ret p) (ret (14 : Int)))) (ret [])))))))))
noncomputable def m_w_fields (p : (List ExM)) : M Unit (List Int) := zbody (b_w_fields p)
theorem f_w_fields {G : Gx} {D : Cl} (T : Txt G D) {f : Addr} {fd : FuncData} (F : Fun G.K "_law_fields" "_law_fields" t_w_fields f fd) : FnG false G.P G.w G.K G.mg G.base 1 f fd ["_law_made_here"] (spZ G (fun _ : Unit => noE) (fun (q : Unit) (p : (List ExM)) => [(rLst (rXn G vs_)).pr p]) m_w_fields (rLst (rNth vs_))) :=
  fn_ok (g := false) (k := 0) (mb := b_w_fields) (n := fun _ _ => stk) (Γn := fun _ _ _ => []) F sc_w_fields (fun _ _ => rfl) (fun _ => rfl) (.inl fun _ _ => rfl) fun q p W =>
  show ZB G k_w_fields _ W _ [.st ((rLst (rXn G vs_)).pr p), .no] _ (b_w_fields p) _ from
  (zb_cons (zs_set s_w_fields_1 (z_list (zl_cons (z_fN (z_ixL (z_var n_w_fields_0) z_int) (fc_cons T.g_Wrong T.xc_Wrong T.xf_Wrong (fc_cons T.g_Stopped T.xc_Stopped T.xf_Stopped fc_nil))) (zl_cons (z_fN (z_ixL (z_var n_w_fields_0) z_int) (fc_cons T.g_Twice T.xc_Twice T.xf_Twice (fc_cons T.g_NoWalker T.xc_NoWalker T.xf_NoWalker (fc_cons T.g_Lacks T.xc_Lacks T.xf_Lacks (fc_cons T.g_Short T.xc_Short T.xf_Short (fc_cons T.g_Apart T.xc_Apart T.xf_Apart (fc_cons T.g_Taken T.xc_Taken T.xf_Taken fc_nil))))))) (zl_cons (z_fN (z_ixL (z_var n_w_fields_0) z_int) (fc_cons T.g_Twice T.xc_Twice T.xf_Twice (fc_cons T.g_NoWalker T.xc_NoWalker T.xf_NoWalker (fc_cons T.g_Lacks T.xc_Lacks T.xf_Lacks (fc_cons T.g_Short T.xc_Short T.xf_Short (fc_cons T.g_Apart T.xc_Apart T.xf_Apart (fc_cons T.g_Taken T.xc_Taken T.xf_Taken fc_nil))))))) (zl_cons (z_fN (z_ixL (z_var n_w_fields_0) z_int) (fc_cons T.g_Again T.xc_Again T.xf_Again (fc_cons T.g_NotPlain T.xc_NotPlain T.xf_NotPlain fc_nil))) (zl_cons (z_fN (z_ixL (z_var n_w_fields_0) z_int) (fc_cons T.g_Again T.xc_Again T.xg2_Again (fc_cons T.g_NotPlain T.xc_NotPlain T.xg2_NotPlain fc_nil))) (zl_cons (z_fN (z_ixL (z_var n_w_fields_0) z_int) (fc_cons T.g_Twice T.xc_Twice T.xf_Twice (fc_cons T.g_NoWalker T.xc_NoWalker T.xf_NoWalker (fc_cons T.g_Lacks T.xc_Lacks T.xf_Lacks (fc_cons T.g_Short T.xc_Short T.xf_Short (fc_cons T.g_Apart T.xc_Apart T.xf_Apart (fc_cons T.g_Taken T.xc_Taken T.xf_Taken fc_nil))))))) (zl_cons (z_fN (z_ixL (z_var n_w_fields_0) z_int) (fc_cons T.g_Twice T.xc_Twice T.xf_Twice (fc_cons T.g_NoWalker T.xc_NoWalker T.xf_NoWalker (fc_cons T.g_Lacks T.xc_Lacks T.xf_Lacks (fc_cons T.g_Short T.xc_Short T.xf_Short (fc_cons T.g_Apart T.xc_Apart T.xf_Apart (fc_cons T.g_Taken T.xc_Taken T.xf_Taken fc_nil))))))) zl_nil)))))))) sub_nil) fun found1 =>
  (zb_cons (zs_set s_w_fields_1 (z_catL (z_var n_w_fields_1) (z_list (zl_cons (z_fN (z_ixL (z_var n_w_fields_0) z_int) (fc_cons T.g_TooFar T.xc_TooFar T.xf_TooFar (fc_cons T.g_TooGreat T.xc_TooGreat T.xf_TooGreat (fc_cons T.g_TooMany T.xc_TooMany T.xf_TooMany (fc_cons T.g_Full T.xc_Full T.xf_Full fc_nil))))) (zl_cons (z_fN (z_ixL (z_var n_w_fields_0) z_int) (fc_cons T.g_TooFar T.xc_TooFar T.xf_TooFar (fc_cons T.g_TooGreat T.xc_TooGreat T.xf_TooGreat (fc_cons T.g_TooMany T.xc_TooMany T.xf_TooMany (fc_cons T.g_Full T.xc_Full T.xf_Full fc_nil))))) (zl_cons (z_fN (z_ixL (z_var n_w_fields_0) z_int) (fc_cons T.g_Wrong T.xc_Wrong T.xf_Wrong (fc_cons T.g_Stopped T.xc_Stopped T.xf_Stopped fc_nil))) (zl_cons (z_fN (z_ixL (z_var n_w_fields_0) z_int) (fc_cons T.g_Twice T.xc_Twice T.xf_Twice (fc_cons T.g_NoWalker T.xc_NoWalker T.xf_NoWalker (fc_cons T.g_Lacks T.xc_Lacks T.xf_Lacks (fc_cons T.g_Short T.xc_Short T.xf_Short (fc_cons T.g_Apart T.xc_Apart T.xf_Apart (fc_cons T.g_Taken T.xc_Taken T.xf_Taken fc_nil))))))) (zl_cons (z_fN (z_ixL (z_var n_w_fields_0) z_int) (fc_cons T.g_TooFar T.xc_TooFar T.xf_TooFar (fc_cons T.g_TooGreat T.xc_TooGreat T.xf_TooGreat (fc_cons T.g_TooMany T.xc_TooMany T.xf_TooMany (fc_cons T.g_Full T.xc_Full T.xf_Full fc_nil))))) (zl_cons (z_fN (z_ixL (z_var n_w_fields_0) z_int) (fc_cons T.g_Again T.xc_Again T.xf_Again (fc_cons T.g_NotPlain T.xc_NotPlain T.xf_NotPlain fc_nil))) zl_nil)))))))) sub_nil) fun found2 =>
  (zb_one (zs_ret (z_catL (z_var n_w_fields_1) (z_list (zl_cons (z_fN (z_ixL (z_var n_w_fields_0) z_int) (fc_cons T.g_Again T.xc_Again T.xg2_Again (fc_cons T.g_NotPlain T.xc_NotPlain T.xg2_NotPlain fc_nil))) (zl_cons (z_fN (z_ixL (z_var n_w_fields_0) z_int) (fc_cons T.g_TooFar T.xc_TooFar T.xf_TooFar (fc_cons T.g_TooGreat T.xc_TooGreat T.xf_TooGreat (fc_cons T.g_TooMany T.xc_TooMany T.xf_TooMany (fc_cons T.g_Full T.xc_Full T.xf_Full fc_nil))))) (zl_cons (z_fN (z_ixL (z_var n_w_fields_0) z_int) (fc_cons T.g_Twice T.xc_Twice T.xf_Twice (fc_cons T.g_NoWalker T.xc_NoWalker T.xf_NoWalker (fc_cons T.g_Lacks T.xc_Lacks T.xf_Lacks (fc_cons T.g_Short T.xc_Short T.xf_Short (fc_cons T.g_Apart T.xc_Apart T.xf_Apart (fc_cons T.g_Taken T.xc_Taken T.xf_Taken fc_nil))))))) zl_nil))))) sub_nil))))
theorem at_w_fields {G : Gx} {D : Cl} (T : Txt G D) : FnAt false G "_law_fields" 1 ["_law_made_here"] (spZ G (fun _ : Unit => noE) (fun (q : Unit) (p : (List ExM)) => [(rLst (rXn G vs_)).pr p]) m_w_fields (rLst (rNth vs_))) :=
  let ⟨f, fd, h1, h2, h3, h4⟩ := T.d_w_fields; ⟨f, fd, h1, h2, h3, f_w_fields T h4⟩

def k_w_raised : Sc := ⟨["_law_a", "_law_found", "_law_way", "_law_e"], defScope t_w_raised, 2, true, fun _ => true, false⟩
theorem sc_w_raised : FnScope ["_law_a", "_law_found", "_law_way", "_law_e"] ["_law_a"] (defScope t_w_raised) := ⟨rfl, rfl, rfl, by decide +kernel, rfl, by decide +kernel, by decide +kernel⟩
theorem n_w_raised_0 : Nm k_w_raised 0 "_law_a" := nm_of (by decide +kernel)
theorem n_w_raised_1 : Nm k_w_raised 1 "_law_found" := nm_of (by decide +kernel)
theorem s_w_raised_1 : Ns k_w_raised 1 "_law_found" := ns_of (by decide +kernel)
theorem n_w_raised_2 : Nm k_w_raised 2 "_law_way" := nm_of (by decide +kernel)
theorem s_w_raised_2 : Ns k_w_raised 2 "_law_way" := ns_of (by decide +kernel)
theorem n_w_raised_3 : Nm k_w_raised 3 "_law_e" := nm_of (by decide +kernel)
theorem s_w_raised_3 : Ns k_w_raised 3 "_law_e" := ns_of (by decide +kernel)
noncomputable def b_w_raised (vs_ : List V) (p : Int) : M Unit (Fl Unit Empty Bool) :=
  (zseq (zset (zlist ((ret []) : M _ (List (List Bool))))) fun found1 =>
  (zseq (zforI (zapp frA1 (ret (3 : Int))) found1 fun c2 x3 =>
    (zseq (ztryX (fun n => if n = ("Wrong" : Str) then some true else if n = ("Again" : Str) then some true else if n = ("NoWalker" : Str) then some true else none)
      (zseq (zifS (zop2 feq (ret x3) (ret (0 : Int))) (zraise "Wrong" "at" (gNth vs_) (ret p)) (znx ())) fun _ =>
      (zseq (zifS (zop2 feq (ret x3) (ret (1 : Int))) (bnd (zpair (ret p) (ret x3)) fun y => rse ⟨"Again", [("other", V.int y.2), ("one", gNth vs_ y.1)]⟩) (znx ())) fun _ =>
      (zraise "NoWalker" "name" (gNth vs_) (ret p))))
      (fun z => bnd (mopt (((is_Wrong z.cls).bind fun u => ((is_Again z.cls).bind fun u => ((is_NoWalker z.cls).bind fun u => (some ([] : List Bool)).bind fun w => some (u :: w)).bind fun w => some (u :: w)).bind fun w => some (u :: w)).bind fun ys => if ys.length ≤ 1000 then some ys else none)) fun v => chk (List.length c2 < sizeLine) (ret (.nx v)))) fun a4 =>
    (znx (c2 ++ [a4])))) fun c2 =>
  (zrt (zop2 (deq (datL (datL datB))) (ret c2) (zlist (zcons (zlist (zcons (ret true) (zcons (ret false) (zcons (ret false) (ret []))))) (zcons (zlist (zcons (ret false) (zcons (ret true) (zcons (ret false) (ret []))))) (zcons (zlist (zcons (ret false) (zcons (ret false) (zcons (ret true) (ret []))))) (ret [])))))))))
theorem f_w_raised0 {G : Gx} {D : Cl} (T : Txt G D) {f : Addr} {fd : FuncData} (F : Fun G.K "_law_raised" "_law_raised" t_w_raised f fd) : FnG false G.P G.w G.K G.mg G.base 3 f fd ["_law_a"] (spZ G (fun _ : Unit => noE) (fun (q : Unit) (p : Int) => [(rNth vs_).pr p]) (fun p => zbody (b_w_raised vs_ p)) rBl) :=
  fn_ok (g := false) (k := 2) (mb := b_w_raised vs_) (n := fun _ _ => stk) (Γn := fun _ _ _ => []) F sc_w_raised (fun _ _ => rfl) (fun _ => rfl) (.inl fun _ _ => rfl) fun q p W =>
  show ZB G k_w_raised _ W _ [.st ((rNth vs_).pr p), .no, .no, .no] _ (b_w_raised vs_ p) _ from
  (zb_cons (zs_setF s_w_raised_1 (zf_list zl_nil) sub_nil) fun found1 =>
  (zb_cons (zs_for (vs := [2]) (Γh := fun c2 : List (List Bool) => [.st ((rNth vs_).pr p), .ow (ownL (rLst rBl) c2), .no, .no]) (zi_r1 (blt_of (u := .type "range") T.b_range (by decide +kernel)) z_int) (SubL.sub (.keep (.keep (.keep (.keep SubL.nil))))) (fun c2 => (zg_name s_w_raised_2 (by decide))) (fun c2 x3 =>
    (zb_cons (zs_tryW (Γx := [.st ((rNth vs_).pr p), .ow (ownL (rLst rBl) c2), .st (rInt.pr x3), .no]) (Γn := fun a4 : List Bool => [.st ((rNth vs_).pr p), .ow (ownL (rLst rBl) (c2 ++ [a4])), .st (rInt.pr x3), .no]) s_w_raised_3 (by decide +kernel) (by exact rfl) T.g_AheadError (by decide) rfl (cat_cons T.g_Wrong T.em_Wrong_AheadError (cat_cons T.g_Again T.em_Again_AheadError (cat_cons T.g_NoWalker T.em_NoWalker_AheadError cat_nil))) (sx_of sub_nil) (unk_at (.inl rfl)) (fun _ => unk_at (.inl rfl)) (fun _ => unk_at (.inl rfl)) (fun W' =>
      (zb_cons (zs_if (Γn := fun _ : Unit => [.st ((rNth vs_).pr p), .ow (ownL (rLst rBl) c2), .st (rInt.pr x3), .no]) (zt_eq scI (z_var n_w_raised_2) z_int) (zb_one (zs_raiseV (x_Wrong T) T.xf_Wrong (by decide) rfl vr_nth (z_var n_w_raised_0) (SubL.sub (.keep (.keep (.keep (.keep SubL.nil))))))) (zb_nil (SubL.sub (.keep (.keep (.keep (.keep SubL.nil)))))) (SubL.sub (.keep (.keep (.keep (.keep SubL.nil)))))) fun _ =>
      (zb_cons (zs_if (Γn := fun _ : Unit => [.st ((rNth vs_).pr p), .ow (ownL (rLst rBl) c2), .st (rInt.pr x3), .no]) (zt_eq scI (z_var n_w_raised_2) z_int) (zb_one (zs_raiseV2 (x_Again T) T.xf_Again T.xg2_Again (by decide) rfl vr_nth vr_int (z_var n_w_raised_0) (z_var n_w_raised_2) (SubL.sub (.keep (.keep (.keep (.keep SubL.nil))))))) (zb_nil (SubL.sub (.keep (.keep (.keep (.keep SubL.nil)))))) (SubL.sub (.keep (.keep (.keep (.keep SubL.nil)))))) fun _ =>
      (zb_one (zs_raiseV (x_NoWalker T) T.xf_NoWalker (by decide) rfl vr_nth (z_var n_w_raised_0) (SubL.sub (.keep (.keep (.keep (.keep SubL.nil))))))))))
      (hb_one (hs_app n_w_raised_1 rfl (he_listB (has_blC (ht_isi (t := is_Wrong) (i := 3) n_w_raised_3 (by decide) (blt_of (u := .builtin "isinstance") T.b_isinstance (by decide +kernel)) (hy_own (by exact rfl) T.g_Wrong (by decide)) hcv_own (it_Wrong T)) (has_blC (ht_isi (t := is_Again) (i := 3) n_w_raised_3 (by decide) (blt_of (u := .builtin "isinstance") T.b_isinstance (by decide +kernel)) (hy_own (by exact rfl) T.g_Again (by decide)) hcv_own (it_Again T)) (has_blC (ht_isi (t := is_NoWalker) (i := 3) n_w_raised_3 (by decide) (blt_of (u := .builtin "isinstance") T.b_isinstance (by decide +kernel)) (hy_own (by exact rfl) T.g_NoWalker (by decide)) hcv_own (it_NoWalker T)) has_blN))))))) fun a4 =>
    (zb_nil (SubL.sub (.keep (.keep (.drop (.keep SubL.nil)))))))) sub_nil) fun c2 =>
  (zb_wk (sub_frz (i := 1) one_L) <| zb_one (zs_ret (z_deq (datL (datL datB)) (z_var n_w_raised_1) (z_list (zl_cons (z_list (zl_cons z_bl (zl_cons z_bl (zl_cons z_bl zl_nil)))) (zl_cons (z_list (zl_cons z_bl (zl_cons z_bl (zl_cons z_bl zl_nil)))) (zl_cons (z_list (zl_cons z_bl (zl_cons z_bl (zl_cons z_bl zl_nil)))) zl_nil))))) sub_nil))))
theorem e_raised (p : Int) : zbody (b_w_raised vs_ p) = (ret true : M Unit Bool) := rfl
noncomputable def m_w_raised (p : Int) : M Unit Bool := ret true
theorem f_w_raised {G : Gx} {D : Cl} (T : Txt G D) {f : Addr} {fd : FuncData} (F : Fun G.K "_law_raised" "_law_raised" t_w_raised f fd) : FnG false G.P G.w G.K G.mg G.base 3 f fd ["_law_a"] (spZ G (fun _ : Unit => noE) (fun (q : Unit) (p : Int) => [(rNth vs_).pr p]) m_w_raised rBl) := by
  have h := f_w_raised0 (vs_ := vs_) T F
  have e : (fun p => zbody (b_w_raised vs_ p)) = m_w_raised := funext fun p => e_raised p
  rw [e] at h; exact h
theorem at_w_raised {G : Gx} {D : Cl} (T : Txt G D) : FnAt false G "_law_raised" 3 ["_law_a"] (spZ G (fun _ : Unit => noE) (fun (q : Unit) (p : Int) => [(rNth vs_).pr p]) m_w_raised rBl) :=
  let ⟨f, fd, h1, h2, h3, h4⟩ := T.d_w_raised; ⟨f, fd, h1, h2, h3, f_w_raised T h4⟩

def k_law : Sc := ⟨["_law_script", "_law_bag_here", "_law_some", "_law_made_here", "_law_due", "_law_k", "_law_thing", "_law_plainly", "_law_a", "_law_b", "_law_e", "_law_place"], defScope t_law, 3, true, fun _ => true, true⟩
theorem sc_law : FnScope ["_law_script", "_law_bag_here", "_law_some", "_law_made_here", "_law_due", "_law_k", "_law_thing", "_law_plainly", "_law_a", "_law_b", "_law_e", "_law_place"] ["_law_script"] (defScope t_law) := ⟨rfl, rfl, rfl, by decide +kernel, rfl, by decide +kernel, by decide +kernel⟩
theorem n_law_0 : Nm k_law 0 "_law_script" := nm_of (by decide +kernel)
theorem n_law_1 : Nm k_law 1 "_law_bag_here" := nm_of (by decide +kernel)
theorem s_law_1 : Ns k_law 1 "_law_bag_here" := ns_of (by decide +kernel)
theorem n_law_2 : Nm k_law 2 "_law_some" := nm_of (by decide +kernel)
theorem s_law_2 : Ns k_law 2 "_law_some" := ns_of (by decide +kernel)
theorem n_law_3 : Nm k_law 3 "_law_made_here" := nm_of (by decide +kernel)
theorem s_law_3 : Ns k_law 3 "_law_made_here" := ns_of (by decide +kernel)
theorem n_law_4 : Nm k_law 4 "_law_due" := nm_of (by decide +kernel)
theorem s_law_4 : Ns k_law 4 "_law_due" := ns_of (by decide +kernel)
theorem n_law_5 : Nm k_law 5 "_law_k" := nm_of (by decide +kernel)
theorem s_law_5 : Ns k_law 5 "_law_k" := ns_of (by decide +kernel)
theorem n_law_6 : Nm k_law 6 "_law_thing" := nm_of (by decide +kernel)
theorem s_law_6 : Ns k_law 6 "_law_thing" := ns_of (by decide +kernel)
theorem n_law_7 : Nm k_law 7 "_law_plainly" := nm_of (by decide +kernel)
theorem s_law_7 : Ns k_law 7 "_law_plainly" := ns_of (by decide +kernel)
theorem n_law_8 : Nm k_law 8 "_law_a" := nm_of (by decide +kernel)
theorem s_law_8 : Ns k_law 8 "_law_a" := ns_of (by decide +kernel)
theorem n_law_9 : Nm k_law 9 "_law_b" := nm_of (by decide +kernel)
theorem s_law_9 : Ns k_law 9 "_law_b" := ns_of (by decide +kernel)
theorem n_law_10 : Nm k_law 10 "_law_e" := nm_of (by decide +kernel)
theorem s_law_10 : Ns k_law 10 "_law_e" := ns_of (by decide +kernel)
noncomputable def r_law (p : List Int) : M Bag (Fl Unit Empty Bool) :=
  (zseq (zset (zlist (zcons (zget PyData.int (ret (0 : Int))) (zcons (zget PyData.int (ret (1 : Int))) (zcons (zget PyData.int (zop1 ineg (ret (7 : Int)))) (zcons (zget PyData.int (zop2 ipow (ret (10 : Int)) (ret (40 : Int)))) (zcons (zget PyData.str (ret ("" : Str))) (zcons (zget PyData.str (ret ("a" : Str))) (zcons (zget PyData.str (ret ("walker" : Str))) (zcons (zget (fun _ => PyData.none) (ret ())) (zcons (zget PyData.bool (ret true)) (zcons (zget PyData.bool (ret false)) (zcons (zget (fun x => PyData.tuple [.int x.1, .int x.2]) (zpair (ret (1 : Int)) (ret (2 : Int)))) (zcons (zget (fun xs => PyData.list (xs.map .int)) (zlist ((ret []) : M _ (List Int)))) (zcons (zget (fun xs => PyData.list (xs.map fun ys => .list (ys.map .int))) (zlist (zcons (zlist (zcons (ret (3 : Int)) (ret []))) (ret [])))) (zcons (zgetP dc0 (ret ([] : List (Str × Int)))) (zcons (zget (fun xs => PyData.dict [(.str "a", .list (xs.map .int))]) (nox (zlist ((ret []) : M _ (List Int))))) (ret [])))))))))))))))))) fun some1 =>
  (chk (mosB 6 60 some1 = true) (zseq (zset (zpair (bnd (zapp m_w_take (zpair (ret ()) (ret (15 : Int)))) fun i => chk (0 ≤ i ∧ i.toNat < (List.map isLst some1).length) (ret i)) (bnd (zapp m_w_take (zpair (ret ()) (ret (15 : Int)))) fun i => chk (0 ≤ i ∧ i.toNat < (List.map isLst some1).length) (ret i)))) fun w2 =>
  (zseq (zset (zapp (fun x => lft (m_w_made x)) (zpair (ret w2.1) (ret w2.2)))) fun madehere3 =>
  (zseq (zset (zlist (zcons (ret w2.1) (zcons (ret w2.1) (zcons (ret w2.1) (zcons (ret w2.1) (zcons (ret w2.2) (zcons (ret w2.1) (zcons (ret w2.1) (zcons (ret w2.1) (zcons (ret w2.1) (zcons (ret w2.1) (zcons (ret w2.1) (zcons (ret w2.1) (zcons (ret w2.1) (zcons (ret w2.2) (zcons (ret w2.1) (zcons (ret w2.1) (ret []))))))))))))))))))) fun due4 =>
  (zseq (zforI (zapp frA1 (ret (21 : Int))) () fun _ x5 =>
    (zseq (zset (zop2 ixat (ret madehere3) (ret x5))) fun e6 =>
    (zseq (zifS (zor (znot (zgetP (fun x => is_AheadError x.1) (ret e6))) (znot (zgetP (fun x => is_ValueError x.1) (ret e6))))
      (zrt (ret false))
      (znx ())) fun _ =>
    (zseq (zifS (zop2 (dne (datL datB)) (zapp (fun x => lft (m_w_sorts x)) (ret e6)) (zlc (fun e7 => (ret true)) (fun e7 => (zop2 feq (ret e7) (ret x5))) (zapp frA1 (ret (21 : Int)))))
      (zrt (ret false))
      (znx ())) fun _ =>
    (znx ()))))) fun _ =>
  (zseq (zifS (zor (bnd (zapp (fun x => lft (m_w_fields x)) (ret madehere3)) fun xs => chk (xs = due4 ∧ xs ≠ [] ∧ xs.length ≤ 20) (ret false)) (znot (zapp (fun x => lft (m_w_raised x)) (ret w2.1))))
    (zrt (ret false))
    (znx ())) fun _ =>
  (zseq (zforI (zlist (zcons (ret w2.1) (zcons (ret w2.2) (ret [])))) (0 : Nat) fun c8 x9 =>
    (zseq (zifS (zgetP (fun i => (List.map isLst some1)[i.toNat]?) (ret x9))
      (zseq (chk ((List.map isLst some1)[x9.toNat]? = some true ∧ c8 ≤ 1) (ret (.nx ()))) fun _ => (znx (c8 + 1)))
      (znx c8)) fun d =>
    (znx d))) fun n10 =>
  (chk (n10 ≤ 2) (zseq (zset (ret (("AheadError", []) : ExM))) fun plainly11 =>
  (zseq (zifS (zor (znot (zgetP (fun x => is_ValueError x.1) (ret plainly11))) (zop2 fin_ (ret true) (zapp (fun x => lft (m_w_sorts x)) (ret plainly11))))
    (zrt (ret false))
    (znx ())) fun _ =>
  (zrt (bnd (zapp (fun x => lft (m_w_fields x)) (ret madehere3)) fun xs => chk (xs = due4 ∧ xs ≠ [] ∧ xs.length ≤ 20) (ret true))))))))))))))
noncomputable def m_law (p : List Int) : M Unit Bool := zbody (zbag w_cells p (r_law p))
theorem f_law {G : Gx} {D : Cl} (T : Txt G D) {f : Addr} {fd : FuncData} (F : Fun G.K "law" "law" t_law f fd) : FnG true G.P G.w G.K G.mg G.base 4 f fd ["_law_script"] (spZ G (fun _ : Unit => noE) (fun (q : Unit) (p : List Int) => [(rSc G.K rInt).pr p]) m_law rBl) :=
  fn_ok (g := true) (k := 3) (mb := fun p => zbag w_cells p (r_law p)) (Γn := fun _ _ _ => []) F sc_law (fun _ _ => rfl) (fun _ => rfl) (.inl fun _ _ => rfl) fun q p W =>
  zb_bag (c := k_law) (at_w_bag T) (by decide) (by decide) rfl n_law_0 rfl s_law_1 fun q1 q2 =>
  show ZB G k_law _ W _ [.st ((rSc G.K rInt).pr p), .st ((rRef q1).pr ()), .no, .no, .no, .no, .no, .no, .no, .no, .no, .no] _ (r_law p) _ from
  (zb_cons (zs_setOw s_law_2 (zow_new (R := fun P => rLP P (rDP P)) (tg_lp tg_dp) (freeL_of free_bag) (.st (.st (.no (.no (.no (.no (.no (.no (.no (.no (.no (.no .nil)))))))))))) sub_nil fun N1 => (z_new hasN_newer (zf_list (R := rDP (fun a => N1 a = none)) (zl_cons (z_dp dp_int z_int) (zl_cons (z_dp dp_int z_int) (zl_cons (z_dp dp_int (z_neg z_int)) (zl_cons (z_dp dp_int (z_pow z_int z_int)) (zl_cons (z_dp dp_str z_str) (zl_cons (z_dp dp_str z_str) (zl_cons (z_dp dp_str z_str) (zl_cons (z_dp dp_non z_non) (zl_cons (z_dp dp_bl z_bl) (zl_cons (z_dp dp_bl z_bl) (zl_cons (z_dp dp_t2 (z_tup2 (za_cons z_int (za_one z_int)))) (zl_cons (z_dp dp_lp (z_new hasN_newer (zf_list zl_nil))) (zl_cons (z_dp dp_lpp (z_new hasN_newer (zf_list (zl_cons (z_new hasN_newer (zf_list (zl_cons z_int zl_nil))) zl_nil)))) (zl_cons (z_dp0 (z_dict (zf_dnew (K := kyF G kyfS) (R2 := rInt)))) (zl_cons (z_dp dp_rec (z_rec (zk_one (z_new hasN_newer (zf_list zl_nil))) nx_nox rfl rfl (by simp) (by decide) (by decide) (by decide))) zl_nil))))))))))))))))))) fun some1 =>
  (zb_th (k := 2) rfl fun vs_ =>
  (zb_cons (zs_par2 s_law_8.n s_law_9.n rfl rfl (by decide) (za_cons (z_nthAt n_law_2 rfl (z_call (q := (q1, q2)) (at_w_take T) rfl (by decide) (by decide) (by exact rfl) (za_cons (z_var n_law_1) (za_one z_int)))) (za_one (z_nthAt n_law_2 rfl (z_call (q := (q1, q2)) (at_w_take T) rfl (by decide) (by decide) (by exact rfl) (za_cons (z_var n_law_1) (za_one z_int)))))) sub_nil) fun w2 =>
  (zb_eq (Γ' := [.st ((rSc G.K rInt).pr p), .st ((rRef q1).pr ()), .ow (thO vs_ (List.map isLst some1) 0), .no, .no, .no, .no, .no, .st ((rNth vs_).pr w2.1), .st ((rNth vs_).pr w2.2), .no, .no]) rfl (zb_cons (zs_set s_law_3 (z_callP (q := ()) (at_w_made T) (by decide) (by decide) (by exact rfl) (za_cons (z_var n_law_8) (za_one (z_var n_law_9)))) sub_nil) fun madehere3 =>
  (zb_cons (zs_set s_law_4 (z_list (zl_cons (z_var n_law_8) (zl_cons (z_var n_law_8) (zl_cons (z_var n_law_8) (zl_cons (z_var n_law_8) (zl_cons (z_var n_law_9) (zl_cons (z_var n_law_8) (zl_cons (z_var n_law_8) (zl_cons (z_var n_law_8) (zl_cons (z_var n_law_8) (zl_cons (z_var n_law_8) (zl_cons (z_var n_law_8) (zl_cons (z_var n_law_8) (zl_cons (z_var n_law_8) (zl_cons (z_var n_law_9) (zl_cons (z_var n_law_8) (zl_cons (z_var n_law_8) zl_nil))))))))))))))))) sub_nil) fun due4 =>
  (zb_cons (zs_for (vs := [5]) (Γh := fun _ : Unit => [.st ((rSc G.K rInt).pr p), .st ((rRef q1).pr ()), .ow (thO vs_ (List.map isLst some1) 0), .st ((rLst (rXn G vs_)).pr madehere3), .st ((rLst (rNth vs_)).pr due4), .no, .no, .no, .st ((rNth vs_).pr w2.1), .st ((rNth vs_).pr w2.2), .no, .no]) (zi_r1 (blt_of (u := .type "range") T.b_range (by decide +kernel)) z_int) (SubL.sub (.keep (.keep (.keep (.keep (.keep (.keep (.keep (.keep (.keep (.keep (.keep (.keep SubL.nil))))))))))))) (fun _ => (zg_name s_law_5 (by decide))) (fun _ x5 =>
    (zb_cons (zs_set s_law_10 (z_ixL (z_var n_law_3) (z_var n_law_5)) sub_nil) fun e6 =>
    (zb_cons (zs_if (Γn := fun _ : Unit => [.st ((rSc G.K rInt).pr p), .st ((rRef q1).pr ()), .ow (thO vs_ (List.map isLst some1) 0), .st ((rLst (rXn G vs_)).pr madehere3), .st ((rLst (rNth vs_)).pr due4), .st (rInt.pr x5), .no, .no, .st ((rNth vs_).pr w2.1), .st ((rNth vs_).pr w2.2), .st ((rXn G vs_).pr e6), .no]) (zw_t (zw_or (zt_not (zt_val (z_isXn (t := is_AheadError) (blt_of (u := .builtin "isinstance") T.b_isinstance (by decide +kernel)) (z_var n_law_10) (hyE_own rfl T.g_AheadError) (.own _) (it_AheadError T)))) (zw_or1 (zt_not (zt_val (z_isXn (t := is_ValueError) (blt_of (u := .builtin "isinstance") T.b_isinstance (by decide +kernel)) (z_var n_law_10) (hyE_ty (blt_of (u := .type "ValueError") T.b_ValueError (by decide +kernel))) (.ty _) (it_ValueError T)))))))
      (zb_one (zs_ret z_bl sub_nil))
      (zb_nil (SubL.sub (.keep (.keep (.keep (.keep (.keep (.keep (.keep (.keep (.keep (.keep (.keep (.keep SubL.nil)))))))))))))) sub_nil) fun _ =>
    (zb_cons (zs_if (Γn := fun _ : Unit => [.st ((rSc G.K rInt).pr p), .st ((rRef q1).pr ()), .ow (thO vs_ (List.map isLst some1) 0), .st ((rLst (rXn G vs_)).pr madehere3), .st ((rLst (rNth vs_)).pr due4), .st (rInt.pr x5), .no, .no, .st ((rNth vs_).pr w2.1), .st ((rNth vs_).pr w2.2), .st ((rXn G vs_).pr e6), .no]) (zt_dne (datL datB) (z_callP (q := ()) (at_w_sorts T) (by decide) (by decide) (by exact rfl) (za_one (z_var n_law_10))) (z_lc (Lc.mk (own := [("_law_place", 11)]) (blk_of rfl (by decide +kernel)) (zi_r1 (blt_of (u := .type "range") T.b_range (by decide +kernel)) z_int) (zg_name (ns_of (i := 11) (by decide +kernel)) (by decide)) (fun e7 => zts_nil) (fun e7 => (z_eq scI (z_var (nm_of (i := 11) (by decide +kernel))) (z_var (nm_of (i := 5) (by decide +kernel))))) (lc_no ⟨rfl, trivial⟩) (fun _ _ => rfl))))
      (zb_one (zs_ret z_bl sub_nil))
      (zb_nil (SubL.sub (.keep (.keep (.keep (.keep (.keep (.keep (.keep (.keep (.keep (.keep (.keep (.keep SubL.nil)))))))))))))) sub_nil) fun _ =>
    (zb_nil (SubL.sub (.keep (.keep (.keep (.keep (.keep (.drop (.keep (.keep (.keep (.keep (.drop (.keep SubL.nil)))))))))))))))))) sub_nil) fun _ =>
  (zb_cons (zs_if (Γn := fun _ : Unit => [.st ((rSc G.K rInt).pr p), .st ((rRef q1).pr ()), .ow (thO vs_ (List.map isLst some1) 0), .st ((rLst (rXn G vs_)).pr madehere3), .st ((rLst (rNth vs_)).pr due4), .no, .no, .no, .st ((rNth vs_).pr w2.1), .st ((rNth vs_).pr w2.2), .no, .no]) (zw_t (zw_or (zt_reprC (k := 2) rfl (fun X C => op_ne) rne_str (blt_of (u := .builtin "repr") T.b_repr (by decide +kernel)) (blt_of (u := .builtin "repr") T.b_repr (by decide +kernel)) rfl (by decide) (z_callP (q := ()) (at_w_fields T) (by decide) (by decide) (by exact rfl) (za_one (z_var n_law_3))) n_law_4 rfl) (zw_or1 (zt_not (zt_val (z_callP (q := ()) (at_w_raised T) (by decide) (by decide) (by exact rfl) (za_one (z_var n_law_8))))))))
    (zb_one (zs_ret z_bl sub_nil))
    (zb_nil (SubL.sub (.keep (.keep (.keep (.keep (.keep (.keep (.keep (.keep (.keep (.keep (.keep (.keep SubL.nil)))))))))))))) sub_nil) fun _ =>
  (zb_cons (zs_for (vs := [6]) (Γh := fun c8 : Nat => [.st ((rSc G.K rInt).pr p), .st ((rRef q1).pr ()), .ow (thO vs_ (List.map isLst some1) c8), .st ((rLst (rXn G vs_)).pr madehere3), .st ((rLst (rNth vs_)).pr due4), .no, .no, .no, .st ((rNth vs_).pr w2.1), .st ((rNth vs_).pr w2.2), .no, .no]) (zi_list (z_list (zl_cons (z_var n_law_8) (zl_cons (z_var n_law_9) zl_nil)))) (SubL.sub (.keep (.keep (.keep (.keep (.keep (.keep (.keep (.keep (.keep (.keep (.keep (.keep SubL.nil))))))))))))) (fun c8 => (zg_name s_law_6 (by decide))) (fun c8 x9 =>
    (zb_cons (zs_if (Γn := fun d : Nat => [.st ((rSc G.K rInt).pr p), .st ((rRef q1).pr ()), .ow (thO vs_ (List.map isLst some1) d), .st ((rLst (rXn G vs_)).pr madehere3), .st ((rLst (rNth vs_)).pr due4), .no, .st ((rNth vs_).pr x9), .no, .st ((rNth vs_).pr w2.1), .st ((rNth vs_).pr w2.2), .no, .no]) (zt_val (z_isLst (k := 2) (blt_of (u := .builtin "isinstance") T.b_isinstance (by decide +kernel)) (blt_of (u := .type "list") T.b_list (by decide +kernel)) rfl (z_var n_law_6))) (zb_cons (zs_more (k := 2) n_law_6 rfl rfl) fun _ => (zb_eq (Γ' := [.st ((rSc G.K rInt).pr p), .st ((rRef q1).pr ()), .ow (thO vs_ (List.map isLst some1) (c8 + 1)), .st ((rLst (rXn G vs_)).pr madehere3), .st ((rLst (rNth vs_)).pr due4), .no, .st ((rNth vs_).pr x9), .no, .st ((rNth vs_).pr w2.1), .st ((rNth vs_).pr w2.2), .no, .no]) rfl (zb_nil (SubL.sub (.keep (.keep (.keep (.keep (.keep (.keep (.keep (.keep (.keep (.keep (.keep (.keep SubL.nil)))))))))))))))) (zb_nil (SubL.sub (.keep (.keep (.keep (.keep (.keep (.keep (.keep (.keep (.keep (.keep (.keep (.keep SubL.nil)))))))))))))) sub_nil) fun d => (zb_nil (SubL.sub (.keep (.keep (.keep (.keep (.keep (.keep (.drop (.keep (.keep (.keep (.keep (.keep SubL.nil)))))))))))))))) sub_nil) fun n10 =>
  (zb_chk fun hn =>
  (zb_cons (zs_set s_law_7 (z_exnA (xA_AheadError T) rfl) sub_nil) fun plainly11 =>
  (zb_cons (zs_if (Γn := fun _ : Unit => [.st ((rSc G.K rInt).pr p), .st ((rRef q1).pr ()), .ow (thO vs_ (List.map isLst some1) n10), .st ((rLst (rXn G vs_)).pr madehere3), .st ((rLst (rNth vs_)).pr due4), .no, .no, .st ((rXn G vs_).pr plainly11), .st ((rNth vs_).pr w2.1), .st ((rNth vs_).pr w2.2), .no, .no]) (zw_t (zw_or (zt_not (zt_val (z_isXn (t := is_ValueError) (blt_of (u := .builtin "isinstance") T.b_isinstance (by decide +kernel)) (z_var n_law_7) (hyE_ty (blt_of (u := .type "ValueError") T.b_ValueError (by decide +kernel))) (.ty _) (it_ValueError T)))) (zw_or1 (zt_inL inB z_bl (z_callP (q := ()) (at_w_sorts T) (by decide) (by decide) (by exact rfl) (za_one (z_var n_law_7)))))))
    (zb_one (zs_ret z_bl sub_nil))
    (zb_nil (SubL.sub (.keep (.keep (.keep (.keep (.keep (.keep (.keep (.keep (.keep (.keep (.keep (.keep SubL.nil)))))))))))))) sub_nil) fun _ =>
  (zb_one (zs_ret (z_reprC (k := 2) rfl (fun X C => op_eq) req_str (blt_of (u := .builtin "repr") T.b_repr (by decide +kernel)) (blt_of (u := .builtin "repr") T.b_repr (by decide +kernel)) rfl hn (z_callP (q := ()) (at_w_fields T) (by decide) (by decide) (by exact rfl) (za_one (z_var n_law_3))) n_law_4 rfl) sub_nil))))))))))))))
end Zk

namespace Zk
open PySem L2
theorem ok_cellat {n : M Bag Int} : Ok Bok (zifS (zop2 ilt (bget Bag.pos) (zapp blen (ret ()))) (zseq (zset (bcell (ret ()) (bget Bag.pos))) fun c => znx c) (znx (0 : Int)) : M Bag (Fl Int Empty Int)) (fun o => match o with | .nx v => 0 ≤ v | _ => False) := fun s hs => by
  obtain ⟨h1, h2, h3, h4⟩ := id hs
  by_cases hp : s.pos < s.cells.length
  · have e : atI s.cells s.pos = some (s.cells[s.pos.toNat]'(by omega)) := atI_nat h3 (by omega)
    refine ⟨.nx _, s, ?_, hs, h4 _ (List.getElem_mem (by omega : s.pos.toNat < s.cells.length))⟩
    simp only [zifS, zop2, bnd, bget, zapp, ret, blen, ilt, hp, decide_true, if_true, zseq, zset, bcell, e, znx]
  · refine ⟨.nx 0, s, ?_, hs, Int.le_refl 0⟩
    simp only [zifS, zop2, bnd, bget, zapp, ret, blen, ilt, hp, decide_false, znx]
    rfl
theorem ok_take {n : Int} (h1 : 1 ≤ n) (h2 : n < 2 ^ 9000) : Ok Bok (m_w_take ((), n)) (fun v => 0 ≤ v ∧ v < n) := by
  unfold m_w_take b_w_take
  refine ok_body ?_
  refine oks_seq (N := fun _ => True) (oks_if (P := fun _ => True) (ok_op2 (P1 := fun _ => True) (P2 := fun _ => True) (ok_bget fun _ _ => trivial) (ok_ret trivial) fun a b _ _ => ok_ret trivial) (fun _ => ?_) (fun _ => oks_nx trivial)) fun _ _ => ?_
  · refine oks_seq (N := fun v => v = 0) (oks_set (ok_ret rfl)) fun c hc => ?_
    subst hc
    refine oks_seq (N := fun v => 0 ≤ v) (fun s hs => ?_) fun j hj => ?_
    · obtain ⟨o, s', e, i, p⟩ := ok_cellat (n := ret 0) s hs
      cases o with
      | nx a => exact ⟨_, _, e, i, p⟩
      | rt a => exact p.elim
      | bk a => exact p.elim
      | ct a => exact p.elim
    refine oks_seq (oks_bput (P := fun v => 0 ≤ v) (ok_op2 (P1 := fun v => 0 ≤ v) (P2 := fun v => v = 1) (ok_bget fun s hs => hs.2.2.1) (ok_ret rfl) fun a b ha hb => ok_ret (by omega)) fun s v hs hv => ⟨hs.1, hs.2.1, hv, hs.2.2.2⟩) fun _ _ => ?_
    refine oks_seq (N := fun _ => True) (oks_if (P := fun _ => True) (ok_ret trivial) (fun _ => ?_) (fun _ => oks_nx trivial)) fun _ _ => ?_
    · exact oks_seq (oks_bput (P := fun v => 0 ≤ v) (ok_ret hj) fun s v hs hv => ⟨hv, hs.2.1, hs.2.2.1, hs.2.2.2⟩) fun _ _ => oks_nx trivial
    refine oks_seq (oks_bput (P := fun v => 0 ≤ v) ?_ fun s v hs hv => ⟨hs.1, hv, hs.2.2.1, hs.2.2.2⟩) fun _ _ => oks_nx trivial
    refine ok_op2 (P1 := fun v => 0 ≤ v) (P2 := fun v => v = 2147483647) ?_ (ok_ret rfl) fun a b ha hb => ?_
    · refine ok_op2 (P1 := fun v => 0 ≤ v) (P2 := fun v => 0 ≤ v) (ok_op2 (P1 := fun v => 0 ≤ v) (P2 := fun v => 0 ≤ v) ?_ ?_ fun a b ha hb => ok_ret (by omega)) ?_ fun a b ha hb => ok_ret (by omega)
      · refine ok_op2 (P1 := fun v => 0 ≤ v) (P2 := fun v => v = 48271) (ok_bget fun s hs => hs.2.1) (ok_ret rfl) fun a b ha hb => ?_
        subst hb; rw [imul_eq (mul_small (by omega))]; exact ok_ret (by omega)
      · rw [zop2_ret, imod_eq (by omega)]; exact ok_ret (by omega)
      · refine ok_op2 (P1 := fun v => v = 7919) (P2 := fun v => 0 ≤ v) (ok_ret rfl) (ok_bget fun s hs => hs.2.2.1) fun a b ha hb => ?_
        subst ha; rw [imul_eq (mul_smallL (by omega))]; exact ok_ret (by omega)
    · subst hb; rw [imod_eq (by omega)]; exact ok_ret (by omega)
  refine oks_seq (N := fun _ => True) (oks_if (P := fun _ => True) (ok_op2 (P1 := fun _ => True) (P2 := fun _ => True) (ok_bget fun _ _ => trivial) (ok_ret trivial) fun a b _ _ => ok_ret trivial) (fun _ => ?_) (fun _ => oks_nx trivial)) fun _ _ => ?_
  · refine oks_seq (N := fun v => 0 ≤ v ∧ v < n) (oks_set (ok_op2 (P1 := fun v => 0 ≤ v) (P2 := fun v => v = n) (ok_bget fun s hs => hs.1) (ok_ret rfl) fun a b ha hb => ?_)) fun v hv => ?_
    · subst hb; rw [imod_eq (by omega)]; exact ok_ret ⟨Int.emod_nonneg _ (by omega), Int.emod_lt_of_pos _ (by omega)⟩
    · refine oks_seq (oks_bput (P := fun v => 0 ≤ v) (ok_op2 (P1 := fun v => 0 ≤ v) (P2 := fun v => v = n) (ok_bget fun s hs => hs.1) (ok_ret rfl) fun a b ha hb => ?_) fun s v hs hv => ⟨hv, hs.2.1, hs.2.2.1, hs.2.2.2⟩) fun _ _ => oks_rt (ok_ret hv)
      subst hb; rw [idiv_eq (div_ok (by omega) h2)]; exact ok_ret (Int.ediv_nonneg ha (by omega))
  refine oks_seq (N := fun v => 0 ≤ v ∧ v < 1000000007) (oks_set (ok_op2 (P1 := fun v => 0 ≤ v) (P2 := fun v => v = 1000000007) ?_ (ok_ret rfl) fun a b ha hb => ?_)) fun f hf => ?_
  · refine ok_op2 (P1 := fun v => 0 ≤ v) (P2 := fun v => v = 39373) (ok_op2 (P1 := fun v => 0 ≤ v) (P2 := fun v => v = 1) (ok_bget fun s hs => hs.2.1) (ok_ret rfl) fun a b ha hb => ok_ret (by omega)) (ok_ret rfl) fun a b ha hb => ?_
    subst hb; rw [imul_eq (mul_small (by omega))]; exact ok_ret (by omega)
  · subst hb; rw [imod_eq (by omega)]; exact ok_ret (by omega)
  have e1 : (zop2 imod (zop2 imul (zop2 imod (zop2 imul (ret f) (ret f)) (ret (998244353 : Int))) (ret (30011 : Int))) (ret (998244353 : Int)) : M Bag Int) = ret (f * f % 998244353 * 30011 % 998244353) := by
    rw [zop2_ret, imul_eq (mul_small (by omega)), zop2_ret, imod_eq (by omega), zop2_ret, imul_eq (mul_small (by omega)), zop2_ret, imod_eq (by omega)]
  rw [e1, zset_ret, zseq_nx]
  have hs : 0 ≤ f * f % 998244353 * 30011 % 998244353 ∧ f * f % 998244353 * 30011 % 998244353 < 998244353 := by omega
  generalize f * f % 998244353 * 30011 % 998244353 = g at hs
  rw [zop2_ret, igt_eq, zifS_ret]
  split
  · rw [zop2_ret, imul_eq (mul_small (by omega)), zop2_ret, iadd_eq, zop2_ret, imod_eq (by omega), zrt_ret, zseq_rt]
    exact oks_rt (ok_ret ⟨Int.emod_nonneg _ (by omega), Int.emod_lt_of_pos _ (by omega)⟩)
  · rw [znx_ret, zseq_nx, zop2_ret, idiv_eq (div_ok (by omega) (by omega)), zop2_ret, imod_eq (by omega), zrt_ret]
    exact oks_rt (ok_ret ⟨Int.emod_nonneg _ (by omega), Int.emod_lt_of_pos _ (by omega)⟩)
end Zk

namespace Zk
open PySem L2
theorem w_cells_ok (ns : List Int) (h : ns.length ≤ 63) : ∃ cs, w_cells ns = ret cs ∧ ∀ x ∈ cs, 0 ≤ x := by
  refine ⟨((ns.take 63).map fun x => if x < 0 then -x else x), ?_, fun x hx => ?_⟩
  · unfold w_cells
    rw [zsome_ret, zsl_ret, show cut ns none (some (63 : Int)) = ns.take 63 from cut_hi 63, zlc_map (g := fun x => if x < 0 then -x else x) (fun x _ => by rw [zapp_ret, fabs_eq]) (by rw [List.length_take, show sizeLine = 16777216 by decide]; omega)]
  · obtain ⟨y, _, rfl⟩ := List.mem_map.mp hx
    split <;> omega
theorem tkU {u : Unit} {n : Int} (h1 : 1 ≤ n) (h2 : n < 2 ^ 9000) : Ok Bok (zapp m_w_take (zpair (ret u) (ret n))) (fun v => 0 ≤ v ∧ v < n) := ok_take h1 h2
/-- all refusals, made of two things -/
def madeF (i j : Int) : List ExM := [("Wrong", [("at", i)]), ("Twice", [("name", i)]), ("NoWalker", [("name", i)]), ("Again", [("other", j), ("one", i)]), ("Lacks", [("name", i)]), ("Short", [("name", i)]), ("TooFar", [("most", i)]), ("TooGreat", [("most", i)]), ("Stopped", [("at", i)]), ("Apart", [("name", i)]), ("TooMany", [("most", i)]), ("NotPlain", [("other", j), ("one", i)]), ("Unlike", []), ("Full", [("most", i)]), ("Taken", [("name", i)]), ("Few", []), ("NoDeed", []), ("Nothing", []), ("NoText", []), ("NoLine", []), ("NoBook", [])]
def dueF (i j : Int) : List Int := [i, i, i, i, j, i, i, i, i, i, i, i, i, j, i, i]
theorem made_eq (i j : Int) : m_w_made (i, j) = ret (madeF i j) := rfl
theorem fields_eq (i j : Int) : m_w_fields (madeF i j) = ret (dueF i j) := rfl
theorem e40 : (zop2 ipow (ret (10 : Int)) (ret (40 : Int)) : M Bag Int) = ret (10 ^ 40) := by
  rw [zop2_ret]
  exact chk_pos (by unfold powOk CPow; decide)
def someF : List PyData := [.int 0, .int 1, .int (-7), .int (10 ^ 40), .str "", .str "a", .str "walker", .none, .bool true, .bool false, .tuple [.int 1, .int 2], .list [], .list [.list [.int 3]], .dict [], .dict [(.str "a", .list [])]]
theorem mos_some : mosB 6 60 someF = true := by decide +kernel
def flagF : List Bool := [false, false, false, false, false, false, false, false, false, false, false, true, true, false, false]
theorem flags : List.map isLst someF = flagF := rfl
def rowF (k : Nat) : List Bool := (rng 0 21).map fun e : Int => decide (e = (k : Int))
theorem sorts_A : m_w_sorts ("AheadError", []) = ret (List.replicate 21 false) := rfl
theorem turn (i j : Int) : ∀ k : Nat, k < 21 → ∃ x, (ixat (madeF i j) (k : Int) : M Bag ExM) = ret x ∧ is_AheadError x.1 = some true ∧ is_ValueError x.1 = some true ∧ m_w_sorts x = ret (rowF k)
  | 0, _ => ⟨_, rfl, rfl, rfl, rfl⟩
  | 1, _ => ⟨_, rfl, rfl, rfl, rfl⟩
  | 2, _ => ⟨_, rfl, rfl, rfl, rfl⟩
  | 3, _ => ⟨_, rfl, rfl, rfl, rfl⟩
  | 4, _ => ⟨_, rfl, rfl, rfl, rfl⟩
  | 5, _ => ⟨_, rfl, rfl, rfl, rfl⟩
  | 6, _ => ⟨_, rfl, rfl, rfl, rfl⟩
  | 7, _ => ⟨_, rfl, rfl, rfl, rfl⟩
  | 8, _ => ⟨_, rfl, rfl, rfl, rfl⟩
  | 9, _ => ⟨_, rfl, rfl, rfl, rfl⟩
  | 10, _ => ⟨_, rfl, rfl, rfl, rfl⟩
  | 11, _ => ⟨_, rfl, rfl, rfl, rfl⟩
  | 12, _ => ⟨_, rfl, rfl, rfl, rfl⟩
  | 13, _ => ⟨_, rfl, rfl, rfl, rfl⟩
  | 14, _ => ⟨_, rfl, rfl, rfl, rfl⟩
  | 15, _ => ⟨_, rfl, rfl, rfl, rfl⟩
  | 16, _ => ⟨_, rfl, rfl, rfl, rfl⟩
  | 17, _ => ⟨_, rfl, rfl, rfl, rfl⟩
  | 18, _ => ⟨_, rfl, rfl, rfl, rfl⟩
  | 19, _ => ⟨_, rfl, rfl, rfl, rfl⟩
  | 20, _ => ⟨_, rfl, rfl, rfl, rfl⟩
  | k + 21, h => absurd h (by omega)
theorem mem_rng21 {x : Int} (h : x ∈ rng 0 21) : ∃ k : Nat, x = k ∧ k < 21 := by
  obtain ⟨i, hi, e⟩ := List.getElem_of_mem h
  rw [rng_length] at hi
  refine ⟨i, ?_, hi⟩
  rw [← e]
  have : ∀ i, (hi : i < (rng 0 21).length) → (rng 0 21)[i] = (i : Int) := by decide
  exact this i _
theorem law_true : ∀ ns : List Int, ns.length ≤ 63 → m_law ns () = .ok true () := fun xs hx => by
  obtain ⟨cs, ec, hc⟩ := w_cells_ok xs hx
  unfold m_law
  refine law_end (I := Bok) ec ⟨Int.le_refl 0, (by decide : (0 : Int) ≤ 1234567891), Int.le_refl 0, hc⟩ ?_
  unfold r_law
  rw [e40]
  refine oks_seq (N := fun s => s = someF) (show OkS Bok (ret (Fl.nx someF)) _ _ _ _ from oks_nx rfl) fun s hs => ?_
  subst hs
  rw [chk_pos mos_some, flags]
  have tk : Ok Bok (bnd (zapp m_w_take (zpair (ret ()) (ret (15 : Int)))) fun i => chk (0 ≤ i ∧ i.toNat < flagF.length) (ret i)) (fun v => 0 ≤ v ∧ v < 15) := ok_bnd (tkU (by omega) (by omega)) fun i hi => by
    have h15 : flagF.length = 15 := rfl
    rw [chk_pos ⟨hi.1, by rw [h15]; omega⟩]
    exact ok_ret hi
  refine oks_seq (N := fun w : Int × Int => (0 ≤ w.1 ∧ w.1 < 15) ∧ 0 ≤ w.2 ∧ w.2 < 15) (oks_set ((ok_pair tk tk).mono fun q hq => hq)) fun w hw => ?_
  obtain ⟨i, j⟩ := w
  obtain ⟨hi, hj⟩ := hw
  dsimp only at hi hj ⊢
  rw [zpair_ret, zapp_ret, made_eq, lft_ret, zset_ret, zseq_nx]
  refine oks_seq (N := fun d => d = dueF i j) (show OkS Bok (ret (Fl.nx (dueF i j))) _ _ _ _ from oks_nx rfl) fun d hd => ?_
  subst hd
  rw [zapp_ret, frA1_eq, zforI_ret, zfor_same fun x hx => ?_, zseq_nx]
  · have hd : dueF i j ≠ [] := by unfold dueF; simp
    have hl : (dueF i j).length ≤ 20 := by show 16 ≤ 20; decide
    rw [zapp_ret, fields_eq, lft_ret, bnd_ret, chk_pos ⟨rfl, hd, hl⟩, zor_f, zapp_ret, show m_w_raised i = ret true from rfl, lft_ret, znot_ret, zifS_ret, if_neg (by decide), znx_ret, zseq_nx]
    rw [zcons_ret, zcons_ret, zlist_eq (by simp)]
    refine oks_seq (N := fun n : Nat => n ≤ 2) (oks_for (J := fun r c => (∀ x ∈ r, 0 ≤ x ∧ x < 15) ∧ c + r.length ≤ 2) ⟨fun x hx => by
      rcases List.mem_cons.mp hx with rfl | hx
      · exact hi
      · rw [List.mem_singleton.mp hx]; exact hj, by simp⟩ (fun x r c hc => ?_) fun c hc => by have := hc.2; simpa using this) fun n hn => ?_
    · obtain ⟨h1, h2⟩ := hc
      have hx := h1 x (by simp)
      rw [List.length_cons] at h2
      have h15 : flagF.length = 15 := rfl
      have hf : flagF[x.toNat]? = some (flagF[x.toNat]'(by rw [h15]; omega)) := List.getElem?_eq_getElem _
      generalize (flagF[x.toNat]'(by rw [h15]; omega)) = b at hf
      have a1 : (zgetP (fun i => flagF[i.toNat]?) (ret x) : M Bag Bool) = ret b := by
        show mopt (flagF[x.toNat]?) = _
        rw [hf]; rfl
      rw [a1, zifS_ret]
      cases b with
      | true =>
        rw [if_pos rfl, chk_pos ⟨hf, by omega⟩, zseq_nx, znx_ret, zseq_nx]
        exact oks_nx ⟨fun y hy => h1 y (by simp [hy]), by omega⟩
      | false =>
        rw [if_neg (by decide), znx_ret, zseq_nx]
        exact oks_nx ⟨fun y hy => h1 y (by simp [hy]), by omega⟩
    · rw [chk_pos hn, zset_ret, zseq_nx]
      have b1 : (zgetP (fun x => is_ValueError x.1) (ret (("AheadError", []) : ExM)) : M Bag Bool) = ret true := rfl
      rw [b1, znot_ret, show (!true) = false from rfl, zor_f, zapp_ret, sorts_A, lft_ret]
      have b2 : (zop2 fin_ (ret true) (ret (List.replicate 21 false)) : M Bag Bool) = ret false := rfl
      rw [b2, zifS_ret, if_neg (by decide), zseq_nx, bnd_ret, chk_pos ⟨rfl, hd, hl⟩]
      exact oks_rt (ok_ret rfl)
  · obtain ⟨k, rfl, hk⟩ := mem_rng21 hx
    obtain ⟨x, h1, h2, h3, h4⟩ := turn i j k hk
    have a1 : (zgetP (fun x => is_AheadError x.1) (ret x) : M Bag Bool) = ret true := by
      show mopt (is_AheadError x.1) = _
      rw [h2]; rfl
    have a2 : (zgetP (fun x => is_ValueError x.1) (ret x) : M Bag Bool) = ret true := by
      show mopt (is_ValueError x.1) = _
      rw [h3]; rfl
    rw [zop2_ret, h1, zset_ret, zseq_nx, a1, znot_ret, show (!true) = false from rfl, zor_f, a2, znot_ret, zifS_ret, if_neg (by decide), znx_ret, zseq_nx, zapp_ret, h4, lft_ret, zlc_map (g := fun e : Int => decide (e = (k : Int))) (fun e _ => by rw [zop2_ret, feq_eq]) (by decide), zop2_ret, show ((rng 0 (21 : Int).toNat).map fun e : Int => decide (e = (k : Int))) = rowF k from rfl, dne_eq deq_bls, decide_eq_true rfl, zifS_ret, if_neg (by decide), zseq_nx]
end Zk

namespace Zk
open PySem L2

theorem all_mk {P : Program} {w : World} {K : PySem.W.Frag} {h : Heap} {mg : Str → Option Value} {fa C_AheadError C_Again f_Again_init C_Apart f_Apart_init C_Few f_Few_init C_Full f_Full_init C_Lacks f_Lacks_init C_NoBook f_NoBook_init C_NoDeed f_NoDeed_init C_NoLine f_NoLine_init C_NoText f_NoText_init C_NoWalker f_NoWalker_init C_NotPlain f_NotPlain_init C_Nothing f_Nothing_init C_Short f_Short_init C_Stopped f_Stopped_init C_Taken f_Taken_init C_TooFar f_TooFar_init C_TooGreat f_TooGreat_init C_TooMany f_TooMany_init C_Twice f_Twice_init C_Unlike f_Unlike_init C_Wrong f_Wrong_init f_w_bag f_w_take f_w_made f_w_sorts f_w_fields f_w_raised f_law : Addr} (X : K.In h) (G : h.Ns mainGlobals mg) (hfa : mg "law" = some (.ref fa))
    {nm_Again q_Again : Str} {N_Again : Addr} {bs_Again bm_Again : List Value} {sn_Again : List Str} {sub_Again : List Value} {ab_Again : Bool} {col_Again : Option Bool} {dd_Again : Option Addr} {m0_Again m1_Again m2_Again m3_Again m5_Again : Option Value}
    {od_Again_init an_Again_init : Option Addr} {sl_Again_init : Array (Option Value)} {oc_Again_init kV_Again_init dc_Again_init pm_Again_init cd_Again_init ct_Again_init : Value}
    {nm_Apart q_Apart : Str} {N_Apart : Addr} {bs_Apart bm_Apart : List Value} {sn_Apart : List Str} {sub_Apart : List Value} {ab_Apart : Bool} {col_Apart : Option Bool} {dd_Apart : Option Addr} {m0_Apart m1_Apart m2_Apart m3_Apart m5_Apart : Option Value}
    {od_Apart_init an_Apart_init : Option Addr} {sl_Apart_init : Array (Option Value)} {oc_Apart_init kV_Apart_init dc_Apart_init pm_Apart_init cd_Apart_init ct_Apart_init : Value}
    {nm_Few q_Few : Str} {N_Few : Addr} {bs_Few bm_Few : List Value} {sn_Few : List Str} {sub_Few : List Value} {ab_Few : Bool} {col_Few : Option Bool} {dd_Few : Option Addr} {m0_Few m1_Few m2_Few m3_Few m5_Few : Option Value}
    {od_Few_init an_Few_init : Option Addr} {sl_Few_init : Array (Option Value)} {oc_Few_init kV_Few_init dc_Few_init pm_Few_init cd_Few_init ct_Few_init : Value}
    {nm_Full q_Full : Str} {N_Full : Addr} {bs_Full bm_Full : List Value} {sn_Full : List Str} {sub_Full : List Value} {ab_Full : Bool} {col_Full : Option Bool} {dd_Full : Option Addr} {m0_Full m1_Full m2_Full m3_Full m5_Full : Option Value}
    {od_Full_init an_Full_init : Option Addr} {sl_Full_init : Array (Option Value)} {oc_Full_init kV_Full_init dc_Full_init pm_Full_init cd_Full_init ct_Full_init : Value}
    {nm_Lacks q_Lacks : Str} {N_Lacks : Addr} {bs_Lacks bm_Lacks : List Value} {sn_Lacks : List Str} {sub_Lacks : List Value} {ab_Lacks : Bool} {col_Lacks : Option Bool} {dd_Lacks : Option Addr} {m0_Lacks m1_Lacks m2_Lacks m3_Lacks m5_Lacks : Option Value}
    {od_Lacks_init an_Lacks_init : Option Addr} {sl_Lacks_init : Array (Option Value)} {oc_Lacks_init kV_Lacks_init dc_Lacks_init pm_Lacks_init cd_Lacks_init ct_Lacks_init : Value}
    {nm_NoBook q_NoBook : Str} {N_NoBook : Addr} {bs_NoBook bm_NoBook : List Value} {sn_NoBook : List Str} {sub_NoBook : List Value} {ab_NoBook : Bool} {col_NoBook : Option Bool} {dd_NoBook : Option Addr} {m0_NoBook m1_NoBook m2_NoBook m3_NoBook m5_NoBook : Option Value}
    {od_NoBook_init an_NoBook_init : Option Addr} {sl_NoBook_init : Array (Option Value)} {oc_NoBook_init kV_NoBook_init dc_NoBook_init pm_NoBook_init cd_NoBook_init ct_NoBook_init : Value}
    {nm_NoDeed q_NoDeed : Str} {N_NoDeed : Addr} {bs_NoDeed bm_NoDeed : List Value} {sn_NoDeed : List Str} {sub_NoDeed : List Value} {ab_NoDeed : Bool} {col_NoDeed : Option Bool} {dd_NoDeed : Option Addr} {m0_NoDeed m1_NoDeed m2_NoDeed m3_NoDeed m5_NoDeed : Option Value}
    {od_NoDeed_init an_NoDeed_init : Option Addr} {sl_NoDeed_init : Array (Option Value)} {oc_NoDeed_init kV_NoDeed_init dc_NoDeed_init pm_NoDeed_init cd_NoDeed_init ct_NoDeed_init : Value}
    {nm_NoLine q_NoLine : Str} {N_NoLine : Addr} {bs_NoLine bm_NoLine : List Value} {sn_NoLine : List Str} {sub_NoLine : List Value} {ab_NoLine : Bool} {col_NoLine : Option Bool} {dd_NoLine : Option Addr} {m0_NoLine m1_NoLine m2_NoLine m3_NoLine m5_NoLine : Option Value}
    {od_NoLine_init an_NoLine_init : Option Addr} {sl_NoLine_init : Array (Option Value)} {oc_NoLine_init kV_NoLine_init dc_NoLine_init pm_NoLine_init cd_NoLine_init ct_NoLine_init : Value}
    {nm_NoText q_NoText : Str} {N_NoText : Addr} {bs_NoText bm_NoText : List Value} {sn_NoText : List Str} {sub_NoText : List Value} {ab_NoText : Bool} {col_NoText : Option Bool} {dd_NoText : Option Addr} {m0_NoText m1_NoText m2_NoText m3_NoText m5_NoText : Option Value}
    {od_NoText_init an_NoText_init : Option Addr} {sl_NoText_init : Array (Option Value)} {oc_NoText_init kV_NoText_init dc_NoText_init pm_NoText_init cd_NoText_init ct_NoText_init : Value}
    {nm_NoWalker q_NoWalker : Str} {N_NoWalker : Addr} {bs_NoWalker bm_NoWalker : List Value} {sn_NoWalker : List Str} {sub_NoWalker : List Value} {ab_NoWalker : Bool} {col_NoWalker : Option Bool} {dd_NoWalker : Option Addr} {m0_NoWalker m1_NoWalker m2_NoWalker m3_NoWalker m5_NoWalker : Option Value}
    {od_NoWalker_init an_NoWalker_init : Option Addr} {sl_NoWalker_init : Array (Option Value)} {oc_NoWalker_init kV_NoWalker_init dc_NoWalker_init pm_NoWalker_init cd_NoWalker_init ct_NoWalker_init : Value}
    {nm_NotPlain q_NotPlain : Str} {N_NotPlain : Addr} {bs_NotPlain bm_NotPlain : List Value} {sn_NotPlain : List Str} {sub_NotPlain : List Value} {ab_NotPlain : Bool} {col_NotPlain : Option Bool} {dd_NotPlain : Option Addr} {m0_NotPlain m1_NotPlain m2_NotPlain m3_NotPlain m5_NotPlain : Option Value}
    {od_NotPlain_init an_NotPlain_init : Option Addr} {sl_NotPlain_init : Array (Option Value)} {oc_NotPlain_init kV_NotPlain_init dc_NotPlain_init pm_NotPlain_init cd_NotPlain_init ct_NotPlain_init : Value}
    {nm_Nothing q_Nothing : Str} {N_Nothing : Addr} {bs_Nothing bm_Nothing : List Value} {sn_Nothing : List Str} {sub_Nothing : List Value} {ab_Nothing : Bool} {col_Nothing : Option Bool} {dd_Nothing : Option Addr} {m0_Nothing m1_Nothing m2_Nothing m3_Nothing m5_Nothing : Option Value}
    {od_Nothing_init an_Nothing_init : Option Addr} {sl_Nothing_init : Array (Option Value)} {oc_Nothing_init kV_Nothing_init dc_Nothing_init pm_Nothing_init cd_Nothing_init ct_Nothing_init : Value}
    {nm_Short q_Short : Str} {N_Short : Addr} {bs_Short bm_Short : List Value} {sn_Short : List Str} {sub_Short : List Value} {ab_Short : Bool} {col_Short : Option Bool} {dd_Short : Option Addr} {m0_Short m1_Short m2_Short m3_Short m5_Short : Option Value}
    {od_Short_init an_Short_init : Option Addr} {sl_Short_init : Array (Option Value)} {oc_Short_init kV_Short_init dc_Short_init pm_Short_init cd_Short_init ct_Short_init : Value}
    {nm_Stopped q_Stopped : Str} {N_Stopped : Addr} {bs_Stopped bm_Stopped : List Value} {sn_Stopped : List Str} {sub_Stopped : List Value} {ab_Stopped : Bool} {col_Stopped : Option Bool} {dd_Stopped : Option Addr} {m0_Stopped m1_Stopped m2_Stopped m3_Stopped m5_Stopped : Option Value}
    {od_Stopped_init an_Stopped_init : Option Addr} {sl_Stopped_init : Array (Option Value)} {oc_Stopped_init kV_Stopped_init dc_Stopped_init pm_Stopped_init cd_Stopped_init ct_Stopped_init : Value}
    {nm_Taken q_Taken : Str} {N_Taken : Addr} {bs_Taken bm_Taken : List Value} {sn_Taken : List Str} {sub_Taken : List Value} {ab_Taken : Bool} {col_Taken : Option Bool} {dd_Taken : Option Addr} {m0_Taken m1_Taken m2_Taken m3_Taken m5_Taken : Option Value}
    {od_Taken_init an_Taken_init : Option Addr} {sl_Taken_init : Array (Option Value)} {oc_Taken_init kV_Taken_init dc_Taken_init pm_Taken_init cd_Taken_init ct_Taken_init : Value}
    {nm_TooFar q_TooFar : Str} {N_TooFar : Addr} {bs_TooFar bm_TooFar : List Value} {sn_TooFar : List Str} {sub_TooFar : List Value} {ab_TooFar : Bool} {col_TooFar : Option Bool} {dd_TooFar : Option Addr} {m0_TooFar m1_TooFar m2_TooFar m3_TooFar m5_TooFar : Option Value}
    {od_TooFar_init an_TooFar_init : Option Addr} {sl_TooFar_init : Array (Option Value)} {oc_TooFar_init kV_TooFar_init dc_TooFar_init pm_TooFar_init cd_TooFar_init ct_TooFar_init : Value}
    {nm_TooGreat q_TooGreat : Str} {N_TooGreat : Addr} {bs_TooGreat bm_TooGreat : List Value} {sn_TooGreat : List Str} {sub_TooGreat : List Value} {ab_TooGreat : Bool} {col_TooGreat : Option Bool} {dd_TooGreat : Option Addr} {m0_TooGreat m1_TooGreat m2_TooGreat m3_TooGreat m5_TooGreat : Option Value}
    {od_TooGreat_init an_TooGreat_init : Option Addr} {sl_TooGreat_init : Array (Option Value)} {oc_TooGreat_init kV_TooGreat_init dc_TooGreat_init pm_TooGreat_init cd_TooGreat_init ct_TooGreat_init : Value}
    {nm_TooMany q_TooMany : Str} {N_TooMany : Addr} {bs_TooMany bm_TooMany : List Value} {sn_TooMany : List Str} {sub_TooMany : List Value} {ab_TooMany : Bool} {col_TooMany : Option Bool} {dd_TooMany : Option Addr} {m0_TooMany m1_TooMany m2_TooMany m3_TooMany m5_TooMany : Option Value}
    {od_TooMany_init an_TooMany_init : Option Addr} {sl_TooMany_init : Array (Option Value)} {oc_TooMany_init kV_TooMany_init dc_TooMany_init pm_TooMany_init cd_TooMany_init ct_TooMany_init : Value}
    {nm_Twice q_Twice : Str} {N_Twice : Addr} {bs_Twice bm_Twice : List Value} {sn_Twice : List Str} {sub_Twice : List Value} {ab_Twice : Bool} {col_Twice : Option Bool} {dd_Twice : Option Addr} {m0_Twice m1_Twice m2_Twice m3_Twice m5_Twice : Option Value}
    {od_Twice_init an_Twice_init : Option Addr} {sl_Twice_init : Array (Option Value)} {oc_Twice_init kV_Twice_init dc_Twice_init pm_Twice_init cd_Twice_init ct_Twice_init : Value}
    {nm_Unlike q_Unlike : Str} {N_Unlike : Addr} {bs_Unlike bm_Unlike : List Value} {sn_Unlike : List Str} {sub_Unlike : List Value} {ab_Unlike : Bool} {col_Unlike : Option Bool} {dd_Unlike : Option Addr} {m0_Unlike m1_Unlike m2_Unlike m3_Unlike m5_Unlike : Option Value}
    {od_Unlike_init an_Unlike_init : Option Addr} {sl_Unlike_init : Array (Option Value)} {oc_Unlike_init kV_Unlike_init dc_Unlike_init pm_Unlike_init cd_Unlike_init ct_Unlike_init : Value}
    {nm_Wrong q_Wrong : Str} {N_Wrong : Addr} {bs_Wrong bm_Wrong : List Value} {sn_Wrong : List Str} {sub_Wrong : List Value} {ab_Wrong : Bool} {col_Wrong : Option Bool} {dd_Wrong : Option Addr} {m0_Wrong m1_Wrong m2_Wrong m3_Wrong m5_Wrong : Option Value}
    {od_Wrong_init an_Wrong_init : Option Addr} {sl_Wrong_init : Array (Option Value)} {oc_Wrong_init kV_Wrong_init dc_Wrong_init pm_Wrong_init cd_Wrong_init ct_Wrong_init : Value}
    {od_w_bag an_w_bag : Option Addr} {sl_w_bag : Array (Option Value)} {oc_w_bag kV_w_bag dc_w_bag pm_w_bag cd_w_bag ct_w_bag : Value}
    {od_w_take an_w_take : Option Addr} {sl_w_take : Array (Option Value)} {oc_w_take kV_w_take dc_w_take pm_w_take cd_w_take ct_w_take : Value}
    {od_w_made an_w_made : Option Addr} {sl_w_made : Array (Option Value)} {oc_w_made kV_w_made dc_w_made pm_w_made cd_w_made ct_w_made : Value}
    {od_w_sorts an_w_sorts : Option Addr} {sl_w_sorts : Array (Option Value)} {oc_w_sorts kV_w_sorts dc_w_sorts pm_w_sorts cd_w_sorts ct_w_sorts : Value}
    {od_w_fields an_w_fields : Option Addr} {sl_w_fields : Array (Option Value)} {oc_w_fields kV_w_fields dc_w_fields pm_w_fields cd_w_fields ct_w_fields : Value}
    {od_w_raised an_w_raised : Option Addr} {sl_w_raised : Array (Option Value)} {oc_w_raised kV_w_raised dc_w_raised pm_w_raised cd_w_raised ct_w_raised : Value}
    {od_law an_law : Option Addr} {sl_law : Array (Option Value)} {oc_law kV_law dc_law pm_law cd_law ct_law : Value}
    (z_ValueError : PySem.W.nsIn K mainGlobals "ValueError" = some none)
    (z_abs : PySem.W.nsIn K mainGlobals "abs" = some none)
    (z_isinstance : PySem.W.nsIn K mainGlobals "isinstance" = some none)
    (z_len : PySem.W.nsIn K mainGlobals "len" = some none)
    (z_list : PySem.W.nsIn K mainGlobals "list" = some none)
    (z_range : PySem.W.nsIn K mainGlobals "range" = some none)
    (z_repr : PySem.W.nsIn K mainGlobals "repr" = some none)
    (g_AheadError : PySem.W.nsIn K mainGlobals "AheadError" = some (some (.ref C_AheadError)))
    (rd_AheadError : PySem.W.readsIn K C_AheadError (.type "type") = true)
    (ga_AheadError : PySem.W.specialIn K (.ref C_AheadError) "__getattribute__" = some (some (.builtin "type.__getattribute__")))
    (at_AheadError : PySem.W.findCls K (.ref C_AheadError) (.type "type") "__init__" = some (.val (.builtin "ValueError.__init__")))
    (kc_AheadError : PySem.W.keepIn K (.ref C_AheadError) = true)
    (xe_AheadError : PySem.W.excIn K C_AheadError [.type "ValueError", .type "Exception", .type "BaseException", .type "object"] "ValueError.__new__" = true)
    (g_Again : PySem.W.nsIn K mainGlobals "Again" = some (some (.ref C_Again)))
    (xl_Again : K.lookup C_Again = some (excClassObj nm_Again q_Again C_Again N_Again bs_Again bm_Again true sn_Again sub_Again ab_Again col_Again dd_Again m0_Again m1_Again m2_Again m3_Again m5_Again "ValueError.__new__"))
    (bm_Again : PySem.HandSPX.refsVE bm_Again = true)
    (sa_Again : PySem.W.findIn K (.ref C_Again) "__setattr__" = some (some (.builtin "object.__setattr__")))
    (ex_Again : PySem.W.subIn K (.ref C_Again) (.type "BaseException") = some true)
    (ty_Again : PySem.W.typeIn K (.ref C_Again) = some (.type "type"))
    (kc_Again : PySem.W.keepIn K (.ref C_Again) = true)
    (xf_Again : PySem.W.findIn K (.ref C_Again) "one" = some none)
    (xg2_Again : PySem.W.findIn K (.ref C_Again) "other" = some none)
    (a_Again_init : PySem.W.findIn K (.ref C_Again) "__init__" = some (some (.ref f_Again_init)))
    (t_Again_init_ : PySem.W.typeIn K (.ref f_Again_init) = some (.type "function"))
    (l_Again_init : K.lookup f_Again_init = some ⟨oc_Again_init, od_Again_init, .func (PySem.W.fnOf "__init__" "Again.__init__" (defArgs t_Again_init) (defBody t_Again_init) (defScope t_Again_init) .none kV_Again_init dc_Again_init pm_Again_init an_Again_init cd_Again_init ct_Again_init), sl_Again_init⟩)
    (c_Again_init : PySem.W.codeIn K cd_Again_init "Again.__init__" = true)
    (k_Again_init : PySem.W.keepIn K (.ref f_Again_init) = true)
    (g_Apart : PySem.W.nsIn K mainGlobals "Apart" = some (some (.ref C_Apart)))
    (xl_Apart : K.lookup C_Apart = some (excClassObj nm_Apart q_Apart C_Apart N_Apart bs_Apart bm_Apart true sn_Apart sub_Apart ab_Apart col_Apart dd_Apart m0_Apart m1_Apart m2_Apart m3_Apart m5_Apart "ValueError.__new__"))
    (bm_Apart : PySem.HandSPX.refsVE bm_Apart = true)
    (sa_Apart : PySem.W.findIn K (.ref C_Apart) "__setattr__" = some (some (.builtin "object.__setattr__")))
    (ex_Apart : PySem.W.subIn K (.ref C_Apart) (.type "BaseException") = some true)
    (ty_Apart : PySem.W.typeIn K (.ref C_Apart) = some (.type "type"))
    (kc_Apart : PySem.W.keepIn K (.ref C_Apart) = true)
    (xf_Apart : PySem.W.findIn K (.ref C_Apart) "name" = some none)
    (a_Apart_init : PySem.W.findIn K (.ref C_Apart) "__init__" = some (some (.ref f_Apart_init)))
    (t_Apart_init_ : PySem.W.typeIn K (.ref f_Apart_init) = some (.type "function"))
    (l_Apart_init : K.lookup f_Apart_init = some ⟨oc_Apart_init, od_Apart_init, .func (PySem.W.fnOf "__init__" "Apart.__init__" (defArgs t_Apart_init) (defBody t_Apart_init) (defScope t_Apart_init) .none kV_Apart_init dc_Apart_init pm_Apart_init an_Apart_init cd_Apart_init ct_Apart_init), sl_Apart_init⟩)
    (c_Apart_init : PySem.W.codeIn K cd_Apart_init "Apart.__init__" = true)
    (k_Apart_init : PySem.W.keepIn K (.ref f_Apart_init) = true)
    (g_Few : PySem.W.nsIn K mainGlobals "Few" = some (some (.ref C_Few)))
    (xl_Few : K.lookup C_Few = some (excClassObj nm_Few q_Few C_Few N_Few bs_Few bm_Few true sn_Few sub_Few ab_Few col_Few dd_Few m0_Few m1_Few m2_Few m3_Few m5_Few "ValueError.__new__"))
    (bm_Few : PySem.HandSPX.refsVE bm_Few = true)
    (sa_Few : PySem.W.findIn K (.ref C_Few) "__setattr__" = some (some (.builtin "object.__setattr__")))
    (ex_Few : PySem.W.subIn K (.ref C_Few) (.type "BaseException") = some true)
    (ty_Few : PySem.W.typeIn K (.ref C_Few) = some (.type "type"))
    (kc_Few : PySem.W.keepIn K (.ref C_Few) = true)
    (a_Few_init : PySem.W.findIn K (.ref C_Few) "__init__" = some (some (.ref f_Few_init)))
    (t_Few_init_ : PySem.W.typeIn K (.ref f_Few_init) = some (.type "function"))
    (l_Few_init : K.lookup f_Few_init = some ⟨oc_Few_init, od_Few_init, .func (PySem.W.fnOf "__init__" "Few.__init__" (defArgs t_Few_init) (defBody t_Few_init) (defScope t_Few_init) .none kV_Few_init dc_Few_init pm_Few_init an_Few_init cd_Few_init ct_Few_init), sl_Few_init⟩)
    (c_Few_init : PySem.W.codeIn K cd_Few_init "Few.__init__" = true)
    (k_Few_init : PySem.W.keepIn K (.ref f_Few_init) = true)
    (g_Full : PySem.W.nsIn K mainGlobals "Full" = some (some (.ref C_Full)))
    (xl_Full : K.lookup C_Full = some (excClassObj nm_Full q_Full C_Full N_Full bs_Full bm_Full true sn_Full sub_Full ab_Full col_Full dd_Full m0_Full m1_Full m2_Full m3_Full m5_Full "ValueError.__new__"))
    (bm_Full : PySem.HandSPX.refsVE bm_Full = true)
    (sa_Full : PySem.W.findIn K (.ref C_Full) "__setattr__" = some (some (.builtin "object.__setattr__")))
    (ex_Full : PySem.W.subIn K (.ref C_Full) (.type "BaseException") = some true)
    (ty_Full : PySem.W.typeIn K (.ref C_Full) = some (.type "type"))
    (kc_Full : PySem.W.keepIn K (.ref C_Full) = true)
    (xf_Full : PySem.W.findIn K (.ref C_Full) "most" = some none)
    (a_Full_init : PySem.W.findIn K (.ref C_Full) "__init__" = some (some (.ref f_Full_init)))
    (t_Full_init_ : PySem.W.typeIn K (.ref f_Full_init) = some (.type "function"))
    (l_Full_init : K.lookup f_Full_init = some ⟨oc_Full_init, od_Full_init, .func (PySem.W.fnOf "__init__" "Full.__init__" (defArgs t_Full_init) (defBody t_Full_init) (defScope t_Full_init) .none kV_Full_init dc_Full_init pm_Full_init an_Full_init cd_Full_init ct_Full_init), sl_Full_init⟩)
    (c_Full_init : PySem.W.codeIn K cd_Full_init "Full.__init__" = true)
    (k_Full_init : PySem.W.keepIn K (.ref f_Full_init) = true)
    (g_Lacks : PySem.W.nsIn K mainGlobals "Lacks" = some (some (.ref C_Lacks)))
    (xl_Lacks : K.lookup C_Lacks = some (excClassObj nm_Lacks q_Lacks C_Lacks N_Lacks bs_Lacks bm_Lacks true sn_Lacks sub_Lacks ab_Lacks col_Lacks dd_Lacks m0_Lacks m1_Lacks m2_Lacks m3_Lacks m5_Lacks "ValueError.__new__"))
    (bm_Lacks : PySem.HandSPX.refsVE bm_Lacks = true)
    (sa_Lacks : PySem.W.findIn K (.ref C_Lacks) "__setattr__" = some (some (.builtin "object.__setattr__")))
    (ex_Lacks : PySem.W.subIn K (.ref C_Lacks) (.type "BaseException") = some true)
    (ty_Lacks : PySem.W.typeIn K (.ref C_Lacks) = some (.type "type"))
    (kc_Lacks : PySem.W.keepIn K (.ref C_Lacks) = true)
    (xf_Lacks : PySem.W.findIn K (.ref C_Lacks) "name" = some none)
    (a_Lacks_init : PySem.W.findIn K (.ref C_Lacks) "__init__" = some (some (.ref f_Lacks_init)))
    (t_Lacks_init_ : PySem.W.typeIn K (.ref f_Lacks_init) = some (.type "function"))
    (l_Lacks_init : K.lookup f_Lacks_init = some ⟨oc_Lacks_init, od_Lacks_init, .func (PySem.W.fnOf "__init__" "Lacks.__init__" (defArgs t_Lacks_init) (defBody t_Lacks_init) (defScope t_Lacks_init) .none kV_Lacks_init dc_Lacks_init pm_Lacks_init an_Lacks_init cd_Lacks_init ct_Lacks_init), sl_Lacks_init⟩)
    (c_Lacks_init : PySem.W.codeIn K cd_Lacks_init "Lacks.__init__" = true)
    (k_Lacks_init : PySem.W.keepIn K (.ref f_Lacks_init) = true)
    (g_NoBook : PySem.W.nsIn K mainGlobals "NoBook" = some (some (.ref C_NoBook)))
    (xl_NoBook : K.lookup C_NoBook = some (excClassObj nm_NoBook q_NoBook C_NoBook N_NoBook bs_NoBook bm_NoBook true sn_NoBook sub_NoBook ab_NoBook col_NoBook dd_NoBook m0_NoBook m1_NoBook m2_NoBook m3_NoBook m5_NoBook "ValueError.__new__"))
    (bm_NoBook : PySem.HandSPX.refsVE bm_NoBook = true)
    (sa_NoBook : PySem.W.findIn K (.ref C_NoBook) "__setattr__" = some (some (.builtin "object.__setattr__")))
    (ex_NoBook : PySem.W.subIn K (.ref C_NoBook) (.type "BaseException") = some true)
    (ty_NoBook : PySem.W.typeIn K (.ref C_NoBook) = some (.type "type"))
    (kc_NoBook : PySem.W.keepIn K (.ref C_NoBook) = true)
    (a_NoBook_init : PySem.W.findIn K (.ref C_NoBook) "__init__" = some (some (.ref f_NoBook_init)))
    (t_NoBook_init_ : PySem.W.typeIn K (.ref f_NoBook_init) = some (.type "function"))
    (l_NoBook_init : K.lookup f_NoBook_init = some ⟨oc_NoBook_init, od_NoBook_init, .func (PySem.W.fnOf "__init__" "NoBook.__init__" (defArgs t_NoBook_init) (defBody t_NoBook_init) (defScope t_NoBook_init) .none kV_NoBook_init dc_NoBook_init pm_NoBook_init an_NoBook_init cd_NoBook_init ct_NoBook_init), sl_NoBook_init⟩)
    (c_NoBook_init : PySem.W.codeIn K cd_NoBook_init "NoBook.__init__" = true)
    (k_NoBook_init : PySem.W.keepIn K (.ref f_NoBook_init) = true)
    (g_NoDeed : PySem.W.nsIn K mainGlobals "NoDeed" = some (some (.ref C_NoDeed)))
    (xl_NoDeed : K.lookup C_NoDeed = some (excClassObj nm_NoDeed q_NoDeed C_NoDeed N_NoDeed bs_NoDeed bm_NoDeed true sn_NoDeed sub_NoDeed ab_NoDeed col_NoDeed dd_NoDeed m0_NoDeed m1_NoDeed m2_NoDeed m3_NoDeed m5_NoDeed "ValueError.__new__"))
    (bm_NoDeed : PySem.HandSPX.refsVE bm_NoDeed = true)
    (sa_NoDeed : PySem.W.findIn K (.ref C_NoDeed) "__setattr__" = some (some (.builtin "object.__setattr__")))
    (ex_NoDeed : PySem.W.subIn K (.ref C_NoDeed) (.type "BaseException") = some true)
    (ty_NoDeed : PySem.W.typeIn K (.ref C_NoDeed) = some (.type "type"))
    (kc_NoDeed : PySem.W.keepIn K (.ref C_NoDeed) = true)
    (a_NoDeed_init : PySem.W.findIn K (.ref C_NoDeed) "__init__" = some (some (.ref f_NoDeed_init)))
    (t_NoDeed_init_ : PySem.W.typeIn K (.ref f_NoDeed_init) = some (.type "function"))
    (l_NoDeed_init : K.lookup f_NoDeed_init = some ⟨oc_NoDeed_init, od_NoDeed_init, .func (PySem.W.fnOf "__init__" "NoDeed.__init__" (defArgs t_NoDeed_init) (defBody t_NoDeed_init) (defScope t_NoDeed_init) .none kV_NoDeed_init dc_NoDeed_init pm_NoDeed_init an_NoDeed_init cd_NoDeed_init ct_NoDeed_init), sl_NoDeed_init⟩)
    (c_NoDeed_init : PySem.W.codeIn K cd_NoDeed_init "NoDeed.__init__" = true)
    (k_NoDeed_init : PySem.W.keepIn K (.ref f_NoDeed_init) = true)
    (g_NoLine : PySem.W.nsIn K mainGlobals "NoLine" = some (some (.ref C_NoLine)))
    (xl_NoLine : K.lookup C_NoLine = some (excClassObj nm_NoLine q_NoLine C_NoLine N_NoLine bs_NoLine bm_NoLine true sn_NoLine sub_NoLine ab_NoLine col_NoLine dd_NoLine m0_NoLine m1_NoLine m2_NoLine m3_NoLine m5_NoLine "ValueError.__new__"))
    (bm_NoLine : PySem.HandSPX.refsVE bm_NoLine = true)
    (sa_NoLine : PySem.W.findIn K (.ref C_NoLine) "__setattr__" = some (some (.builtin "object.__setattr__")))
    (ex_NoLine : PySem.W.subIn K (.ref C_NoLine) (.type "BaseException") = some true)
    (ty_NoLine : PySem.W.typeIn K (.ref C_NoLine) = some (.type "type"))
    (kc_NoLine : PySem.W.keepIn K (.ref C_NoLine) = true)
    (a_NoLine_init : PySem.W.findIn K (.ref C_NoLine) "__init__" = some (some (.ref f_NoLine_init)))
    (t_NoLine_init_ : PySem.W.typeIn K (.ref f_NoLine_init) = some (.type "function"))
    (l_NoLine_init : K.lookup f_NoLine_init = some ⟨oc_NoLine_init, od_NoLine_init, .func (PySem.W.fnOf "__init__" "NoLine.__init__" (defArgs t_NoLine_init) (defBody t_NoLine_init) (defScope t_NoLine_init) .none kV_NoLine_init dc_NoLine_init pm_NoLine_init an_NoLine_init cd_NoLine_init ct_NoLine_init), sl_NoLine_init⟩)
    (c_NoLine_init : PySem.W.codeIn K cd_NoLine_init "NoLine.__init__" = true)
    (k_NoLine_init : PySem.W.keepIn K (.ref f_NoLine_init) = true)
    (g_NoText : PySem.W.nsIn K mainGlobals "NoText" = some (some (.ref C_NoText)))
    (xl_NoText : K.lookup C_NoText = some (excClassObj nm_NoText q_NoText C_NoText N_NoText bs_NoText bm_NoText true sn_NoText sub_NoText ab_NoText col_NoText dd_NoText m0_NoText m1_NoText m2_NoText m3_NoText m5_NoText "ValueError.__new__"))
    (bm_NoText : PySem.HandSPX.refsVE bm_NoText = true)
    (sa_NoText : PySem.W.findIn K (.ref C_NoText) "__setattr__" = some (some (.builtin "object.__setattr__")))
    (ex_NoText : PySem.W.subIn K (.ref C_NoText) (.type "BaseException") = some true)
    (ty_NoText : PySem.W.typeIn K (.ref C_NoText) = some (.type "type"))
    (kc_NoText : PySem.W.keepIn K (.ref C_NoText) = true)
    (a_NoText_init : PySem.W.findIn K (.ref C_NoText) "__init__" = some (some (.ref f_NoText_init)))
    (t_NoText_init_ : PySem.W.typeIn K (.ref f_NoText_init) = some (.type "function"))
    (l_NoText_init : K.lookup f_NoText_init = some ⟨oc_NoText_init, od_NoText_init, .func (PySem.W.fnOf "__init__" "NoText.__init__" (defArgs t_NoText_init) (defBody t_NoText_init) (defScope t_NoText_init) .none kV_NoText_init dc_NoText_init pm_NoText_init an_NoText_init cd_NoText_init ct_NoText_init), sl_NoText_init⟩)
    (c_NoText_init : PySem.W.codeIn K cd_NoText_init "NoText.__init__" = true)
    (k_NoText_init : PySem.W.keepIn K (.ref f_NoText_init) = true)
    (g_NoWalker : PySem.W.nsIn K mainGlobals "NoWalker" = some (some (.ref C_NoWalker)))
    (xl_NoWalker : K.lookup C_NoWalker = some (excClassObj nm_NoWalker q_NoWalker C_NoWalker N_NoWalker bs_NoWalker bm_NoWalker true sn_NoWalker sub_NoWalker ab_NoWalker col_NoWalker dd_NoWalker m0_NoWalker m1_NoWalker m2_NoWalker m3_NoWalker m5_NoWalker "ValueError.__new__"))
    (bm_NoWalker : PySem.HandSPX.refsVE bm_NoWalker = true)
    (sa_NoWalker : PySem.W.findIn K (.ref C_NoWalker) "__setattr__" = some (some (.builtin "object.__setattr__")))
    (ex_NoWalker : PySem.W.subIn K (.ref C_NoWalker) (.type "BaseException") = some true)
    (ty_NoWalker : PySem.W.typeIn K (.ref C_NoWalker) = some (.type "type"))
    (kc_NoWalker : PySem.W.keepIn K (.ref C_NoWalker) = true)
    (xf_NoWalker : PySem.W.findIn K (.ref C_NoWalker) "name" = some none)
    (a_NoWalker_init : PySem.W.findIn K (.ref C_NoWalker) "__init__" = some (some (.ref f_NoWalker_init)))
    (t_NoWalker_init_ : PySem.W.typeIn K (.ref f_NoWalker_init) = some (.type "function"))
    (l_NoWalker_init : K.lookup f_NoWalker_init = some ⟨oc_NoWalker_init, od_NoWalker_init, .func (PySem.W.fnOf "__init__" "NoWalker.__init__" (defArgs t_NoWalker_init) (defBody t_NoWalker_init) (defScope t_NoWalker_init) .none kV_NoWalker_init dc_NoWalker_init pm_NoWalker_init an_NoWalker_init cd_NoWalker_init ct_NoWalker_init), sl_NoWalker_init⟩)
    (c_NoWalker_init : PySem.W.codeIn K cd_NoWalker_init "NoWalker.__init__" = true)
    (k_NoWalker_init : PySem.W.keepIn K (.ref f_NoWalker_init) = true)
    (g_NotPlain : PySem.W.nsIn K mainGlobals "NotPlain" = some (some (.ref C_NotPlain)))
    (xl_NotPlain : K.lookup C_NotPlain = some (excClassObj nm_NotPlain q_NotPlain C_NotPlain N_NotPlain bs_NotPlain bm_NotPlain true sn_NotPlain sub_NotPlain ab_NotPlain col_NotPlain dd_NotPlain m0_NotPlain m1_NotPlain m2_NotPlain m3_NotPlain m5_NotPlain "ValueError.__new__"))
    (bm_NotPlain : PySem.HandSPX.refsVE bm_NotPlain = true)
    (sa_NotPlain : PySem.W.findIn K (.ref C_NotPlain) "__setattr__" = some (some (.builtin "object.__setattr__")))
    (ex_NotPlain : PySem.W.subIn K (.ref C_NotPlain) (.type "BaseException") = some true)
    (ty_NotPlain : PySem.W.typeIn K (.ref C_NotPlain) = some (.type "type"))
    (kc_NotPlain : PySem.W.keepIn K (.ref C_NotPlain) = true)
    (xf_NotPlain : PySem.W.findIn K (.ref C_NotPlain) "one" = some none)
    (xg2_NotPlain : PySem.W.findIn K (.ref C_NotPlain) "other" = some none)
    (a_NotPlain_init : PySem.W.findIn K (.ref C_NotPlain) "__init__" = some (some (.ref f_NotPlain_init)))
    (t_NotPlain_init_ : PySem.W.typeIn K (.ref f_NotPlain_init) = some (.type "function"))
    (l_NotPlain_init : K.lookup f_NotPlain_init = some ⟨oc_NotPlain_init, od_NotPlain_init, .func (PySem.W.fnOf "__init__" "NotPlain.__init__" (defArgs t_NotPlain_init) (defBody t_NotPlain_init) (defScope t_NotPlain_init) .none kV_NotPlain_init dc_NotPlain_init pm_NotPlain_init an_NotPlain_init cd_NotPlain_init ct_NotPlain_init), sl_NotPlain_init⟩)
    (c_NotPlain_init : PySem.W.codeIn K cd_NotPlain_init "NotPlain.__init__" = true)
    (k_NotPlain_init : PySem.W.keepIn K (.ref f_NotPlain_init) = true)
    (g_Nothing : PySem.W.nsIn K mainGlobals "Nothing" = some (some (.ref C_Nothing)))
    (xl_Nothing : K.lookup C_Nothing = some (excClassObj nm_Nothing q_Nothing C_Nothing N_Nothing bs_Nothing bm_Nothing true sn_Nothing sub_Nothing ab_Nothing col_Nothing dd_Nothing m0_Nothing m1_Nothing m2_Nothing m3_Nothing m5_Nothing "ValueError.__new__"))
    (bm_Nothing : PySem.HandSPX.refsVE bm_Nothing = true)
    (sa_Nothing : PySem.W.findIn K (.ref C_Nothing) "__setattr__" = some (some (.builtin "object.__setattr__")))
    (ex_Nothing : PySem.W.subIn K (.ref C_Nothing) (.type "BaseException") = some true)
    (ty_Nothing : PySem.W.typeIn K (.ref C_Nothing) = some (.type "type"))
    (kc_Nothing : PySem.W.keepIn K (.ref C_Nothing) = true)
    (a_Nothing_init : PySem.W.findIn K (.ref C_Nothing) "__init__" = some (some (.ref f_Nothing_init)))
    (t_Nothing_init_ : PySem.W.typeIn K (.ref f_Nothing_init) = some (.type "function"))
    (l_Nothing_init : K.lookup f_Nothing_init = some ⟨oc_Nothing_init, od_Nothing_init, .func (PySem.W.fnOf "__init__" "Nothing.__init__" (defArgs t_Nothing_init) (defBody t_Nothing_init) (defScope t_Nothing_init) .none kV_Nothing_init dc_Nothing_init pm_Nothing_init an_Nothing_init cd_Nothing_init ct_Nothing_init), sl_Nothing_init⟩)
    (c_Nothing_init : PySem.W.codeIn K cd_Nothing_init "Nothing.__init__" = true)
    (k_Nothing_init : PySem.W.keepIn K (.ref f_Nothing_init) = true)
    (g_Short : PySem.W.nsIn K mainGlobals "Short" = some (some (.ref C_Short)))
    (xl_Short : K.lookup C_Short = some (excClassObj nm_Short q_Short C_Short N_Short bs_Short bm_Short true sn_Short sub_Short ab_Short col_Short dd_Short m0_Short m1_Short m2_Short m3_Short m5_Short "ValueError.__new__"))
    (bm_Short : PySem.HandSPX.refsVE bm_Short = true)
    (sa_Short : PySem.W.findIn K (.ref C_Short) "__setattr__" = some (some (.builtin "object.__setattr__")))
    (ex_Short : PySem.W.subIn K (.ref C_Short) (.type "BaseException") = some true)
    (ty_Short : PySem.W.typeIn K (.ref C_Short) = some (.type "type"))
    (kc_Short : PySem.W.keepIn K (.ref C_Short) = true)
    (xf_Short : PySem.W.findIn K (.ref C_Short) "name" = some none)
    (a_Short_init : PySem.W.findIn K (.ref C_Short) "__init__" = some (some (.ref f_Short_init)))
    (t_Short_init_ : PySem.W.typeIn K (.ref f_Short_init) = some (.type "function"))
    (l_Short_init : K.lookup f_Short_init = some ⟨oc_Short_init, od_Short_init, .func (PySem.W.fnOf "__init__" "Short.__init__" (defArgs t_Short_init) (defBody t_Short_init) (defScope t_Short_init) .none kV_Short_init dc_Short_init pm_Short_init an_Short_init cd_Short_init ct_Short_init), sl_Short_init⟩)
    (c_Short_init : PySem.W.codeIn K cd_Short_init "Short.__init__" = true)
    (k_Short_init : PySem.W.keepIn K (.ref f_Short_init) = true)
    (g_Stopped : PySem.W.nsIn K mainGlobals "Stopped" = some (some (.ref C_Stopped)))
    (xl_Stopped : K.lookup C_Stopped = some (excClassObj nm_Stopped q_Stopped C_Stopped N_Stopped bs_Stopped bm_Stopped true sn_Stopped sub_Stopped ab_Stopped col_Stopped dd_Stopped m0_Stopped m1_Stopped m2_Stopped m3_Stopped m5_Stopped "ValueError.__new__"))
    (bm_Stopped : PySem.HandSPX.refsVE bm_Stopped = true)
    (sa_Stopped : PySem.W.findIn K (.ref C_Stopped) "__setattr__" = some (some (.builtin "object.__setattr__")))
    (ex_Stopped : PySem.W.subIn K (.ref C_Stopped) (.type "BaseException") = some true)
    (ty_Stopped : PySem.W.typeIn K (.ref C_Stopped) = some (.type "type"))
    (kc_Stopped : PySem.W.keepIn K (.ref C_Stopped) = true)
    (xf_Stopped : PySem.W.findIn K (.ref C_Stopped) "at" = some none)
    (a_Stopped_init : PySem.W.findIn K (.ref C_Stopped) "__init__" = some (some (.ref f_Stopped_init)))
    (t_Stopped_init_ : PySem.W.typeIn K (.ref f_Stopped_init) = some (.type "function"))
    (l_Stopped_init : K.lookup f_Stopped_init = some ⟨oc_Stopped_init, od_Stopped_init, .func (PySem.W.fnOf "__init__" "Stopped.__init__" (defArgs t_Stopped_init) (defBody t_Stopped_init) (defScope t_Stopped_init) .none kV_Stopped_init dc_Stopped_init pm_Stopped_init an_Stopped_init cd_Stopped_init ct_Stopped_init), sl_Stopped_init⟩)
    (c_Stopped_init : PySem.W.codeIn K cd_Stopped_init "Stopped.__init__" = true)
    (k_Stopped_init : PySem.W.keepIn K (.ref f_Stopped_init) = true)
    (g_Taken : PySem.W.nsIn K mainGlobals "Taken" = some (some (.ref C_Taken)))
    (xl_Taken : K.lookup C_Taken = some (excClassObj nm_Taken q_Taken C_Taken N_Taken bs_Taken bm_Taken true sn_Taken sub_Taken ab_Taken col_Taken dd_Taken m0_Taken m1_Taken m2_Taken m3_Taken m5_Taken "ValueError.__new__"))
    (bm_Taken : PySem.HandSPX.refsVE bm_Taken = true)
    (sa_Taken : PySem.W.findIn K (.ref C_Taken) "__setattr__" = some (some (.builtin "object.__setattr__")))
    (ex_Taken : PySem.W.subIn K (.ref C_Taken) (.type "BaseException") = some true)
    (ty_Taken : PySem.W.typeIn K (.ref C_Taken) = some (.type "type"))
    (kc_Taken : PySem.W.keepIn K (.ref C_Taken) = true)
    (xf_Taken : PySem.W.findIn K (.ref C_Taken) "name" = some none)
    (a_Taken_init : PySem.W.findIn K (.ref C_Taken) "__init__" = some (some (.ref f_Taken_init)))
    (t_Taken_init_ : PySem.W.typeIn K (.ref f_Taken_init) = some (.type "function"))
    (l_Taken_init : K.lookup f_Taken_init = some ⟨oc_Taken_init, od_Taken_init, .func (PySem.W.fnOf "__init__" "Taken.__init__" (defArgs t_Taken_init) (defBody t_Taken_init) (defScope t_Taken_init) .none kV_Taken_init dc_Taken_init pm_Taken_init an_Taken_init cd_Taken_init ct_Taken_init), sl_Taken_init⟩)
    (c_Taken_init : PySem.W.codeIn K cd_Taken_init "Taken.__init__" = true)
    (k_Taken_init : PySem.W.keepIn K (.ref f_Taken_init) = true)
    (g_TooFar : PySem.W.nsIn K mainGlobals "TooFar" = some (some (.ref C_TooFar)))
    (xl_TooFar : K.lookup C_TooFar = some (excClassObj nm_TooFar q_TooFar C_TooFar N_TooFar bs_TooFar bm_TooFar true sn_TooFar sub_TooFar ab_TooFar col_TooFar dd_TooFar m0_TooFar m1_TooFar m2_TooFar m3_TooFar m5_TooFar "ValueError.__new__"))
    (bm_TooFar : PySem.HandSPX.refsVE bm_TooFar = true)
    (sa_TooFar : PySem.W.findIn K (.ref C_TooFar) "__setattr__" = some (some (.builtin "object.__setattr__")))
    (ex_TooFar : PySem.W.subIn K (.ref C_TooFar) (.type "BaseException") = some true)
    (ty_TooFar : PySem.W.typeIn K (.ref C_TooFar) = some (.type "type"))
    (kc_TooFar : PySem.W.keepIn K (.ref C_TooFar) = true)
    (xf_TooFar : PySem.W.findIn K (.ref C_TooFar) "most" = some none)
    (a_TooFar_init : PySem.W.findIn K (.ref C_TooFar) "__init__" = some (some (.ref f_TooFar_init)))
    (t_TooFar_init_ : PySem.W.typeIn K (.ref f_TooFar_init) = some (.type "function"))
    (l_TooFar_init : K.lookup f_TooFar_init = some ⟨oc_TooFar_init, od_TooFar_init, .func (PySem.W.fnOf "__init__" "TooFar.__init__" (defArgs t_TooFar_init) (defBody t_TooFar_init) (defScope t_TooFar_init) .none kV_TooFar_init dc_TooFar_init pm_TooFar_init an_TooFar_init cd_TooFar_init ct_TooFar_init), sl_TooFar_init⟩)
    (c_TooFar_init : PySem.W.codeIn K cd_TooFar_init "TooFar.__init__" = true)
    (k_TooFar_init : PySem.W.keepIn K (.ref f_TooFar_init) = true)
    (g_TooGreat : PySem.W.nsIn K mainGlobals "TooGreat" = some (some (.ref C_TooGreat)))
    (xl_TooGreat : K.lookup C_TooGreat = some (excClassObj nm_TooGreat q_TooGreat C_TooGreat N_TooGreat bs_TooGreat bm_TooGreat true sn_TooGreat sub_TooGreat ab_TooGreat col_TooGreat dd_TooGreat m0_TooGreat m1_TooGreat m2_TooGreat m3_TooGreat m5_TooGreat "ValueError.__new__"))
    (bm_TooGreat : PySem.HandSPX.refsVE bm_TooGreat = true)
    (sa_TooGreat : PySem.W.findIn K (.ref C_TooGreat) "__setattr__" = some (some (.builtin "object.__setattr__")))
    (ex_TooGreat : PySem.W.subIn K (.ref C_TooGreat) (.type "BaseException") = some true)
    (ty_TooGreat : PySem.W.typeIn K (.ref C_TooGreat) = some (.type "type"))
    (kc_TooGreat : PySem.W.keepIn K (.ref C_TooGreat) = true)
    (xf_TooGreat : PySem.W.findIn K (.ref C_TooGreat) "most" = some none)
    (a_TooGreat_init : PySem.W.findIn K (.ref C_TooGreat) "__init__" = some (some (.ref f_TooGreat_init)))
    (t_TooGreat_init_ : PySem.W.typeIn K (.ref f_TooGreat_init) = some (.type "function"))
    (l_TooGreat_init : K.lookup f_TooGreat_init = some ⟨oc_TooGreat_init, od_TooGreat_init, .func (PySem.W.fnOf "__init__" "TooGreat.__init__" (defArgs t_TooGreat_init) (defBody t_TooGreat_init) (defScope t_TooGreat_init) .none kV_TooGreat_init dc_TooGreat_init pm_TooGreat_init an_TooGreat_init cd_TooGreat_init ct_TooGreat_init), sl_TooGreat_init⟩)
    (c_TooGreat_init : PySem.W.codeIn K cd_TooGreat_init "TooGreat.__init__" = true)
    (k_TooGreat_init : PySem.W.keepIn K (.ref f_TooGreat_init) = true)
    (g_TooMany : PySem.W.nsIn K mainGlobals "TooMany" = some (some (.ref C_TooMany)))
    (xl_TooMany : K.lookup C_TooMany = some (excClassObj nm_TooMany q_TooMany C_TooMany N_TooMany bs_TooMany bm_TooMany true sn_TooMany sub_TooMany ab_TooMany col_TooMany dd_TooMany m0_TooMany m1_TooMany m2_TooMany m3_TooMany m5_TooMany "ValueError.__new__"))
    (bm_TooMany : PySem.HandSPX.refsVE bm_TooMany = true)
    (sa_TooMany : PySem.W.findIn K (.ref C_TooMany) "__setattr__" = some (some (.builtin "object.__setattr__")))
    (ex_TooMany : PySem.W.subIn K (.ref C_TooMany) (.type "BaseException") = some true)
    (ty_TooMany : PySem.W.typeIn K (.ref C_TooMany) = some (.type "type"))
    (kc_TooMany : PySem.W.keepIn K (.ref C_TooMany) = true)
    (xf_TooMany : PySem.W.findIn K (.ref C_TooMany) "most" = some none)
    (a_TooMany_init : PySem.W.findIn K (.ref C_TooMany) "__init__" = some (some (.ref f_TooMany_init)))
    (t_TooMany_init_ : PySem.W.typeIn K (.ref f_TooMany_init) = some (.type "function"))
    (l_TooMany_init : K.lookup f_TooMany_init = some ⟨oc_TooMany_init, od_TooMany_init, .func (PySem.W.fnOf "__init__" "TooMany.__init__" (defArgs t_TooMany_init) (defBody t_TooMany_init) (defScope t_TooMany_init) .none kV_TooMany_init dc_TooMany_init pm_TooMany_init an_TooMany_init cd_TooMany_init ct_TooMany_init), sl_TooMany_init⟩)
    (c_TooMany_init : PySem.W.codeIn K cd_TooMany_init "TooMany.__init__" = true)
    (k_TooMany_init : PySem.W.keepIn K (.ref f_TooMany_init) = true)
    (g_Twice : PySem.W.nsIn K mainGlobals "Twice" = some (some (.ref C_Twice)))
    (xl_Twice : K.lookup C_Twice = some (excClassObj nm_Twice q_Twice C_Twice N_Twice bs_Twice bm_Twice true sn_Twice sub_Twice ab_Twice col_Twice dd_Twice m0_Twice m1_Twice m2_Twice m3_Twice m5_Twice "ValueError.__new__"))
    (bm_Twice : PySem.HandSPX.refsVE bm_Twice = true)
    (sa_Twice : PySem.W.findIn K (.ref C_Twice) "__setattr__" = some (some (.builtin "object.__setattr__")))
    (ex_Twice : PySem.W.subIn K (.ref C_Twice) (.type "BaseException") = some true)
    (ty_Twice : PySem.W.typeIn K (.ref C_Twice) = some (.type "type"))
    (kc_Twice : PySem.W.keepIn K (.ref C_Twice) = true)
    (xf_Twice : PySem.W.findIn K (.ref C_Twice) "name" = some none)
    (a_Twice_init : PySem.W.findIn K (.ref C_Twice) "__init__" = some (some (.ref f_Twice_init)))
    (t_Twice_init_ : PySem.W.typeIn K (.ref f_Twice_init) = some (.type "function"))
    (l_Twice_init : K.lookup f_Twice_init = some ⟨oc_Twice_init, od_Twice_init, .func (PySem.W.fnOf "__init__" "Twice.__init__" (defArgs t_Twice_init) (defBody t_Twice_init) (defScope t_Twice_init) .none kV_Twice_init dc_Twice_init pm_Twice_init an_Twice_init cd_Twice_init ct_Twice_init), sl_Twice_init⟩)
    (c_Twice_init : PySem.W.codeIn K cd_Twice_init "Twice.__init__" = true)
    (k_Twice_init : PySem.W.keepIn K (.ref f_Twice_init) = true)
    (g_Unlike : PySem.W.nsIn K mainGlobals "Unlike" = some (some (.ref C_Unlike)))
    (xl_Unlike : K.lookup C_Unlike = some (excClassObj nm_Unlike q_Unlike C_Unlike N_Unlike bs_Unlike bm_Unlike true sn_Unlike sub_Unlike ab_Unlike col_Unlike dd_Unlike m0_Unlike m1_Unlike m2_Unlike m3_Unlike m5_Unlike "ValueError.__new__"))
    (bm_Unlike : PySem.HandSPX.refsVE bm_Unlike = true)
    (sa_Unlike : PySem.W.findIn K (.ref C_Unlike) "__setattr__" = some (some (.builtin "object.__setattr__")))
    (ex_Unlike : PySem.W.subIn K (.ref C_Unlike) (.type "BaseException") = some true)
    (ty_Unlike : PySem.W.typeIn K (.ref C_Unlike) = some (.type "type"))
    (kc_Unlike : PySem.W.keepIn K (.ref C_Unlike) = true)
    (a_Unlike_init : PySem.W.findIn K (.ref C_Unlike) "__init__" = some (some (.ref f_Unlike_init)))
    (t_Unlike_init_ : PySem.W.typeIn K (.ref f_Unlike_init) = some (.type "function"))
    (l_Unlike_init : K.lookup f_Unlike_init = some ⟨oc_Unlike_init, od_Unlike_init, .func (PySem.W.fnOf "__init__" "Unlike.__init__" (defArgs t_Unlike_init) (defBody t_Unlike_init) (defScope t_Unlike_init) .none kV_Unlike_init dc_Unlike_init pm_Unlike_init an_Unlike_init cd_Unlike_init ct_Unlike_init), sl_Unlike_init⟩)
    (c_Unlike_init : PySem.W.codeIn K cd_Unlike_init "Unlike.__init__" = true)
    (k_Unlike_init : PySem.W.keepIn K (.ref f_Unlike_init) = true)
    (g_Wrong : PySem.W.nsIn K mainGlobals "Wrong" = some (some (.ref C_Wrong)))
    (xl_Wrong : K.lookup C_Wrong = some (excClassObj nm_Wrong q_Wrong C_Wrong N_Wrong bs_Wrong bm_Wrong true sn_Wrong sub_Wrong ab_Wrong col_Wrong dd_Wrong m0_Wrong m1_Wrong m2_Wrong m3_Wrong m5_Wrong "ValueError.__new__"))
    (bm_Wrong : PySem.HandSPX.refsVE bm_Wrong = true)
    (sa_Wrong : PySem.W.findIn K (.ref C_Wrong) "__setattr__" = some (some (.builtin "object.__setattr__")))
    (ex_Wrong : PySem.W.subIn K (.ref C_Wrong) (.type "BaseException") = some true)
    (ty_Wrong : PySem.W.typeIn K (.ref C_Wrong) = some (.type "type"))
    (kc_Wrong : PySem.W.keepIn K (.ref C_Wrong) = true)
    (xf_Wrong : PySem.W.findIn K (.ref C_Wrong) "at" = some none)
    (a_Wrong_init : PySem.W.findIn K (.ref C_Wrong) "__init__" = some (some (.ref f_Wrong_init)))
    (t_Wrong_init_ : PySem.W.typeIn K (.ref f_Wrong_init) = some (.type "function"))
    (l_Wrong_init : K.lookup f_Wrong_init = some ⟨oc_Wrong_init, od_Wrong_init, .func (PySem.W.fnOf "__init__" "Wrong.__init__" (defArgs t_Wrong_init) (defBody t_Wrong_init) (defScope t_Wrong_init) .none kV_Wrong_init dc_Wrong_init pm_Wrong_init an_Wrong_init cd_Wrong_init ct_Wrong_init), sl_Wrong_init⟩)
    (c_Wrong_init : PySem.W.codeIn K cd_Wrong_init "Wrong.__init__" = true)
    (k_Wrong_init : PySem.W.keepIn K (.ref f_Wrong_init) = true)
    (hx_Again : PySem.W.hasDictIn K C_Again = true)
    (hx_AheadError : PySem.W.hasDictIn K C_AheadError = true)
    (hx_Apart : PySem.W.hasDictIn K C_Apart = true)
    (hx_Few : PySem.W.hasDictIn K C_Few = true)
    (hx_Full : PySem.W.hasDictIn K C_Full = true)
    (hx_Lacks : PySem.W.hasDictIn K C_Lacks = true)
    (hx_NoBook : PySem.W.hasDictIn K C_NoBook = true)
    (hx_NoDeed : PySem.W.hasDictIn K C_NoDeed = true)
    (hx_NoLine : PySem.W.hasDictIn K C_NoLine = true)
    (hx_NoText : PySem.W.hasDictIn K C_NoText = true)
    (hx_NoWalker : PySem.W.hasDictIn K C_NoWalker = true)
    (hx_NotPlain : PySem.W.hasDictIn K C_NotPlain = true)
    (hx_Nothing : PySem.W.hasDictIn K C_Nothing = true)
    (hx_Short : PySem.W.hasDictIn K C_Short = true)
    (hx_Stopped : PySem.W.hasDictIn K C_Stopped = true)
    (hx_Taken : PySem.W.hasDictIn K C_Taken = true)
    (hx_TooFar : PySem.W.hasDictIn K C_TooFar = true)
    (hx_TooGreat : PySem.W.hasDictIn K C_TooGreat = true)
    (hx_TooMany : PySem.W.hasDictIn K C_TooMany = true)
    (hx_Twice : PySem.W.hasDictIn K C_Twice = true)
    (hx_Unlike : PySem.W.hasDictIn K C_Unlike = true)
    (hx_Wrong : PySem.W.hasDictIn K C_Wrong = true)
    (ex_AheadError : PySem.W.subIn K (.ref C_AheadError) (.type "BaseException") = some true)
    (ty_AheadError : PySem.W.typeIn K (.ref C_AheadError) = some (.type "type"))
    (xg_Again : PySem.W.findIn K (.ref C_Again) "__getattribute__" = some (some (.builtin "BaseException.__getattribute__")))
    (xk_Again : PySem.W.findIn K (.ref C_Again) "__getattr__" = some none)
    (xa_Again : PySem.W.findIn K (.ref C_Again) "__class__" = some (some (.builtin "object.__class__")))
    (xn_Again : PySem.W.specialIn K (.builtin "object.__class__") "__get__" = some (some (.builtin "getset_descriptor.__get__")))
    (xt_Again : PySem.W.takesIn K (.builtin "object.__class__") = some true)
    (xm_Again : PySem.W.mroIn K C_Again (.type "object") = some true)
    (xg_AheadError : PySem.W.findIn K (.ref C_AheadError) "__getattribute__" = some (some (.builtin "BaseException.__getattribute__")))
    (xk_AheadError : PySem.W.findIn K (.ref C_AheadError) "__getattr__" = some none)
    (xa_AheadError : PySem.W.findIn K (.ref C_AheadError) "__class__" = some (some (.builtin "object.__class__")))
    (xn_AheadError : PySem.W.specialIn K (.builtin "object.__class__") "__get__" = some (some (.builtin "getset_descriptor.__get__")))
    (xt_AheadError : PySem.W.takesIn K (.builtin "object.__class__") = some true)
    (xm_AheadError : PySem.W.mroIn K C_AheadError (.type "object") = some true)
    (xg_Apart : PySem.W.findIn K (.ref C_Apart) "__getattribute__" = some (some (.builtin "BaseException.__getattribute__")))
    (xk_Apart : PySem.W.findIn K (.ref C_Apart) "__getattr__" = some none)
    (xa_Apart : PySem.W.findIn K (.ref C_Apart) "__class__" = some (some (.builtin "object.__class__")))
    (xn_Apart : PySem.W.specialIn K (.builtin "object.__class__") "__get__" = some (some (.builtin "getset_descriptor.__get__")))
    (xt_Apart : PySem.W.takesIn K (.builtin "object.__class__") = some true)
    (xm_Apart : PySem.W.mroIn K C_Apart (.type "object") = some true)
    (xg_Few : PySem.W.findIn K (.ref C_Few) "__getattribute__" = some (some (.builtin "BaseException.__getattribute__")))
    (xk_Few : PySem.W.findIn K (.ref C_Few) "__getattr__" = some none)
    (xa_Few : PySem.W.findIn K (.ref C_Few) "__class__" = some (some (.builtin "object.__class__")))
    (xn_Few : PySem.W.specialIn K (.builtin "object.__class__") "__get__" = some (some (.builtin "getset_descriptor.__get__")))
    (xt_Few : PySem.W.takesIn K (.builtin "object.__class__") = some true)
    (xm_Few : PySem.W.mroIn K C_Few (.type "object") = some true)
    (xg_Full : PySem.W.findIn K (.ref C_Full) "__getattribute__" = some (some (.builtin "BaseException.__getattribute__")))
    (xk_Full : PySem.W.findIn K (.ref C_Full) "__getattr__" = some none)
    (xa_Full : PySem.W.findIn K (.ref C_Full) "__class__" = some (some (.builtin "object.__class__")))
    (xn_Full : PySem.W.specialIn K (.builtin "object.__class__") "__get__" = some (some (.builtin "getset_descriptor.__get__")))
    (xt_Full : PySem.W.takesIn K (.builtin "object.__class__") = some true)
    (xm_Full : PySem.W.mroIn K C_Full (.type "object") = some true)
    (xg_Lacks : PySem.W.findIn K (.ref C_Lacks) "__getattribute__" = some (some (.builtin "BaseException.__getattribute__")))
    (xk_Lacks : PySem.W.findIn K (.ref C_Lacks) "__getattr__" = some none)
    (xa_Lacks : PySem.W.findIn K (.ref C_Lacks) "__class__" = some (some (.builtin "object.__class__")))
    (xn_Lacks : PySem.W.specialIn K (.builtin "object.__class__") "__get__" = some (some (.builtin "getset_descriptor.__get__")))
    (xt_Lacks : PySem.W.takesIn K (.builtin "object.__class__") = some true)
    (xm_Lacks : PySem.W.mroIn K C_Lacks (.type "object") = some true)
    (xg_NoBook : PySem.W.findIn K (.ref C_NoBook) "__getattribute__" = some (some (.builtin "BaseException.__getattribute__")))
    (xk_NoBook : PySem.W.findIn K (.ref C_NoBook) "__getattr__" = some none)
    (xa_NoBook : PySem.W.findIn K (.ref C_NoBook) "__class__" = some (some (.builtin "object.__class__")))
    (xn_NoBook : PySem.W.specialIn K (.builtin "object.__class__") "__get__" = some (some (.builtin "getset_descriptor.__get__")))
    (xt_NoBook : PySem.W.takesIn K (.builtin "object.__class__") = some true)
    (xm_NoBook : PySem.W.mroIn K C_NoBook (.type "object") = some true)
    (xg_NoDeed : PySem.W.findIn K (.ref C_NoDeed) "__getattribute__" = some (some (.builtin "BaseException.__getattribute__")))
    (xk_NoDeed : PySem.W.findIn K (.ref C_NoDeed) "__getattr__" = some none)
    (xa_NoDeed : PySem.W.findIn K (.ref C_NoDeed) "__class__" = some (some (.builtin "object.__class__")))
    (xn_NoDeed : PySem.W.specialIn K (.builtin "object.__class__") "__get__" = some (some (.builtin "getset_descriptor.__get__")))
    (xt_NoDeed : PySem.W.takesIn K (.builtin "object.__class__") = some true)
    (xm_NoDeed : PySem.W.mroIn K C_NoDeed (.type "object") = some true)
    (xg_NoLine : PySem.W.findIn K (.ref C_NoLine) "__getattribute__" = some (some (.builtin "BaseException.__getattribute__")))
    (xk_NoLine : PySem.W.findIn K (.ref C_NoLine) "__getattr__" = some none)
    (xa_NoLine : PySem.W.findIn K (.ref C_NoLine) "__class__" = some (some (.builtin "object.__class__")))
    (xn_NoLine : PySem.W.specialIn K (.builtin "object.__class__") "__get__" = some (some (.builtin "getset_descriptor.__get__")))
    (xt_NoLine : PySem.W.takesIn K (.builtin "object.__class__") = some true)
    (xm_NoLine : PySem.W.mroIn K C_NoLine (.type "object") = some true)
    (xg_NoText : PySem.W.findIn K (.ref C_NoText) "__getattribute__" = some (some (.builtin "BaseException.__getattribute__")))
    (xk_NoText : PySem.W.findIn K (.ref C_NoText) "__getattr__" = some none)
    (xa_NoText : PySem.W.findIn K (.ref C_NoText) "__class__" = some (some (.builtin "object.__class__")))
    (xn_NoText : PySem.W.specialIn K (.builtin "object.__class__") "__get__" = some (some (.builtin "getset_descriptor.__get__")))
    (xt_NoText : PySem.W.takesIn K (.builtin "object.__class__") = some true)
    (xm_NoText : PySem.W.mroIn K C_NoText (.type "object") = some true)
    (xg_NoWalker : PySem.W.findIn K (.ref C_NoWalker) "__getattribute__" = some (some (.builtin "BaseException.__getattribute__")))
    (xk_NoWalker : PySem.W.findIn K (.ref C_NoWalker) "__getattr__" = some none)
    (xa_NoWalker : PySem.W.findIn K (.ref C_NoWalker) "__class__" = some (some (.builtin "object.__class__")))
    (xn_NoWalker : PySem.W.specialIn K (.builtin "object.__class__") "__get__" = some (some (.builtin "getset_descriptor.__get__")))
    (xt_NoWalker : PySem.W.takesIn K (.builtin "object.__class__") = some true)
    (xm_NoWalker : PySem.W.mroIn K C_NoWalker (.type "object") = some true)
    (xg_NotPlain : PySem.W.findIn K (.ref C_NotPlain) "__getattribute__" = some (some (.builtin "BaseException.__getattribute__")))
    (xk_NotPlain : PySem.W.findIn K (.ref C_NotPlain) "__getattr__" = some none)
    (xa_NotPlain : PySem.W.findIn K (.ref C_NotPlain) "__class__" = some (some (.builtin "object.__class__")))
    (xn_NotPlain : PySem.W.specialIn K (.builtin "object.__class__") "__get__" = some (some (.builtin "getset_descriptor.__get__")))
    (xt_NotPlain : PySem.W.takesIn K (.builtin "object.__class__") = some true)
    (xm_NotPlain : PySem.W.mroIn K C_NotPlain (.type "object") = some true)
    (xg_Nothing : PySem.W.findIn K (.ref C_Nothing) "__getattribute__" = some (some (.builtin "BaseException.__getattribute__")))
    (xk_Nothing : PySem.W.findIn K (.ref C_Nothing) "__getattr__" = some none)
    (xa_Nothing : PySem.W.findIn K (.ref C_Nothing) "__class__" = some (some (.builtin "object.__class__")))
    (xn_Nothing : PySem.W.specialIn K (.builtin "object.__class__") "__get__" = some (some (.builtin "getset_descriptor.__get__")))
    (xt_Nothing : PySem.W.takesIn K (.builtin "object.__class__") = some true)
    (xm_Nothing : PySem.W.mroIn K C_Nothing (.type "object") = some true)
    (xg_Short : PySem.W.findIn K (.ref C_Short) "__getattribute__" = some (some (.builtin "BaseException.__getattribute__")))
    (xk_Short : PySem.W.findIn K (.ref C_Short) "__getattr__" = some none)
    (xa_Short : PySem.W.findIn K (.ref C_Short) "__class__" = some (some (.builtin "object.__class__")))
    (xn_Short : PySem.W.specialIn K (.builtin "object.__class__") "__get__" = some (some (.builtin "getset_descriptor.__get__")))
    (xt_Short : PySem.W.takesIn K (.builtin "object.__class__") = some true)
    (xm_Short : PySem.W.mroIn K C_Short (.type "object") = some true)
    (xg_Stopped : PySem.W.findIn K (.ref C_Stopped) "__getattribute__" = some (some (.builtin "BaseException.__getattribute__")))
    (xk_Stopped : PySem.W.findIn K (.ref C_Stopped) "__getattr__" = some none)
    (xa_Stopped : PySem.W.findIn K (.ref C_Stopped) "__class__" = some (some (.builtin "object.__class__")))
    (xn_Stopped : PySem.W.specialIn K (.builtin "object.__class__") "__get__" = some (some (.builtin "getset_descriptor.__get__")))
    (xt_Stopped : PySem.W.takesIn K (.builtin "object.__class__") = some true)
    (xm_Stopped : PySem.W.mroIn K C_Stopped (.type "object") = some true)
    (xg_Taken : PySem.W.findIn K (.ref C_Taken) "__getattribute__" = some (some (.builtin "BaseException.__getattribute__")))
    (xk_Taken : PySem.W.findIn K (.ref C_Taken) "__getattr__" = some none)
    (xa_Taken : PySem.W.findIn K (.ref C_Taken) "__class__" = some (some (.builtin "object.__class__")))
    (xn_Taken : PySem.W.specialIn K (.builtin "object.__class__") "__get__" = some (some (.builtin "getset_descriptor.__get__")))
    (xt_Taken : PySem.W.takesIn K (.builtin "object.__class__") = some true)
    (xm_Taken : PySem.W.mroIn K C_Taken (.type "object") = some true)
    (xg_TooFar : PySem.W.findIn K (.ref C_TooFar) "__getattribute__" = some (some (.builtin "BaseException.__getattribute__")))
    (xk_TooFar : PySem.W.findIn K (.ref C_TooFar) "__getattr__" = some none)
    (xa_TooFar : PySem.W.findIn K (.ref C_TooFar) "__class__" = some (some (.builtin "object.__class__")))
    (xn_TooFar : PySem.W.specialIn K (.builtin "object.__class__") "__get__" = some (some (.builtin "getset_descriptor.__get__")))
    (xt_TooFar : PySem.W.takesIn K (.builtin "object.__class__") = some true)
    (xm_TooFar : PySem.W.mroIn K C_TooFar (.type "object") = some true)
    (xg_TooGreat : PySem.W.findIn K (.ref C_TooGreat) "__getattribute__" = some (some (.builtin "BaseException.__getattribute__")))
    (xk_TooGreat : PySem.W.findIn K (.ref C_TooGreat) "__getattr__" = some none)
    (xa_TooGreat : PySem.W.findIn K (.ref C_TooGreat) "__class__" = some (some (.builtin "object.__class__")))
    (xn_TooGreat : PySem.W.specialIn K (.builtin "object.__class__") "__get__" = some (some (.builtin "getset_descriptor.__get__")))
    (xt_TooGreat : PySem.W.takesIn K (.builtin "object.__class__") = some true)
    (xm_TooGreat : PySem.W.mroIn K C_TooGreat (.type "object") = some true)
    (xg_TooMany : PySem.W.findIn K (.ref C_TooMany) "__getattribute__" = some (some (.builtin "BaseException.__getattribute__")))
    (xk_TooMany : PySem.W.findIn K (.ref C_TooMany) "__getattr__" = some none)
    (xa_TooMany : PySem.W.findIn K (.ref C_TooMany) "__class__" = some (some (.builtin "object.__class__")))
    (xn_TooMany : PySem.W.specialIn K (.builtin "object.__class__") "__get__" = some (some (.builtin "getset_descriptor.__get__")))
    (xt_TooMany : PySem.W.takesIn K (.builtin "object.__class__") = some true)
    (xm_TooMany : PySem.W.mroIn K C_TooMany (.type "object") = some true)
    (xg_Twice : PySem.W.findIn K (.ref C_Twice) "__getattribute__" = some (some (.builtin "BaseException.__getattribute__")))
    (xk_Twice : PySem.W.findIn K (.ref C_Twice) "__getattr__" = some none)
    (xa_Twice : PySem.W.findIn K (.ref C_Twice) "__class__" = some (some (.builtin "object.__class__")))
    (xn_Twice : PySem.W.specialIn K (.builtin "object.__class__") "__get__" = some (some (.builtin "getset_descriptor.__get__")))
    (xt_Twice : PySem.W.takesIn K (.builtin "object.__class__") = some true)
    (xm_Twice : PySem.W.mroIn K C_Twice (.type "object") = some true)
    (xg_Unlike : PySem.W.findIn K (.ref C_Unlike) "__getattribute__" = some (some (.builtin "BaseException.__getattribute__")))
    (xk_Unlike : PySem.W.findIn K (.ref C_Unlike) "__getattr__" = some none)
    (xa_Unlike : PySem.W.findIn K (.ref C_Unlike) "__class__" = some (some (.builtin "object.__class__")))
    (xn_Unlike : PySem.W.specialIn K (.builtin "object.__class__") "__get__" = some (some (.builtin "getset_descriptor.__get__")))
    (xt_Unlike : PySem.W.takesIn K (.builtin "object.__class__") = some true)
    (xm_Unlike : PySem.W.mroIn K C_Unlike (.type "object") = some true)
    (xg_Wrong : PySem.W.findIn K (.ref C_Wrong) "__getattribute__" = some (some (.builtin "BaseException.__getattribute__")))
    (xk_Wrong : PySem.W.findIn K (.ref C_Wrong) "__getattr__" = some none)
    (xa_Wrong : PySem.W.findIn K (.ref C_Wrong) "__class__" = some (some (.builtin "object.__class__")))
    (xn_Wrong : PySem.W.specialIn K (.builtin "object.__class__") "__get__" = some (some (.builtin "getset_descriptor.__get__")))
    (xt_Wrong : PySem.W.takesIn K (.builtin "object.__class__") = some true)
    (xm_Wrong : PySem.W.mroIn K C_Wrong (.type "object") = some true)
    (cx_AheadError : PySem.W.isClsIn K C_AheadError = true)
    (ss_AheadError : PySem.W.subIn K (.ref C_AheadError) (.ref C_AheadError) = some true)
    (sb_Again_AheadError : PySem.W.subIn K (.ref C_Again) (.ref C_AheadError) = some true)
    (cx_Apart : PySem.W.isClsIn K C_Apart = true)
    (ss_Apart : PySem.W.subIn K (.ref C_Apart) (.ref C_Apart) = some true)
    (sb_Again_Apart : PySem.W.subIn K (.ref C_Again) (.ref C_Apart) = some false)
    (cx_Few : PySem.W.isClsIn K C_Few = true)
    (ss_Few : PySem.W.subIn K (.ref C_Few) (.ref C_Few) = some true)
    (sb_Again_Few : PySem.W.subIn K (.ref C_Again) (.ref C_Few) = some false)
    (cx_Full : PySem.W.isClsIn K C_Full = true)
    (ss_Full : PySem.W.subIn K (.ref C_Full) (.ref C_Full) = some true)
    (sb_Again_Full : PySem.W.subIn K (.ref C_Again) (.ref C_Full) = some false)
    (cx_Lacks : PySem.W.isClsIn K C_Lacks = true)
    (ss_Lacks : PySem.W.subIn K (.ref C_Lacks) (.ref C_Lacks) = some true)
    (sb_Again_Lacks : PySem.W.subIn K (.ref C_Again) (.ref C_Lacks) = some false)
    (cx_NoBook : PySem.W.isClsIn K C_NoBook = true)
    (ss_NoBook : PySem.W.subIn K (.ref C_NoBook) (.ref C_NoBook) = some true)
    (sb_Again_NoBook : PySem.W.subIn K (.ref C_Again) (.ref C_NoBook) = some false)
    (cx_NoDeed : PySem.W.isClsIn K C_NoDeed = true)
    (ss_NoDeed : PySem.W.subIn K (.ref C_NoDeed) (.ref C_NoDeed) = some true)
    (sb_Again_NoDeed : PySem.W.subIn K (.ref C_Again) (.ref C_NoDeed) = some false)
    (cx_NoLine : PySem.W.isClsIn K C_NoLine = true)
    (ss_NoLine : PySem.W.subIn K (.ref C_NoLine) (.ref C_NoLine) = some true)
    (sb_Again_NoLine : PySem.W.subIn K (.ref C_Again) (.ref C_NoLine) = some false)
    (cx_NoText : PySem.W.isClsIn K C_NoText = true)
    (ss_NoText : PySem.W.subIn K (.ref C_NoText) (.ref C_NoText) = some true)
    (sb_Again_NoText : PySem.W.subIn K (.ref C_Again) (.ref C_NoText) = some false)
    (cx_NoWalker : PySem.W.isClsIn K C_NoWalker = true)
    (ss_NoWalker : PySem.W.subIn K (.ref C_NoWalker) (.ref C_NoWalker) = some true)
    (sb_Again_NoWalker : PySem.W.subIn K (.ref C_Again) (.ref C_NoWalker) = some false)
    (cx_NotPlain : PySem.W.isClsIn K C_NotPlain = true)
    (ss_NotPlain : PySem.W.subIn K (.ref C_NotPlain) (.ref C_NotPlain) = some true)
    (sb_Again_NotPlain : PySem.W.subIn K (.ref C_Again) (.ref C_NotPlain) = some false)
    (cx_Nothing : PySem.W.isClsIn K C_Nothing = true)
    (ss_Nothing : PySem.W.subIn K (.ref C_Nothing) (.ref C_Nothing) = some true)
    (sb_Again_Nothing : PySem.W.subIn K (.ref C_Again) (.ref C_Nothing) = some false)
    (cx_Short : PySem.W.isClsIn K C_Short = true)
    (ss_Short : PySem.W.subIn K (.ref C_Short) (.ref C_Short) = some true)
    (sb_Again_Short : PySem.W.subIn K (.ref C_Again) (.ref C_Short) = some false)
    (cx_Stopped : PySem.W.isClsIn K C_Stopped = true)
    (ss_Stopped : PySem.W.subIn K (.ref C_Stopped) (.ref C_Stopped) = some true)
    (sb_Again_Stopped : PySem.W.subIn K (.ref C_Again) (.ref C_Stopped) = some false)
    (cx_Taken : PySem.W.isClsIn K C_Taken = true)
    (ss_Taken : PySem.W.subIn K (.ref C_Taken) (.ref C_Taken) = some true)
    (sb_Again_Taken : PySem.W.subIn K (.ref C_Again) (.ref C_Taken) = some false)
    (cx_TooFar : PySem.W.isClsIn K C_TooFar = true)
    (ss_TooFar : PySem.W.subIn K (.ref C_TooFar) (.ref C_TooFar) = some true)
    (sb_Again_TooFar : PySem.W.subIn K (.ref C_Again) (.ref C_TooFar) = some false)
    (cx_TooGreat : PySem.W.isClsIn K C_TooGreat = true)
    (ss_TooGreat : PySem.W.subIn K (.ref C_TooGreat) (.ref C_TooGreat) = some true)
    (sb_Again_TooGreat : PySem.W.subIn K (.ref C_Again) (.ref C_TooGreat) = some false)
    (cx_TooMany : PySem.W.isClsIn K C_TooMany = true)
    (ss_TooMany : PySem.W.subIn K (.ref C_TooMany) (.ref C_TooMany) = some true)
    (sb_Again_TooMany : PySem.W.subIn K (.ref C_Again) (.ref C_TooMany) = some false)
    (cx_Twice : PySem.W.isClsIn K C_Twice = true)
    (ss_Twice : PySem.W.subIn K (.ref C_Twice) (.ref C_Twice) = some true)
    (sb_Again_Twice : PySem.W.subIn K (.ref C_Again) (.ref C_Twice) = some false)
    (cx_Unlike : PySem.W.isClsIn K C_Unlike = true)
    (ss_Unlike : PySem.W.subIn K (.ref C_Unlike) (.ref C_Unlike) = some true)
    (sb_Again_Unlike : PySem.W.subIn K (.ref C_Again) (.ref C_Unlike) = some false)
    (st_Again_ValueError : PySem.W.subIn K (.ref C_Again) (.type "ValueError") = some true)
    (cx_Wrong : PySem.W.isClsIn K C_Wrong = true)
    (ss_Wrong : PySem.W.subIn K (.ref C_Wrong) (.ref C_Wrong) = some true)
    (sb_Again_Wrong : PySem.W.subIn K (.ref C_Again) (.ref C_Wrong) = some false)
    (cx_Again : PySem.W.isClsIn K C_Again = true)
    (ss_Again : PySem.W.subIn K (.ref C_Again) (.ref C_Again) = some true)
    (sb_AheadError_Again : PySem.W.subIn K (.ref C_AheadError) (.ref C_Again) = some false)
    (sb_AheadError_Apart : PySem.W.subIn K (.ref C_AheadError) (.ref C_Apart) = some false)
    (sb_AheadError_Few : PySem.W.subIn K (.ref C_AheadError) (.ref C_Few) = some false)
    (sb_AheadError_Full : PySem.W.subIn K (.ref C_AheadError) (.ref C_Full) = some false)
    (sb_AheadError_Lacks : PySem.W.subIn K (.ref C_AheadError) (.ref C_Lacks) = some false)
    (sb_AheadError_NoBook : PySem.W.subIn K (.ref C_AheadError) (.ref C_NoBook) = some false)
    (sb_AheadError_NoDeed : PySem.W.subIn K (.ref C_AheadError) (.ref C_NoDeed) = some false)
    (sb_AheadError_NoLine : PySem.W.subIn K (.ref C_AheadError) (.ref C_NoLine) = some false)
    (sb_AheadError_NoText : PySem.W.subIn K (.ref C_AheadError) (.ref C_NoText) = some false)
    (sb_AheadError_NoWalker : PySem.W.subIn K (.ref C_AheadError) (.ref C_NoWalker) = some false)
    (sb_AheadError_NotPlain : PySem.W.subIn K (.ref C_AheadError) (.ref C_NotPlain) = some false)
    (sb_AheadError_Nothing : PySem.W.subIn K (.ref C_AheadError) (.ref C_Nothing) = some false)
    (sb_AheadError_Short : PySem.W.subIn K (.ref C_AheadError) (.ref C_Short) = some false)
    (sb_AheadError_Stopped : PySem.W.subIn K (.ref C_AheadError) (.ref C_Stopped) = some false)
    (sb_AheadError_Taken : PySem.W.subIn K (.ref C_AheadError) (.ref C_Taken) = some false)
    (sb_AheadError_TooFar : PySem.W.subIn K (.ref C_AheadError) (.ref C_TooFar) = some false)
    (sb_AheadError_TooGreat : PySem.W.subIn K (.ref C_AheadError) (.ref C_TooGreat) = some false)
    (sb_AheadError_TooMany : PySem.W.subIn K (.ref C_AheadError) (.ref C_TooMany) = some false)
    (sb_AheadError_Twice : PySem.W.subIn K (.ref C_AheadError) (.ref C_Twice) = some false)
    (sb_AheadError_Unlike : PySem.W.subIn K (.ref C_AheadError) (.ref C_Unlike) = some false)
    (st_AheadError_ValueError : PySem.W.subIn K (.ref C_AheadError) (.type "ValueError") = some true)
    (sb_AheadError_Wrong : PySem.W.subIn K (.ref C_AheadError) (.ref C_Wrong) = some false)
    (sb_Apart_Again : PySem.W.subIn K (.ref C_Apart) (.ref C_Again) = some false)
    (sb_Apart_AheadError : PySem.W.subIn K (.ref C_Apart) (.ref C_AheadError) = some true)
    (sb_Apart_Few : PySem.W.subIn K (.ref C_Apart) (.ref C_Few) = some false)
    (sb_Apart_Full : PySem.W.subIn K (.ref C_Apart) (.ref C_Full) = some false)
    (sb_Apart_Lacks : PySem.W.subIn K (.ref C_Apart) (.ref C_Lacks) = some false)
    (sb_Apart_NoBook : PySem.W.subIn K (.ref C_Apart) (.ref C_NoBook) = some false)
    (sb_Apart_NoDeed : PySem.W.subIn K (.ref C_Apart) (.ref C_NoDeed) = some false)
    (sb_Apart_NoLine : PySem.W.subIn K (.ref C_Apart) (.ref C_NoLine) = some false)
    (sb_Apart_NoText : PySem.W.subIn K (.ref C_Apart) (.ref C_NoText) = some false)
    (sb_Apart_NoWalker : PySem.W.subIn K (.ref C_Apart) (.ref C_NoWalker) = some false)
    (sb_Apart_NotPlain : PySem.W.subIn K (.ref C_Apart) (.ref C_NotPlain) = some false)
    (sb_Apart_Nothing : PySem.W.subIn K (.ref C_Apart) (.ref C_Nothing) = some false)
    (sb_Apart_Short : PySem.W.subIn K (.ref C_Apart) (.ref C_Short) = some false)
    (sb_Apart_Stopped : PySem.W.subIn K (.ref C_Apart) (.ref C_Stopped) = some false)
    (sb_Apart_Taken : PySem.W.subIn K (.ref C_Apart) (.ref C_Taken) = some false)
    (sb_Apart_TooFar : PySem.W.subIn K (.ref C_Apart) (.ref C_TooFar) = some false)
    (sb_Apart_TooGreat : PySem.W.subIn K (.ref C_Apart) (.ref C_TooGreat) = some false)
    (sb_Apart_TooMany : PySem.W.subIn K (.ref C_Apart) (.ref C_TooMany) = some false)
    (sb_Apart_Twice : PySem.W.subIn K (.ref C_Apart) (.ref C_Twice) = some false)
    (sb_Apart_Unlike : PySem.W.subIn K (.ref C_Apart) (.ref C_Unlike) = some false)
    (st_Apart_ValueError : PySem.W.subIn K (.ref C_Apart) (.type "ValueError") = some true)
    (sb_Apart_Wrong : PySem.W.subIn K (.ref C_Apart) (.ref C_Wrong) = some false)
    (sb_Few_Again : PySem.W.subIn K (.ref C_Few) (.ref C_Again) = some false)
    (sb_Few_AheadError : PySem.W.subIn K (.ref C_Few) (.ref C_AheadError) = some true)
    (sb_Few_Apart : PySem.W.subIn K (.ref C_Few) (.ref C_Apart) = some false)
    (sb_Few_Full : PySem.W.subIn K (.ref C_Few) (.ref C_Full) = some false)
    (sb_Few_Lacks : PySem.W.subIn K (.ref C_Few) (.ref C_Lacks) = some false)
    (sb_Few_NoBook : PySem.W.subIn K (.ref C_Few) (.ref C_NoBook) = some false)
    (sb_Few_NoDeed : PySem.W.subIn K (.ref C_Few) (.ref C_NoDeed) = some false)
    (sb_Few_NoLine : PySem.W.subIn K (.ref C_Few) (.ref C_NoLine) = some false)
    (sb_Few_NoText : PySem.W.subIn K (.ref C_Few) (.ref C_NoText) = some false)
    (sb_Few_NoWalker : PySem.W.subIn K (.ref C_Few) (.ref C_NoWalker) = some false)
    (sb_Few_NotPlain : PySem.W.subIn K (.ref C_Few) (.ref C_NotPlain) = some false)
    (sb_Few_Nothing : PySem.W.subIn K (.ref C_Few) (.ref C_Nothing) = some false)
    (sb_Few_Short : PySem.W.subIn K (.ref C_Few) (.ref C_Short) = some false)
    (sb_Few_Stopped : PySem.W.subIn K (.ref C_Few) (.ref C_Stopped) = some false)
    (sb_Few_Taken : PySem.W.subIn K (.ref C_Few) (.ref C_Taken) = some false)
    (sb_Few_TooFar : PySem.W.subIn K (.ref C_Few) (.ref C_TooFar) = some false)
    (sb_Few_TooGreat : PySem.W.subIn K (.ref C_Few) (.ref C_TooGreat) = some false)
    (sb_Few_TooMany : PySem.W.subIn K (.ref C_Few) (.ref C_TooMany) = some false)
    (sb_Few_Twice : PySem.W.subIn K (.ref C_Few) (.ref C_Twice) = some false)
    (sb_Few_Unlike : PySem.W.subIn K (.ref C_Few) (.ref C_Unlike) = some false)
    (st_Few_ValueError : PySem.W.subIn K (.ref C_Few) (.type "ValueError") = some true)
    (sb_Few_Wrong : PySem.W.subIn K (.ref C_Few) (.ref C_Wrong) = some false)
    (sb_Full_Again : PySem.W.subIn K (.ref C_Full) (.ref C_Again) = some false)
    (sb_Full_AheadError : PySem.W.subIn K (.ref C_Full) (.ref C_AheadError) = some true)
    (sb_Full_Apart : PySem.W.subIn K (.ref C_Full) (.ref C_Apart) = some false)
    (sb_Full_Few : PySem.W.subIn K (.ref C_Full) (.ref C_Few) = some false)
    (sb_Full_Lacks : PySem.W.subIn K (.ref C_Full) (.ref C_Lacks) = some false)
    (sb_Full_NoBook : PySem.W.subIn K (.ref C_Full) (.ref C_NoBook) = some false)
    (sb_Full_NoDeed : PySem.W.subIn K (.ref C_Full) (.ref C_NoDeed) = some false)
    (sb_Full_NoLine : PySem.W.subIn K (.ref C_Full) (.ref C_NoLine) = some false)
    (sb_Full_NoText : PySem.W.subIn K (.ref C_Full) (.ref C_NoText) = some false)
    (sb_Full_NoWalker : PySem.W.subIn K (.ref C_Full) (.ref C_NoWalker) = some false)
    (sb_Full_NotPlain : PySem.W.subIn K (.ref C_Full) (.ref C_NotPlain) = some false)
    (sb_Full_Nothing : PySem.W.subIn K (.ref C_Full) (.ref C_Nothing) = some false)
    (sb_Full_Short : PySem.W.subIn K (.ref C_Full) (.ref C_Short) = some false)
    (sb_Full_Stopped : PySem.W.subIn K (.ref C_Full) (.ref C_Stopped) = some false)
    (sb_Full_Taken : PySem.W.subIn K (.ref C_Full) (.ref C_Taken) = some false)
    (sb_Full_TooFar : PySem.W.subIn K (.ref C_Full) (.ref C_TooFar) = some false)
    (sb_Full_TooGreat : PySem.W.subIn K (.ref C_Full) (.ref C_TooGreat) = some false)
    (sb_Full_TooMany : PySem.W.subIn K (.ref C_Full) (.ref C_TooMany) = some false)
    (sb_Full_Twice : PySem.W.subIn K (.ref C_Full) (.ref C_Twice) = some false)
    (sb_Full_Unlike : PySem.W.subIn K (.ref C_Full) (.ref C_Unlike) = some false)
    (st_Full_ValueError : PySem.W.subIn K (.ref C_Full) (.type "ValueError") = some true)
    (sb_Full_Wrong : PySem.W.subIn K (.ref C_Full) (.ref C_Wrong) = some false)
    (sb_Lacks_Again : PySem.W.subIn K (.ref C_Lacks) (.ref C_Again) = some false)
    (sb_Lacks_AheadError : PySem.W.subIn K (.ref C_Lacks) (.ref C_AheadError) = some true)
    (sb_Lacks_Apart : PySem.W.subIn K (.ref C_Lacks) (.ref C_Apart) = some false)
    (sb_Lacks_Few : PySem.W.subIn K (.ref C_Lacks) (.ref C_Few) = some false)
    (sb_Lacks_Full : PySem.W.subIn K (.ref C_Lacks) (.ref C_Full) = some false)
    (sb_Lacks_NoBook : PySem.W.subIn K (.ref C_Lacks) (.ref C_NoBook) = some false)
    (sb_Lacks_NoDeed : PySem.W.subIn K (.ref C_Lacks) (.ref C_NoDeed) = some false)
    (sb_Lacks_NoLine : PySem.W.subIn K (.ref C_Lacks) (.ref C_NoLine) = some false)
    (sb_Lacks_NoText : PySem.W.subIn K (.ref C_Lacks) (.ref C_NoText) = some false)
    (sb_Lacks_NoWalker : PySem.W.subIn K (.ref C_Lacks) (.ref C_NoWalker) = some false)
    (sb_Lacks_NotPlain : PySem.W.subIn K (.ref C_Lacks) (.ref C_NotPlain) = some false)
    (sb_Lacks_Nothing : PySem.W.subIn K (.ref C_Lacks) (.ref C_Nothing) = some false)
    (sb_Lacks_Short : PySem.W.subIn K (.ref C_Lacks) (.ref C_Short) = some false)
    (sb_Lacks_Stopped : PySem.W.subIn K (.ref C_Lacks) (.ref C_Stopped) = some false)
    (sb_Lacks_Taken : PySem.W.subIn K (.ref C_Lacks) (.ref C_Taken) = some false)
    (sb_Lacks_TooFar : PySem.W.subIn K (.ref C_Lacks) (.ref C_TooFar) = some false)
    (sb_Lacks_TooGreat : PySem.W.subIn K (.ref C_Lacks) (.ref C_TooGreat) = some false)
    (sb_Lacks_TooMany : PySem.W.subIn K (.ref C_Lacks) (.ref C_TooMany) = some false)
    (sb_Lacks_Twice : PySem.W.subIn K (.ref C_Lacks) (.ref C_Twice) = some false)
    (sb_Lacks_Unlike : PySem.W.subIn K (.ref C_Lacks) (.ref C_Unlike) = some false)
    (st_Lacks_ValueError : PySem.W.subIn K (.ref C_Lacks) (.type "ValueError") = some true)
    (sb_Lacks_Wrong : PySem.W.subIn K (.ref C_Lacks) (.ref C_Wrong) = some false)
    (sb_NoBook_Again : PySem.W.subIn K (.ref C_NoBook) (.ref C_Again) = some false)
    (sb_NoBook_AheadError : PySem.W.subIn K (.ref C_NoBook) (.ref C_AheadError) = some true)
    (sb_NoBook_Apart : PySem.W.subIn K (.ref C_NoBook) (.ref C_Apart) = some false)
    (sb_NoBook_Few : PySem.W.subIn K (.ref C_NoBook) (.ref C_Few) = some false)
    (sb_NoBook_Full : PySem.W.subIn K (.ref C_NoBook) (.ref C_Full) = some false)
    (sb_NoBook_Lacks : PySem.W.subIn K (.ref C_NoBook) (.ref C_Lacks) = some false)
    (sb_NoBook_NoDeed : PySem.W.subIn K (.ref C_NoBook) (.ref C_NoDeed) = some false)
    (sb_NoBook_NoLine : PySem.W.subIn K (.ref C_NoBook) (.ref C_NoLine) = some false)
    (sb_NoBook_NoText : PySem.W.subIn K (.ref C_NoBook) (.ref C_NoText) = some false)
    (sb_NoBook_NoWalker : PySem.W.subIn K (.ref C_NoBook) (.ref C_NoWalker) = some false)
    (sb_NoBook_NotPlain : PySem.W.subIn K (.ref C_NoBook) (.ref C_NotPlain) = some false)
    (sb_NoBook_Nothing : PySem.W.subIn K (.ref C_NoBook) (.ref C_Nothing) = some false)
    (sb_NoBook_Short : PySem.W.subIn K (.ref C_NoBook) (.ref C_Short) = some false)
    (sb_NoBook_Stopped : PySem.W.subIn K (.ref C_NoBook) (.ref C_Stopped) = some false)
    (sb_NoBook_Taken : PySem.W.subIn K (.ref C_NoBook) (.ref C_Taken) = some false)
    (sb_NoBook_TooFar : PySem.W.subIn K (.ref C_NoBook) (.ref C_TooFar) = some false)
    (sb_NoBook_TooGreat : PySem.W.subIn K (.ref C_NoBook) (.ref C_TooGreat) = some false)
    (sb_NoBook_TooMany : PySem.W.subIn K (.ref C_NoBook) (.ref C_TooMany) = some false)
    (sb_NoBook_Twice : PySem.W.subIn K (.ref C_NoBook) (.ref C_Twice) = some false)
    (sb_NoBook_Unlike : PySem.W.subIn K (.ref C_NoBook) (.ref C_Unlike) = some false)
    (st_NoBook_ValueError : PySem.W.subIn K (.ref C_NoBook) (.type "ValueError") = some true)
    (sb_NoBook_Wrong : PySem.W.subIn K (.ref C_NoBook) (.ref C_Wrong) = some false)
    (sb_NoDeed_Again : PySem.W.subIn K (.ref C_NoDeed) (.ref C_Again) = some false)
    (sb_NoDeed_AheadError : PySem.W.subIn K (.ref C_NoDeed) (.ref C_AheadError) = some true)
    (sb_NoDeed_Apart : PySem.W.subIn K (.ref C_NoDeed) (.ref C_Apart) = some false)
    (sb_NoDeed_Few : PySem.W.subIn K (.ref C_NoDeed) (.ref C_Few) = some false)
    (sb_NoDeed_Full : PySem.W.subIn K (.ref C_NoDeed) (.ref C_Full) = some false)
    (sb_NoDeed_Lacks : PySem.W.subIn K (.ref C_NoDeed) (.ref C_Lacks) = some false)
    (sb_NoDeed_NoBook : PySem.W.subIn K (.ref C_NoDeed) (.ref C_NoBook) = some false)
    (sb_NoDeed_NoLine : PySem.W.subIn K (.ref C_NoDeed) (.ref C_NoLine) = some false)
    (sb_NoDeed_NoText : PySem.W.subIn K (.ref C_NoDeed) (.ref C_NoText) = some false)
    (sb_NoDeed_NoWalker : PySem.W.subIn K (.ref C_NoDeed) (.ref C_NoWalker) = some false)
    (sb_NoDeed_NotPlain : PySem.W.subIn K (.ref C_NoDeed) (.ref C_NotPlain) = some false)
    (sb_NoDeed_Nothing : PySem.W.subIn K (.ref C_NoDeed) (.ref C_Nothing) = some false)
    (sb_NoDeed_Short : PySem.W.subIn K (.ref C_NoDeed) (.ref C_Short) = some false)
    (sb_NoDeed_Stopped : PySem.W.subIn K (.ref C_NoDeed) (.ref C_Stopped) = some false)
    (sb_NoDeed_Taken : PySem.W.subIn K (.ref C_NoDeed) (.ref C_Taken) = some false)
    (sb_NoDeed_TooFar : PySem.W.subIn K (.ref C_NoDeed) (.ref C_TooFar) = some false)
    (sb_NoDeed_TooGreat : PySem.W.subIn K (.ref C_NoDeed) (.ref C_TooGreat) = some false)
    (sb_NoDeed_TooMany : PySem.W.subIn K (.ref C_NoDeed) (.ref C_TooMany) = some false)
    (sb_NoDeed_Twice : PySem.W.subIn K (.ref C_NoDeed) (.ref C_Twice) = some false)
    (sb_NoDeed_Unlike : PySem.W.subIn K (.ref C_NoDeed) (.ref C_Unlike) = some false)
    (st_NoDeed_ValueError : PySem.W.subIn K (.ref C_NoDeed) (.type "ValueError") = some true)
    (sb_NoDeed_Wrong : PySem.W.subIn K (.ref C_NoDeed) (.ref C_Wrong) = some false)
    (sb_NoLine_Again : PySem.W.subIn K (.ref C_NoLine) (.ref C_Again) = some false)
    (sb_NoLine_AheadError : PySem.W.subIn K (.ref C_NoLine) (.ref C_AheadError) = some true)
    (sb_NoLine_Apart : PySem.W.subIn K (.ref C_NoLine) (.ref C_Apart) = some false)
    (sb_NoLine_Few : PySem.W.subIn K (.ref C_NoLine) (.ref C_Few) = some false)
    (sb_NoLine_Full : PySem.W.subIn K (.ref C_NoLine) (.ref C_Full) = some false)
    (sb_NoLine_Lacks : PySem.W.subIn K (.ref C_NoLine) (.ref C_Lacks) = some false)
    (sb_NoLine_NoBook : PySem.W.subIn K (.ref C_NoLine) (.ref C_NoBook) = some false)
    (sb_NoLine_NoDeed : PySem.W.subIn K (.ref C_NoLine) (.ref C_NoDeed) = some false)
    (sb_NoLine_NoText : PySem.W.subIn K (.ref C_NoLine) (.ref C_NoText) = some false)
    (sb_NoLine_NoWalker : PySem.W.subIn K (.ref C_NoLine) (.ref C_NoWalker) = some false)
    (sb_NoLine_NotPlain : PySem.W.subIn K (.ref C_NoLine) (.ref C_NotPlain) = some false)
    (sb_NoLine_Nothing : PySem.W.subIn K (.ref C_NoLine) (.ref C_Nothing) = some false)
    (sb_NoLine_Short : PySem.W.subIn K (.ref C_NoLine) (.ref C_Short) = some false)
    (sb_NoLine_Stopped : PySem.W.subIn K (.ref C_NoLine) (.ref C_Stopped) = some false)
    (sb_NoLine_Taken : PySem.W.subIn K (.ref C_NoLine) (.ref C_Taken) = some false)
    (sb_NoLine_TooFar : PySem.W.subIn K (.ref C_NoLine) (.ref C_TooFar) = some false)
    (sb_NoLine_TooGreat : PySem.W.subIn K (.ref C_NoLine) (.ref C_TooGreat) = some false)
    (sb_NoLine_TooMany : PySem.W.subIn K (.ref C_NoLine) (.ref C_TooMany) = some false)
    (sb_NoLine_Twice : PySem.W.subIn K (.ref C_NoLine) (.ref C_Twice) = some false)
    (sb_NoLine_Unlike : PySem.W.subIn K (.ref C_NoLine) (.ref C_Unlike) = some false)
    (st_NoLine_ValueError : PySem.W.subIn K (.ref C_NoLine) (.type "ValueError") = some true)
    (sb_NoLine_Wrong : PySem.W.subIn K (.ref C_NoLine) (.ref C_Wrong) = some false)
    (sb_NoText_Again : PySem.W.subIn K (.ref C_NoText) (.ref C_Again) = some false)
    (sb_NoText_AheadError : PySem.W.subIn K (.ref C_NoText) (.ref C_AheadError) = some true)
    (sb_NoText_Apart : PySem.W.subIn K (.ref C_NoText) (.ref C_Apart) = some false)
    (sb_NoText_Few : PySem.W.subIn K (.ref C_NoText) (.ref C_Few) = some false)
    (sb_NoText_Full : PySem.W.subIn K (.ref C_NoText) (.ref C_Full) = some false)
    (sb_NoText_Lacks : PySem.W.subIn K (.ref C_NoText) (.ref C_Lacks) = some false)
    (sb_NoText_NoBook : PySem.W.subIn K (.ref C_NoText) (.ref C_NoBook) = some false)
    (sb_NoText_NoDeed : PySem.W.subIn K (.ref C_NoText) (.ref C_NoDeed) = some false)
    (sb_NoText_NoLine : PySem.W.subIn K (.ref C_NoText) (.ref C_NoLine) = some false)
    (sb_NoText_NoWalker : PySem.W.subIn K (.ref C_NoText) (.ref C_NoWalker) = some false)
    (sb_NoText_NotPlain : PySem.W.subIn K (.ref C_NoText) (.ref C_NotPlain) = some false)
    (sb_NoText_Nothing : PySem.W.subIn K (.ref C_NoText) (.ref C_Nothing) = some false)
    (sb_NoText_Short : PySem.W.subIn K (.ref C_NoText) (.ref C_Short) = some false)
    (sb_NoText_Stopped : PySem.W.subIn K (.ref C_NoText) (.ref C_Stopped) = some false)
    (sb_NoText_Taken : PySem.W.subIn K (.ref C_NoText) (.ref C_Taken) = some false)
    (sb_NoText_TooFar : PySem.W.subIn K (.ref C_NoText) (.ref C_TooFar) = some false)
    (sb_NoText_TooGreat : PySem.W.subIn K (.ref C_NoText) (.ref C_TooGreat) = some false)
    (sb_NoText_TooMany : PySem.W.subIn K (.ref C_NoText) (.ref C_TooMany) = some false)
    (sb_NoText_Twice : PySem.W.subIn K (.ref C_NoText) (.ref C_Twice) = some false)
    (sb_NoText_Unlike : PySem.W.subIn K (.ref C_NoText) (.ref C_Unlike) = some false)
    (st_NoText_ValueError : PySem.W.subIn K (.ref C_NoText) (.type "ValueError") = some true)
    (sb_NoText_Wrong : PySem.W.subIn K (.ref C_NoText) (.ref C_Wrong) = some false)
    (sb_NoWalker_Again : PySem.W.subIn K (.ref C_NoWalker) (.ref C_Again) = some false)
    (sb_NoWalker_AheadError : PySem.W.subIn K (.ref C_NoWalker) (.ref C_AheadError) = some true)
    (sb_NoWalker_Apart : PySem.W.subIn K (.ref C_NoWalker) (.ref C_Apart) = some false)
    (sb_NoWalker_Few : PySem.W.subIn K (.ref C_NoWalker) (.ref C_Few) = some false)
    (sb_NoWalker_Full : PySem.W.subIn K (.ref C_NoWalker) (.ref C_Full) = some false)
    (sb_NoWalker_Lacks : PySem.W.subIn K (.ref C_NoWalker) (.ref C_Lacks) = some false)
    (sb_NoWalker_NoBook : PySem.W.subIn K (.ref C_NoWalker) (.ref C_NoBook) = some false)
    (sb_NoWalker_NoDeed : PySem.W.subIn K (.ref C_NoWalker) (.ref C_NoDeed) = some false)
    (sb_NoWalker_NoLine : PySem.W.subIn K (.ref C_NoWalker) (.ref C_NoLine) = some false)
    (sb_NoWalker_NoText : PySem.W.subIn K (.ref C_NoWalker) (.ref C_NoText) = some false)
    (sb_NoWalker_NotPlain : PySem.W.subIn K (.ref C_NoWalker) (.ref C_NotPlain) = some false)
    (sb_NoWalker_Nothing : PySem.W.subIn K (.ref C_NoWalker) (.ref C_Nothing) = some false)
    (sb_NoWalker_Short : PySem.W.subIn K (.ref C_NoWalker) (.ref C_Short) = some false)
    (sb_NoWalker_Stopped : PySem.W.subIn K (.ref C_NoWalker) (.ref C_Stopped) = some false)
    (sb_NoWalker_Taken : PySem.W.subIn K (.ref C_NoWalker) (.ref C_Taken) = some false)
    (sb_NoWalker_TooFar : PySem.W.subIn K (.ref C_NoWalker) (.ref C_TooFar) = some false)
    (sb_NoWalker_TooGreat : PySem.W.subIn K (.ref C_NoWalker) (.ref C_TooGreat) = some false)
    (sb_NoWalker_TooMany : PySem.W.subIn K (.ref C_NoWalker) (.ref C_TooMany) = some false)
    (sb_NoWalker_Twice : PySem.W.subIn K (.ref C_NoWalker) (.ref C_Twice) = some false)
    (sb_NoWalker_Unlike : PySem.W.subIn K (.ref C_NoWalker) (.ref C_Unlike) = some false)
    (st_NoWalker_ValueError : PySem.W.subIn K (.ref C_NoWalker) (.type "ValueError") = some true)
    (sb_NoWalker_Wrong : PySem.W.subIn K (.ref C_NoWalker) (.ref C_Wrong) = some false)
    (sb_NotPlain_Again : PySem.W.subIn K (.ref C_NotPlain) (.ref C_Again) = some false)
    (sb_NotPlain_AheadError : PySem.W.subIn K (.ref C_NotPlain) (.ref C_AheadError) = some true)
    (sb_NotPlain_Apart : PySem.W.subIn K (.ref C_NotPlain) (.ref C_Apart) = some false)
    (sb_NotPlain_Few : PySem.W.subIn K (.ref C_NotPlain) (.ref C_Few) = some false)
    (sb_NotPlain_Full : PySem.W.subIn K (.ref C_NotPlain) (.ref C_Full) = some false)
    (sb_NotPlain_Lacks : PySem.W.subIn K (.ref C_NotPlain) (.ref C_Lacks) = some false)
    (sb_NotPlain_NoBook : PySem.W.subIn K (.ref C_NotPlain) (.ref C_NoBook) = some false)
    (sb_NotPlain_NoDeed : PySem.W.subIn K (.ref C_NotPlain) (.ref C_NoDeed) = some false)
    (sb_NotPlain_NoLine : PySem.W.subIn K (.ref C_NotPlain) (.ref C_NoLine) = some false)
    (sb_NotPlain_NoText : PySem.W.subIn K (.ref C_NotPlain) (.ref C_NoText) = some false)
    (sb_NotPlain_NoWalker : PySem.W.subIn K (.ref C_NotPlain) (.ref C_NoWalker) = some false)
    (sb_NotPlain_Nothing : PySem.W.subIn K (.ref C_NotPlain) (.ref C_Nothing) = some false)
    (sb_NotPlain_Short : PySem.W.subIn K (.ref C_NotPlain) (.ref C_Short) = some false)
    (sb_NotPlain_Stopped : PySem.W.subIn K (.ref C_NotPlain) (.ref C_Stopped) = some false)
    (sb_NotPlain_Taken : PySem.W.subIn K (.ref C_NotPlain) (.ref C_Taken) = some false)
    (sb_NotPlain_TooFar : PySem.W.subIn K (.ref C_NotPlain) (.ref C_TooFar) = some false)
    (sb_NotPlain_TooGreat : PySem.W.subIn K (.ref C_NotPlain) (.ref C_TooGreat) = some false)
    (sb_NotPlain_TooMany : PySem.W.subIn K (.ref C_NotPlain) (.ref C_TooMany) = some false)
    (sb_NotPlain_Twice : PySem.W.subIn K (.ref C_NotPlain) (.ref C_Twice) = some false)
    (sb_NotPlain_Unlike : PySem.W.subIn K (.ref C_NotPlain) (.ref C_Unlike) = some false)
    (st_NotPlain_ValueError : PySem.W.subIn K (.ref C_NotPlain) (.type "ValueError") = some true)
    (sb_NotPlain_Wrong : PySem.W.subIn K (.ref C_NotPlain) (.ref C_Wrong) = some false)
    (sb_Nothing_Again : PySem.W.subIn K (.ref C_Nothing) (.ref C_Again) = some false)
    (sb_Nothing_AheadError : PySem.W.subIn K (.ref C_Nothing) (.ref C_AheadError) = some true)
    (sb_Nothing_Apart : PySem.W.subIn K (.ref C_Nothing) (.ref C_Apart) = some false)
    (sb_Nothing_Few : PySem.W.subIn K (.ref C_Nothing) (.ref C_Few) = some false)
    (sb_Nothing_Full : PySem.W.subIn K (.ref C_Nothing) (.ref C_Full) = some false)
    (sb_Nothing_Lacks : PySem.W.subIn K (.ref C_Nothing) (.ref C_Lacks) = some false)
    (sb_Nothing_NoBook : PySem.W.subIn K (.ref C_Nothing) (.ref C_NoBook) = some false)
    (sb_Nothing_NoDeed : PySem.W.subIn K (.ref C_Nothing) (.ref C_NoDeed) = some false)
    (sb_Nothing_NoLine : PySem.W.subIn K (.ref C_Nothing) (.ref C_NoLine) = some false)
    (sb_Nothing_NoText : PySem.W.subIn K (.ref C_Nothing) (.ref C_NoText) = some false)
    (sb_Nothing_NoWalker : PySem.W.subIn K (.ref C_Nothing) (.ref C_NoWalker) = some false)
    (sb_Nothing_NotPlain : PySem.W.subIn K (.ref C_Nothing) (.ref C_NotPlain) = some false)
    (sb_Nothing_Short : PySem.W.subIn K (.ref C_Nothing) (.ref C_Short) = some false)
    (sb_Nothing_Stopped : PySem.W.subIn K (.ref C_Nothing) (.ref C_Stopped) = some false)
    (sb_Nothing_Taken : PySem.W.subIn K (.ref C_Nothing) (.ref C_Taken) = some false)
    (sb_Nothing_TooFar : PySem.W.subIn K (.ref C_Nothing) (.ref C_TooFar) = some false)
    (sb_Nothing_TooGreat : PySem.W.subIn K (.ref C_Nothing) (.ref C_TooGreat) = some false)
    (sb_Nothing_TooMany : PySem.W.subIn K (.ref C_Nothing) (.ref C_TooMany) = some false)
    (sb_Nothing_Twice : PySem.W.subIn K (.ref C_Nothing) (.ref C_Twice) = some false)
    (sb_Nothing_Unlike : PySem.W.subIn K (.ref C_Nothing) (.ref C_Unlike) = some false)
    (st_Nothing_ValueError : PySem.W.subIn K (.ref C_Nothing) (.type "ValueError") = some true)
    (sb_Nothing_Wrong : PySem.W.subIn K (.ref C_Nothing) (.ref C_Wrong) = some false)
    (sb_Short_Again : PySem.W.subIn K (.ref C_Short) (.ref C_Again) = some false)
    (sb_Short_AheadError : PySem.W.subIn K (.ref C_Short) (.ref C_AheadError) = some true)
    (sb_Short_Apart : PySem.W.subIn K (.ref C_Short) (.ref C_Apart) = some false)
    (sb_Short_Few : PySem.W.subIn K (.ref C_Short) (.ref C_Few) = some false)
    (sb_Short_Full : PySem.W.subIn K (.ref C_Short) (.ref C_Full) = some false)
    (sb_Short_Lacks : PySem.W.subIn K (.ref C_Short) (.ref C_Lacks) = some false)
    (sb_Short_NoBook : PySem.W.subIn K (.ref C_Short) (.ref C_NoBook) = some false)
    (sb_Short_NoDeed : PySem.W.subIn K (.ref C_Short) (.ref C_NoDeed) = some false)
    (sb_Short_NoLine : PySem.W.subIn K (.ref C_Short) (.ref C_NoLine) = some false)
    (sb_Short_NoText : PySem.W.subIn K (.ref C_Short) (.ref C_NoText) = some false)
    (sb_Short_NoWalker : PySem.W.subIn K (.ref C_Short) (.ref C_NoWalker) = some false)
    (sb_Short_NotPlain : PySem.W.subIn K (.ref C_Short) (.ref C_NotPlain) = some false)
    (sb_Short_Nothing : PySem.W.subIn K (.ref C_Short) (.ref C_Nothing) = some false)
    (sb_Short_Stopped : PySem.W.subIn K (.ref C_Short) (.ref C_Stopped) = some false)
    (sb_Short_Taken : PySem.W.subIn K (.ref C_Short) (.ref C_Taken) = some false)
    (sb_Short_TooFar : PySem.W.subIn K (.ref C_Short) (.ref C_TooFar) = some false)
    (sb_Short_TooGreat : PySem.W.subIn K (.ref C_Short) (.ref C_TooGreat) = some false)
    (sb_Short_TooMany : PySem.W.subIn K (.ref C_Short) (.ref C_TooMany) = some false)
    (sb_Short_Twice : PySem.W.subIn K (.ref C_Short) (.ref C_Twice) = some false)
    (sb_Short_Unlike : PySem.W.subIn K (.ref C_Short) (.ref C_Unlike) = some false)
    (st_Short_ValueError : PySem.W.subIn K (.ref C_Short) (.type "ValueError") = some true)
    (sb_Short_Wrong : PySem.W.subIn K (.ref C_Short) (.ref C_Wrong) = some false)
    (sb_Stopped_Again : PySem.W.subIn K (.ref C_Stopped) (.ref C_Again) = some false)
    (sb_Stopped_AheadError : PySem.W.subIn K (.ref C_Stopped) (.ref C_AheadError) = some true)
    (sb_Stopped_Apart : PySem.W.subIn K (.ref C_Stopped) (.ref C_Apart) = some false)
    (sb_Stopped_Few : PySem.W.subIn K (.ref C_Stopped) (.ref C_Few) = some false)
    (sb_Stopped_Full : PySem.W.subIn K (.ref C_Stopped) (.ref C_Full) = some false)
    (sb_Stopped_Lacks : PySem.W.subIn K (.ref C_Stopped) (.ref C_Lacks) = some false)
    (sb_Stopped_NoBook : PySem.W.subIn K (.ref C_Stopped) (.ref C_NoBook) = some false)
    (sb_Stopped_NoDeed : PySem.W.subIn K (.ref C_Stopped) (.ref C_NoDeed) = some false)
    (sb_Stopped_NoLine : PySem.W.subIn K (.ref C_Stopped) (.ref C_NoLine) = some false)
    (sb_Stopped_NoText : PySem.W.subIn K (.ref C_Stopped) (.ref C_NoText) = some false)
    (sb_Stopped_NoWalker : PySem.W.subIn K (.ref C_Stopped) (.ref C_NoWalker) = some false)
    (sb_Stopped_NotPlain : PySem.W.subIn K (.ref C_Stopped) (.ref C_NotPlain) = some false)
    (sb_Stopped_Nothing : PySem.W.subIn K (.ref C_Stopped) (.ref C_Nothing) = some false)
    (sb_Stopped_Short : PySem.W.subIn K (.ref C_Stopped) (.ref C_Short) = some false)
    (sb_Stopped_Taken : PySem.W.subIn K (.ref C_Stopped) (.ref C_Taken) = some false)
    (sb_Stopped_TooFar : PySem.W.subIn K (.ref C_Stopped) (.ref C_TooFar) = some false)
    (sb_Stopped_TooGreat : PySem.W.subIn K (.ref C_Stopped) (.ref C_TooGreat) = some false)
    (sb_Stopped_TooMany : PySem.W.subIn K (.ref C_Stopped) (.ref C_TooMany) = some false)
    (sb_Stopped_Twice : PySem.W.subIn K (.ref C_Stopped) (.ref C_Twice) = some false)
    (sb_Stopped_Unlike : PySem.W.subIn K (.ref C_Stopped) (.ref C_Unlike) = some false)
    (st_Stopped_ValueError : PySem.W.subIn K (.ref C_Stopped) (.type "ValueError") = some true)
    (sb_Stopped_Wrong : PySem.W.subIn K (.ref C_Stopped) (.ref C_Wrong) = some false)
    (sb_Taken_Again : PySem.W.subIn K (.ref C_Taken) (.ref C_Again) = some false)
    (sb_Taken_AheadError : PySem.W.subIn K (.ref C_Taken) (.ref C_AheadError) = some true)
    (sb_Taken_Apart : PySem.W.subIn K (.ref C_Taken) (.ref C_Apart) = some false)
    (sb_Taken_Few : PySem.W.subIn K (.ref C_Taken) (.ref C_Few) = some false)
    (sb_Taken_Full : PySem.W.subIn K (.ref C_Taken) (.ref C_Full) = some false)
    (sb_Taken_Lacks : PySem.W.subIn K (.ref C_Taken) (.ref C_Lacks) = some false)
    (sb_Taken_NoBook : PySem.W.subIn K (.ref C_Taken) (.ref C_NoBook) = some false)
    (sb_Taken_NoDeed : PySem.W.subIn K (.ref C_Taken) (.ref C_NoDeed) = some false)
    (sb_Taken_NoLine : PySem.W.subIn K (.ref C_Taken) (.ref C_NoLine) = some false)
    (sb_Taken_NoText : PySem.W.subIn K (.ref C_Taken) (.ref C_NoText) = some false)
    (sb_Taken_NoWalker : PySem.W.subIn K (.ref C_Taken) (.ref C_NoWalker) = some false)
    (sb_Taken_NotPlain : PySem.W.subIn K (.ref C_Taken) (.ref C_NotPlain) = some false)
    (sb_Taken_Nothing : PySem.W.subIn K (.ref C_Taken) (.ref C_Nothing) = some false)
    (sb_Taken_Short : PySem.W.subIn K (.ref C_Taken) (.ref C_Short) = some false)
    (sb_Taken_Stopped : PySem.W.subIn K (.ref C_Taken) (.ref C_Stopped) = some false)
    (sb_Taken_TooFar : PySem.W.subIn K (.ref C_Taken) (.ref C_TooFar) = some false)
    (sb_Taken_TooGreat : PySem.W.subIn K (.ref C_Taken) (.ref C_TooGreat) = some false)
    (sb_Taken_TooMany : PySem.W.subIn K (.ref C_Taken) (.ref C_TooMany) = some false)
    (sb_Taken_Twice : PySem.W.subIn K (.ref C_Taken) (.ref C_Twice) = some false)
    (sb_Taken_Unlike : PySem.W.subIn K (.ref C_Taken) (.ref C_Unlike) = some false)
    (st_Taken_ValueError : PySem.W.subIn K (.ref C_Taken) (.type "ValueError") = some true)
    (sb_Taken_Wrong : PySem.W.subIn K (.ref C_Taken) (.ref C_Wrong) = some false)
    (sb_TooFar_Again : PySem.W.subIn K (.ref C_TooFar) (.ref C_Again) = some false)
    (sb_TooFar_AheadError : PySem.W.subIn K (.ref C_TooFar) (.ref C_AheadError) = some true)
    (sb_TooFar_Apart : PySem.W.subIn K (.ref C_TooFar) (.ref C_Apart) = some false)
    (sb_TooFar_Few : PySem.W.subIn K (.ref C_TooFar) (.ref C_Few) = some false)
    (sb_TooFar_Full : PySem.W.subIn K (.ref C_TooFar) (.ref C_Full) = some false)
    (sb_TooFar_Lacks : PySem.W.subIn K (.ref C_TooFar) (.ref C_Lacks) = some false)
    (sb_TooFar_NoBook : PySem.W.subIn K (.ref C_TooFar) (.ref C_NoBook) = some false)
    (sb_TooFar_NoDeed : PySem.W.subIn K (.ref C_TooFar) (.ref C_NoDeed) = some false)
    (sb_TooFar_NoLine : PySem.W.subIn K (.ref C_TooFar) (.ref C_NoLine) = some false)
    (sb_TooFar_NoText : PySem.W.subIn K (.ref C_TooFar) (.ref C_NoText) = some false)
    (sb_TooFar_NoWalker : PySem.W.subIn K (.ref C_TooFar) (.ref C_NoWalker) = some false)
    (sb_TooFar_NotPlain : PySem.W.subIn K (.ref C_TooFar) (.ref C_NotPlain) = some false)
    (sb_TooFar_Nothing : PySem.W.subIn K (.ref C_TooFar) (.ref C_Nothing) = some false)
    (sb_TooFar_Short : PySem.W.subIn K (.ref C_TooFar) (.ref C_Short) = some false)
    (sb_TooFar_Stopped : PySem.W.subIn K (.ref C_TooFar) (.ref C_Stopped) = some false)
    (sb_TooFar_Taken : PySem.W.subIn K (.ref C_TooFar) (.ref C_Taken) = some false)
    (sb_TooFar_TooGreat : PySem.W.subIn K (.ref C_TooFar) (.ref C_TooGreat) = some false)
    (sb_TooFar_TooMany : PySem.W.subIn K (.ref C_TooFar) (.ref C_TooMany) = some false)
    (sb_TooFar_Twice : PySem.W.subIn K (.ref C_TooFar) (.ref C_Twice) = some false)
    (sb_TooFar_Unlike : PySem.W.subIn K (.ref C_TooFar) (.ref C_Unlike) = some false)
    (st_TooFar_ValueError : PySem.W.subIn K (.ref C_TooFar) (.type "ValueError") = some true)
    (sb_TooFar_Wrong : PySem.W.subIn K (.ref C_TooFar) (.ref C_Wrong) = some false)
    (sb_TooGreat_Again : PySem.W.subIn K (.ref C_TooGreat) (.ref C_Again) = some false)
    (sb_TooGreat_AheadError : PySem.W.subIn K (.ref C_TooGreat) (.ref C_AheadError) = some true)
    (sb_TooGreat_Apart : PySem.W.subIn K (.ref C_TooGreat) (.ref C_Apart) = some false)
    (sb_TooGreat_Few : PySem.W.subIn K (.ref C_TooGreat) (.ref C_Few) = some false)
    (sb_TooGreat_Full : PySem.W.subIn K (.ref C_TooGreat) (.ref C_Full) = some false)
    (sb_TooGreat_Lacks : PySem.W.subIn K (.ref C_TooGreat) (.ref C_Lacks) = some false)
    (sb_TooGreat_NoBook : PySem.W.subIn K (.ref C_TooGreat) (.ref C_NoBook) = some false)
    (sb_TooGreat_NoDeed : PySem.W.subIn K (.ref C_TooGreat) (.ref C_NoDeed) = some false)
    (sb_TooGreat_NoLine : PySem.W.subIn K (.ref C_TooGreat) (.ref C_NoLine) = some false)
    (sb_TooGreat_NoText : PySem.W.subIn K (.ref C_TooGreat) (.ref C_NoText) = some false)
    (sb_TooGreat_NoWalker : PySem.W.subIn K (.ref C_TooGreat) (.ref C_NoWalker) = some false)
    (sb_TooGreat_NotPlain : PySem.W.subIn K (.ref C_TooGreat) (.ref C_NotPlain) = some false)
    (sb_TooGreat_Nothing : PySem.W.subIn K (.ref C_TooGreat) (.ref C_Nothing) = some false)
    (sb_TooGreat_Short : PySem.W.subIn K (.ref C_TooGreat) (.ref C_Short) = some false)
    (sb_TooGreat_Stopped : PySem.W.subIn K (.ref C_TooGreat) (.ref C_Stopped) = some false)
    (sb_TooGreat_Taken : PySem.W.subIn K (.ref C_TooGreat) (.ref C_Taken) = some false)
    (sb_TooGreat_TooFar : PySem.W.subIn K (.ref C_TooGreat) (.ref C_TooFar) = some false)
    (sb_TooGreat_TooMany : PySem.W.subIn K (.ref C_TooGreat) (.ref C_TooMany) = some false)
    (sb_TooGreat_Twice : PySem.W.subIn K (.ref C_TooGreat) (.ref C_Twice) = some false)
    (sb_TooGreat_Unlike : PySem.W.subIn K (.ref C_TooGreat) (.ref C_Unlike) = some false)
    (st_TooGreat_ValueError : PySem.W.subIn K (.ref C_TooGreat) (.type "ValueError") = some true)
    (sb_TooGreat_Wrong : PySem.W.subIn K (.ref C_TooGreat) (.ref C_Wrong) = some false)
    (sb_TooMany_Again : PySem.W.subIn K (.ref C_TooMany) (.ref C_Again) = some false)
    (sb_TooMany_AheadError : PySem.W.subIn K (.ref C_TooMany) (.ref C_AheadError) = some true)
    (sb_TooMany_Apart : PySem.W.subIn K (.ref C_TooMany) (.ref C_Apart) = some false)
    (sb_TooMany_Few : PySem.W.subIn K (.ref C_TooMany) (.ref C_Few) = some false)
    (sb_TooMany_Full : PySem.W.subIn K (.ref C_TooMany) (.ref C_Full) = some false)
    (sb_TooMany_Lacks : PySem.W.subIn K (.ref C_TooMany) (.ref C_Lacks) = some false)
    (sb_TooMany_NoBook : PySem.W.subIn K (.ref C_TooMany) (.ref C_NoBook) = some false)
    (sb_TooMany_NoDeed : PySem.W.subIn K (.ref C_TooMany) (.ref C_NoDeed) = some false)
    (sb_TooMany_NoLine : PySem.W.subIn K (.ref C_TooMany) (.ref C_NoLine) = some false)
    (sb_TooMany_NoText : PySem.W.subIn K (.ref C_TooMany) (.ref C_NoText) = some false)
    (sb_TooMany_NoWalker : PySem.W.subIn K (.ref C_TooMany) (.ref C_NoWalker) = some false)
    (sb_TooMany_NotPlain : PySem.W.subIn K (.ref C_TooMany) (.ref C_NotPlain) = some false)
    (sb_TooMany_Nothing : PySem.W.subIn K (.ref C_TooMany) (.ref C_Nothing) = some false)
    (sb_TooMany_Short : PySem.W.subIn K (.ref C_TooMany) (.ref C_Short) = some false)
    (sb_TooMany_Stopped : PySem.W.subIn K (.ref C_TooMany) (.ref C_Stopped) = some false)
    (sb_TooMany_Taken : PySem.W.subIn K (.ref C_TooMany) (.ref C_Taken) = some false)
    (sb_TooMany_TooFar : PySem.W.subIn K (.ref C_TooMany) (.ref C_TooFar) = some false)
    (sb_TooMany_TooGreat : PySem.W.subIn K (.ref C_TooMany) (.ref C_TooGreat) = some false)
    (sb_TooMany_Twice : PySem.W.subIn K (.ref C_TooMany) (.ref C_Twice) = some false)
    (sb_TooMany_Unlike : PySem.W.subIn K (.ref C_TooMany) (.ref C_Unlike) = some false)
    (st_TooMany_ValueError : PySem.W.subIn K (.ref C_TooMany) (.type "ValueError") = some true)
    (sb_TooMany_Wrong : PySem.W.subIn K (.ref C_TooMany) (.ref C_Wrong) = some false)
    (sb_Twice_Again : PySem.W.subIn K (.ref C_Twice) (.ref C_Again) = some false)
    (sb_Twice_AheadError : PySem.W.subIn K (.ref C_Twice) (.ref C_AheadError) = some true)
    (sb_Twice_Apart : PySem.W.subIn K (.ref C_Twice) (.ref C_Apart) = some false)
    (sb_Twice_Few : PySem.W.subIn K (.ref C_Twice) (.ref C_Few) = some false)
    (sb_Twice_Full : PySem.W.subIn K (.ref C_Twice) (.ref C_Full) = some false)
    (sb_Twice_Lacks : PySem.W.subIn K (.ref C_Twice) (.ref C_Lacks) = some false)
    (sb_Twice_NoBook : PySem.W.subIn K (.ref C_Twice) (.ref C_NoBook) = some false)
    (sb_Twice_NoDeed : PySem.W.subIn K (.ref C_Twice) (.ref C_NoDeed) = some false)
    (sb_Twice_NoLine : PySem.W.subIn K (.ref C_Twice) (.ref C_NoLine) = some false)
    (sb_Twice_NoText : PySem.W.subIn K (.ref C_Twice) (.ref C_NoText) = some false)
    (sb_Twice_NoWalker : PySem.W.subIn K (.ref C_Twice) (.ref C_NoWalker) = some false)
    (sb_Twice_NotPlain : PySem.W.subIn K (.ref C_Twice) (.ref C_NotPlain) = some false)
    (sb_Twice_Nothing : PySem.W.subIn K (.ref C_Twice) (.ref C_Nothing) = some false)
    (sb_Twice_Short : PySem.W.subIn K (.ref C_Twice) (.ref C_Short) = some false)
    (sb_Twice_Stopped : PySem.W.subIn K (.ref C_Twice) (.ref C_Stopped) = some false)
    (sb_Twice_Taken : PySem.W.subIn K (.ref C_Twice) (.ref C_Taken) = some false)
    (sb_Twice_TooFar : PySem.W.subIn K (.ref C_Twice) (.ref C_TooFar) = some false)
    (sb_Twice_TooGreat : PySem.W.subIn K (.ref C_Twice) (.ref C_TooGreat) = some false)
    (sb_Twice_TooMany : PySem.W.subIn K (.ref C_Twice) (.ref C_TooMany) = some false)
    (sb_Twice_Unlike : PySem.W.subIn K (.ref C_Twice) (.ref C_Unlike) = some false)
    (st_Twice_ValueError : PySem.W.subIn K (.ref C_Twice) (.type "ValueError") = some true)
    (sb_Twice_Wrong : PySem.W.subIn K (.ref C_Twice) (.ref C_Wrong) = some false)
    (sb_Unlike_Again : PySem.W.subIn K (.ref C_Unlike) (.ref C_Again) = some false)
    (sb_Unlike_AheadError : PySem.W.subIn K (.ref C_Unlike) (.ref C_AheadError) = some true)
    (sb_Unlike_Apart : PySem.W.subIn K (.ref C_Unlike) (.ref C_Apart) = some false)
    (sb_Unlike_Few : PySem.W.subIn K (.ref C_Unlike) (.ref C_Few) = some false)
    (sb_Unlike_Full : PySem.W.subIn K (.ref C_Unlike) (.ref C_Full) = some false)
    (sb_Unlike_Lacks : PySem.W.subIn K (.ref C_Unlike) (.ref C_Lacks) = some false)
    (sb_Unlike_NoBook : PySem.W.subIn K (.ref C_Unlike) (.ref C_NoBook) = some false)
    (sb_Unlike_NoDeed : PySem.W.subIn K (.ref C_Unlike) (.ref C_NoDeed) = some false)
    (sb_Unlike_NoLine : PySem.W.subIn K (.ref C_Unlike) (.ref C_NoLine) = some false)
    (sb_Unlike_NoText : PySem.W.subIn K (.ref C_Unlike) (.ref C_NoText) = some false)
    (sb_Unlike_NoWalker : PySem.W.subIn K (.ref C_Unlike) (.ref C_NoWalker) = some false)
    (sb_Unlike_NotPlain : PySem.W.subIn K (.ref C_Unlike) (.ref C_NotPlain) = some false)
    (sb_Unlike_Nothing : PySem.W.subIn K (.ref C_Unlike) (.ref C_Nothing) = some false)
    (sb_Unlike_Short : PySem.W.subIn K (.ref C_Unlike) (.ref C_Short) = some false)
    (sb_Unlike_Stopped : PySem.W.subIn K (.ref C_Unlike) (.ref C_Stopped) = some false)
    (sb_Unlike_Taken : PySem.W.subIn K (.ref C_Unlike) (.ref C_Taken) = some false)
    (sb_Unlike_TooFar : PySem.W.subIn K (.ref C_Unlike) (.ref C_TooFar) = some false)
    (sb_Unlike_TooGreat : PySem.W.subIn K (.ref C_Unlike) (.ref C_TooGreat) = some false)
    (sb_Unlike_TooMany : PySem.W.subIn K (.ref C_Unlike) (.ref C_TooMany) = some false)
    (sb_Unlike_Twice : PySem.W.subIn K (.ref C_Unlike) (.ref C_Twice) = some false)
    (st_Unlike_ValueError : PySem.W.subIn K (.ref C_Unlike) (.type "ValueError") = some true)
    (sb_Unlike_Wrong : PySem.W.subIn K (.ref C_Unlike) (.ref C_Wrong) = some false)
    (sb_Wrong_Again : PySem.W.subIn K (.ref C_Wrong) (.ref C_Again) = some false)
    (sb_Wrong_AheadError : PySem.W.subIn K (.ref C_Wrong) (.ref C_AheadError) = some true)
    (sb_Wrong_Apart : PySem.W.subIn K (.ref C_Wrong) (.ref C_Apart) = some false)
    (sb_Wrong_Few : PySem.W.subIn K (.ref C_Wrong) (.ref C_Few) = some false)
    (sb_Wrong_Full : PySem.W.subIn K (.ref C_Wrong) (.ref C_Full) = some false)
    (sb_Wrong_Lacks : PySem.W.subIn K (.ref C_Wrong) (.ref C_Lacks) = some false)
    (sb_Wrong_NoBook : PySem.W.subIn K (.ref C_Wrong) (.ref C_NoBook) = some false)
    (sb_Wrong_NoDeed : PySem.W.subIn K (.ref C_Wrong) (.ref C_NoDeed) = some false)
    (sb_Wrong_NoLine : PySem.W.subIn K (.ref C_Wrong) (.ref C_NoLine) = some false)
    (sb_Wrong_NoText : PySem.W.subIn K (.ref C_Wrong) (.ref C_NoText) = some false)
    (sb_Wrong_NoWalker : PySem.W.subIn K (.ref C_Wrong) (.ref C_NoWalker) = some false)
    (sb_Wrong_NotPlain : PySem.W.subIn K (.ref C_Wrong) (.ref C_NotPlain) = some false)
    (sb_Wrong_Nothing : PySem.W.subIn K (.ref C_Wrong) (.ref C_Nothing) = some false)
    (sb_Wrong_Short : PySem.W.subIn K (.ref C_Wrong) (.ref C_Short) = some false)
    (sb_Wrong_Stopped : PySem.W.subIn K (.ref C_Wrong) (.ref C_Stopped) = some false)
    (sb_Wrong_Taken : PySem.W.subIn K (.ref C_Wrong) (.ref C_Taken) = some false)
    (sb_Wrong_TooFar : PySem.W.subIn K (.ref C_Wrong) (.ref C_TooFar) = some false)
    (sb_Wrong_TooGreat : PySem.W.subIn K (.ref C_Wrong) (.ref C_TooGreat) = some false)
    (sb_Wrong_TooMany : PySem.W.subIn K (.ref C_Wrong) (.ref C_TooMany) = some false)
    (sb_Wrong_Twice : PySem.W.subIn K (.ref C_Wrong) (.ref C_Twice) = some false)
    (sb_Wrong_Unlike : PySem.W.subIn K (.ref C_Wrong) (.ref C_Unlike) = some false)
    (st_Wrong_ValueError : PySem.W.subIn K (.ref C_Wrong) (.type "ValueError") = some true)
    (a_w_bag : PySem.W.nsIn K mainGlobals "_law_bag" = some (some (.ref f_w_bag)))
    (l_w_bag : K.lookup f_w_bag = some ⟨oc_w_bag, od_w_bag, .func (PySem.W.fnOf "_law_bag" "_law_bag" (defArgs t_w_bag) (defBody t_w_bag) (defScope t_w_bag) .none kV_w_bag dc_w_bag pm_w_bag an_w_bag cd_w_bag ct_w_bag), sl_w_bag⟩)
    (c_w_bag : PySem.W.codeIn K cd_w_bag "_law_bag" = true)
    (k_w_bag : PySem.W.keepIn K (.ref f_w_bag) = true)
    (a_w_take : PySem.W.nsIn K mainGlobals "_law_take" = some (some (.ref f_w_take)))
    (l_w_take : K.lookup f_w_take = some ⟨oc_w_take, od_w_take, .func (PySem.W.fnOf "_law_take" "_law_take" (defArgs t_w_take) (defBody t_w_take) (defScope t_w_take) .none kV_w_take dc_w_take pm_w_take an_w_take cd_w_take ct_w_take), sl_w_take⟩)
    (c_w_take : PySem.W.codeIn K cd_w_take "_law_take" = true)
    (k_w_take : PySem.W.keepIn K (.ref f_w_take) = true)
    (a_w_made : PySem.W.nsIn K mainGlobals "_law_made" = some (some (.ref f_w_made)))
    (l_w_made : K.lookup f_w_made = some ⟨oc_w_made, od_w_made, .func (PySem.W.fnOf "_law_made" "_law_made" (defArgs t_w_made) (defBody t_w_made) (defScope t_w_made) .none kV_w_made dc_w_made pm_w_made an_w_made cd_w_made ct_w_made), sl_w_made⟩)
    (c_w_made : PySem.W.codeIn K cd_w_made "_law_made" = true)
    (k_w_made : PySem.W.keepIn K (.ref f_w_made) = true)
    (a_w_sorts : PySem.W.nsIn K mainGlobals "_law_sorts" = some (some (.ref f_w_sorts)))
    (l_w_sorts : K.lookup f_w_sorts = some ⟨oc_w_sorts, od_w_sorts, .func (PySem.W.fnOf "_law_sorts" "_law_sorts" (defArgs t_w_sorts) (defBody t_w_sorts) (defScope t_w_sorts) .none kV_w_sorts dc_w_sorts pm_w_sorts an_w_sorts cd_w_sorts ct_w_sorts), sl_w_sorts⟩)
    (c_w_sorts : PySem.W.codeIn K cd_w_sorts "_law_sorts" = true)
    (k_w_sorts : PySem.W.keepIn K (.ref f_w_sorts) = true)
    (a_w_fields : PySem.W.nsIn K mainGlobals "_law_fields" = some (some (.ref f_w_fields)))
    (l_w_fields : K.lookup f_w_fields = some ⟨oc_w_fields, od_w_fields, .func (PySem.W.fnOf "_law_fields" "_law_fields" (defArgs t_w_fields) (defBody t_w_fields) (defScope t_w_fields) .none kV_w_fields dc_w_fields pm_w_fields an_w_fields cd_w_fields ct_w_fields), sl_w_fields⟩)
    (c_w_fields : PySem.W.codeIn K cd_w_fields "_law_fields" = true)
    (k_w_fields : PySem.W.keepIn K (.ref f_w_fields) = true)
    (a_w_raised : PySem.W.nsIn K mainGlobals "_law_raised" = some (some (.ref f_w_raised)))
    (l_w_raised : K.lookup f_w_raised = some ⟨oc_w_raised, od_w_raised, .func (PySem.W.fnOf "_law_raised" "_law_raised" (defArgs t_w_raised) (defBody t_w_raised) (defScope t_w_raised) .none kV_w_raised dc_w_raised pm_w_raised an_w_raised cd_w_raised ct_w_raised), sl_w_raised⟩)
    (c_w_raised : PySem.W.codeIn K cd_w_raised "_law_raised" = true)
    (k_w_raised : PySem.W.keepIn K (.ref f_w_raised) = true)
    (a_law : PySem.W.nsIn K mainGlobals "law" = some (some (.ref f_law)))
    (l_law : K.lookup f_law = some ⟨oc_law, od_law, .func (PySem.W.fnOf "law" "law" (defArgs t_law) (defBody t_law) (defScope t_law) .none kV_law dc_law pm_law an_law cd_law ct_law), sl_law⟩)
    (c_law : PySem.W.codeIn K cd_law "law" = true)
    (k_law : PySem.W.keepIn K (.ref f_law) = true) :
    ∃ fd : FuncData, (∀ (s : Shared) (v : Value), BindsTo s fd ⟨[v], []⟩ [("_law_script", v)]) ∧ ∀ base : Heap, K.In base → base.Ns mainGlobals mg → FnG true P w K mg base 4 fa fd ["_law_script"] (spZ ⟨P, w, K, mg, base⟩ (fun _ : Unit => noE) (fun (_ : Unit) (p : List Int) => [(rSc K rInt).pr p]) m_law rBl) := by
  have e := hfa.symm.trans (PySem.W.mg_of X G a_law)
  cases e
  have F_Again_init := fun_mk (st := t_Again_init) l_Again_init c_Again_init k_Again_init
  have B_Again_init := F_Again_init.binds (ps := ["self", "one", "other"]) fun _ _ _ _ _ _ us hl => match us, hl with | [_, _, _], _ => rfl
  have F_Apart_init := fun_mk (st := t_Apart_init) l_Apart_init c_Apart_init k_Apart_init
  have B_Apart_init := F_Apart_init.binds (ps := ["self", "name"]) fun _ _ _ _ _ _ us hl => match us, hl with | [_, _], _ => rfl
  have F_Few_init := fun_mk (st := t_Few_init) l_Few_init c_Few_init k_Few_init
  have B_Few_init := F_Few_init.binds (ps := ["self"]) fun _ _ _ _ _ _ us hl => match us, hl with | [_], _ => rfl
  have F_Full_init := fun_mk (st := t_Full_init) l_Full_init c_Full_init k_Full_init
  have B_Full_init := F_Full_init.binds (ps := ["self", "most"]) fun _ _ _ _ _ _ us hl => match us, hl with | [_, _], _ => rfl
  have F_Lacks_init := fun_mk (st := t_Lacks_init) l_Lacks_init c_Lacks_init k_Lacks_init
  have B_Lacks_init := F_Lacks_init.binds (ps := ["self", "name"]) fun _ _ _ _ _ _ us hl => match us, hl with | [_, _], _ => rfl
  have F_NoBook_init := fun_mk (st := t_NoBook_init) l_NoBook_init c_NoBook_init k_NoBook_init
  have B_NoBook_init := F_NoBook_init.binds (ps := ["self"]) fun _ _ _ _ _ _ us hl => match us, hl with | [_], _ => rfl
  have F_NoDeed_init := fun_mk (st := t_NoDeed_init) l_NoDeed_init c_NoDeed_init k_NoDeed_init
  have B_NoDeed_init := F_NoDeed_init.binds (ps := ["self"]) fun _ _ _ _ _ _ us hl => match us, hl with | [_], _ => rfl
  have F_NoLine_init := fun_mk (st := t_NoLine_init) l_NoLine_init c_NoLine_init k_NoLine_init
  have B_NoLine_init := F_NoLine_init.binds (ps := ["self"]) fun _ _ _ _ _ _ us hl => match us, hl with | [_], _ => rfl
  have F_NoText_init := fun_mk (st := t_NoText_init) l_NoText_init c_NoText_init k_NoText_init
  have B_NoText_init := F_NoText_init.binds (ps := ["self"]) fun _ _ _ _ _ _ us hl => match us, hl with | [_], _ => rfl
  have F_NoWalker_init := fun_mk (st := t_NoWalker_init) l_NoWalker_init c_NoWalker_init k_NoWalker_init
  have B_NoWalker_init := F_NoWalker_init.binds (ps := ["self", "name"]) fun _ _ _ _ _ _ us hl => match us, hl with | [_, _], _ => rfl
  have F_NotPlain_init := fun_mk (st := t_NotPlain_init) l_NotPlain_init c_NotPlain_init k_NotPlain_init
  have B_NotPlain_init := F_NotPlain_init.binds (ps := ["self", "one", "other"]) fun _ _ _ _ _ _ us hl => match us, hl with | [_, _, _], _ => rfl
  have F_Nothing_init := fun_mk (st := t_Nothing_init) l_Nothing_init c_Nothing_init k_Nothing_init
  have B_Nothing_init := F_Nothing_init.binds (ps := ["self"]) fun _ _ _ _ _ _ us hl => match us, hl with | [_], _ => rfl
  have F_Short_init := fun_mk (st := t_Short_init) l_Short_init c_Short_init k_Short_init
  have B_Short_init := F_Short_init.binds (ps := ["self", "name"]) fun _ _ _ _ _ _ us hl => match us, hl with | [_, _], _ => rfl
  have F_Stopped_init := fun_mk (st := t_Stopped_init) l_Stopped_init c_Stopped_init k_Stopped_init
  have B_Stopped_init := F_Stopped_init.binds (ps := ["self", "at"]) fun _ _ _ _ _ _ us hl => match us, hl with | [_, _], _ => rfl
  have F_Taken_init := fun_mk (st := t_Taken_init) l_Taken_init c_Taken_init k_Taken_init
  have B_Taken_init := F_Taken_init.binds (ps := ["self", "name"]) fun _ _ _ _ _ _ us hl => match us, hl with | [_, _], _ => rfl
  have F_TooFar_init := fun_mk (st := t_TooFar_init) l_TooFar_init c_TooFar_init k_TooFar_init
  have B_TooFar_init := F_TooFar_init.binds (ps := ["self", "most"]) fun _ _ _ _ _ _ us hl => match us, hl with | [_, _], _ => rfl
  have F_TooGreat_init := fun_mk (st := t_TooGreat_init) l_TooGreat_init c_TooGreat_init k_TooGreat_init
  have B_TooGreat_init := F_TooGreat_init.binds (ps := ["self", "most"]) fun _ _ _ _ _ _ us hl => match us, hl with | [_, _], _ => rfl
  have F_TooMany_init := fun_mk (st := t_TooMany_init) l_TooMany_init c_TooMany_init k_TooMany_init
  have B_TooMany_init := F_TooMany_init.binds (ps := ["self", "most"]) fun _ _ _ _ _ _ us hl => match us, hl with | [_, _], _ => rfl
  have F_Twice_init := fun_mk (st := t_Twice_init) l_Twice_init c_Twice_init k_Twice_init
  have B_Twice_init := F_Twice_init.binds (ps := ["self", "name"]) fun _ _ _ _ _ _ us hl => match us, hl with | [_, _], _ => rfl
  have F_Unlike_init := fun_mk (st := t_Unlike_init) l_Unlike_init c_Unlike_init k_Unlike_init
  have B_Unlike_init := F_Unlike_init.binds (ps := ["self"]) fun _ _ _ _ _ _ us hl => match us, hl with | [_], _ => rfl
  have F_Wrong_init := fun_mk (st := t_Wrong_init) l_Wrong_init c_Wrong_init k_Wrong_init
  have B_Wrong_init := F_Wrong_init.binds (ps := ["self", "at"]) fun _ _ _ _ _ _ us hl => match us, hl with | [_, _], _ => rfl
  have F_w_bag := fun_mk (st := t_w_bag) l_w_bag c_w_bag k_w_bag
  have B_w_bag := F_w_bag.binds (ps := ["_law_script"]) fun _ _ _ _ _ _ us hl => match us, hl with | [_], _ => rfl
  have F_w_take := fun_mk (st := t_w_take) l_w_take c_w_take k_w_take
  have B_w_take := F_w_take.binds (ps := ["_law_bag_here", "_law_many"]) fun _ _ _ _ _ _ us hl => match us, hl with | [_, _], _ => rfl
  have F_w_made := fun_mk (st := t_w_made) l_w_made c_w_made k_w_made
  have B_w_made := F_w_made.binds (ps := ["_law_a", "_law_b"]) fun _ _ _ _ _ _ us hl => match us, hl with | [_, _], _ => rfl
  have F_w_sorts := fun_mk (st := t_w_sorts) l_w_sorts c_w_sorts k_w_sorts
  have B_w_sorts := F_w_sorts.binds (ps := ["_law_e"]) fun _ _ _ _ _ _ us hl => match us, hl with | [_], _ => rfl
  have F_w_fields := fun_mk (st := t_w_fields) l_w_fields c_w_fields k_w_fields
  have B_w_fields := F_w_fields.binds (ps := ["_law_made_here"]) fun _ _ _ _ _ _ us hl => match us, hl with | [_], _ => rfl
  have F_w_raised := fun_mk (st := t_w_raised) l_w_raised c_w_raised k_w_raised
  have B_w_raised := F_w_raised.binds (ps := ["_law_a"]) fun _ _ _ _ _ _ us hl => match us, hl with | [_], _ => rfl
  refine ⟨PySem.W.fnOf "law" "law" (defArgs t_law) (defBody t_law) (defScope t_law) .none kV_law dc_law pm_law an_law cd_law ct_law, fun s v => .of_eq rfl, fun base _ _ => ?_⟩
  have T : Txt ⟨P, w, K, mg, base⟩ ⟨C_Again, C_Apart, C_Few, C_Full, C_Lacks, C_NoBook, C_NoDeed, C_NoLine, C_NoText, C_NoWalker, C_NotPlain, C_Nothing, C_Short, C_Stopped, C_Taken, C_TooFar, C_TooGreat, C_TooMany, C_Twice, C_Unlike, C_Wrong, C_AheadError⟩ := {
    b_ValueError := PySem.W.mg_none_of X G z_ValueError,
    b_abs := PySem.W.mg_none_of X G z_abs,
    b_isinstance := PySem.W.mg_none_of X G z_isinstance,
    b_len := PySem.W.mg_none_of X G z_len,
    b_list := PySem.W.mg_none_of X G z_list,
    b_range := PySem.W.mg_none_of X G z_range,
    b_repr := PySem.W.mg_none_of X G z_repr,
    g_AheadError := PySem.W.mg_of X G g_AheadError,
    ain_AheadError := ⟨.type "type", ⟨rd_AheadError, ga_AheadError⟩, at_AheadError⟩,
    kc_AheadError := kc_AheadError,
    xe_AheadError := xe_AheadError,
    g_Again := PySem.W.mg_of X G g_Again,
    ox_Again := ⟨⟨_, _, _, _, _, _, _, _, _, _, _, _, _, _, _, xl_Again, bm_Again⟩, sa_Again, ex_Again, ty_Again, kc_Again⟩,
    xi_Again := ⟨f_Again_init, _, a_Again_init, t_Again_init_, B_Again_init, F_Again_init⟩,
    xf_Again := xf_Again,
    xg2_Again := xg2_Again,
    g_Apart := PySem.W.mg_of X G g_Apart,
    ox_Apart := ⟨⟨_, _, _, _, _, _, _, _, _, _, _, _, _, _, _, xl_Apart, bm_Apart⟩, sa_Apart, ex_Apart, ty_Apart, kc_Apart⟩,
    xi_Apart := ⟨f_Apart_init, _, a_Apart_init, t_Apart_init_, B_Apart_init, F_Apart_init⟩,
    xf_Apart := xf_Apart,
    g_Few := PySem.W.mg_of X G g_Few,
    ox_Few := ⟨⟨_, _, _, _, _, _, _, _, _, _, _, _, _, _, _, xl_Few, bm_Few⟩, sa_Few, ex_Few, ty_Few, kc_Few⟩,
    xi_Few := ⟨f_Few_init, _, a_Few_init, t_Few_init_, B_Few_init, F_Few_init⟩,
    g_Full := PySem.W.mg_of X G g_Full,
    ox_Full := ⟨⟨_, _, _, _, _, _, _, _, _, _, _, _, _, _, _, xl_Full, bm_Full⟩, sa_Full, ex_Full, ty_Full, kc_Full⟩,
    xi_Full := ⟨f_Full_init, _, a_Full_init, t_Full_init_, B_Full_init, F_Full_init⟩,
    xf_Full := xf_Full,
    g_Lacks := PySem.W.mg_of X G g_Lacks,
    ox_Lacks := ⟨⟨_, _, _, _, _, _, _, _, _, _, _, _, _, _, _, xl_Lacks, bm_Lacks⟩, sa_Lacks, ex_Lacks, ty_Lacks, kc_Lacks⟩,
    xi_Lacks := ⟨f_Lacks_init, _, a_Lacks_init, t_Lacks_init_, B_Lacks_init, F_Lacks_init⟩,
    xf_Lacks := xf_Lacks,
    g_NoBook := PySem.W.mg_of X G g_NoBook,
    ox_NoBook := ⟨⟨_, _, _, _, _, _, _, _, _, _, _, _, _, _, _, xl_NoBook, bm_NoBook⟩, sa_NoBook, ex_NoBook, ty_NoBook, kc_NoBook⟩,
    xi_NoBook := ⟨f_NoBook_init, _, a_NoBook_init, t_NoBook_init_, B_NoBook_init, F_NoBook_init⟩,
    g_NoDeed := PySem.W.mg_of X G g_NoDeed,
    ox_NoDeed := ⟨⟨_, _, _, _, _, _, _, _, _, _, _, _, _, _, _, xl_NoDeed, bm_NoDeed⟩, sa_NoDeed, ex_NoDeed, ty_NoDeed, kc_NoDeed⟩,
    xi_NoDeed := ⟨f_NoDeed_init, _, a_NoDeed_init, t_NoDeed_init_, B_NoDeed_init, F_NoDeed_init⟩,
    g_NoLine := PySem.W.mg_of X G g_NoLine,
    ox_NoLine := ⟨⟨_, _, _, _, _, _, _, _, _, _, _, _, _, _, _, xl_NoLine, bm_NoLine⟩, sa_NoLine, ex_NoLine, ty_NoLine, kc_NoLine⟩,
    xi_NoLine := ⟨f_NoLine_init, _, a_NoLine_init, t_NoLine_init_, B_NoLine_init, F_NoLine_init⟩,
    g_NoText := PySem.W.mg_of X G g_NoText,
    ox_NoText := ⟨⟨_, _, _, _, _, _, _, _, _, _, _, _, _, _, _, xl_NoText, bm_NoText⟩, sa_NoText, ex_NoText, ty_NoText, kc_NoText⟩,
    xi_NoText := ⟨f_NoText_init, _, a_NoText_init, t_NoText_init_, B_NoText_init, F_NoText_init⟩,
    g_NoWalker := PySem.W.mg_of X G g_NoWalker,
    ox_NoWalker := ⟨⟨_, _, _, _, _, _, _, _, _, _, _, _, _, _, _, xl_NoWalker, bm_NoWalker⟩, sa_NoWalker, ex_NoWalker, ty_NoWalker, kc_NoWalker⟩,
    xi_NoWalker := ⟨f_NoWalker_init, _, a_NoWalker_init, t_NoWalker_init_, B_NoWalker_init, F_NoWalker_init⟩,
    xf_NoWalker := xf_NoWalker,
    g_NotPlain := PySem.W.mg_of X G g_NotPlain,
    ox_NotPlain := ⟨⟨_, _, _, _, _, _, _, _, _, _, _, _, _, _, _, xl_NotPlain, bm_NotPlain⟩, sa_NotPlain, ex_NotPlain, ty_NotPlain, kc_NotPlain⟩,
    xi_NotPlain := ⟨f_NotPlain_init, _, a_NotPlain_init, t_NotPlain_init_, B_NotPlain_init, F_NotPlain_init⟩,
    xf_NotPlain := xf_NotPlain,
    xg2_NotPlain := xg2_NotPlain,
    g_Nothing := PySem.W.mg_of X G g_Nothing,
    ox_Nothing := ⟨⟨_, _, _, _, _, _, _, _, _, _, _, _, _, _, _, xl_Nothing, bm_Nothing⟩, sa_Nothing, ex_Nothing, ty_Nothing, kc_Nothing⟩,
    xi_Nothing := ⟨f_Nothing_init, _, a_Nothing_init, t_Nothing_init_, B_Nothing_init, F_Nothing_init⟩,
    g_Short := PySem.W.mg_of X G g_Short,
    ox_Short := ⟨⟨_, _, _, _, _, _, _, _, _, _, _, _, _, _, _, xl_Short, bm_Short⟩, sa_Short, ex_Short, ty_Short, kc_Short⟩,
    xi_Short := ⟨f_Short_init, _, a_Short_init, t_Short_init_, B_Short_init, F_Short_init⟩,
    xf_Short := xf_Short,
    g_Stopped := PySem.W.mg_of X G g_Stopped,
    ox_Stopped := ⟨⟨_, _, _, _, _, _, _, _, _, _, _, _, _, _, _, xl_Stopped, bm_Stopped⟩, sa_Stopped, ex_Stopped, ty_Stopped, kc_Stopped⟩,
    xi_Stopped := ⟨f_Stopped_init, _, a_Stopped_init, t_Stopped_init_, B_Stopped_init, F_Stopped_init⟩,
    xf_Stopped := xf_Stopped,
    g_Taken := PySem.W.mg_of X G g_Taken,
    ox_Taken := ⟨⟨_, _, _, _, _, _, _, _, _, _, _, _, _, _, _, xl_Taken, bm_Taken⟩, sa_Taken, ex_Taken, ty_Taken, kc_Taken⟩,
    xi_Taken := ⟨f_Taken_init, _, a_Taken_init, t_Taken_init_, B_Taken_init, F_Taken_init⟩,
    xf_Taken := xf_Taken,
    g_TooFar := PySem.W.mg_of X G g_TooFar,
    ox_TooFar := ⟨⟨_, _, _, _, _, _, _, _, _, _, _, _, _, _, _, xl_TooFar, bm_TooFar⟩, sa_TooFar, ex_TooFar, ty_TooFar, kc_TooFar⟩,
    xi_TooFar := ⟨f_TooFar_init, _, a_TooFar_init, t_TooFar_init_, B_TooFar_init, F_TooFar_init⟩,
    xf_TooFar := xf_TooFar,
    g_TooGreat := PySem.W.mg_of X G g_TooGreat,
    ox_TooGreat := ⟨⟨_, _, _, _, _, _, _, _, _, _, _, _, _, _, _, xl_TooGreat, bm_TooGreat⟩, sa_TooGreat, ex_TooGreat, ty_TooGreat, kc_TooGreat⟩,
    xi_TooGreat := ⟨f_TooGreat_init, _, a_TooGreat_init, t_TooGreat_init_, B_TooGreat_init, F_TooGreat_init⟩,
    xf_TooGreat := xf_TooGreat,
    g_TooMany := PySem.W.mg_of X G g_TooMany,
    ox_TooMany := ⟨⟨_, _, _, _, _, _, _, _, _, _, _, _, _, _, _, xl_TooMany, bm_TooMany⟩, sa_TooMany, ex_TooMany, ty_TooMany, kc_TooMany⟩,
    xi_TooMany := ⟨f_TooMany_init, _, a_TooMany_init, t_TooMany_init_, B_TooMany_init, F_TooMany_init⟩,
    xf_TooMany := xf_TooMany,
    g_Twice := PySem.W.mg_of X G g_Twice,
    ox_Twice := ⟨⟨_, _, _, _, _, _, _, _, _, _, _, _, _, _, _, xl_Twice, bm_Twice⟩, sa_Twice, ex_Twice, ty_Twice, kc_Twice⟩,
    xi_Twice := ⟨f_Twice_init, _, a_Twice_init, t_Twice_init_, B_Twice_init, F_Twice_init⟩,
    xf_Twice := xf_Twice,
    g_Unlike := PySem.W.mg_of X G g_Unlike,
    ox_Unlike := ⟨⟨_, _, _, _, _, _, _, _, _, _, _, _, _, _, _, xl_Unlike, bm_Unlike⟩, sa_Unlike, ex_Unlike, ty_Unlike, kc_Unlike⟩,
    xi_Unlike := ⟨f_Unlike_init, _, a_Unlike_init, t_Unlike_init_, B_Unlike_init, F_Unlike_init⟩,
    g_Wrong := PySem.W.mg_of X G g_Wrong,
    ox_Wrong := ⟨⟨_, _, _, _, _, _, _, _, _, _, _, _, _, _, _, xl_Wrong, bm_Wrong⟩, sa_Wrong, ex_Wrong, ty_Wrong, kc_Wrong⟩,
    xi_Wrong := ⟨f_Wrong_init, _, a_Wrong_init, t_Wrong_init_, B_Wrong_init, F_Wrong_init⟩,
    xf_Wrong := xf_Wrong,
    xc_Again := ⟨xg_Again, xk_Again, ex_Again, hx_Again, xa_Again, xn_Again, xt_Again, xm_Again⟩,
    xc_AheadError := ⟨xg_AheadError, xk_AheadError, ex_AheadError, hx_AheadError, xa_AheadError, xn_AheadError, xt_AheadError, xm_AheadError⟩,
    xc_Apart := ⟨xg_Apart, xk_Apart, ex_Apart, hx_Apart, xa_Apart, xn_Apart, xt_Apart, xm_Apart⟩,
    xc_Few := ⟨xg_Few, xk_Few, ex_Few, hx_Few, xa_Few, xn_Few, xt_Few, xm_Few⟩,
    xc_Full := ⟨xg_Full, xk_Full, ex_Full, hx_Full, xa_Full, xn_Full, xt_Full, xm_Full⟩,
    xc_Lacks := ⟨xg_Lacks, xk_Lacks, ex_Lacks, hx_Lacks, xa_Lacks, xn_Lacks, xt_Lacks, xm_Lacks⟩,
    xc_NoBook := ⟨xg_NoBook, xk_NoBook, ex_NoBook, hx_NoBook, xa_NoBook, xn_NoBook, xt_NoBook, xm_NoBook⟩,
    xc_NoDeed := ⟨xg_NoDeed, xk_NoDeed, ex_NoDeed, hx_NoDeed, xa_NoDeed, xn_NoDeed, xt_NoDeed, xm_NoDeed⟩,
    xc_NoLine := ⟨xg_NoLine, xk_NoLine, ex_NoLine, hx_NoLine, xa_NoLine, xn_NoLine, xt_NoLine, xm_NoLine⟩,
    xc_NoText := ⟨xg_NoText, xk_NoText, ex_NoText, hx_NoText, xa_NoText, xn_NoText, xt_NoText, xm_NoText⟩,
    xc_NoWalker := ⟨xg_NoWalker, xk_NoWalker, ex_NoWalker, hx_NoWalker, xa_NoWalker, xn_NoWalker, xt_NoWalker, xm_NoWalker⟩,
    xc_NotPlain := ⟨xg_NotPlain, xk_NotPlain, ex_NotPlain, hx_NotPlain, xa_NotPlain, xn_NotPlain, xt_NotPlain, xm_NotPlain⟩,
    xc_Nothing := ⟨xg_Nothing, xk_Nothing, ex_Nothing, hx_Nothing, xa_Nothing, xn_Nothing, xt_Nothing, xm_Nothing⟩,
    xc_Short := ⟨xg_Short, xk_Short, ex_Short, hx_Short, xa_Short, xn_Short, xt_Short, xm_Short⟩,
    xc_Stopped := ⟨xg_Stopped, xk_Stopped, ex_Stopped, hx_Stopped, xa_Stopped, xn_Stopped, xt_Stopped, xm_Stopped⟩,
    xc_Taken := ⟨xg_Taken, xk_Taken, ex_Taken, hx_Taken, xa_Taken, xn_Taken, xt_Taken, xm_Taken⟩,
    xc_TooFar := ⟨xg_TooFar, xk_TooFar, ex_TooFar, hx_TooFar, xa_TooFar, xn_TooFar, xt_TooFar, xm_TooFar⟩,
    xc_TooGreat := ⟨xg_TooGreat, xk_TooGreat, ex_TooGreat, hx_TooGreat, xa_TooGreat, xn_TooGreat, xt_TooGreat, xm_TooGreat⟩,
    xc_TooMany := ⟨xg_TooMany, xk_TooMany, ex_TooMany, hx_TooMany, xa_TooMany, xn_TooMany, xt_TooMany, xm_TooMany⟩,
    xc_Twice := ⟨xg_Twice, xk_Twice, ex_Twice, hx_Twice, xa_Twice, xn_Twice, xt_Twice, xm_Twice⟩,
    xc_Unlike := ⟨xg_Unlike, xk_Unlike, ex_Unlike, hx_Unlike, xa_Unlike, xn_Unlike, xt_Unlike, xm_Unlike⟩,
    xc_Wrong := ⟨xg_Wrong, xk_Wrong, ex_Wrong, hx_Wrong, xa_Wrong, xn_Wrong, xt_Wrong, xm_Wrong⟩,
    ki_Again_Again := kit_self,
    ki_Again_AheadError := kit_ref cx_AheadError ty_AheadError ss_AheadError sb_Again_AheadError,
    ki_Again_Apart := kit_ref cx_Apart ty_Apart ss_Apart sb_Again_Apart,
    ki_Again_Few := kit_ref cx_Few ty_Few ss_Few sb_Again_Few,
    ki_Again_Full := kit_ref cx_Full ty_Full ss_Full sb_Again_Full,
    ki_Again_Lacks := kit_ref cx_Lacks ty_Lacks ss_Lacks sb_Again_Lacks,
    ki_Again_NoBook := kit_ref cx_NoBook ty_NoBook ss_NoBook sb_Again_NoBook,
    ki_Again_NoDeed := kit_ref cx_NoDeed ty_NoDeed ss_NoDeed sb_Again_NoDeed,
    ki_Again_NoLine := kit_ref cx_NoLine ty_NoLine ss_NoLine sb_Again_NoLine,
    ki_Again_NoText := kit_ref cx_NoText ty_NoText ss_NoText sb_Again_NoText,
    ki_Again_NoWalker := kit_ref cx_NoWalker ty_NoWalker ss_NoWalker sb_Again_NoWalker,
    ki_Again_NotPlain := kit_ref cx_NotPlain ty_NotPlain ss_NotPlain sb_Again_NotPlain,
    ki_Again_Nothing := kit_ref cx_Nothing ty_Nothing ss_Nothing sb_Again_Nothing,
    ki_Again_Short := kit_ref cx_Short ty_Short ss_Short sb_Again_Short,
    ki_Again_Stopped := kit_ref cx_Stopped ty_Stopped ss_Stopped sb_Again_Stopped,
    ki_Again_Taken := kit_ref cx_Taken ty_Taken ss_Taken sb_Again_Taken,
    ki_Again_TooFar := kit_ref cx_TooFar ty_TooFar ss_TooFar sb_Again_TooFar,
    ki_Again_TooGreat := kit_ref cx_TooGreat ty_TooGreat ss_TooGreat sb_Again_TooGreat,
    ki_Again_TooMany := kit_ref cx_TooMany ty_TooMany ss_TooMany sb_Again_TooMany,
    ki_Again_Twice := kit_ref cx_Twice ty_Twice ss_Twice sb_Again_Twice,
    ki_Again_Unlike := kit_ref cx_Unlike ty_Unlike ss_Unlike sb_Again_Unlike,
    ki_Again_ValueError := kit_ty (by decide) st_Again_ValueError,
    ki_Again_Wrong := kit_ref cx_Wrong ty_Wrong ss_Wrong sb_Again_Wrong,
    ki_AheadError_Again := kit_ref cx_Again ty_Again ss_Again sb_AheadError_Again,
    ki_AheadError_AheadError := kit_self,
    ki_AheadError_Apart := kit_ref cx_Apart ty_Apart ss_Apart sb_AheadError_Apart,
    ki_AheadError_Few := kit_ref cx_Few ty_Few ss_Few sb_AheadError_Few,
    ki_AheadError_Full := kit_ref cx_Full ty_Full ss_Full sb_AheadError_Full,
    ki_AheadError_Lacks := kit_ref cx_Lacks ty_Lacks ss_Lacks sb_AheadError_Lacks,
    ki_AheadError_NoBook := kit_ref cx_NoBook ty_NoBook ss_NoBook sb_AheadError_NoBook,
    ki_AheadError_NoDeed := kit_ref cx_NoDeed ty_NoDeed ss_NoDeed sb_AheadError_NoDeed,
    ki_AheadError_NoLine := kit_ref cx_NoLine ty_NoLine ss_NoLine sb_AheadError_NoLine,
    ki_AheadError_NoText := kit_ref cx_NoText ty_NoText ss_NoText sb_AheadError_NoText,
    ki_AheadError_NoWalker := kit_ref cx_NoWalker ty_NoWalker ss_NoWalker sb_AheadError_NoWalker,
    ki_AheadError_NotPlain := kit_ref cx_NotPlain ty_NotPlain ss_NotPlain sb_AheadError_NotPlain,
    ki_AheadError_Nothing := kit_ref cx_Nothing ty_Nothing ss_Nothing sb_AheadError_Nothing,
    ki_AheadError_Short := kit_ref cx_Short ty_Short ss_Short sb_AheadError_Short,
    ki_AheadError_Stopped := kit_ref cx_Stopped ty_Stopped ss_Stopped sb_AheadError_Stopped,
    ki_AheadError_Taken := kit_ref cx_Taken ty_Taken ss_Taken sb_AheadError_Taken,
    ki_AheadError_TooFar := kit_ref cx_TooFar ty_TooFar ss_TooFar sb_AheadError_TooFar,
    ki_AheadError_TooGreat := kit_ref cx_TooGreat ty_TooGreat ss_TooGreat sb_AheadError_TooGreat,
    ki_AheadError_TooMany := kit_ref cx_TooMany ty_TooMany ss_TooMany sb_AheadError_TooMany,
    ki_AheadError_Twice := kit_ref cx_Twice ty_Twice ss_Twice sb_AheadError_Twice,
    ki_AheadError_Unlike := kit_ref cx_Unlike ty_Unlike ss_Unlike sb_AheadError_Unlike,
    ki_AheadError_ValueError := kit_ty (by decide) st_AheadError_ValueError,
    ki_AheadError_Wrong := kit_ref cx_Wrong ty_Wrong ss_Wrong sb_AheadError_Wrong,
    ki_Apart_Again := kit_ref cx_Again ty_Again ss_Again sb_Apart_Again,
    ki_Apart_AheadError := kit_ref cx_AheadError ty_AheadError ss_AheadError sb_Apart_AheadError,
    ki_Apart_Apart := kit_self,
    ki_Apart_Few := kit_ref cx_Few ty_Few ss_Few sb_Apart_Few,
    ki_Apart_Full := kit_ref cx_Full ty_Full ss_Full sb_Apart_Full,
    ki_Apart_Lacks := kit_ref cx_Lacks ty_Lacks ss_Lacks sb_Apart_Lacks,
    ki_Apart_NoBook := kit_ref cx_NoBook ty_NoBook ss_NoBook sb_Apart_NoBook,
    ki_Apart_NoDeed := kit_ref cx_NoDeed ty_NoDeed ss_NoDeed sb_Apart_NoDeed,
    ki_Apart_NoLine := kit_ref cx_NoLine ty_NoLine ss_NoLine sb_Apart_NoLine,
    ki_Apart_NoText := kit_ref cx_NoText ty_NoText ss_NoText sb_Apart_NoText,
    ki_Apart_NoWalker := kit_ref cx_NoWalker ty_NoWalker ss_NoWalker sb_Apart_NoWalker,
    ki_Apart_NotPlain := kit_ref cx_NotPlain ty_NotPlain ss_NotPlain sb_Apart_NotPlain,
    ki_Apart_Nothing := kit_ref cx_Nothing ty_Nothing ss_Nothing sb_Apart_Nothing,
    ki_Apart_Short := kit_ref cx_Short ty_Short ss_Short sb_Apart_Short,
    ki_Apart_Stopped := kit_ref cx_Stopped ty_Stopped ss_Stopped sb_Apart_Stopped,
    ki_Apart_Taken := kit_ref cx_Taken ty_Taken ss_Taken sb_Apart_Taken,
    ki_Apart_TooFar := kit_ref cx_TooFar ty_TooFar ss_TooFar sb_Apart_TooFar,
    ki_Apart_TooGreat := kit_ref cx_TooGreat ty_TooGreat ss_TooGreat sb_Apart_TooGreat,
    ki_Apart_TooMany := kit_ref cx_TooMany ty_TooMany ss_TooMany sb_Apart_TooMany,
    ki_Apart_Twice := kit_ref cx_Twice ty_Twice ss_Twice sb_Apart_Twice,
    ki_Apart_Unlike := kit_ref cx_Unlike ty_Unlike ss_Unlike sb_Apart_Unlike,
    ki_Apart_ValueError := kit_ty (by decide) st_Apart_ValueError,
    ki_Apart_Wrong := kit_ref cx_Wrong ty_Wrong ss_Wrong sb_Apart_Wrong,
    ki_Few_Again := kit_ref cx_Again ty_Again ss_Again sb_Few_Again,
    ki_Few_AheadError := kit_ref cx_AheadError ty_AheadError ss_AheadError sb_Few_AheadError,
    ki_Few_Apart := kit_ref cx_Apart ty_Apart ss_Apart sb_Few_Apart,
    ki_Few_Few := kit_self,
    ki_Few_Full := kit_ref cx_Full ty_Full ss_Full sb_Few_Full,
    ki_Few_Lacks := kit_ref cx_Lacks ty_Lacks ss_Lacks sb_Few_Lacks,
    ki_Few_NoBook := kit_ref cx_NoBook ty_NoBook ss_NoBook sb_Few_NoBook,
    ki_Few_NoDeed := kit_ref cx_NoDeed ty_NoDeed ss_NoDeed sb_Few_NoDeed,
    ki_Few_NoLine := kit_ref cx_NoLine ty_NoLine ss_NoLine sb_Few_NoLine,
    ki_Few_NoText := kit_ref cx_NoText ty_NoText ss_NoText sb_Few_NoText,
    ki_Few_NoWalker := kit_ref cx_NoWalker ty_NoWalker ss_NoWalker sb_Few_NoWalker,
    ki_Few_NotPlain := kit_ref cx_NotPlain ty_NotPlain ss_NotPlain sb_Few_NotPlain,
    ki_Few_Nothing := kit_ref cx_Nothing ty_Nothing ss_Nothing sb_Few_Nothing,
    ki_Few_Short := kit_ref cx_Short ty_Short ss_Short sb_Few_Short,
    ki_Few_Stopped := kit_ref cx_Stopped ty_Stopped ss_Stopped sb_Few_Stopped,
    ki_Few_Taken := kit_ref cx_Taken ty_Taken ss_Taken sb_Few_Taken,
    ki_Few_TooFar := kit_ref cx_TooFar ty_TooFar ss_TooFar sb_Few_TooFar,
    ki_Few_TooGreat := kit_ref cx_TooGreat ty_TooGreat ss_TooGreat sb_Few_TooGreat,
    ki_Few_TooMany := kit_ref cx_TooMany ty_TooMany ss_TooMany sb_Few_TooMany,
    ki_Few_Twice := kit_ref cx_Twice ty_Twice ss_Twice sb_Few_Twice,
    ki_Few_Unlike := kit_ref cx_Unlike ty_Unlike ss_Unlike sb_Few_Unlike,
    ki_Few_ValueError := kit_ty (by decide) st_Few_ValueError,
    ki_Few_Wrong := kit_ref cx_Wrong ty_Wrong ss_Wrong sb_Few_Wrong,
    ki_Full_Again := kit_ref cx_Again ty_Again ss_Again sb_Full_Again,
    ki_Full_AheadError := kit_ref cx_AheadError ty_AheadError ss_AheadError sb_Full_AheadError,
    ki_Full_Apart := kit_ref cx_Apart ty_Apart ss_Apart sb_Full_Apart,
    ki_Full_Few := kit_ref cx_Few ty_Few ss_Few sb_Full_Few,
    ki_Full_Full := kit_self,
    ki_Full_Lacks := kit_ref cx_Lacks ty_Lacks ss_Lacks sb_Full_Lacks,
    ki_Full_NoBook := kit_ref cx_NoBook ty_NoBook ss_NoBook sb_Full_NoBook,
    ki_Full_NoDeed := kit_ref cx_NoDeed ty_NoDeed ss_NoDeed sb_Full_NoDeed,
    ki_Full_NoLine := kit_ref cx_NoLine ty_NoLine ss_NoLine sb_Full_NoLine,
    ki_Full_NoText := kit_ref cx_NoText ty_NoText ss_NoText sb_Full_NoText,
    ki_Full_NoWalker := kit_ref cx_NoWalker ty_NoWalker ss_NoWalker sb_Full_NoWalker,
    ki_Full_NotPlain := kit_ref cx_NotPlain ty_NotPlain ss_NotPlain sb_Full_NotPlain,
    ki_Full_Nothing := kit_ref cx_Nothing ty_Nothing ss_Nothing sb_Full_Nothing,
    ki_Full_Short := kit_ref cx_Short ty_Short ss_Short sb_Full_Short,
    ki_Full_Stopped := kit_ref cx_Stopped ty_Stopped ss_Stopped sb_Full_Stopped,
    ki_Full_Taken := kit_ref cx_Taken ty_Taken ss_Taken sb_Full_Taken,
    ki_Full_TooFar := kit_ref cx_TooFar ty_TooFar ss_TooFar sb_Full_TooFar,
    ki_Full_TooGreat := kit_ref cx_TooGreat ty_TooGreat ss_TooGreat sb_Full_TooGreat,
    ki_Full_TooMany := kit_ref cx_TooMany ty_TooMany ss_TooMany sb_Full_TooMany,
    ki_Full_Twice := kit_ref cx_Twice ty_Twice ss_Twice sb_Full_Twice,
    ki_Full_Unlike := kit_ref cx_Unlike ty_Unlike ss_Unlike sb_Full_Unlike,
    ki_Full_ValueError := kit_ty (by decide) st_Full_ValueError,
    ki_Full_Wrong := kit_ref cx_Wrong ty_Wrong ss_Wrong sb_Full_Wrong,
    ki_Lacks_Again := kit_ref cx_Again ty_Again ss_Again sb_Lacks_Again,
    ki_Lacks_AheadError := kit_ref cx_AheadError ty_AheadError ss_AheadError sb_Lacks_AheadError,
    ki_Lacks_Apart := kit_ref cx_Apart ty_Apart ss_Apart sb_Lacks_Apart,
    ki_Lacks_Few := kit_ref cx_Few ty_Few ss_Few sb_Lacks_Few,
    ki_Lacks_Full := kit_ref cx_Full ty_Full ss_Full sb_Lacks_Full,
    ki_Lacks_Lacks := kit_self,
    ki_Lacks_NoBook := kit_ref cx_NoBook ty_NoBook ss_NoBook sb_Lacks_NoBook,
    ki_Lacks_NoDeed := kit_ref cx_NoDeed ty_NoDeed ss_NoDeed sb_Lacks_NoDeed,
    ki_Lacks_NoLine := kit_ref cx_NoLine ty_NoLine ss_NoLine sb_Lacks_NoLine,
    ki_Lacks_NoText := kit_ref cx_NoText ty_NoText ss_NoText sb_Lacks_NoText,
    ki_Lacks_NoWalker := kit_ref cx_NoWalker ty_NoWalker ss_NoWalker sb_Lacks_NoWalker,
    ki_Lacks_NotPlain := kit_ref cx_NotPlain ty_NotPlain ss_NotPlain sb_Lacks_NotPlain,
    ki_Lacks_Nothing := kit_ref cx_Nothing ty_Nothing ss_Nothing sb_Lacks_Nothing,
    ki_Lacks_Short := kit_ref cx_Short ty_Short ss_Short sb_Lacks_Short,
    ki_Lacks_Stopped := kit_ref cx_Stopped ty_Stopped ss_Stopped sb_Lacks_Stopped,
    ki_Lacks_Taken := kit_ref cx_Taken ty_Taken ss_Taken sb_Lacks_Taken,
    ki_Lacks_TooFar := kit_ref cx_TooFar ty_TooFar ss_TooFar sb_Lacks_TooFar,
    ki_Lacks_TooGreat := kit_ref cx_TooGreat ty_TooGreat ss_TooGreat sb_Lacks_TooGreat,
    ki_Lacks_TooMany := kit_ref cx_TooMany ty_TooMany ss_TooMany sb_Lacks_TooMany,
    ki_Lacks_Twice := kit_ref cx_Twice ty_Twice ss_Twice sb_Lacks_Twice,
    ki_Lacks_Unlike := kit_ref cx_Unlike ty_Unlike ss_Unlike sb_Lacks_Unlike,
    ki_Lacks_ValueError := kit_ty (by decide) st_Lacks_ValueError,
    ki_Lacks_Wrong := kit_ref cx_Wrong ty_Wrong ss_Wrong sb_Lacks_Wrong,
    ki_NoBook_Again := kit_ref cx_Again ty_Again ss_Again sb_NoBook_Again,
    ki_NoBook_AheadError := kit_ref cx_AheadError ty_AheadError ss_AheadError sb_NoBook_AheadError,
    ki_NoBook_Apart := kit_ref cx_Apart ty_Apart ss_Apart sb_NoBook_Apart,
    ki_NoBook_Few := kit_ref cx_Few ty_Few ss_Few sb_NoBook_Few,
    ki_NoBook_Full := kit_ref cx_Full ty_Full ss_Full sb_NoBook_Full,
    ki_NoBook_Lacks := kit_ref cx_Lacks ty_Lacks ss_Lacks sb_NoBook_Lacks,
    ki_NoBook_NoBook := kit_self,
    ki_NoBook_NoDeed := kit_ref cx_NoDeed ty_NoDeed ss_NoDeed sb_NoBook_NoDeed,
    ki_NoBook_NoLine := kit_ref cx_NoLine ty_NoLine ss_NoLine sb_NoBook_NoLine,
    ki_NoBook_NoText := kit_ref cx_NoText ty_NoText ss_NoText sb_NoBook_NoText,
    ki_NoBook_NoWalker := kit_ref cx_NoWalker ty_NoWalker ss_NoWalker sb_NoBook_NoWalker,
    ki_NoBook_NotPlain := kit_ref cx_NotPlain ty_NotPlain ss_NotPlain sb_NoBook_NotPlain,
    ki_NoBook_Nothing := kit_ref cx_Nothing ty_Nothing ss_Nothing sb_NoBook_Nothing,
    ki_NoBook_Short := kit_ref cx_Short ty_Short ss_Short sb_NoBook_Short,
    ki_NoBook_Stopped := kit_ref cx_Stopped ty_Stopped ss_Stopped sb_NoBook_Stopped,
    ki_NoBook_Taken := kit_ref cx_Taken ty_Taken ss_Taken sb_NoBook_Taken,
    ki_NoBook_TooFar := kit_ref cx_TooFar ty_TooFar ss_TooFar sb_NoBook_TooFar,
    ki_NoBook_TooGreat := kit_ref cx_TooGreat ty_TooGreat ss_TooGreat sb_NoBook_TooGreat,
    ki_NoBook_TooMany := kit_ref cx_TooMany ty_TooMany ss_TooMany sb_NoBook_TooMany,
    ki_NoBook_Twice := kit_ref cx_Twice ty_Twice ss_Twice sb_NoBook_Twice,
    ki_NoBook_Unlike := kit_ref cx_Unlike ty_Unlike ss_Unlike sb_NoBook_Unlike,
    ki_NoBook_ValueError := kit_ty (by decide) st_NoBook_ValueError,
    ki_NoBook_Wrong := kit_ref cx_Wrong ty_Wrong ss_Wrong sb_NoBook_Wrong,
    ki_NoDeed_Again := kit_ref cx_Again ty_Again ss_Again sb_NoDeed_Again,
    ki_NoDeed_AheadError := kit_ref cx_AheadError ty_AheadError ss_AheadError sb_NoDeed_AheadError,
    ki_NoDeed_Apart := kit_ref cx_Apart ty_Apart ss_Apart sb_NoDeed_Apart,
    ki_NoDeed_Few := kit_ref cx_Few ty_Few ss_Few sb_NoDeed_Few,
    ki_NoDeed_Full := kit_ref cx_Full ty_Full ss_Full sb_NoDeed_Full,
    ki_NoDeed_Lacks := kit_ref cx_Lacks ty_Lacks ss_Lacks sb_NoDeed_Lacks,
    ki_NoDeed_NoBook := kit_ref cx_NoBook ty_NoBook ss_NoBook sb_NoDeed_NoBook,
    ki_NoDeed_NoDeed := kit_self,
    ki_NoDeed_NoLine := kit_ref cx_NoLine ty_NoLine ss_NoLine sb_NoDeed_NoLine,
    ki_NoDeed_NoText := kit_ref cx_NoText ty_NoText ss_NoText sb_NoDeed_NoText,
    ki_NoDeed_NoWalker := kit_ref cx_NoWalker ty_NoWalker ss_NoWalker sb_NoDeed_NoWalker,
    ki_NoDeed_NotPlain := kit_ref cx_NotPlain ty_NotPlain ss_NotPlain sb_NoDeed_NotPlain,
    ki_NoDeed_Nothing := kit_ref cx_Nothing ty_Nothing ss_Nothing sb_NoDeed_Nothing,
    ki_NoDeed_Short := kit_ref cx_Short ty_Short ss_Short sb_NoDeed_Short,
    ki_NoDeed_Stopped := kit_ref cx_Stopped ty_Stopped ss_Stopped sb_NoDeed_Stopped,
    ki_NoDeed_Taken := kit_ref cx_Taken ty_Taken ss_Taken sb_NoDeed_Taken,
    ki_NoDeed_TooFar := kit_ref cx_TooFar ty_TooFar ss_TooFar sb_NoDeed_TooFar,
    ki_NoDeed_TooGreat := kit_ref cx_TooGreat ty_TooGreat ss_TooGreat sb_NoDeed_TooGreat,
    ki_NoDeed_TooMany := kit_ref cx_TooMany ty_TooMany ss_TooMany sb_NoDeed_TooMany,
    ki_NoDeed_Twice := kit_ref cx_Twice ty_Twice ss_Twice sb_NoDeed_Twice,
    ki_NoDeed_Unlike := kit_ref cx_Unlike ty_Unlike ss_Unlike sb_NoDeed_Unlike,
    ki_NoDeed_ValueError := kit_ty (by decide) st_NoDeed_ValueError,
    ki_NoDeed_Wrong := kit_ref cx_Wrong ty_Wrong ss_Wrong sb_NoDeed_Wrong,
    ki_NoLine_Again := kit_ref cx_Again ty_Again ss_Again sb_NoLine_Again,
    ki_NoLine_AheadError := kit_ref cx_AheadError ty_AheadError ss_AheadError sb_NoLine_AheadError,
    ki_NoLine_Apart := kit_ref cx_Apart ty_Apart ss_Apart sb_NoLine_Apart,
    ki_NoLine_Few := kit_ref cx_Few ty_Few ss_Few sb_NoLine_Few,
    ki_NoLine_Full := kit_ref cx_Full ty_Full ss_Full sb_NoLine_Full,
    ki_NoLine_Lacks := kit_ref cx_Lacks ty_Lacks ss_Lacks sb_NoLine_Lacks,
    ki_NoLine_NoBook := kit_ref cx_NoBook ty_NoBook ss_NoBook sb_NoLine_NoBook,
    ki_NoLine_NoDeed := kit_ref cx_NoDeed ty_NoDeed ss_NoDeed sb_NoLine_NoDeed,
    ki_NoLine_NoLine := kit_self,
    ki_NoLine_NoText := kit_ref cx_NoText ty_NoText ss_NoText sb_NoLine_NoText,
    ki_NoLine_NoWalker := kit_ref cx_NoWalker ty_NoWalker ss_NoWalker sb_NoLine_NoWalker,
    ki_NoLine_NotPlain := kit_ref cx_NotPlain ty_NotPlain ss_NotPlain sb_NoLine_NotPlain,
    ki_NoLine_Nothing := kit_ref cx_Nothing ty_Nothing ss_Nothing sb_NoLine_Nothing,
    ki_NoLine_Short := kit_ref cx_Short ty_Short ss_Short sb_NoLine_Short,
    ki_NoLine_Stopped := kit_ref cx_Stopped ty_Stopped ss_Stopped sb_NoLine_Stopped,
    ki_NoLine_Taken := kit_ref cx_Taken ty_Taken ss_Taken sb_NoLine_Taken,
    ki_NoLine_TooFar := kit_ref cx_TooFar ty_TooFar ss_TooFar sb_NoLine_TooFar,
    ki_NoLine_TooGreat := kit_ref cx_TooGreat ty_TooGreat ss_TooGreat sb_NoLine_TooGreat,
    ki_NoLine_TooMany := kit_ref cx_TooMany ty_TooMany ss_TooMany sb_NoLine_TooMany,
    ki_NoLine_Twice := kit_ref cx_Twice ty_Twice ss_Twice sb_NoLine_Twice,
    ki_NoLine_Unlike := kit_ref cx_Unlike ty_Unlike ss_Unlike sb_NoLine_Unlike,
    ki_NoLine_ValueError := kit_ty (by decide) st_NoLine_ValueError,
    ki_NoLine_Wrong := kit_ref cx_Wrong ty_Wrong ss_Wrong sb_NoLine_Wrong,
    ki_NoText_Again := kit_ref cx_Again ty_Again ss_Again sb_NoText_Again,
    ki_NoText_AheadError := kit_ref cx_AheadError ty_AheadError ss_AheadError sb_NoText_AheadError,
    ki_NoText_Apart := kit_ref cx_Apart ty_Apart ss_Apart sb_NoText_Apart,
    ki_NoText_Few := kit_ref cx_Few ty_Few ss_Few sb_NoText_Few,
    ki_NoText_Full := kit_ref cx_Full ty_Full ss_Full sb_NoText_Full,
    ki_NoText_Lacks := kit_ref cx_Lacks ty_Lacks ss_Lacks sb_NoText_Lacks,
    ki_NoText_NoBook := kit_ref cx_NoBook ty_NoBook ss_NoBook sb_NoText_NoBook,
    ki_NoText_NoDeed := kit_ref cx_NoDeed ty_NoDeed ss_NoDeed sb_NoText_NoDeed,
    ki_NoText_NoLine := kit_ref cx_NoLine ty_NoLine ss_NoLine sb_NoText_NoLine,
    ki_NoText_NoText := kit_self,
    ki_NoText_NoWalker := kit_ref cx_NoWalker ty_NoWalker ss_NoWalker sb_NoText_NoWalker,
    ki_NoText_NotPlain := kit_ref cx_NotPlain ty_NotPlain ss_NotPlain sb_NoText_NotPlain,
    ki_NoText_Nothing := kit_ref cx_Nothing ty_Nothing ss_Nothing sb_NoText_Nothing,
    ki_NoText_Short := kit_ref cx_Short ty_Short ss_Short sb_NoText_Short,
    ki_NoText_Stopped := kit_ref cx_Stopped ty_Stopped ss_Stopped sb_NoText_Stopped,
    ki_NoText_Taken := kit_ref cx_Taken ty_Taken ss_Taken sb_NoText_Taken,
    ki_NoText_TooFar := kit_ref cx_TooFar ty_TooFar ss_TooFar sb_NoText_TooFar,
    ki_NoText_TooGreat := kit_ref cx_TooGreat ty_TooGreat ss_TooGreat sb_NoText_TooGreat,
    ki_NoText_TooMany := kit_ref cx_TooMany ty_TooMany ss_TooMany sb_NoText_TooMany,
    ki_NoText_Twice := kit_ref cx_Twice ty_Twice ss_Twice sb_NoText_Twice,
    ki_NoText_Unlike := kit_ref cx_Unlike ty_Unlike ss_Unlike sb_NoText_Unlike,
    ki_NoText_ValueError := kit_ty (by decide) st_NoText_ValueError,
    ki_NoText_Wrong := kit_ref cx_Wrong ty_Wrong ss_Wrong sb_NoText_Wrong,
    ki_NoWalker_Again := kit_ref cx_Again ty_Again ss_Again sb_NoWalker_Again,
    ki_NoWalker_AheadError := kit_ref cx_AheadError ty_AheadError ss_AheadError sb_NoWalker_AheadError,
    ki_NoWalker_Apart := kit_ref cx_Apart ty_Apart ss_Apart sb_NoWalker_Apart,
    ki_NoWalker_Few := kit_ref cx_Few ty_Few ss_Few sb_NoWalker_Few,
    ki_NoWalker_Full := kit_ref cx_Full ty_Full ss_Full sb_NoWalker_Full,
    ki_NoWalker_Lacks := kit_ref cx_Lacks ty_Lacks ss_Lacks sb_NoWalker_Lacks,
    ki_NoWalker_NoBook := kit_ref cx_NoBook ty_NoBook ss_NoBook sb_NoWalker_NoBook,
    ki_NoWalker_NoDeed := kit_ref cx_NoDeed ty_NoDeed ss_NoDeed sb_NoWalker_NoDeed,
    ki_NoWalker_NoLine := kit_ref cx_NoLine ty_NoLine ss_NoLine sb_NoWalker_NoLine,
    ki_NoWalker_NoText := kit_ref cx_NoText ty_NoText ss_NoText sb_NoWalker_NoText,
    ki_NoWalker_NoWalker := kit_self,
    ki_NoWalker_NotPlain := kit_ref cx_NotPlain ty_NotPlain ss_NotPlain sb_NoWalker_NotPlain,
    ki_NoWalker_Nothing := kit_ref cx_Nothing ty_Nothing ss_Nothing sb_NoWalker_Nothing,
    ki_NoWalker_Short := kit_ref cx_Short ty_Short ss_Short sb_NoWalker_Short,
    ki_NoWalker_Stopped := kit_ref cx_Stopped ty_Stopped ss_Stopped sb_NoWalker_Stopped,
    ki_NoWalker_Taken := kit_ref cx_Taken ty_Taken ss_Taken sb_NoWalker_Taken,
    ki_NoWalker_TooFar := kit_ref cx_TooFar ty_TooFar ss_TooFar sb_NoWalker_TooFar,
    ki_NoWalker_TooGreat := kit_ref cx_TooGreat ty_TooGreat ss_TooGreat sb_NoWalker_TooGreat,
    ki_NoWalker_TooMany := kit_ref cx_TooMany ty_TooMany ss_TooMany sb_NoWalker_TooMany,
    ki_NoWalker_Twice := kit_ref cx_Twice ty_Twice ss_Twice sb_NoWalker_Twice,
    ki_NoWalker_Unlike := kit_ref cx_Unlike ty_Unlike ss_Unlike sb_NoWalker_Unlike,
    ki_NoWalker_ValueError := kit_ty (by decide) st_NoWalker_ValueError,
    ki_NoWalker_Wrong := kit_ref cx_Wrong ty_Wrong ss_Wrong sb_NoWalker_Wrong,
    ki_NotPlain_Again := kit_ref cx_Again ty_Again ss_Again sb_NotPlain_Again,
    ki_NotPlain_AheadError := kit_ref cx_AheadError ty_AheadError ss_AheadError sb_NotPlain_AheadError,
    ki_NotPlain_Apart := kit_ref cx_Apart ty_Apart ss_Apart sb_NotPlain_Apart,
    ki_NotPlain_Few := kit_ref cx_Few ty_Few ss_Few sb_NotPlain_Few,
    ki_NotPlain_Full := kit_ref cx_Full ty_Full ss_Full sb_NotPlain_Full,
    ki_NotPlain_Lacks := kit_ref cx_Lacks ty_Lacks ss_Lacks sb_NotPlain_Lacks,
    ki_NotPlain_NoBook := kit_ref cx_NoBook ty_NoBook ss_NoBook sb_NotPlain_NoBook,
    ki_NotPlain_NoDeed := kit_ref cx_NoDeed ty_NoDeed ss_NoDeed sb_NotPlain_NoDeed,
    ki_NotPlain_NoLine := kit_ref cx_NoLine ty_NoLine ss_NoLine sb_NotPlain_NoLine,
    ki_NotPlain_NoText := kit_ref cx_NoText ty_NoText ss_NoText sb_NotPlain_NoText,
    ki_NotPlain_NoWalker := kit_ref cx_NoWalker ty_NoWalker ss_NoWalker sb_NotPlain_NoWalker,
    ki_NotPlain_NotPlain := kit_self,
    ki_NotPlain_Nothing := kit_ref cx_Nothing ty_Nothing ss_Nothing sb_NotPlain_Nothing,
    ki_NotPlain_Short := kit_ref cx_Short ty_Short ss_Short sb_NotPlain_Short,
    ki_NotPlain_Stopped := kit_ref cx_Stopped ty_Stopped ss_Stopped sb_NotPlain_Stopped,
    ki_NotPlain_Taken := kit_ref cx_Taken ty_Taken ss_Taken sb_NotPlain_Taken,
    ki_NotPlain_TooFar := kit_ref cx_TooFar ty_TooFar ss_TooFar sb_NotPlain_TooFar,
    ki_NotPlain_TooGreat := kit_ref cx_TooGreat ty_TooGreat ss_TooGreat sb_NotPlain_TooGreat,
    ki_NotPlain_TooMany := kit_ref cx_TooMany ty_TooMany ss_TooMany sb_NotPlain_TooMany,
    ki_NotPlain_Twice := kit_ref cx_Twice ty_Twice ss_Twice sb_NotPlain_Twice,
    ki_NotPlain_Unlike := kit_ref cx_Unlike ty_Unlike ss_Unlike sb_NotPlain_Unlike,
    ki_NotPlain_ValueError := kit_ty (by decide) st_NotPlain_ValueError,
    ki_NotPlain_Wrong := kit_ref cx_Wrong ty_Wrong ss_Wrong sb_NotPlain_Wrong,
    ki_Nothing_Again := kit_ref cx_Again ty_Again ss_Again sb_Nothing_Again,
    ki_Nothing_AheadError := kit_ref cx_AheadError ty_AheadError ss_AheadError sb_Nothing_AheadError,
    ki_Nothing_Apart := kit_ref cx_Apart ty_Apart ss_Apart sb_Nothing_Apart,
    ki_Nothing_Few := kit_ref cx_Few ty_Few ss_Few sb_Nothing_Few,
    ki_Nothing_Full := kit_ref cx_Full ty_Full ss_Full sb_Nothing_Full,
    ki_Nothing_Lacks := kit_ref cx_Lacks ty_Lacks ss_Lacks sb_Nothing_Lacks,
    ki_Nothing_NoBook := kit_ref cx_NoBook ty_NoBook ss_NoBook sb_Nothing_NoBook,
    ki_Nothing_NoDeed := kit_ref cx_NoDeed ty_NoDeed ss_NoDeed sb_Nothing_NoDeed,
    ki_Nothing_NoLine := kit_ref cx_NoLine ty_NoLine ss_NoLine sb_Nothing_NoLine,
    ki_Nothing_NoText := kit_ref cx_NoText ty_NoText ss_NoText sb_Nothing_NoText,
    ki_Nothing_NoWalker := kit_ref cx_NoWalker ty_NoWalker ss_NoWalker sb_Nothing_NoWalker,
    ki_Nothing_NotPlain := kit_ref cx_NotPlain ty_NotPlain ss_NotPlain sb_Nothing_NotPlain,
    ki_Nothing_Nothing := kit_self,
    ki_Nothing_Short := kit_ref cx_Short ty_Short ss_Short sb_Nothing_Short,
    ki_Nothing_Stopped := kit_ref cx_Stopped ty_Stopped ss_Stopped sb_Nothing_Stopped,
    ki_Nothing_Taken := kit_ref cx_Taken ty_Taken ss_Taken sb_Nothing_Taken,
    ki_Nothing_TooFar := kit_ref cx_TooFar ty_TooFar ss_TooFar sb_Nothing_TooFar,
    ki_Nothing_TooGreat := kit_ref cx_TooGreat ty_TooGreat ss_TooGreat sb_Nothing_TooGreat,
    ki_Nothing_TooMany := kit_ref cx_TooMany ty_TooMany ss_TooMany sb_Nothing_TooMany,
    ki_Nothing_Twice := kit_ref cx_Twice ty_Twice ss_Twice sb_Nothing_Twice,
    ki_Nothing_Unlike := kit_ref cx_Unlike ty_Unlike ss_Unlike sb_Nothing_Unlike,
    ki_Nothing_ValueError := kit_ty (by decide) st_Nothing_ValueError,
    ki_Nothing_Wrong := kit_ref cx_Wrong ty_Wrong ss_Wrong sb_Nothing_Wrong,
    ki_Short_Again := kit_ref cx_Again ty_Again ss_Again sb_Short_Again,
    ki_Short_AheadError := kit_ref cx_AheadError ty_AheadError ss_AheadError sb_Short_AheadError,
    ki_Short_Apart := kit_ref cx_Apart ty_Apart ss_Apart sb_Short_Apart,
    ki_Short_Few := kit_ref cx_Few ty_Few ss_Few sb_Short_Few,
    ki_Short_Full := kit_ref cx_Full ty_Full ss_Full sb_Short_Full,
    ki_Short_Lacks := kit_ref cx_Lacks ty_Lacks ss_Lacks sb_Short_Lacks,
    ki_Short_NoBook := kit_ref cx_NoBook ty_NoBook ss_NoBook sb_Short_NoBook,
    ki_Short_NoDeed := kit_ref cx_NoDeed ty_NoDeed ss_NoDeed sb_Short_NoDeed,
    ki_Short_NoLine := kit_ref cx_NoLine ty_NoLine ss_NoLine sb_Short_NoLine,
    ki_Short_NoText := kit_ref cx_NoText ty_NoText ss_NoText sb_Short_NoText,
    ki_Short_NoWalker := kit_ref cx_NoWalker ty_NoWalker ss_NoWalker sb_Short_NoWalker,
    ki_Short_NotPlain := kit_ref cx_NotPlain ty_NotPlain ss_NotPlain sb_Short_NotPlain,
    ki_Short_Nothing := kit_ref cx_Nothing ty_Nothing ss_Nothing sb_Short_Nothing,
    ki_Short_Short := kit_self,
    ki_Short_Stopped := kit_ref cx_Stopped ty_Stopped ss_Stopped sb_Short_Stopped,
    ki_Short_Taken := kit_ref cx_Taken ty_Taken ss_Taken sb_Short_Taken,
    ki_Short_TooFar := kit_ref cx_TooFar ty_TooFar ss_TooFar sb_Short_TooFar,
    ki_Short_TooGreat := kit_ref cx_TooGreat ty_TooGreat ss_TooGreat sb_Short_TooGreat,
    ki_Short_TooMany := kit_ref cx_TooMany ty_TooMany ss_TooMany sb_Short_TooMany,
    ki_Short_Twice := kit_ref cx_Twice ty_Twice ss_Twice sb_Short_Twice,
    ki_Short_Unlike := kit_ref cx_Unlike ty_Unlike ss_Unlike sb_Short_Unlike,
    ki_Short_ValueError := kit_ty (by decide) st_Short_ValueError,
    ki_Short_Wrong := kit_ref cx_Wrong ty_Wrong ss_Wrong sb_Short_Wrong,
    ki_Stopped_Again := kit_ref cx_Again ty_Again ss_Again sb_Stopped_Again,
    ki_Stopped_AheadError := kit_ref cx_AheadError ty_AheadError ss_AheadError sb_Stopped_AheadError,
    ki_Stopped_Apart := kit_ref cx_Apart ty_Apart ss_Apart sb_Stopped_Apart,
    ki_Stopped_Few := kit_ref cx_Few ty_Few ss_Few sb_Stopped_Few,
    ki_Stopped_Full := kit_ref cx_Full ty_Full ss_Full sb_Stopped_Full,
    ki_Stopped_Lacks := kit_ref cx_Lacks ty_Lacks ss_Lacks sb_Stopped_Lacks,
    ki_Stopped_NoBook := kit_ref cx_NoBook ty_NoBook ss_NoBook sb_Stopped_NoBook,
    ki_Stopped_NoDeed := kit_ref cx_NoDeed ty_NoDeed ss_NoDeed sb_Stopped_NoDeed,
    ki_Stopped_NoLine := kit_ref cx_NoLine ty_NoLine ss_NoLine sb_Stopped_NoLine,
    ki_Stopped_NoText := kit_ref cx_NoText ty_NoText ss_NoText sb_Stopped_NoText,
    ki_Stopped_NoWalker := kit_ref cx_NoWalker ty_NoWalker ss_NoWalker sb_Stopped_NoWalker,
    ki_Stopped_NotPlain := kit_ref cx_NotPlain ty_NotPlain ss_NotPlain sb_Stopped_NotPlain,
    ki_Stopped_Nothing := kit_ref cx_Nothing ty_Nothing ss_Nothing sb_Stopped_Nothing,
    ki_Stopped_Short := kit_ref cx_Short ty_Short ss_Short sb_Stopped_Short,
    ki_Stopped_Stopped := kit_self,
    ki_Stopped_Taken := kit_ref cx_Taken ty_Taken ss_Taken sb_Stopped_Taken,
    ki_Stopped_TooFar := kit_ref cx_TooFar ty_TooFar ss_TooFar sb_Stopped_TooFar,
    ki_Stopped_TooGreat := kit_ref cx_TooGreat ty_TooGreat ss_TooGreat sb_Stopped_TooGreat,
    ki_Stopped_TooMany := kit_ref cx_TooMany ty_TooMany ss_TooMany sb_Stopped_TooMany,
    ki_Stopped_Twice := kit_ref cx_Twice ty_Twice ss_Twice sb_Stopped_Twice,
    ki_Stopped_Unlike := kit_ref cx_Unlike ty_Unlike ss_Unlike sb_Stopped_Unlike,
    ki_Stopped_ValueError := kit_ty (by decide) st_Stopped_ValueError,
    ki_Stopped_Wrong := kit_ref cx_Wrong ty_Wrong ss_Wrong sb_Stopped_Wrong,
    ki_Taken_Again := kit_ref cx_Again ty_Again ss_Again sb_Taken_Again,
    ki_Taken_AheadError := kit_ref cx_AheadError ty_AheadError ss_AheadError sb_Taken_AheadError,
    ki_Taken_Apart := kit_ref cx_Apart ty_Apart ss_Apart sb_Taken_Apart,
    ki_Taken_Few := kit_ref cx_Few ty_Few ss_Few sb_Taken_Few,
    ki_Taken_Full := kit_ref cx_Full ty_Full ss_Full sb_Taken_Full,
    ki_Taken_Lacks := kit_ref cx_Lacks ty_Lacks ss_Lacks sb_Taken_Lacks,
    ki_Taken_NoBook := kit_ref cx_NoBook ty_NoBook ss_NoBook sb_Taken_NoBook,
    ki_Taken_NoDeed := kit_ref cx_NoDeed ty_NoDeed ss_NoDeed sb_Taken_NoDeed,
    ki_Taken_NoLine := kit_ref cx_NoLine ty_NoLine ss_NoLine sb_Taken_NoLine,
    ki_Taken_NoText := kit_ref cx_NoText ty_NoText ss_NoText sb_Taken_NoText,
    ki_Taken_NoWalker := kit_ref cx_NoWalker ty_NoWalker ss_NoWalker sb_Taken_NoWalker,
    ki_Taken_NotPlain := kit_ref cx_NotPlain ty_NotPlain ss_NotPlain sb_Taken_NotPlain,
    ki_Taken_Nothing := kit_ref cx_Nothing ty_Nothing ss_Nothing sb_Taken_Nothing,
    ki_Taken_Short := kit_ref cx_Short ty_Short ss_Short sb_Taken_Short,
    ki_Taken_Stopped := kit_ref cx_Stopped ty_Stopped ss_Stopped sb_Taken_Stopped,
    ki_Taken_Taken := kit_self,
    ki_Taken_TooFar := kit_ref cx_TooFar ty_TooFar ss_TooFar sb_Taken_TooFar,
    ki_Taken_TooGreat := kit_ref cx_TooGreat ty_TooGreat ss_TooGreat sb_Taken_TooGreat,
    ki_Taken_TooMany := kit_ref cx_TooMany ty_TooMany ss_TooMany sb_Taken_TooMany,
    ki_Taken_Twice := kit_ref cx_Twice ty_Twice ss_Twice sb_Taken_Twice,
    ki_Taken_Unlike := kit_ref cx_Unlike ty_Unlike ss_Unlike sb_Taken_Unlike,
    ki_Taken_ValueError := kit_ty (by decide) st_Taken_ValueError,
    ki_Taken_Wrong := kit_ref cx_Wrong ty_Wrong ss_Wrong sb_Taken_Wrong,
    ki_TooFar_Again := kit_ref cx_Again ty_Again ss_Again sb_TooFar_Again,
    ki_TooFar_AheadError := kit_ref cx_AheadError ty_AheadError ss_AheadError sb_TooFar_AheadError,
    ki_TooFar_Apart := kit_ref cx_Apart ty_Apart ss_Apart sb_TooFar_Apart,
    ki_TooFar_Few := kit_ref cx_Few ty_Few ss_Few sb_TooFar_Few,
    ki_TooFar_Full := kit_ref cx_Full ty_Full ss_Full sb_TooFar_Full,
    ki_TooFar_Lacks := kit_ref cx_Lacks ty_Lacks ss_Lacks sb_TooFar_Lacks,
    ki_TooFar_NoBook := kit_ref cx_NoBook ty_NoBook ss_NoBook sb_TooFar_NoBook,
    ki_TooFar_NoDeed := kit_ref cx_NoDeed ty_NoDeed ss_NoDeed sb_TooFar_NoDeed,
    ki_TooFar_NoLine := kit_ref cx_NoLine ty_NoLine ss_NoLine sb_TooFar_NoLine,
    ki_TooFar_NoText := kit_ref cx_NoText ty_NoText ss_NoText sb_TooFar_NoText,
    ki_TooFar_NoWalker := kit_ref cx_NoWalker ty_NoWalker ss_NoWalker sb_TooFar_NoWalker,
    ki_TooFar_NotPlain := kit_ref cx_NotPlain ty_NotPlain ss_NotPlain sb_TooFar_NotPlain,
    ki_TooFar_Nothing := kit_ref cx_Nothing ty_Nothing ss_Nothing sb_TooFar_Nothing,
    ki_TooFar_Short := kit_ref cx_Short ty_Short ss_Short sb_TooFar_Short,
    ki_TooFar_Stopped := kit_ref cx_Stopped ty_Stopped ss_Stopped sb_TooFar_Stopped,
    ki_TooFar_Taken := kit_ref cx_Taken ty_Taken ss_Taken sb_TooFar_Taken,
    ki_TooFar_TooFar := kit_self,
    ki_TooFar_TooGreat := kit_ref cx_TooGreat ty_TooGreat ss_TooGreat sb_TooFar_TooGreat,
    ki_TooFar_TooMany := kit_ref cx_TooMany ty_TooMany ss_TooMany sb_TooFar_TooMany,
    ki_TooFar_Twice := kit_ref cx_Twice ty_Twice ss_Twice sb_TooFar_Twice,
    ki_TooFar_Unlike := kit_ref cx_Unlike ty_Unlike ss_Unlike sb_TooFar_Unlike,
    ki_TooFar_ValueError := kit_ty (by decide) st_TooFar_ValueError,
    ki_TooFar_Wrong := kit_ref cx_Wrong ty_Wrong ss_Wrong sb_TooFar_Wrong,
    ki_TooGreat_Again := kit_ref cx_Again ty_Again ss_Again sb_TooGreat_Again,
    ki_TooGreat_AheadError := kit_ref cx_AheadError ty_AheadError ss_AheadError sb_TooGreat_AheadError,
    ki_TooGreat_Apart := kit_ref cx_Apart ty_Apart ss_Apart sb_TooGreat_Apart,
    ki_TooGreat_Few := kit_ref cx_Few ty_Few ss_Few sb_TooGreat_Few,
    ki_TooGreat_Full := kit_ref cx_Full ty_Full ss_Full sb_TooGreat_Full,
    ki_TooGreat_Lacks := kit_ref cx_Lacks ty_Lacks ss_Lacks sb_TooGreat_Lacks,
    ki_TooGreat_NoBook := kit_ref cx_NoBook ty_NoBook ss_NoBook sb_TooGreat_NoBook,
    ki_TooGreat_NoDeed := kit_ref cx_NoDeed ty_NoDeed ss_NoDeed sb_TooGreat_NoDeed,
    ki_TooGreat_NoLine := kit_ref cx_NoLine ty_NoLine ss_NoLine sb_TooGreat_NoLine,
    ki_TooGreat_NoText := kit_ref cx_NoText ty_NoText ss_NoText sb_TooGreat_NoText,
    ki_TooGreat_NoWalker := kit_ref cx_NoWalker ty_NoWalker ss_NoWalker sb_TooGreat_NoWalker,
    ki_TooGreat_NotPlain := kit_ref cx_NotPlain ty_NotPlain ss_NotPlain sb_TooGreat_NotPlain,
    ki_TooGreat_Nothing := kit_ref cx_Nothing ty_Nothing ss_Nothing sb_TooGreat_Nothing,
    ki_TooGreat_Short := kit_ref cx_Short ty_Short ss_Short sb_TooGreat_Short,
    ki_TooGreat_Stopped := kit_ref cx_Stopped ty_Stopped ss_Stopped sb_TooGreat_Stopped,
    ki_TooGreat_Taken := kit_ref cx_Taken ty_Taken ss_Taken sb_TooGreat_Taken,
    ki_TooGreat_TooFar := kit_ref cx_TooFar ty_TooFar ss_TooFar sb_TooGreat_TooFar,
    ki_TooGreat_TooGreat := kit_self,
    ki_TooGreat_TooMany := kit_ref cx_TooMany ty_TooMany ss_TooMany sb_TooGreat_TooMany,
    ki_TooGreat_Twice := kit_ref cx_Twice ty_Twice ss_Twice sb_TooGreat_Twice,
    ki_TooGreat_Unlike := kit_ref cx_Unlike ty_Unlike ss_Unlike sb_TooGreat_Unlike,
    ki_TooGreat_ValueError := kit_ty (by decide) st_TooGreat_ValueError,
    ki_TooGreat_Wrong := kit_ref cx_Wrong ty_Wrong ss_Wrong sb_TooGreat_Wrong,
    ki_TooMany_Again := kit_ref cx_Again ty_Again ss_Again sb_TooMany_Again,
    ki_TooMany_AheadError := kit_ref cx_AheadError ty_AheadError ss_AheadError sb_TooMany_AheadError,
    ki_TooMany_Apart := kit_ref cx_Apart ty_Apart ss_Apart sb_TooMany_Apart,
    ki_TooMany_Few := kit_ref cx_Few ty_Few ss_Few sb_TooMany_Few,
    ki_TooMany_Full := kit_ref cx_Full ty_Full ss_Full sb_TooMany_Full,
    ki_TooMany_Lacks := kit_ref cx_Lacks ty_Lacks ss_Lacks sb_TooMany_Lacks,
    ki_TooMany_NoBook := kit_ref cx_NoBook ty_NoBook ss_NoBook sb_TooMany_NoBook,
    ki_TooMany_NoDeed := kit_ref cx_NoDeed ty_NoDeed ss_NoDeed sb_TooMany_NoDeed,
    ki_TooMany_NoLine := kit_ref cx_NoLine ty_NoLine ss_NoLine sb_TooMany_NoLine,
    ki_TooMany_NoText := kit_ref cx_NoText ty_NoText ss_NoText sb_TooMany_NoText,
    ki_TooMany_NoWalker := kit_ref cx_NoWalker ty_NoWalker ss_NoWalker sb_TooMany_NoWalker,
    ki_TooMany_NotPlain := kit_ref cx_NotPlain ty_NotPlain ss_NotPlain sb_TooMany_NotPlain,
    ki_TooMany_Nothing := kit_ref cx_Nothing ty_Nothing ss_Nothing sb_TooMany_Nothing,
    ki_TooMany_Short := kit_ref cx_Short ty_Short ss_Short sb_TooMany_Short,
    ki_TooMany_Stopped := kit_ref cx_Stopped ty_Stopped ss_Stopped sb_TooMany_Stopped,
    ki_TooMany_Taken := kit_ref cx_Taken ty_Taken ss_Taken sb_TooMany_Taken,
    ki_TooMany_TooFar := kit_ref cx_TooFar ty_TooFar ss_TooFar sb_TooMany_TooFar,
    ki_TooMany_TooGreat := kit_ref cx_TooGreat ty_TooGreat ss_TooGreat sb_TooMany_TooGreat,
    ki_TooMany_TooMany := kit_self,
    ki_TooMany_Twice := kit_ref cx_Twice ty_Twice ss_Twice sb_TooMany_Twice,
    ki_TooMany_Unlike := kit_ref cx_Unlike ty_Unlike ss_Unlike sb_TooMany_Unlike,
    ki_TooMany_ValueError := kit_ty (by decide) st_TooMany_ValueError,
    ki_TooMany_Wrong := kit_ref cx_Wrong ty_Wrong ss_Wrong sb_TooMany_Wrong,
    ki_Twice_Again := kit_ref cx_Again ty_Again ss_Again sb_Twice_Again,
    ki_Twice_AheadError := kit_ref cx_AheadError ty_AheadError ss_AheadError sb_Twice_AheadError,
    ki_Twice_Apart := kit_ref cx_Apart ty_Apart ss_Apart sb_Twice_Apart,
    ki_Twice_Few := kit_ref cx_Few ty_Few ss_Few sb_Twice_Few,
    ki_Twice_Full := kit_ref cx_Full ty_Full ss_Full sb_Twice_Full,
    ki_Twice_Lacks := kit_ref cx_Lacks ty_Lacks ss_Lacks sb_Twice_Lacks,
    ki_Twice_NoBook := kit_ref cx_NoBook ty_NoBook ss_NoBook sb_Twice_NoBook,
    ki_Twice_NoDeed := kit_ref cx_NoDeed ty_NoDeed ss_NoDeed sb_Twice_NoDeed,
    ki_Twice_NoLine := kit_ref cx_NoLine ty_NoLine ss_NoLine sb_Twice_NoLine,
    ki_Twice_NoText := kit_ref cx_NoText ty_NoText ss_NoText sb_Twice_NoText,
    ki_Twice_NoWalker := kit_ref cx_NoWalker ty_NoWalker ss_NoWalker sb_Twice_NoWalker,
    ki_Twice_NotPlain := kit_ref cx_NotPlain ty_NotPlain ss_NotPlain sb_Twice_NotPlain,
    ki_Twice_Nothing := kit_ref cx_Nothing ty_Nothing ss_Nothing sb_Twice_Nothing,
    ki_Twice_Short := kit_ref cx_Short ty_Short ss_Short sb_Twice_Short,
    ki_Twice_Stopped := kit_ref cx_Stopped ty_Stopped ss_Stopped sb_Twice_Stopped,
    ki_Twice_Taken := kit_ref cx_Taken ty_Taken ss_Taken sb_Twice_Taken,
    ki_Twice_TooFar := kit_ref cx_TooFar ty_TooFar ss_TooFar sb_Twice_TooFar,
    ki_Twice_TooGreat := kit_ref cx_TooGreat ty_TooGreat ss_TooGreat sb_Twice_TooGreat,
    ki_Twice_TooMany := kit_ref cx_TooMany ty_TooMany ss_TooMany sb_Twice_TooMany,
    ki_Twice_Twice := kit_self,
    ki_Twice_Unlike := kit_ref cx_Unlike ty_Unlike ss_Unlike sb_Twice_Unlike,
    ki_Twice_ValueError := kit_ty (by decide) st_Twice_ValueError,
    ki_Twice_Wrong := kit_ref cx_Wrong ty_Wrong ss_Wrong sb_Twice_Wrong,
    ki_Unlike_Again := kit_ref cx_Again ty_Again ss_Again sb_Unlike_Again,
    ki_Unlike_AheadError := kit_ref cx_AheadError ty_AheadError ss_AheadError sb_Unlike_AheadError,
    ki_Unlike_Apart := kit_ref cx_Apart ty_Apart ss_Apart sb_Unlike_Apart,
    ki_Unlike_Few := kit_ref cx_Few ty_Few ss_Few sb_Unlike_Few,
    ki_Unlike_Full := kit_ref cx_Full ty_Full ss_Full sb_Unlike_Full,
    ki_Unlike_Lacks := kit_ref cx_Lacks ty_Lacks ss_Lacks sb_Unlike_Lacks,
    ki_Unlike_NoBook := kit_ref cx_NoBook ty_NoBook ss_NoBook sb_Unlike_NoBook,
    ki_Unlike_NoDeed := kit_ref cx_NoDeed ty_NoDeed ss_NoDeed sb_Unlike_NoDeed,
    ki_Unlike_NoLine := kit_ref cx_NoLine ty_NoLine ss_NoLine sb_Unlike_NoLine,
    ki_Unlike_NoText := kit_ref cx_NoText ty_NoText ss_NoText sb_Unlike_NoText,
    ki_Unlike_NoWalker := kit_ref cx_NoWalker ty_NoWalker ss_NoWalker sb_Unlike_NoWalker,
    ki_Unlike_NotPlain := kit_ref cx_NotPlain ty_NotPlain ss_NotPlain sb_Unlike_NotPlain,
    ki_Unlike_Nothing := kit_ref cx_Nothing ty_Nothing ss_Nothing sb_Unlike_Nothing,
    ki_Unlike_Short := kit_ref cx_Short ty_Short ss_Short sb_Unlike_Short,
    ki_Unlike_Stopped := kit_ref cx_Stopped ty_Stopped ss_Stopped sb_Unlike_Stopped,
    ki_Unlike_Taken := kit_ref cx_Taken ty_Taken ss_Taken sb_Unlike_Taken,
    ki_Unlike_TooFar := kit_ref cx_TooFar ty_TooFar ss_TooFar sb_Unlike_TooFar,
    ki_Unlike_TooGreat := kit_ref cx_TooGreat ty_TooGreat ss_TooGreat sb_Unlike_TooGreat,
    ki_Unlike_TooMany := kit_ref cx_TooMany ty_TooMany ss_TooMany sb_Unlike_TooMany,
    ki_Unlike_Twice := kit_ref cx_Twice ty_Twice ss_Twice sb_Unlike_Twice,
    ki_Unlike_Unlike := kit_self,
    ki_Unlike_ValueError := kit_ty (by decide) st_Unlike_ValueError,
    ki_Unlike_Wrong := kit_ref cx_Wrong ty_Wrong ss_Wrong sb_Unlike_Wrong,
    ki_Wrong_Again := kit_ref cx_Again ty_Again ss_Again sb_Wrong_Again,
    ki_Wrong_AheadError := kit_ref cx_AheadError ty_AheadError ss_AheadError sb_Wrong_AheadError,
    ki_Wrong_Apart := kit_ref cx_Apart ty_Apart ss_Apart sb_Wrong_Apart,
    ki_Wrong_Few := kit_ref cx_Few ty_Few ss_Few sb_Wrong_Few,
    ki_Wrong_Full := kit_ref cx_Full ty_Full ss_Full sb_Wrong_Full,
    ki_Wrong_Lacks := kit_ref cx_Lacks ty_Lacks ss_Lacks sb_Wrong_Lacks,
    ki_Wrong_NoBook := kit_ref cx_NoBook ty_NoBook ss_NoBook sb_Wrong_NoBook,
    ki_Wrong_NoDeed := kit_ref cx_NoDeed ty_NoDeed ss_NoDeed sb_Wrong_NoDeed,
    ki_Wrong_NoLine := kit_ref cx_NoLine ty_NoLine ss_NoLine sb_Wrong_NoLine,
    ki_Wrong_NoText := kit_ref cx_NoText ty_NoText ss_NoText sb_Wrong_NoText,
    ki_Wrong_NoWalker := kit_ref cx_NoWalker ty_NoWalker ss_NoWalker sb_Wrong_NoWalker,
    ki_Wrong_NotPlain := kit_ref cx_NotPlain ty_NotPlain ss_NotPlain sb_Wrong_NotPlain,
    ki_Wrong_Nothing := kit_ref cx_Nothing ty_Nothing ss_Nothing sb_Wrong_Nothing,
    ki_Wrong_Short := kit_ref cx_Short ty_Short ss_Short sb_Wrong_Short,
    ki_Wrong_Stopped := kit_ref cx_Stopped ty_Stopped ss_Stopped sb_Wrong_Stopped,
    ki_Wrong_Taken := kit_ref cx_Taken ty_Taken ss_Taken sb_Wrong_Taken,
    ki_Wrong_TooFar := kit_ref cx_TooFar ty_TooFar ss_TooFar sb_Wrong_TooFar,
    ki_Wrong_TooGreat := kit_ref cx_TooGreat ty_TooGreat ss_TooGreat sb_Wrong_TooGreat,
    ki_Wrong_TooMany := kit_ref cx_TooMany ty_TooMany ss_TooMany sb_Wrong_TooMany,
    ki_Wrong_Twice := kit_ref cx_Twice ty_Twice ss_Twice sb_Wrong_Twice,
    ki_Wrong_Unlike := kit_ref cx_Unlike ty_Unlike ss_Unlike sb_Wrong_Unlike,
    ki_Wrong_ValueError := kit_ty (by decide) st_Wrong_ValueError,
    ki_Wrong_Wrong := kit_self,
    em_Again_AheadError := PySem.W.exm_ref ex_AheadError hx_AheadError ty_AheadError sb_Again_AheadError,
    em_NoWalker_AheadError := PySem.W.exm_ref ex_AheadError hx_AheadError ty_AheadError sb_NoWalker_AheadError,
    em_Wrong_AheadError := PySem.W.exm_ref ex_AheadError hx_AheadError ty_AheadError sb_Wrong_AheadError,
    d_w_bag := ⟨f_w_bag, _, PySem.W.mg_of X G a_w_bag, k_w_bag, B_w_bag, F_w_bag⟩,
    d_w_take := ⟨f_w_take, _, PySem.W.mg_of X G a_w_take, k_w_take, B_w_take, F_w_take⟩,
    d_w_made := ⟨f_w_made, _, PySem.W.mg_of X G a_w_made, k_w_made, B_w_made, F_w_made⟩,
    d_w_sorts := ⟨f_w_sorts, _, PySem.W.mg_of X G a_w_sorts, k_w_sorts, B_w_sorts, F_w_sorts⟩,
    d_w_fields := ⟨f_w_fields, _, PySem.W.mg_of X G a_w_fields, k_w_fields, B_w_fields, F_w_fields⟩,
    d_w_raised := ⟨f_w_raised, _, PySem.W.mg_of X G a_w_raised, k_w_raised, B_w_raised, F_w_raised⟩ }
  exact (f_law T (fun_mk (st := t_law) l_law c_law k_law)).up fun _ => rfl
end Zk
open PySem PySem.W PyProof.Rows in
set_option maxRecDepth 100000 in
set_option maxHeartbeats 0 in
theorem PySem.Challenge.cw_aheadpays_k17_refusals_apart_holds : PySem.Challenge.rw_aheadpays_k17_refusals_apart.Holds := by
  w_on; o_law; k_head; (case hw => w_witness2)
  k_fill
  refine Zk.walk_G (l := PySem.Challenge.rw_aheadpays_k17_refusals_apart) (n := 63) (k := 4) (x := "_law_script") (m := Zk.m_law) rfl (by decide) rfl ⟨rfl, by decide, by decide⟩ (fun w h Y => PySem.W.kIn_of Y) ?F Zk.law_true
  case F =>
    intro w mg fa h KX G hmg
    refine' Zk.all_mk KX G hmg ?z_ValueError ?z_abs ?z_isinstance ?z_len ?z_list ?z_range ?z_repr ?g_AheadError ?rd_AheadError ?ga_AheadError ?at_AheadError ?kc_AheadError ?xe_AheadError ?g_Again ?xl_Again ?bm_Again ?sa_Again ?ex_Again ?ty_Again ?kc_Again ?xf_Again ?xg2_Again ?a_Again_init ?t_Again_init_ ?l_Again_init ?c_Again_init ?k_Again_init ?g_Apart ?xl_Apart ?bm_Apart ?sa_Apart ?ex_Apart ?ty_Apart ?kc_Apart ?xf_Apart ?a_Apart_init ?t_Apart_init_ ?l_Apart_init ?c_Apart_init ?k_Apart_init ?g_Few ?xl_Few ?bm_Few ?sa_Few ?ex_Few ?ty_Few ?kc_Few ?a_Few_init ?t_Few_init_ ?l_Few_init ?c_Few_init ?k_Few_init ?g_Full ?xl_Full ?bm_Full ?sa_Full ?ex_Full ?ty_Full ?kc_Full ?xf_Full ?a_Full_init ?t_Full_init_ ?l_Full_init ?c_Full_init ?k_Full_init ?g_Lacks ?xl_Lacks ?bm_Lacks ?sa_Lacks ?ex_Lacks ?ty_Lacks ?kc_Lacks ?xf_Lacks ?a_Lacks_init ?t_Lacks_init_ ?l_Lacks_init ?c_Lacks_init ?k_Lacks_init ?g_NoBook ?xl_NoBook ?bm_NoBook ?sa_NoBook ?ex_NoBook ?ty_NoBook ?kc_NoBook ?a_NoBook_init ?t_NoBook_init_ ?l_NoBook_init ?c_NoBook_init ?k_NoBook_init ?g_NoDeed ?xl_NoDeed ?bm_NoDeed ?sa_NoDeed ?ex_NoDeed ?ty_NoDeed ?kc_NoDeed ?a_NoDeed_init ?t_NoDeed_init_ ?l_NoDeed_init ?c_NoDeed_init ?k_NoDeed_init ?g_NoLine ?xl_NoLine ?bm_NoLine ?sa_NoLine ?ex_NoLine ?ty_NoLine ?kc_NoLine ?a_NoLine_init ?t_NoLine_init_ ?l_NoLine_init ?c_NoLine_init ?k_NoLine_init ?g_NoText ?xl_NoText ?bm_NoText ?sa_NoText ?ex_NoText ?ty_NoText ?kc_NoText ?a_NoText_init ?t_NoText_init_ ?l_NoText_init ?c_NoText_init ?k_NoText_init ?g_NoWalker ?xl_NoWalker ?bm_NoWalker ?sa_NoWalker ?ex_NoWalker ?ty_NoWalker ?kc_NoWalker ?xf_NoWalker ?a_NoWalker_init ?t_NoWalker_init_ ?l_NoWalker_init ?c_NoWalker_init ?k_NoWalker_init ?g_NotPlain ?xl_NotPlain ?bm_NotPlain ?sa_NotPlain ?ex_NotPlain ?ty_NotPlain ?kc_NotPlain ?xf_NotPlain ?xg2_NotPlain ?a_NotPlain_init ?t_NotPlain_init_ ?l_NotPlain_init ?c_NotPlain_init ?k_NotPlain_init ?g_Nothing ?xl_Nothing ?bm_Nothing ?sa_Nothing ?ex_Nothing ?ty_Nothing ?kc_Nothing ?a_Nothing_init ?t_Nothing_init_ ?l_Nothing_init ?c_Nothing_init ?k_Nothing_init ?g_Short ?xl_Short ?bm_Short ?sa_Short ?ex_Short ?ty_Short ?kc_Short ?xf_Short ?a_Short_init ?t_Short_init_ ?l_Short_init ?c_Short_init ?k_Short_init ?g_Stopped ?xl_Stopped ?bm_Stopped ?sa_Stopped ?ex_Stopped ?ty_Stopped ?kc_Stopped ?xf_Stopped ?a_Stopped_init ?t_Stopped_init_ ?l_Stopped_init ?c_Stopped_init ?k_Stopped_init ?g_Taken ?xl_Taken ?bm_Taken ?sa_Taken ?ex_Taken ?ty_Taken ?kc_Taken ?xf_Taken ?a_Taken_init ?t_Taken_init_ ?l_Taken_init ?c_Taken_init ?k_Taken_init ?g_TooFar ?xl_TooFar ?bm_TooFar ?sa_TooFar ?ex_TooFar ?ty_TooFar ?kc_TooFar ?xf_TooFar ?a_TooFar_init ?t_TooFar_init_ ?l_TooFar_init ?c_TooFar_init ?k_TooFar_init ?g_TooGreat ?xl_TooGreat ?bm_TooGreat ?sa_TooGreat ?ex_TooGreat ?ty_TooGreat ?kc_TooGreat ?xf_TooGreat ?a_TooGreat_init ?t_TooGreat_init_ ?l_TooGreat_init ?c_TooGreat_init ?k_TooGreat_init ?g_TooMany ?xl_TooMany ?bm_TooMany ?sa_TooMany ?ex_TooMany ?ty_TooMany ?kc_TooMany ?xf_TooMany ?a_TooMany_init ?t_TooMany_init_ ?l_TooMany_init ?c_TooMany_init ?k_TooMany_init ?g_Twice ?xl_Twice ?bm_Twice ?sa_Twice ?ex_Twice ?ty_Twice ?kc_Twice ?xf_Twice ?a_Twice_init ?t_Twice_init_ ?l_Twice_init ?c_Twice_init ?k_Twice_init ?g_Unlike ?xl_Unlike ?bm_Unlike ?sa_Unlike ?ex_Unlike ?ty_Unlike ?kc_Unlike ?a_Unlike_init ?t_Unlike_init_ ?l_Unlike_init ?c_Unlike_init ?k_Unlike_init ?g_Wrong ?xl_Wrong ?bm_Wrong ?sa_Wrong ?ex_Wrong ?ty_Wrong ?kc_Wrong ?xf_Wrong ?a_Wrong_init ?t_Wrong_init_ ?l_Wrong_init ?c_Wrong_init ?k_Wrong_init ?hx_Again ?hx_AheadError ?hx_Apart ?hx_Few ?hx_Full ?hx_Lacks ?hx_NoBook ?hx_NoDeed ?hx_NoLine ?hx_NoText ?hx_NoWalker ?hx_NotPlain ?hx_Nothing ?hx_Short ?hx_Stopped ?hx_Taken ?hx_TooFar ?hx_TooGreat ?hx_TooMany ?hx_Twice ?hx_Unlike ?hx_Wrong ?ex_AheadError ?ty_AheadError ?xg_Again ?xk_Again ?xa_Again ?xn_Again ?xt_Again ?xm_Again ?xg_AheadError ?xk_AheadError ?xa_AheadError ?xn_AheadError ?xt_AheadError ?xm_AheadError ?xg_Apart ?xk_Apart ?xa_Apart ?xn_Apart ?xt_Apart ?xm_Apart ?xg_Few ?xk_Few ?xa_Few ?xn_Few ?xt_Few ?xm_Few ?xg_Full ?xk_Full ?xa_Full ?xn_Full ?xt_Full ?xm_Full ?xg_Lacks ?xk_Lacks ?xa_Lacks ?xn_Lacks ?xt_Lacks ?xm_Lacks ?xg_NoBook ?xk_NoBook ?xa_NoBook ?xn_NoBook ?xt_NoBook ?xm_NoBook ?xg_NoDeed ?xk_NoDeed ?xa_NoDeed ?xn_NoDeed ?xt_NoDeed ?xm_NoDeed ?xg_NoLine ?xk_NoLine ?xa_NoLine ?xn_NoLine ?xt_NoLine ?xm_NoLine ?xg_NoText ?xk_NoText ?xa_NoText ?xn_NoText ?xt_NoText ?xm_NoText ?xg_NoWalker ?xk_NoWalker ?xa_NoWalker ?xn_NoWalker ?xt_NoWalker ?xm_NoWalker ?xg_NotPlain ?xk_NotPlain ?xa_NotPlain ?xn_NotPlain ?xt_NotPlain ?xm_NotPlain ?xg_Nothing ?xk_Nothing ?xa_Nothing ?xn_Nothing ?xt_Nothing ?xm_Nothing ?xg_Short ?xk_Short ?xa_Short ?xn_Short ?xt_Short ?xm_Short ?xg_Stopped ?xk_Stopped ?xa_Stopped ?xn_Stopped ?xt_Stopped ?xm_Stopped ?xg_Taken ?xk_Taken ?xa_Taken ?xn_Taken ?xt_Taken ?xm_Taken ?xg_TooFar ?xk_TooFar ?xa_TooFar ?xn_TooFar ?xt_TooFar ?xm_TooFar ?xg_TooGreat ?xk_TooGreat ?xa_TooGreat ?xn_TooGreat ?xt_TooGreat ?xm_TooGreat ?xg_TooMany ?xk_TooMany ?xa_TooMany ?xn_TooMany ?xt_TooMany ?xm_TooMany ?xg_Twice ?xk_Twice ?xa_Twice ?xn_Twice ?xt_Twice ?xm_Twice ?xg_Unlike ?xk_Unlike ?xa_Unlike ?xn_Unlike ?xt_Unlike ?xm_Unlike ?xg_Wrong ?xk_Wrong ?xa_Wrong ?xn_Wrong ?xt_Wrong ?xm_Wrong ?cx_AheadError ?ss_AheadError ?sb_Again_AheadError ?cx_Apart ?ss_Apart ?sb_Again_Apart ?cx_Few ?ss_Few ?sb_Again_Few ?cx_Full ?ss_Full ?sb_Again_Full ?cx_Lacks ?ss_Lacks ?sb_Again_Lacks ?cx_NoBook ?ss_NoBook ?sb_Again_NoBook ?cx_NoDeed ?ss_NoDeed ?sb_Again_NoDeed ?cx_NoLine ?ss_NoLine ?sb_Again_NoLine ?cx_NoText ?ss_NoText ?sb_Again_NoText ?cx_NoWalker ?ss_NoWalker ?sb_Again_NoWalker ?cx_NotPlain ?ss_NotPlain ?sb_Again_NotPlain ?cx_Nothing ?ss_Nothing ?sb_Again_Nothing ?cx_Short ?ss_Short ?sb_Again_Short ?cx_Stopped ?ss_Stopped ?sb_Again_Stopped ?cx_Taken ?ss_Taken ?sb_Again_Taken ?cx_TooFar ?ss_TooFar ?sb_Again_TooFar ?cx_TooGreat ?ss_TooGreat ?sb_Again_TooGreat ?cx_TooMany ?ss_TooMany ?sb_Again_TooMany ?cx_Twice ?ss_Twice ?sb_Again_Twice ?cx_Unlike ?ss_Unlike ?sb_Again_Unlike ?st_Again_ValueError ?cx_Wrong ?ss_Wrong ?sb_Again_Wrong ?cx_Again ?ss_Again ?sb_AheadError_Again ?sb_AheadError_Apart ?sb_AheadError_Few ?sb_AheadError_Full ?sb_AheadError_Lacks ?sb_AheadError_NoBook ?sb_AheadError_NoDeed ?sb_AheadError_NoLine ?sb_AheadError_NoText ?sb_AheadError_NoWalker ?sb_AheadError_NotPlain ?sb_AheadError_Nothing ?sb_AheadError_Short ?sb_AheadError_Stopped ?sb_AheadError_Taken ?sb_AheadError_TooFar ?sb_AheadError_TooGreat ?sb_AheadError_TooMany ?sb_AheadError_Twice ?sb_AheadError_Unlike ?st_AheadError_ValueError ?sb_AheadError_Wrong ?sb_Apart_Again ?sb_Apart_AheadError ?sb_Apart_Few ?sb_Apart_Full ?sb_Apart_Lacks ?sb_Apart_NoBook ?sb_Apart_NoDeed ?sb_Apart_NoLine ?sb_Apart_NoText ?sb_Apart_NoWalker ?sb_Apart_NotPlain ?sb_Apart_Nothing ?sb_Apart_Short ?sb_Apart_Stopped ?sb_Apart_Taken ?sb_Apart_TooFar ?sb_Apart_TooGreat ?sb_Apart_TooMany ?sb_Apart_Twice ?sb_Apart_Unlike ?st_Apart_ValueError ?sb_Apart_Wrong ?sb_Few_Again ?sb_Few_AheadError ?sb_Few_Apart ?sb_Few_Full ?sb_Few_Lacks ?sb_Few_NoBook ?sb_Few_NoDeed ?sb_Few_NoLine ?sb_Few_NoText ?sb_Few_NoWalker ?sb_Few_NotPlain ?sb_Few_Nothing ?sb_Few_Short ?sb_Few_Stopped ?sb_Few_Taken ?sb_Few_TooFar ?sb_Few_TooGreat ?sb_Few_TooMany ?sb_Few_Twice ?sb_Few_Unlike ?st_Few_ValueError ?sb_Few_Wrong ?sb_Full_Again ?sb_Full_AheadError ?sb_Full_Apart ?sb_Full_Few ?sb_Full_Lacks ?sb_Full_NoBook ?sb_Full_NoDeed ?sb_Full_NoLine ?sb_Full_NoText ?sb_Full_NoWalker ?sb_Full_NotPlain ?sb_Full_Nothing ?sb_Full_Short ?sb_Full_Stopped ?sb_Full_Taken ?sb_Full_TooFar ?sb_Full_TooGreat ?sb_Full_TooMany ?sb_Full_Twice ?sb_Full_Unlike ?st_Full_ValueError ?sb_Full_Wrong ?sb_Lacks_Again ?sb_Lacks_AheadError ?sb_Lacks_Apart ?sb_Lacks_Few ?sb_Lacks_Full ?sb_Lacks_NoBook ?sb_Lacks_NoDeed ?sb_Lacks_NoLine ?sb_Lacks_NoText ?sb_Lacks_NoWalker ?sb_Lacks_NotPlain ?sb_Lacks_Nothing ?sb_Lacks_Short ?sb_Lacks_Stopped ?sb_Lacks_Taken ?sb_Lacks_TooFar ?sb_Lacks_TooGreat ?sb_Lacks_TooMany ?sb_Lacks_Twice ?sb_Lacks_Unlike ?st_Lacks_ValueError ?sb_Lacks_Wrong ?sb_NoBook_Again ?sb_NoBook_AheadError ?sb_NoBook_Apart ?sb_NoBook_Few ?sb_NoBook_Full ?sb_NoBook_Lacks ?sb_NoBook_NoDeed ?sb_NoBook_NoLine ?sb_NoBook_NoText ?sb_NoBook_NoWalker ?sb_NoBook_NotPlain ?sb_NoBook_Nothing ?sb_NoBook_Short ?sb_NoBook_Stopped ?sb_NoBook_Taken ?sb_NoBook_TooFar ?sb_NoBook_TooGreat ?sb_NoBook_TooMany ?sb_NoBook_Twice ?sb_NoBook_Unlike ?st_NoBook_ValueError ?sb_NoBook_Wrong ?sb_NoDeed_Again ?sb_NoDeed_AheadError ?sb_NoDeed_Apart ?sb_NoDeed_Few ?sb_NoDeed_Full ?sb_NoDeed_Lacks ?sb_NoDeed_NoBook ?sb_NoDeed_NoLine ?sb_NoDeed_NoText ?sb_NoDeed_NoWalker ?sb_NoDeed_NotPlain ?sb_NoDeed_Nothing ?sb_NoDeed_Short ?sb_NoDeed_Stopped ?sb_NoDeed_Taken ?sb_NoDeed_TooFar ?sb_NoDeed_TooGreat ?sb_NoDeed_TooMany ?sb_NoDeed_Twice ?sb_NoDeed_Unlike ?st_NoDeed_ValueError ?sb_NoDeed_Wrong ?sb_NoLine_Again ?sb_NoLine_AheadError ?sb_NoLine_Apart ?sb_NoLine_Few ?sb_NoLine_Full ?sb_NoLine_Lacks ?sb_NoLine_NoBook ?sb_NoLine_NoDeed ?sb_NoLine_NoText ?sb_NoLine_NoWalker ?sb_NoLine_NotPlain ?sb_NoLine_Nothing ?sb_NoLine_Short ?sb_NoLine_Stopped ?sb_NoLine_Taken ?sb_NoLine_TooFar ?sb_NoLine_TooGreat ?sb_NoLine_TooMany ?sb_NoLine_Twice ?sb_NoLine_Unlike ?st_NoLine_ValueError ?sb_NoLine_Wrong ?sb_NoText_Again ?sb_NoText_AheadError ?sb_NoText_Apart ?sb_NoText_Few ?sb_NoText_Full ?sb_NoText_Lacks ?sb_NoText_NoBook ?sb_NoText_NoDeed ?sb_NoText_NoLine ?sb_NoText_NoWalker ?sb_NoText_NotPlain ?sb_NoText_Nothing ?sb_NoText_Short ?sb_NoText_Stopped ?sb_NoText_Taken ?sb_NoText_TooFar ?sb_NoText_TooGreat ?sb_NoText_TooMany ?sb_NoText_Twice ?sb_NoText_Unlike ?st_NoText_ValueError ?sb_NoText_Wrong ?sb_NoWalker_Again ?sb_NoWalker_AheadError ?sb_NoWalker_Apart ?sb_NoWalker_Few ?sb_NoWalker_Full ?sb_NoWalker_Lacks ?sb_NoWalker_NoBook ?sb_NoWalker_NoDeed ?sb_NoWalker_NoLine ?sb_NoWalker_NoText ?sb_NoWalker_NotPlain ?sb_NoWalker_Nothing ?sb_NoWalker_Short ?sb_NoWalker_Stopped ?sb_NoWalker_Taken ?sb_NoWalker_TooFar ?sb_NoWalker_TooGreat ?sb_NoWalker_TooMany ?sb_NoWalker_Twice ?sb_NoWalker_Unlike ?st_NoWalker_ValueError ?sb_NoWalker_Wrong ?sb_NotPlain_Again ?sb_NotPlain_AheadError ?sb_NotPlain_Apart ?sb_NotPlain_Few ?sb_NotPlain_Full ?sb_NotPlain_Lacks ?sb_NotPlain_NoBook ?sb_NotPlain_NoDeed ?sb_NotPlain_NoLine ?sb_NotPlain_NoText ?sb_NotPlain_NoWalker ?sb_NotPlain_Nothing ?sb_NotPlain_Short ?sb_NotPlain_Stopped ?sb_NotPlain_Taken ?sb_NotPlain_TooFar ?sb_NotPlain_TooGreat ?sb_NotPlain_TooMany ?sb_NotPlain_Twice ?sb_NotPlain_Unlike ?st_NotPlain_ValueError ?sb_NotPlain_Wrong ?sb_Nothing_Again ?sb_Nothing_AheadError ?sb_Nothing_Apart ?sb_Nothing_Few ?sb_Nothing_Full ?sb_Nothing_Lacks ?sb_Nothing_NoBook ?sb_Nothing_NoDeed ?sb_Nothing_NoLine ?sb_Nothing_NoText ?sb_Nothing_NoWalker ?sb_Nothing_NotPlain ?sb_Nothing_Short ?sb_Nothing_Stopped ?sb_Nothing_Taken ?sb_Nothing_TooFar ?sb_Nothing_TooGreat ?sb_Nothing_TooMany ?sb_Nothing_Twice ?sb_Nothing_Unlike ?st_Nothing_ValueError ?sb_Nothing_Wrong ?sb_Short_Again ?sb_Short_AheadError ?sb_Short_Apart ?sb_Short_Few ?sb_Short_Full ?sb_Short_Lacks ?sb_Short_NoBook ?sb_Short_NoDeed ?sb_Short_NoLine ?sb_Short_NoText ?sb_Short_NoWalker ?sb_Short_NotPlain ?sb_Short_Nothing ?sb_Short_Stopped ?sb_Short_Taken ?sb_Short_TooFar ?sb_Short_TooGreat ?sb_Short_TooMany ?sb_Short_Twice ?sb_Short_Unlike ?st_Short_ValueError ?sb_Short_Wrong ?sb_Stopped_Again ?sb_Stopped_AheadError ?sb_Stopped_Apart ?sb_Stopped_Few ?sb_Stopped_Full ?sb_Stopped_Lacks ?sb_Stopped_NoBook ?sb_Stopped_NoDeed ?sb_Stopped_NoLine ?sb_Stopped_NoText ?sb_Stopped_NoWalker ?sb_Stopped_NotPlain ?sb_Stopped_Nothing ?sb_Stopped_Short ?sb_Stopped_Taken ?sb_Stopped_TooFar ?sb_Stopped_TooGreat ?sb_Stopped_TooMany ?sb_Stopped_Twice ?sb_Stopped_Unlike ?st_Stopped_ValueError ?sb_Stopped_Wrong ?sb_Taken_Again ?sb_Taken_AheadError ?sb_Taken_Apart ?sb_Taken_Few ?sb_Taken_Full ?sb_Taken_Lacks ?sb_Taken_NoBook ?sb_Taken_NoDeed ?sb_Taken_NoLine ?sb_Taken_NoText ?sb_Taken_NoWalker ?sb_Taken_NotPlain ?sb_Taken_Nothing ?sb_Taken_Short ?sb_Taken_Stopped ?sb_Taken_TooFar ?sb_Taken_TooGreat ?sb_Taken_TooMany ?sb_Taken_Twice ?sb_Taken_Unlike ?st_Taken_ValueError ?sb_Taken_Wrong ?sb_TooFar_Again ?sb_TooFar_AheadError ?sb_TooFar_Apart ?sb_TooFar_Few ?sb_TooFar_Full ?sb_TooFar_Lacks ?sb_TooFar_NoBook ?sb_TooFar_NoDeed ?sb_TooFar_NoLine ?sb_TooFar_NoText ?sb_TooFar_NoWalker ?sb_TooFar_NotPlain ?sb_TooFar_Nothing ?sb_TooFar_Short ?sb_TooFar_Stopped ?sb_TooFar_Taken ?sb_TooFar_TooGreat ?sb_TooFar_TooMany ?sb_TooFar_Twice ?sb_TooFar_Unlike ?st_TooFar_ValueError ?sb_TooFar_Wrong ?sb_TooGreat_Again ?sb_TooGreat_AheadError ?sb_TooGreat_Apart ?sb_TooGreat_Few ?sb_TooGreat_Full ?sb_TooGreat_Lacks ?sb_TooGreat_NoBook ?sb_TooGreat_NoDeed ?sb_TooGreat_NoLine ?sb_TooGreat_NoText ?sb_TooGreat_NoWalker ?sb_TooGreat_NotPlain ?sb_TooGreat_Nothing ?sb_TooGreat_Short ?sb_TooGreat_Stopped ?sb_TooGreat_Taken ?sb_TooGreat_TooFar ?sb_TooGreat_TooMany ?sb_TooGreat_Twice ?sb_TooGreat_Unlike ?st_TooGreat_ValueError ?sb_TooGreat_Wrong ?sb_TooMany_Again ?sb_TooMany_AheadError ?sb_TooMany_Apart ?sb_TooMany_Few ?sb_TooMany_Full ?sb_TooMany_Lacks ?sb_TooMany_NoBook ?sb_TooMany_NoDeed ?sb_TooMany_NoLine ?sb_TooMany_NoText ?sb_TooMany_NoWalker ?sb_TooMany_NotPlain ?sb_TooMany_Nothing ?sb_TooMany_Short ?sb_TooMany_Stopped ?sb_TooMany_Taken ?sb_TooMany_TooFar ?sb_TooMany_TooGreat ?sb_TooMany_Twice ?sb_TooMany_Unlike ?st_TooMany_ValueError ?sb_TooMany_Wrong ?sb_Twice_Again ?sb_Twice_AheadError ?sb_Twice_Apart ?sb_Twice_Few ?sb_Twice_Full ?sb_Twice_Lacks ?sb_Twice_NoBook ?sb_Twice_NoDeed ?sb_Twice_NoLine ?sb_Twice_NoText ?sb_Twice_NoWalker ?sb_Twice_NotPlain ?sb_Twice_Nothing ?sb_Twice_Short ?sb_Twice_Stopped ?sb_Twice_Taken ?sb_Twice_TooFar ?sb_Twice_TooGreat ?sb_Twice_TooMany ?sb_Twice_Unlike ?st_Twice_ValueError ?sb_Twice_Wrong ?sb_Unlike_Again ?sb_Unlike_AheadError ?sb_Unlike_Apart ?sb_Unlike_Few ?sb_Unlike_Full ?sb_Unlike_Lacks ?sb_Unlike_NoBook ?sb_Unlike_NoDeed ?sb_Unlike_NoLine ?sb_Unlike_NoText ?sb_Unlike_NoWalker ?sb_Unlike_NotPlain ?sb_Unlike_Nothing ?sb_Unlike_Short ?sb_Unlike_Stopped ?sb_Unlike_Taken ?sb_Unlike_TooFar ?sb_Unlike_TooGreat ?sb_Unlike_TooMany ?sb_Unlike_Twice ?st_Unlike_ValueError ?sb_Unlike_Wrong ?sb_Wrong_Again ?sb_Wrong_AheadError ?sb_Wrong_Apart ?sb_Wrong_Few ?sb_Wrong_Full ?sb_Wrong_Lacks ?sb_Wrong_NoBook ?sb_Wrong_NoDeed ?sb_Wrong_NoLine ?sb_Wrong_NoText ?sb_Wrong_NoWalker ?sb_Wrong_NotPlain ?sb_Wrong_Nothing ?sb_Wrong_Short ?sb_Wrong_Stopped ?sb_Wrong_Taken ?sb_Wrong_TooFar ?sb_Wrong_TooGreat ?sb_Wrong_TooMany ?sb_Wrong_Twice ?sb_Wrong_Unlike ?st_Wrong_ValueError ?a_w_bag ?l_w_bag ?c_w_bag ?k_w_bag ?a_w_take ?l_w_take ?c_w_take ?k_w_take ?a_w_made ?l_w_made ?c_w_made ?k_w_made ?a_w_sorts ?l_w_sorts ?c_w_sorts ?k_w_sorts ?a_w_fields ?l_w_fields ?c_w_fields ?k_w_fields ?a_w_raised ?l_w_raised ?c_w_raised ?k_w_raised ?a_law ?l_law ?c_law ?k_law
    (case z_ValueError => k_is)
    (case z_abs => k_is)
    (case z_isinstance => k_is)
    (case z_len => k_is)
    (case z_list => k_is)
    (case z_range => k_is)
    (case z_repr => k_is)
    (case g_AheadError => k_is)
    (case rd_AheadError => k_is)
    (case ga_AheadError => k_is)
    (case at_AheadError => k_is)
    (case kc_AheadError => k_is)
    (case xe_AheadError => k_exc)
    (case g_Again => k_is)
    (case xl_Again => k_is)
    (case bm_Again => decide +kernel)
    (case sa_Again => k_is)
    (case ex_Again => k_is)
    (case ty_Again => k_is)
    (case kc_Again => k_is)
    (case xf_Again => k_is)
    (case xg2_Again => k_is)
    (case a_Again_init => k_is)
    (case t_Again_init_ => k_is)
    (case l_Again_init => k_is)
    (case c_Again_init => k_is)
    (case k_Again_init => k_is)
    (case g_Apart => k_is)
    (case xl_Apart => k_is)
    (case bm_Apart => decide +kernel)
    (case sa_Apart => k_is)
    (case ex_Apart => k_is)
    (case ty_Apart => k_is)
    (case kc_Apart => k_is)
    (case xf_Apart => k_is)
    (case a_Apart_init => k_is)
    (case t_Apart_init_ => k_is)
    (case l_Apart_init => k_is)
    (case c_Apart_init => k_is)
    (case k_Apart_init => k_is)
    (case g_Few => k_is)
    (case xl_Few => k_is)
    (case bm_Few => decide +kernel)
    (case sa_Few => k_is)
    (case ex_Few => k_is)
    (case ty_Few => k_is)
    (case kc_Few => k_is)
    (case a_Few_init => k_is)
    (case t_Few_init_ => k_is)
    (case l_Few_init => k_is)
    (case c_Few_init => k_is)
    (case k_Few_init => k_is)
    (case g_Full => k_is)
    (case xl_Full => k_is)
    (case bm_Full => decide +kernel)
    (case sa_Full => k_is)
    (case ex_Full => k_is)
    (case ty_Full => k_is)
    (case kc_Full => k_is)
    (case xf_Full => k_is)
    (case a_Full_init => k_is)
    (case t_Full_init_ => k_is)
    (case l_Full_init => k_is)
    (case c_Full_init => k_is)
    (case k_Full_init => k_is)
    (case g_Lacks => k_is)
    (case xl_Lacks => k_is)
    (case bm_Lacks => decide +kernel)
    (case sa_Lacks => k_is)
    (case ex_Lacks => k_is)
    (case ty_Lacks => k_is)
    (case kc_Lacks => k_is)
    (case xf_Lacks => k_is)
    (case a_Lacks_init => k_is)
    (case t_Lacks_init_ => k_is)
    (case l_Lacks_init => k_is)
    (case c_Lacks_init => k_is)
    (case k_Lacks_init => k_is)
    (case g_NoBook => k_is)
    (case xl_NoBook => k_is)
    (case bm_NoBook => decide +kernel)
    (case sa_NoBook => k_is)
    (case ex_NoBook => k_is)
    (case ty_NoBook => k_is)
    (case kc_NoBook => k_is)
    (case a_NoBook_init => k_is)
    (case t_NoBook_init_ => k_is)
    (case l_NoBook_init => k_is)
    (case c_NoBook_init => k_is)
    (case k_NoBook_init => k_is)
    (case g_NoDeed => k_is)
    (case xl_NoDeed => k_is)
    (case bm_NoDeed => decide +kernel)
    (case sa_NoDeed => k_is)
    (case ex_NoDeed => k_is)
    (case ty_NoDeed => k_is)
    (case kc_NoDeed => k_is)
    (case a_NoDeed_init => k_is)
    (case t_NoDeed_init_ => k_is)
    (case l_NoDeed_init => k_is)
    (case c_NoDeed_init => k_is)
    (case k_NoDeed_init => k_is)
    (case g_NoLine => k_is)
    (case xl_NoLine => k_is)
    (case bm_NoLine => decide +kernel)
    (case sa_NoLine => k_is)
    (case ex_NoLine => k_is)
    (case ty_NoLine => k_is)
    (case kc_NoLine => k_is)
    (case a_NoLine_init => k_is)
    (case t_NoLine_init_ => k_is)
    (case l_NoLine_init => k_is)
    (case c_NoLine_init => k_is)
    (case k_NoLine_init => k_is)
    (case g_NoText => k_is)
    (case xl_NoText => k_is)
    (case bm_NoText => decide +kernel)
    (case sa_NoText => k_is)
    (case ex_NoText => k_is)
    (case ty_NoText => k_is)
    (case kc_NoText => k_is)
    (case a_NoText_init => k_is)
    (case t_NoText_init_ => k_is)
    (case l_NoText_init => k_is)
    (case c_NoText_init => k_is)
    (case k_NoText_init => k_is)
    (case g_NoWalker => k_is)
    (case xl_NoWalker => k_is)
    (case bm_NoWalker => decide +kernel)
    (case sa_NoWalker => k_is)
    (case ex_NoWalker => k_is)
    (case ty_NoWalker => k_is)
    (case kc_NoWalker => k_is)
    (case xf_NoWalker => k_is)
    (case a_NoWalker_init => k_is)
    (case t_NoWalker_init_ => k_is)
    (case l_NoWalker_init => k_is)
    (case c_NoWalker_init => k_is)
    (case k_NoWalker_init => k_is)
    (case g_NotPlain => k_is)
    (case xl_NotPlain => k_is)
    (case bm_NotPlain => decide +kernel)
    (case sa_NotPlain => k_is)
    (case ex_NotPlain => k_is)
    (case ty_NotPlain => k_is)
    (case kc_NotPlain => k_is)
    (case xf_NotPlain => k_is)
    (case xg2_NotPlain => k_is)
    (case a_NotPlain_init => k_is)
    (case t_NotPlain_init_ => k_is)
    (case l_NotPlain_init => k_is)
    (case c_NotPlain_init => k_is)
    (case k_NotPlain_init => k_is)
    (case g_Nothing => k_is)
    (case xl_Nothing => k_is)
    (case bm_Nothing => decide +kernel)
    (case sa_Nothing => k_is)
    (case ex_Nothing => k_is)
    (case ty_Nothing => k_is)
    (case kc_Nothing => k_is)
    (case a_Nothing_init => k_is)
    (case t_Nothing_init_ => k_is)
    (case l_Nothing_init => k_is)
    (case c_Nothing_init => k_is)
    (case k_Nothing_init => k_is)
    (case g_Short => k_is)
    (case xl_Short => k_is)
    (case bm_Short => decide +kernel)
    (case sa_Short => k_is)
    (case ex_Short => k_is)
    (case ty_Short => k_is)
    (case kc_Short => k_is)
    (case xf_Short => k_is)
    (case a_Short_init => k_is)
    (case t_Short_init_ => k_is)
    (case l_Short_init => k_is)
    (case c_Short_init => k_is)
    (case k_Short_init => k_is)
    (case g_Stopped => k_is)
    (case xl_Stopped => k_is)
    (case bm_Stopped => decide +kernel)
    (case sa_Stopped => k_is)
    (case ex_Stopped => k_is)
    (case ty_Stopped => k_is)
    (case kc_Stopped => k_is)
    (case xf_Stopped => k_is)
    (case a_Stopped_init => k_is)
    (case t_Stopped_init_ => k_is)
    (case l_Stopped_init => k_is)
    (case c_Stopped_init => k_is)
    (case k_Stopped_init => k_is)
    (case g_Taken => k_is)
    (case xl_Taken => k_is)
    (case bm_Taken => decide +kernel)
    (case sa_Taken => k_is)
    (case ex_Taken => k_is)
    (case ty_Taken => k_is)
    (case kc_Taken => k_is)
    (case xf_Taken => k_is)
    (case a_Taken_init => k_is)
    (case t_Taken_init_ => k_is)
    (case l_Taken_init => k_is)
    (case c_Taken_init => k_is)
    (case k_Taken_init => k_is)
    (case g_TooFar => k_is)
    (case xl_TooFar => k_is)
    (case bm_TooFar => decide +kernel)
    (case sa_TooFar => k_is)
    (case ex_TooFar => k_is)
    (case ty_TooFar => k_is)
    (case kc_TooFar => k_is)
    (case xf_TooFar => k_is)
    (case a_TooFar_init => k_is)
    (case t_TooFar_init_ => k_is)
    (case l_TooFar_init => k_is)
    (case c_TooFar_init => k_is)
    (case k_TooFar_init => k_is)
    (case g_TooGreat => k_is)
    (case xl_TooGreat => k_is)
    (case bm_TooGreat => decide +kernel)
    (case sa_TooGreat => k_is)
    (case ex_TooGreat => k_is)
    (case ty_TooGreat => k_is)
    (case kc_TooGreat => k_is)
    (case xf_TooGreat => k_is)
    (case a_TooGreat_init => k_is)
    (case t_TooGreat_init_ => k_is)
    (case l_TooGreat_init => k_is)
    (case c_TooGreat_init => k_is)
    (case k_TooGreat_init => k_is)
    (case g_TooMany => k_is)
    (case xl_TooMany => k_is)
    (case bm_TooMany => decide +kernel)
    (case sa_TooMany => k_is)
    (case ex_TooMany => k_is)
    (case ty_TooMany => k_is)
    (case kc_TooMany => k_is)
    (case xf_TooMany => k_is)
    (case a_TooMany_init => k_is)
    (case t_TooMany_init_ => k_is)
    (case l_TooMany_init => k_is)
    (case c_TooMany_init => k_is)
    (case k_TooMany_init => k_is)
    (case g_Twice => k_is)
    (case xl_Twice => k_is)
    (case bm_Twice => decide +kernel)
    (case sa_Twice => k_is)
    (case ex_Twice => k_is)
    (case ty_Twice => k_is)
    (case kc_Twice => k_is)
    (case xf_Twice => k_is)
    (case a_Twice_init => k_is)
    (case t_Twice_init_ => k_is)
    (case l_Twice_init => k_is)
    (case c_Twice_init => k_is)
    (case k_Twice_init => k_is)
    (case g_Unlike => k_is)
    (case xl_Unlike => k_is)
    (case bm_Unlike => decide +kernel)
    (case sa_Unlike => k_is)
    (case ex_Unlike => k_is)
    (case ty_Unlike => k_is)
    (case kc_Unlike => k_is)
    (case a_Unlike_init => k_is)
    (case t_Unlike_init_ => k_is)
    (case l_Unlike_init => k_is)
    (case c_Unlike_init => k_is)
    (case k_Unlike_init => k_is)
    (case g_Wrong => k_is)
    (case xl_Wrong => k_is)
    (case bm_Wrong => decide +kernel)
    (case sa_Wrong => k_is)
    (case ex_Wrong => k_is)
    (case ty_Wrong => k_is)
    (case kc_Wrong => k_is)
    (case xf_Wrong => k_is)
    (case a_Wrong_init => k_is)
    (case t_Wrong_init_ => k_is)
    (case l_Wrong_init => k_is)
    (case c_Wrong_init => k_is)
    (case k_Wrong_init => k_is)
    (case hx_Again => k_is)
    (case hx_AheadError => k_is)
    (case hx_Apart => k_is)
    (case hx_Few => k_is)
    (case hx_Full => k_is)
    (case hx_Lacks => k_is)
    (case hx_NoBook => k_is)
    (case hx_NoDeed => k_is)
    (case hx_NoLine => k_is)
    (case hx_NoText => k_is)
    (case hx_NoWalker => k_is)
    (case hx_NotPlain => k_is)
    (case hx_Nothing => k_is)
    (case hx_Short => k_is)
    (case hx_Stopped => k_is)
    (case hx_Taken => k_is)
    (case hx_TooFar => k_is)
    (case hx_TooGreat => k_is)
    (case hx_TooMany => k_is)
    (case hx_Twice => k_is)
    (case hx_Unlike => k_is)
    (case hx_Wrong => k_is)
    (case ex_AheadError => k_is)
    (case ty_AheadError => k_is)
    (case xg_Again => k_is)
    (case xk_Again => k_is)
    (case xa_Again => k_is)
    (case xn_Again => k_is)
    (case xt_Again => k_is)
    (case xm_Again => k_is)
    (case xg_AheadError => k_is)
    (case xk_AheadError => k_is)
    (case xa_AheadError => k_is)
    (case xn_AheadError => k_is)
    (case xt_AheadError => k_is)
    (case xm_AheadError => k_is)
    (case xg_Apart => k_is)
    (case xk_Apart => k_is)
    (case xa_Apart => k_is)
    (case xn_Apart => k_is)
    (case xt_Apart => k_is)
    (case xm_Apart => k_is)
    (case xg_Few => k_is)
    (case xk_Few => k_is)
    (case xa_Few => k_is)
    (case xn_Few => k_is)
    (case xt_Few => k_is)
    (case xm_Few => k_is)
    (case xg_Full => k_is)
    (case xk_Full => k_is)
    (case xa_Full => k_is)
    (case xn_Full => k_is)
    (case xt_Full => k_is)
    (case xm_Full => k_is)
    (case xg_Lacks => k_is)
    (case xk_Lacks => k_is)
    (case xa_Lacks => k_is)
    (case xn_Lacks => k_is)
    (case xt_Lacks => k_is)
    (case xm_Lacks => k_is)
    (case xg_NoBook => k_is)
    (case xk_NoBook => k_is)
    (case xa_NoBook => k_is)
    (case xn_NoBook => k_is)
    (case xt_NoBook => k_is)
    (case xm_NoBook => k_is)
    (case xg_NoDeed => k_is)
    (case xk_NoDeed => k_is)
    (case xa_NoDeed => k_is)
    (case xn_NoDeed => k_is)
    (case xt_NoDeed => k_is)
    (case xm_NoDeed => k_is)
    (case xg_NoLine => k_is)
    (case xk_NoLine => k_is)
    (case xa_NoLine => k_is)
    (case xn_NoLine => k_is)
    (case xt_NoLine => k_is)
    (case xm_NoLine => k_is)
    (case xg_NoText => k_is)
    (case xk_NoText => k_is)
    (case xa_NoText => k_is)
    (case xn_NoText => k_is)
    (case xt_NoText => k_is)
    (case xm_NoText => k_is)
    (case xg_NoWalker => k_is)
    (case xk_NoWalker => k_is)
    (case xa_NoWalker => k_is)
    (case xn_NoWalker => k_is)
    (case xt_NoWalker => k_is)
    (case xm_NoWalker => k_is)
    (case xg_NotPlain => k_is)
    (case xk_NotPlain => k_is)
    (case xa_NotPlain => k_is)
    (case xn_NotPlain => k_is)
    (case xt_NotPlain => k_is)
    (case xm_NotPlain => k_is)
    (case xg_Nothing => k_is)
    (case xk_Nothing => k_is)
    (case xa_Nothing => k_is)
    (case xn_Nothing => k_is)
    (case xt_Nothing => k_is)
    (case xm_Nothing => k_is)
    (case xg_Short => k_is)
    (case xk_Short => k_is)
    (case xa_Short => k_is)
    (case xn_Short => k_is)
    (case xt_Short => k_is)
    (case xm_Short => k_is)
    (case xg_Stopped => k_is)
    (case xk_Stopped => k_is)
    (case xa_Stopped => k_is)
    (case xn_Stopped => k_is)
    (case xt_Stopped => k_is)
    (case xm_Stopped => k_is)
    (case xg_Taken => k_is)
    (case xk_Taken => k_is)
    (case xa_Taken => k_is)
    (case xn_Taken => k_is)
    (case xt_Taken => k_is)
    (case xm_Taken => k_is)
    (case xg_TooFar => k_is)
    (case xk_TooFar => k_is)
    (case xa_TooFar => k_is)
    (case xn_TooFar => k_is)
    (case xt_TooFar => k_is)
    (case xm_TooFar => k_is)
    (case xg_TooGreat => k_is)
    (case xk_TooGreat => k_is)
    (case xa_TooGreat => k_is)
    (case xn_TooGreat => k_is)
    (case xt_TooGreat => k_is)
    (case xm_TooGreat => k_is)
    (case xg_TooMany => k_is)
    (case xk_TooMany => k_is)
    (case xa_TooMany => k_is)
    (case xn_TooMany => k_is)
    (case xt_TooMany => k_is)
    (case xm_TooMany => k_is)
    (case xg_Twice => k_is)
    (case xk_Twice => k_is)
    (case xa_Twice => k_is)
    (case xn_Twice => k_is)
    (case xt_Twice => k_is)
    (case xm_Twice => k_is)
    (case xg_Unlike => k_is)
    (case xk_Unlike => k_is)
    (case xa_Unlike => k_is)
    (case xn_Unlike => k_is)
    (case xt_Unlike => k_is)
    (case xm_Unlike => k_is)
    (case xg_Wrong => k_is)
    (case xk_Wrong => k_is)
    (case xa_Wrong => k_is)
    (case xn_Wrong => k_is)
    (case xt_Wrong => k_is)
    (case xm_Wrong => k_is)
    (case cx_AheadError => k_is)
    (case ss_AheadError => k_is)
    (case sb_Again_AheadError => k_is)
    (case cx_Apart => k_is)
    (case ss_Apart => k_is)
    (case sb_Again_Apart => k_is)
    (case cx_Few => k_is)
    (case ss_Few => k_is)
    (case sb_Again_Few => k_is)
    (case cx_Full => k_is)
    (case ss_Full => k_is)
    (case sb_Again_Full => k_is)
    (case cx_Lacks => k_is)
    (case ss_Lacks => k_is)
    (case sb_Again_Lacks => k_is)
    (case cx_NoBook => k_is)
    (case ss_NoBook => k_is)
    (case sb_Again_NoBook => k_is)
    (case cx_NoDeed => k_is)
    (case ss_NoDeed => k_is)
    (case sb_Again_NoDeed => k_is)
    (case cx_NoLine => k_is)
    (case ss_NoLine => k_is)
    (case sb_Again_NoLine => k_is)
    (case cx_NoText => k_is)
    (case ss_NoText => k_is)
    (case sb_Again_NoText => k_is)
    (case cx_NoWalker => k_is)
    (case ss_NoWalker => k_is)
    (case sb_Again_NoWalker => k_is)
    (case cx_NotPlain => k_is)
    (case ss_NotPlain => k_is)
    (case sb_Again_NotPlain => k_is)
    (case cx_Nothing => k_is)
    (case ss_Nothing => k_is)
    (case sb_Again_Nothing => k_is)
    (case cx_Short => k_is)
    (case ss_Short => k_is)
    (case sb_Again_Short => k_is)
    (case cx_Stopped => k_is)
    (case ss_Stopped => k_is)
    (case sb_Again_Stopped => k_is)
    (case cx_Taken => k_is)
    (case ss_Taken => k_is)
    (case sb_Again_Taken => k_is)
    (case cx_TooFar => k_is)
    (case ss_TooFar => k_is)
    (case sb_Again_TooFar => k_is)
    (case cx_TooGreat => k_is)
    (case ss_TooGreat => k_is)
    (case sb_Again_TooGreat => k_is)
    (case cx_TooMany => k_is)
    (case ss_TooMany => k_is)
    (case sb_Again_TooMany => k_is)
    (case cx_Twice => k_is)
    (case ss_Twice => k_is)
    (case sb_Again_Twice => k_is)
    (case cx_Unlike => k_is)
    (case ss_Unlike => k_is)
    (case sb_Again_Unlike => k_is)
    (case st_Again_ValueError => k_is)
    (case cx_Wrong => k_is)
    (case ss_Wrong => k_is)
    (case sb_Again_Wrong => k_is)
    (case cx_Again => k_is)
    (case ss_Again => k_is)
    (case sb_AheadError_Again => k_is)
    (case sb_AheadError_Apart => k_is)
    (case sb_AheadError_Few => k_is)
    (case sb_AheadError_Full => k_is)
    (case sb_AheadError_Lacks => k_is)
    (case sb_AheadError_NoBook => k_is)
    (case sb_AheadError_NoDeed => k_is)
    (case sb_AheadError_NoLine => k_is)
    (case sb_AheadError_NoText => k_is)
    (case sb_AheadError_NoWalker => k_is)
    (case sb_AheadError_NotPlain => k_is)
    (case sb_AheadError_Nothing => k_is)
    (case sb_AheadError_Short => k_is)
    (case sb_AheadError_Stopped => k_is)
    (case sb_AheadError_Taken => k_is)
    (case sb_AheadError_TooFar => k_is)
    (case sb_AheadError_TooGreat => k_is)
    (case sb_AheadError_TooMany => k_is)
    (case sb_AheadError_Twice => k_is)
    (case sb_AheadError_Unlike => k_is)
    (case st_AheadError_ValueError => k_is)
    (case sb_AheadError_Wrong => k_is)
    (case sb_Apart_Again => k_is)
    (case sb_Apart_AheadError => k_is)
    (case sb_Apart_Few => k_is)
    (case sb_Apart_Full => k_is)
    (case sb_Apart_Lacks => k_is)
    (case sb_Apart_NoBook => k_is)
    (case sb_Apart_NoDeed => k_is)
    (case sb_Apart_NoLine => k_is)
    (case sb_Apart_NoText => k_is)
    (case sb_Apart_NoWalker => k_is)
    (case sb_Apart_NotPlain => k_is)
    (case sb_Apart_Nothing => k_is)
    (case sb_Apart_Short => k_is)
    (case sb_Apart_Stopped => k_is)
    (case sb_Apart_Taken => k_is)
    (case sb_Apart_TooFar => k_is)
    (case sb_Apart_TooGreat => k_is)
    (case sb_Apart_TooMany => k_is)
    (case sb_Apart_Twice => k_is)
    (case sb_Apart_Unlike => k_is)
    (case st_Apart_ValueError => k_is)
    (case sb_Apart_Wrong => k_is)
    (case sb_Few_Again => k_is)
    (case sb_Few_AheadError => k_is)
    (case sb_Few_Apart => k_is)
    (case sb_Few_Full => k_is)
    (case sb_Few_Lacks => k_is)
    (case sb_Few_NoBook => k_is)
    (case sb_Few_NoDeed => k_is)
    (case sb_Few_NoLine => k_is)
    (case sb_Few_NoText => k_is)
    (case sb_Few_NoWalker => k_is)
    (case sb_Few_NotPlain => k_is)
    (case sb_Few_Nothing => k_is)
    (case sb_Few_Short => k_is)
    (case sb_Few_Stopped => k_is)
    (case sb_Few_Taken => k_is)
    (case sb_Few_TooFar => k_is)
    (case sb_Few_TooGreat => k_is)
    (case sb_Few_TooMany => k_is)
    (case sb_Few_Twice => k_is)
    (case sb_Few_Unlike => k_is)
    (case st_Few_ValueError => k_is)
    (case sb_Few_Wrong => k_is)
    (case sb_Full_Again => k_is)
    (case sb_Full_AheadError => k_is)
    (case sb_Full_Apart => k_is)
    (case sb_Full_Few => k_is)
    (case sb_Full_Lacks => k_is)
    (case sb_Full_NoBook => k_is)
    (case sb_Full_NoDeed => k_is)
    (case sb_Full_NoLine => k_is)
    (case sb_Full_NoText => k_is)
    (case sb_Full_NoWalker => k_is)
    (case sb_Full_NotPlain => k_is)
    (case sb_Full_Nothing => k_is)
    (case sb_Full_Short => k_is)
    (case sb_Full_Stopped => k_is)
    (case sb_Full_Taken => k_is)
    (case sb_Full_TooFar => k_is)
    (case sb_Full_TooGreat => k_is)
    (case sb_Full_TooMany => k_is)
    (case sb_Full_Twice => k_is)
    (case sb_Full_Unlike => k_is)
    (case st_Full_ValueError => k_is)
    (case sb_Full_Wrong => k_is)
    (case sb_Lacks_Again => k_is)
    (case sb_Lacks_AheadError => k_is)
    (case sb_Lacks_Apart => k_is)
    (case sb_Lacks_Few => k_is)
    (case sb_Lacks_Full => k_is)
    (case sb_Lacks_NoBook => k_is)
    (case sb_Lacks_NoDeed => k_is)
    (case sb_Lacks_NoLine => k_is)
    (case sb_Lacks_NoText => k_is)
    (case sb_Lacks_NoWalker => k_is)
    (case sb_Lacks_NotPlain => k_is)
    (case sb_Lacks_Nothing => k_is)
    (case sb_Lacks_Short => k_is)
    (case sb_Lacks_Stopped => k_is)
    (case sb_Lacks_Taken => k_is)
    (case sb_Lacks_TooFar => k_is)
    (case sb_Lacks_TooGreat => k_is)
    (case sb_Lacks_TooMany => k_is)
    (case sb_Lacks_Twice => k_is)
    (case sb_Lacks_Unlike => k_is)
    (case st_Lacks_ValueError => k_is)
    (case sb_Lacks_Wrong => k_is)
    (case sb_NoBook_Again => k_is)
    (case sb_NoBook_AheadError => k_is)
    (case sb_NoBook_Apart => k_is)
    (case sb_NoBook_Few => k_is)
    (case sb_NoBook_Full => k_is)
    (case sb_NoBook_Lacks => k_is)
    (case sb_NoBook_NoDeed => k_is)
    (case sb_NoBook_NoLine => k_is)
    (case sb_NoBook_NoText => k_is)
    (case sb_NoBook_NoWalker => k_is)
    (case sb_NoBook_NotPlain => k_is)
    (case sb_NoBook_Nothing => k_is)
    (case sb_NoBook_Short => k_is)
    (case sb_NoBook_Stopped => k_is)
    (case sb_NoBook_Taken => k_is)
    (case sb_NoBook_TooFar => k_is)
    (case sb_NoBook_TooGreat => k_is)
    (case sb_NoBook_TooMany => k_is)
    (case sb_NoBook_Twice => k_is)
    (case sb_NoBook_Unlike => k_is)
    (case st_NoBook_ValueError => k_is)
    (case sb_NoBook_Wrong => k_is)
    (case sb_NoDeed_Again => k_is)
    (case sb_NoDeed_AheadError => k_is)
    (case sb_NoDeed_Apart => k_is)
    (case sb_NoDeed_Few => k_is)
    (case sb_NoDeed_Full => k_is)
    (case sb_NoDeed_Lacks => k_is)
    (case sb_NoDeed_NoBook => k_is)
    (case sb_NoDeed_NoLine => k_is)
    (case sb_NoDeed_NoText => k_is)
    (case sb_NoDeed_NoWalker => k_is)
    (case sb_NoDeed_NotPlain => k_is)
    (case sb_NoDeed_Nothing => k_is)
    (case sb_NoDeed_Short => k_is)
    (case sb_NoDeed_Stopped => k_is)
    (case sb_NoDeed_Taken => k_is)
    (case sb_NoDeed_TooFar => k_is)
    (case sb_NoDeed_TooGreat => k_is)
    (case sb_NoDeed_TooMany => k_is)
    (case sb_NoDeed_Twice => k_is)
    (case sb_NoDeed_Unlike => k_is)
    (case st_NoDeed_ValueError => k_is)
    (case sb_NoDeed_Wrong => k_is)
    (case sb_NoLine_Again => k_is)
    (case sb_NoLine_AheadError => k_is)
    (case sb_NoLine_Apart => k_is)
    (case sb_NoLine_Few => k_is)
    (case sb_NoLine_Full => k_is)
    (case sb_NoLine_Lacks => k_is)
    (case sb_NoLine_NoBook => k_is)
    (case sb_NoLine_NoDeed => k_is)
    (case sb_NoLine_NoText => k_is)
    (case sb_NoLine_NoWalker => k_is)
    (case sb_NoLine_NotPlain => k_is)
    (case sb_NoLine_Nothing => k_is)
    (case sb_NoLine_Short => k_is)
    (case sb_NoLine_Stopped => k_is)
    (case sb_NoLine_Taken => k_is)
    (case sb_NoLine_TooFar => k_is)
    (case sb_NoLine_TooGreat => k_is)
    (case sb_NoLine_TooMany => k_is)
    (case sb_NoLine_Twice => k_is)
    (case sb_NoLine_Unlike => k_is)
    (case st_NoLine_ValueError => k_is)
    (case sb_NoLine_Wrong => k_is)
    (case sb_NoText_Again => k_is)
    (case sb_NoText_AheadError => k_is)
    (case sb_NoText_Apart => k_is)
    (case sb_NoText_Few => k_is)
    (case sb_NoText_Full => k_is)
    (case sb_NoText_Lacks => k_is)
    (case sb_NoText_NoBook => k_is)
    (case sb_NoText_NoDeed => k_is)
    (case sb_NoText_NoLine => k_is)
    (case sb_NoText_NoWalker => k_is)
    (case sb_NoText_NotPlain => k_is)
    (case sb_NoText_Nothing => k_is)
    (case sb_NoText_Short => k_is)
    (case sb_NoText_Stopped => k_is)
    (case sb_NoText_Taken => k_is)
    (case sb_NoText_TooFar => k_is)
    (case sb_NoText_TooGreat => k_is)
    (case sb_NoText_TooMany => k_is)
    (case sb_NoText_Twice => k_is)
    (case sb_NoText_Unlike => k_is)
    (case st_NoText_ValueError => k_is)
    (case sb_NoText_Wrong => k_is)
    (case sb_NoWalker_Again => k_is)
    (case sb_NoWalker_AheadError => k_is)
    (case sb_NoWalker_Apart => k_is)
    (case sb_NoWalker_Few => k_is)
    (case sb_NoWalker_Full => k_is)
    (case sb_NoWalker_Lacks => k_is)
    (case sb_NoWalker_NoBook => k_is)
    (case sb_NoWalker_NoDeed => k_is)
    (case sb_NoWalker_NoLine => k_is)
    (case sb_NoWalker_NoText => k_is)
    (case sb_NoWalker_NotPlain => k_is)
    (case sb_NoWalker_Nothing => k_is)
    (case sb_NoWalker_Short => k_is)
    (case sb_NoWalker_Stopped => k_is)
    (case sb_NoWalker_Taken => k_is)
    (case sb_NoWalker_TooFar => k_is)
    (case sb_NoWalker_TooGreat => k_is)
    (case sb_NoWalker_TooMany => k_is)
    (case sb_NoWalker_Twice => k_is)
    (case sb_NoWalker_Unlike => k_is)
    (case st_NoWalker_ValueError => k_is)
    (case sb_NoWalker_Wrong => k_is)
    (case sb_NotPlain_Again => k_is)
    (case sb_NotPlain_AheadError => k_is)
    (case sb_NotPlain_Apart => k_is)
    (case sb_NotPlain_Few => k_is)
    (case sb_NotPlain_Full => k_is)
    (case sb_NotPlain_Lacks => k_is)
    (case sb_NotPlain_NoBook => k_is)
    (case sb_NotPlain_NoDeed => k_is)
    (case sb_NotPlain_NoLine => k_is)
    (case sb_NotPlain_NoText => k_is)
    (case sb_NotPlain_NoWalker => k_is)
    (case sb_NotPlain_Nothing => k_is)
    (case sb_NotPlain_Short => k_is)
    (case sb_NotPlain_Stopped => k_is)
    (case sb_NotPlain_Taken => k_is)
    (case sb_NotPlain_TooFar => k_is)
    (case sb_NotPlain_TooGreat => k_is)
    (case sb_NotPlain_TooMany => k_is)
    (case sb_NotPlain_Twice => k_is)
    (case sb_NotPlain_Unlike => k_is)
    (case st_NotPlain_ValueError => k_is)
    (case sb_NotPlain_Wrong => k_is)
    (case sb_Nothing_Again => k_is)
    (case sb_Nothing_AheadError => k_is)
    (case sb_Nothing_Apart => k_is)
    (case sb_Nothing_Few => k_is)
    (case sb_Nothing_Full => k_is)
    (case sb_Nothing_Lacks => k_is)
    (case sb_Nothing_NoBook => k_is)
    (case sb_Nothing_NoDeed => k_is)
    (case sb_Nothing_NoLine => k_is)
    (case sb_Nothing_NoText => k_is)
    (case sb_Nothing_NoWalker => k_is)
    (case sb_Nothing_NotPlain => k_is)
    (case sb_Nothing_Short => k_is)
    (case sb_Nothing_Stopped => k_is)
    (case sb_Nothing_Taken => k_is)
    (case sb_Nothing_TooFar => k_is)
    (case sb_Nothing_TooGreat => k_is)
    (case sb_Nothing_TooMany => k_is)
    (case sb_Nothing_Twice => k_is)
    (case sb_Nothing_Unlike => k_is)
    (case st_Nothing_ValueError => k_is)
    (case sb_Nothing_Wrong => k_is)
    (case sb_Short_Again => k_is)
    (case sb_Short_AheadError => k_is)
    (case sb_Short_Apart => k_is)
    (case sb_Short_Few => k_is)
    (case sb_Short_Full => k_is)
    (case sb_Short_Lacks => k_is)
    (case sb_Short_NoBook => k_is)
    (case sb_Short_NoDeed => k_is)
    (case sb_Short_NoLine => k_is)
    (case sb_Short_NoText => k_is)
    (case sb_Short_NoWalker => k_is)
    (case sb_Short_NotPlain => k_is)
    (case sb_Short_Nothing => k_is)
    (case sb_Short_Stopped => k_is)
    (case sb_Short_Taken => k_is)
    (case sb_Short_TooFar => k_is)
    (case sb_Short_TooGreat => k_is)
    (case sb_Short_TooMany => k_is)
    (case sb_Short_Twice => k_is)
    (case sb_Short_Unlike => k_is)
    (case st_Short_ValueError => k_is)
    (case sb_Short_Wrong => k_is)
    (case sb_Stopped_Again => k_is)
    (case sb_Stopped_AheadError => k_is)
    (case sb_Stopped_Apart => k_is)
    (case sb_Stopped_Few => k_is)
    (case sb_Stopped_Full => k_is)
    (case sb_Stopped_Lacks => k_is)
    (case sb_Stopped_NoBook => k_is)
    (case sb_Stopped_NoDeed => k_is)
    (case sb_Stopped_NoLine => k_is)
    (case sb_Stopped_NoText => k_is)
    (case sb_Stopped_NoWalker => k_is)
    (case sb_Stopped_NotPlain => k_is)
    (case sb_Stopped_Nothing => k_is)
    (case sb_Stopped_Short => k_is)
    (case sb_Stopped_Taken => k_is)
    (case sb_Stopped_TooFar => k_is)
    (case sb_Stopped_TooGreat => k_is)
    (case sb_Stopped_TooMany => k_is)
    (case sb_Stopped_Twice => k_is)
    (case sb_Stopped_Unlike => k_is)
    (case st_Stopped_ValueError => k_is)
    (case sb_Stopped_Wrong => k_is)
    (case sb_Taken_Again => k_is)
    (case sb_Taken_AheadError => k_is)
    (case sb_Taken_Apart => k_is)
    (case sb_Taken_Few => k_is)
    (case sb_Taken_Full => k_is)
    (case sb_Taken_Lacks => k_is)
    (case sb_Taken_NoBook => k_is)
    (case sb_Taken_NoDeed => k_is)
    (case sb_Taken_NoLine => k_is)
    (case sb_Taken_NoText => k_is)
    (case sb_Taken_NoWalker => k_is)
    (case sb_Taken_NotPlain => k_is)
    (case sb_Taken_Nothing => k_is)
    (case sb_Taken_Short => k_is)
    (case sb_Taken_Stopped => k_is)
    (case sb_Taken_TooFar => k_is)
    (case sb_Taken_TooGreat => k_is)
    (case sb_Taken_TooMany => k_is)
    (case sb_Taken_Twice => k_is)
    (case sb_Taken_Unlike => k_is)
    (case st_Taken_ValueError => k_is)
    (case sb_Taken_Wrong => k_is)
    (case sb_TooFar_Again => k_is)
    (case sb_TooFar_AheadError => k_is)
    (case sb_TooFar_Apart => k_is)
    (case sb_TooFar_Few => k_is)
    (case sb_TooFar_Full => k_is)
    (case sb_TooFar_Lacks => k_is)
    (case sb_TooFar_NoBook => k_is)
    (case sb_TooFar_NoDeed => k_is)
    (case sb_TooFar_NoLine => k_is)
    (case sb_TooFar_NoText => k_is)
    (case sb_TooFar_NoWalker => k_is)
    (case sb_TooFar_NotPlain => k_is)
    (case sb_TooFar_Nothing => k_is)
    (case sb_TooFar_Short => k_is)
    (case sb_TooFar_Stopped => k_is)
    (case sb_TooFar_Taken => k_is)
    (case sb_TooFar_TooGreat => k_is)
    (case sb_TooFar_TooMany => k_is)
    (case sb_TooFar_Twice => k_is)
    (case sb_TooFar_Unlike => k_is)
    (case st_TooFar_ValueError => k_is)
    (case sb_TooFar_Wrong => k_is)
    (case sb_TooGreat_Again => k_is)
    (case sb_TooGreat_AheadError => k_is)
    (case sb_TooGreat_Apart => k_is)
    (case sb_TooGreat_Few => k_is)
    (case sb_TooGreat_Full => k_is)
    (case sb_TooGreat_Lacks => k_is)
    (case sb_TooGreat_NoBook => k_is)
    (case sb_TooGreat_NoDeed => k_is)
    (case sb_TooGreat_NoLine => k_is)
    (case sb_TooGreat_NoText => k_is)
    (case sb_TooGreat_NoWalker => k_is)
    (case sb_TooGreat_NotPlain => k_is)
    (case sb_TooGreat_Nothing => k_is)
    (case sb_TooGreat_Short => k_is)
    (case sb_TooGreat_Stopped => k_is)
    (case sb_TooGreat_Taken => k_is)
    (case sb_TooGreat_TooFar => k_is)
    (case sb_TooGreat_TooMany => k_is)
    (case sb_TooGreat_Twice => k_is)
    (case sb_TooGreat_Unlike => k_is)
    (case st_TooGreat_ValueError => k_is)
    (case sb_TooGreat_Wrong => k_is)
    (case sb_TooMany_Again => k_is)
    (case sb_TooMany_AheadError => k_is)
    (case sb_TooMany_Apart => k_is)
    (case sb_TooMany_Few => k_is)
    (case sb_TooMany_Full => k_is)
    (case sb_TooMany_Lacks => k_is)
    (case sb_TooMany_NoBook => k_is)
    (case sb_TooMany_NoDeed => k_is)
    (case sb_TooMany_NoLine => k_is)
    (case sb_TooMany_NoText => k_is)
    (case sb_TooMany_NoWalker => k_is)
    (case sb_TooMany_NotPlain => k_is)
    (case sb_TooMany_Nothing => k_is)
    (case sb_TooMany_Short => k_is)
    (case sb_TooMany_Stopped => k_is)
    (case sb_TooMany_Taken => k_is)
    (case sb_TooMany_TooFar => k_is)
    (case sb_TooMany_TooGreat => k_is)
    (case sb_TooMany_Twice => k_is)
    (case sb_TooMany_Unlike => k_is)
    (case st_TooMany_ValueError => k_is)
    (case sb_TooMany_Wrong => k_is)
    (case sb_Twice_Again => k_is)
    (case sb_Twice_AheadError => k_is)
    (case sb_Twice_Apart => k_is)
    (case sb_Twice_Few => k_is)
    (case sb_Twice_Full => k_is)
    (case sb_Twice_Lacks => k_is)
    (case sb_Twice_NoBook => k_is)
    (case sb_Twice_NoDeed => k_is)
    (case sb_Twice_NoLine => k_is)
    (case sb_Twice_NoText => k_is)
    (case sb_Twice_NoWalker => k_is)
    (case sb_Twice_NotPlain => k_is)
    (case sb_Twice_Nothing => k_is)
    (case sb_Twice_Short => k_is)
    (case sb_Twice_Stopped => k_is)
    (case sb_Twice_Taken => k_is)
    (case sb_Twice_TooFar => k_is)
    (case sb_Twice_TooGreat => k_is)
    (case sb_Twice_TooMany => k_is)
    (case sb_Twice_Unlike => k_is)
    (case st_Twice_ValueError => k_is)
    (case sb_Twice_Wrong => k_is)
    (case sb_Unlike_Again => k_is)
    (case sb_Unlike_AheadError => k_is)
    (case sb_Unlike_Apart => k_is)
    (case sb_Unlike_Few => k_is)
    (case sb_Unlike_Full => k_is)
    (case sb_Unlike_Lacks => k_is)
    (case sb_Unlike_NoBook => k_is)
    (case sb_Unlike_NoDeed => k_is)
    (case sb_Unlike_NoLine => k_is)
    (case sb_Unlike_NoText => k_is)
    (case sb_Unlike_NoWalker => k_is)
    (case sb_Unlike_NotPlain => k_is)
    (case sb_Unlike_Nothing => k_is)
    (case sb_Unlike_Short => k_is)
    (case sb_Unlike_Stopped => k_is)
    (case sb_Unlike_Taken => k_is)
    (case sb_Unlike_TooFar => k_is)
    (case sb_Unlike_TooGreat => k_is)
    (case sb_Unlike_TooMany => k_is)
    (case sb_Unlike_Twice => k_is)
    (case st_Unlike_ValueError => k_is)
    (case sb_Unlike_Wrong => k_is)
    (case sb_Wrong_Again => k_is)
    (case sb_Wrong_AheadError => k_is)
    (case sb_Wrong_Apart => k_is)
    (case sb_Wrong_Few => k_is)
    (case sb_Wrong_Full => k_is)
    (case sb_Wrong_Lacks => k_is)
    (case sb_Wrong_NoBook => k_is)
    (case sb_Wrong_NoDeed => k_is)
    (case sb_Wrong_NoLine => k_is)
    (case sb_Wrong_NoText => k_is)
    (case sb_Wrong_NoWalker => k_is)
    (case sb_Wrong_NotPlain => k_is)
    (case sb_Wrong_Nothing => k_is)
    (case sb_Wrong_Short => k_is)
    (case sb_Wrong_Stopped => k_is)
    (case sb_Wrong_Taken => k_is)
    (case sb_Wrong_TooFar => k_is)
    (case sb_Wrong_TooGreat => k_is)
    (case sb_Wrong_TooMany => k_is)
    (case sb_Wrong_Twice => k_is)
    (case sb_Wrong_Unlike => k_is)
    (case st_Wrong_ValueError => k_is)
    (case a_w_bag => k_is)
    (case l_w_bag => k_is)
    (case c_w_bag => k_is)
    (case k_w_bag => k_is)
    (case a_w_take => k_is)
    (case l_w_take => k_is)
    (case c_w_take => k_is)
    (case k_w_take => k_is)
    (case a_w_made => k_is)
    (case l_w_made => k_is)
    (case c_w_made => k_is)
    (case k_w_made => k_is)
    (case a_w_sorts => k_is)
    (case l_w_sorts => k_is)
    (case c_w_sorts => k_is)
    (case k_w_sorts => k_is)
    (case a_w_fields => k_is)
    (case l_w_fields => k_is)
    (case c_w_fields => k_is)
    (case k_w_fields => k_is)
    (case a_w_raised => k_is)
    (case l_w_raised => k_is)
    (case c_w_raised => k_is)
    (case k_w_raised => k_is)
    (case a_law => k_is)
    (case l_law => k_is)
    (case c_law => k_is)
    (case k_law => k_is)
#print axioms PySem.Challenge.cw_aheadpays_k17_refusals_apart_holds
