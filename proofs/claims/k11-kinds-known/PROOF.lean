import PyProof.Rows.All
import Wide.All
import OpenK.AllK
import Wide.FinOn
import HandS.ForMost
import HandS.ForExc
import HandS.ExcInit
import HandS.CallSlots
import HandS.WordsExc
import HandS.Wide
import HandS.IsInst
import HandS.Defaults
import HandS.More
import HandS.ClsMeth
import HandS.MakeKwOnly
import PyProof.LongRange
import HandS.Style
import HandS.SortInts
import HandS.TupAny
import HandS.TryOnly
import PyProof.ReprRoads
import HandS.RaiseMore
import HandS.Words
import HandS.OwnEq
import HandS.Rev
import HandS.FStr
import HandS.SetFor
import HandS.RevTup
import HandS.Flow
import KE.SortData
import HandS.Codes
import PyProof.StrBlock2
import KE.KDictKeyed
import HandS.Dict
import HandS.Conv
import HandS.DictEq
import HandS.DictComp
import HandS.Zip
import HandS.SortKw
import KE.KDictDisplayH
import HandS.TupLen
import HandS.Strs
import HandS.Deep
import HandS.ExcField
import KE.KExcIs
import HandS.ExcIs
import KE.DataMinMax
import KE.SortKeyHeap
import HandS.Lambda
import HandS.EndTab
import KE.KNestM
import KE.KDictPairs
import KE.KDictCopyH
import HandS.List
import KE.KDictZip
import HandS.ExcValue
import KE.GoesMore
import HandS.Small
import KE.KEqDict
import KE.GoesComp
import KE.GoesRaise
import HandS.Text
import PySem.Challenge.RW_aheadpays_k11_kinds_known
set_option Elab.async false
set_option linter.all false
set_option maxRecDepth 100000
set_option maxHeartbeats 4000000
namespace Zk
open PySem L2

/-! ### what stands for what -/
structure Pr where
  p : Hp → V → Prop
  mono : ∀ {S S' : Hp} {v : V}, Same S S' → p S v → p S' v
/-- a thing of the def's own, at the addresses F, that may still change: S what is stable, H the heap -/
structure PrO where
  p : Hp → Hp → V → (Addr → Prop) → Prop
  mono : ∀ {S S' H H' : Hp} {v : V} {F : Addr → Prop}, Same S S' → (∀ a o, F a → H a = some o → H' a = some o) → p S H v F → p S' H' v F
structure Rel (α : Type) where
  is : α → Hp → V → Prop
  mono : ∀ {x : α} {S S' : Hp} {v : V}, Same S S' → is x S v → is x S' v
abbrev Rel.pr {α : Type} (R : Rel α) (x : α) : Pr := ⟨R.is x, R.mono⟩
def All2 {α β : Type} (r : α → β → Prop) : List α → List β → Prop
  | [], [] => True
  | x :: xs, y :: ys => r x y ∧ All2 r xs ys
  | _, _ => False
section
variable {α β : Type} {r q : α → β → Prop}
theorem All2.imp (h : ∀ x y, r x y → q x y) : ∀ {xs : List α} {ys : List β}, All2 r xs ys → All2 q xs ys
  | [], [], _ => trivial
  | _ :: _, _ :: _, ⟨a, b⟩ => ⟨h _ _ a, All2.imp h b⟩
  | [], _ :: _, h => h.elim
  | _ :: _, [], h => h.elim
theorem All2.length : ∀ {xs : List α} {ys : List β}, All2 r xs ys → xs.length = ys.length
  | [], [], _ => rfl
  | _ :: _, _ :: _, ⟨_, b⟩ => by simp [All2.length b]
  | [], _ :: _, h => h.elim
  | _ :: _, [], h => h.elim
theorem All2.append : ∀ {xs : List α} {ys : List β} {xs' : List α} {ys' : List β}, All2 r xs ys → All2 r xs' ys' → All2 r (xs ++ xs') (ys ++ ys')
  | [], [], _, _, _, h => h
  | _ :: _, _ :: _, _, _, ⟨a, b⟩, h => ⟨a, All2.append b h⟩
  | [], _ :: _, _, _, h, _ => h.elim
  | _ :: _, [], _, _, h, _ => h.elim
theorem All2.get : ∀ {xs : List α} {ys : List β} {i : Nat} {x : α}, All2 r xs ys → xs[i]? = some x → ∃ y, ys[i]? = some y ∧ r x y
  | [], [], _, _, _, h => by simp at h
  | _ :: _, _ :: _, 0, _, ⟨a, _⟩, h => by simp at h; subst h; exact ⟨_, rfl, a⟩
  | _ :: _, _ :: _, i + 1, _, ⟨_, b⟩, h => by
    obtain ⟨y, h1, h2⟩ := All2.get (i := i) b (by simpa using h)
    exact ⟨y, by simpa using h1, h2⟩
  | [], _ :: _, _, _, h, _ => h.elim
  | _ :: _, [], _, _, h, _ => h.elim
theorem All2.get' : ∀ {xs : List α} {ys : List β} {i : Nat} {y : β}, All2 r xs ys → ys[i]? = some y → ∃ x, xs[i]? = some x ∧ r x y
  | [], [], _, _, _, h => by simp at h
  | _ :: _, _ :: _, 0, _, ⟨a, _⟩, h => by simp at h; subst h; exact ⟨_, rfl, a⟩
  | _ :: _, _ :: _, i + 1, _, ⟨_, b⟩, h => by
    obtain ⟨y, h1, h2⟩ := All2.get' (i := i) b (by simpa using h)
    exact ⟨y, by simpa using h1, h2⟩
  | [], _ :: _, _, _, h, _ => h.elim
  | _ :: _, [], _, _, h, _ => h.elim
theorem All2.take : ∀ {xs : List α} {ys : List β} (n : Nat), All2 r xs ys → All2 r (xs.take n) (ys.take n)
  | _, _, 0, _ => by simp [All2]
  | [], [], n + 1, _ => by simp [All2]
  | _ :: _, _ :: _, n + 1, ⟨a, b⟩ => ⟨a, All2.take n b⟩
  | [], _ :: _, _, h => h.elim
  | _ :: _, [], _, h => h.elim
theorem All2.drop : ∀ {xs : List α} {ys : List β} (n : Nat), All2 r xs ys → All2 r (xs.drop n) (ys.drop n)
  | _, _, 0, h => h
  | [], [], n + 1, _ => by simp [All2]
  | _ :: _, _ :: _, n + 1, ⟨_, b⟩ => All2.drop n b
  | [], _ :: _, _, h => h.elim
  | _ :: _, [], _, h => h.elim
theorem All2.set {x : α} {y : β} (h : r x y) : ∀ {xs : List α} {ys : List β} (i : Nat), All2 r xs ys → All2 r (xs.set i x) (ys.set i y)
  | [], [], _, _ => by simp [All2]
  | _ :: _, _ :: _, 0, ⟨_, b⟩ => ⟨h, b⟩
  | _ :: _, _ :: _, i + 1, ⟨a, b⟩ => ⟨a, All2.set h i b⟩
  | [], _ :: _, _, h => h.elim
  | _ :: _, [], _, h => h.elim
theorem All2.rep : ∀ (k : Nat) {xs : List α} {ys : List β}, All2 r xs ys → All2 r (List.replicate k xs).flatten (List.replicate k ys).flatten
  | 0, _, _, _ => by simp [All2]
  | k + 1, _, _, h => by
    rw [List.replicate_succ, List.replicate_succ, List.flatten_cons, List.flatten_cons]
    exact All2.append h (All2.rep k h)
theorem All2.map {γ : Type} {f : γ → β} {g : γ → α} : ∀ (l : List γ), (∀ z ∈ l, r (g z) (f z)) → All2 r (l.map g) (l.map f)
  | [], _ => trivial
  | _ :: l, h => ⟨h _ (by simp), All2.map l fun z hz => h z (by simp [hz])⟩
end
theorem All2.ints : ∀ {xs : List Int} {vs : List V}, All2 (fun n v => v = V.int n) xs vs → vs = xs.map V.int
  | [], [], _ => rfl
  | _ :: _, _ :: _, ⟨a, b⟩ => by rw [a, All2.ints b]; rfl
  | [], _ :: _, h => h.elim
  | _ :: _, [], h => h.elim
theorem All2.of_ints : ∀ (xs : List Int), All2 (fun n v => v = V.int n) xs (xs.map V.int)
  | [] => trivial
  | _ :: xs => ⟨rfl, All2.of_ints xs⟩
theorem All2.bls : ∀ {xs : List Bool} {vs : List V}, All2 (fun n v => v = V.bl n) xs vs → vs = xs.map V.bl
  | [], [], _ => rfl
  | _ :: _, _ :: _, ⟨a, b⟩ => by rw [a, All2.bls b]; rfl
  | [], _ :: _, h => h.elim
  | _ :: _, [], h => h.elim
theorem All2.strs : ∀ {xs : List Str} {vs : List V}, All2 (fun n v => v = V.str n) xs vs → vs = xs.map V.str
  | [], [], _ => rfl
  | _ :: _, _ :: _, ⟨a, b⟩ => by rw [a, All2.strs b]; rfl
  | [], _ :: _, h => h.elim
  | _ :: _, [], h => h.elim
/-! ### the kinds -/
def rInt : Rel Int := ⟨fun x _ v => v = .int x, fun _ h => h⟩
def rBl : Rel Bool := ⟨fun x _ v => v = .bl x, fun _ h => h⟩
def rStr : Rel Str := ⟨fun x _ v => v = .str x, fun _ h => h⟩
def rNon : Rel Unit := ⟨fun _ _ v => v = .non, fun _ h => h⟩
def rRef (a : Addr) : Rel Unit := ⟨fun _ _ v => v = .ref a, fun _ h => h⟩
def rLst {α : Type} (R : Rel α) : Rel (List α) :=
  ⟨fun xs S v => ∃ a vs, v = .ref a ∧ S a = some (.lst vs) ∧ All2 (fun x v => R.is x S v) xs vs,
   fun s ⟨a, vs, e, h, q⟩ => ⟨a, vs, e, s _ _ h, q.imp fun _ _ h => R.mono s h⟩⟩
/-- a list that is only read: the script -/
def rSc {α : Type} (K : PySem.W.Frag) (R : Rel α) : Rel (List α) :=
  ⟨fun xs S v => ∃ a vs, v = .ref a ∧ SqL K S a vs ∧ All2 (fun x v => R.is x S v) xs vs,
   fun s ⟨a, vs, e, h, q⟩ => ⟨a, vs, e, h.elim (fun h => .inl (h.elim (fun h => .inl (s _ _ h)) fun ⟨o, h⟩ => .inr ⟨o, s _ _ h⟩)) .inr, q.imp fun _ _ h => R.mono s h⟩⟩
def rVT {α : Type} (R : Rel α) : Rel (List α) :=
  ⟨fun xs S v => ∃ a vs, v = .ref a ∧ S a = some (.tup vs) ∧ All2 (fun x v => R.is x S v) xs vs,
   fun s ⟨a, vs, e, h, q⟩ => ⟨a, vs, e, s _ _ h, q.imp fun _ _ h => R.mono s h⟩⟩
def rT2 {α β : Type} (R : Rel α) (R2 : Rel β) : Rel (α × β) :=
  ⟨fun x S v => ∃ a u w, v = .ref a ∧ S a = some (.tup [u, w]) ∧ R.is x.1 S u ∧ R2.is x.2 S w,
   fun s ⟨a, u, w, e, h, q, q2⟩ => ⟨a, u, w, e, s _ _ h, R.mono s q, R2.mono s q2⟩⟩
def rT3 {α β γ : Type} (R : Rel α) (R2 : Rel β) (R3 : Rel γ) : Rel (α × β × γ) :=
  ⟨fun x S v => ∃ a u w z, v = .ref a ∧ S a = some (.tup [u, w, z]) ∧ R.is x.1 S u ∧ R2.is x.2.1 S w ∧ R3.is x.2.2 S z,
   fun s ⟨a, u, w, z, e, h, q, q2, q3⟩ => ⟨a, u, w, z, e, s _ _ h, R.mono s q, R2.mono s q2, R3.mono s q3⟩⟩
/-! ### the mirror's monad -/
structure Exc where
  cls : Str
  fs : List (Str × V)
inductive Out (τ α : Type) where
  | ok (a : α) (s : τ) | exc (e : Exc) (s : τ) | stuck
def M (τ α : Type) : Type := τ → Out τ α
section
variable {τ α β : Type}
def ret (a : α) : M τ α := fun s => .ok a s
def bnd (m : M τ α) (f : α → M τ β) : M τ β := fun s => match m s with | .ok a s' => f a s' | .exc e s' => .exc e s' | .stuck => .stuck
def stk : M τ α := fun _ => .stuck
def rse (e : Exc) : M τ α := fun s => .exc e s
def lft (m : M Unit α) : M τ α := fun s => match m () with | .ok a _ => .ok a s | .exc e _ => .exc e s | .stuck => .stuck
instance : Monad (M τ) where
  pure := ret
  bind := bnd
/-- only where c -/
def chk (c : Prop) [Decidable c] (m : M τ α) : M τ α := if c then m else stk
end

/-! ### the world, a def's names, slots -/
structure Gx where
  P : Program
  w : World
  K : PySem.W.Frag
  mg : Str → Option Value
  base : Heap
structure Sc where
  N : List Str
  sc : Scope
  k : Nat
  fn : Bool
  fx : Str → Bool
  gd : Bool
structure CtxOk (G : Gx) (c : Sc) (W : WX) (X : Cx) : Prop where
  prog : X.prog = G.P
  w : X.w = G.w
  K : X.K = G.K
  mg : X.mg = G.mg
  base : X.base = G.base
  N : X.N = c.N
  nd : c.N.Nodup
  sc : X.env.scope = c.sc
  calm : X.calm = true
  room : Room c.k X.A
  gds : c.gd = true → X.A.guards = some []
  takes : Takes X W
  owns : PassesOwn (model X.prog X.w) X.A X.env X.xe
  fx : X.fn = c.fx
  isfn : c.fn = true → X.stack = X.env :: X.outer ∧ X.env.frame = some X.env.locals
inductive Sl where
  | no | st (p : Pr) | ow (p : PrO) | gh (p : PrO)
abbrev Env := List Sl
structure Eff (τ : Type) where
  own : Addr → Prop
  is : τ → Hp → Hp → Prop
  mono : ∀ {β : τ} {S H S' H' : Hp}, Same S S' → (∀ a, own a → S a = none → S' a = none) → (∀ a o, own a → H a = some o → H' a = some o) → is β S H → is β S' H'
  th : ∀ {β : τ} {S H : Hp} {a : Addr}, is β S H → own a → S a = none ∧ ∃ o, H a = some o
structure Bs where
  S : Hp
  H : Hp
structure Keep (own : Addr → Prop) (B : Bs) (S H : Hp) : Prop where
  same : Same S H
  up : Same B.S S
  kp : ∀ a o, B.S a = none → B.H a = some o → ¬ own a → S a = none ∧ H a = some o
def slOk (S H : Hp) (v : Option V) (F : Addr → Prop) : Sl → Prop
  | .no => True
  | .st p => ∃ x, v = some x ∧ p.p S x
  | .ow p => ∃ x, v = some x ∧ p.p S H x F
  | .gh p => p.p S H .non F
structure Feet {τ : Type} (E : Eff τ) (B : Bs) (S H : Hp) (Fs : Nat → Addr → Prop) : Prop where
  at_ : ∀ i a, Fs i a → S a = none ∧ B.H a = none ∧ ¬ E.own a ∧ ∃ o, H a = some o
  ds : ∀ i j a, Fs i a → Fs j a → i = j
structure Hold {τ : Type} (E : Eff τ) (B : Bs) (Γ : Env) (β : τ) (σ : St) (S H : Hp) : Prop where
  kp : Keep E.own B S H
  ef : E.is β S H
  sl : ∃ Fs, Feet E B S H Fs ∧ ∀ (i : Nat) s, Γ[i]? = some s → slOk S H (σ[i]?.join) (Fs i) s
def XAt (G : Gx) (x : Exc) (H : Hp) (c : Value) (d : Option Addr) : Prop :=
  ∃ C, G.mg x.cls = some (.ref C) ∧ c = .ref C ∧ ((x.fs = [] ∧ d = none) ∨ ∃ dd, d = some dd ∧ H dd = some (.xd x.fs))

section
variable {τ α β κ ρ : Type}
def aft (G : Gx) (E : Eff τ) (W : WX) (B : Bs) (Γ : Env) (σ : St) (S : Hp) (R : Rel α) (Q : VK) : Out τ α → Prop
  | .ok a b' => ∀ v S' H', Same S S' → Hold E B Γ b' σ S' H' → R.is a S' v → Q v H'
  | .exc x b' => ∀ c d S' H', Same S S' → Hold E B Γ b' σ S' H' → XAt G x H' c d → W c d σ H'
  | .stuck => False
def aftT (G : Gx) (E : Eff τ) (W : WX) (B : Bs) (Γ : Env) (σ : St) (S : Hp) (Q : Bool → Hp → Prop) : Out τ Bool → Prop
  | .ok a b' => ∀ S' H', Same S S' → Hold E B Γ b' σ S' H' → Q a H'
  | .exc x b' => ∀ c d S' H', Same S S' → Hold E B Γ b' σ S' H' → XAt G x H' c d → W c d σ H'
  | .stuck => False
def aftA (G : Gx) (E : Eff τ) (W : WX) (B : Bs) (Γ : Env) (σ : St) (S : Hp) (A : α → List Pr) (Q : List V → Hp → Prop) : Out τ α → Prop
  | .ok a b' => ∀ vs S' H', Same S S' → Hold E B Γ b' σ S' H' → All2 (fun (p : Pr) v => p.p S' v) (A a) vs → Q vs H'
  | .exc x b' => ∀ c d S' H', Same S S' → Hold E B Γ b' σ S' H' → XAt G x H' c d → W c d σ H'
  | .stuck => False
def tzE (G : Gx) (E : Eff τ) (W : WX) (Γ : Env) (m : M τ α) (R : Rel α) : TE := fun σ H Q => ∃ B S b, Hold E B Γ b σ S H ∧ aft G E W B Γ σ S R Q (m b)
def tzT (G : Gx) (E : Eff τ) (W : WX) (Γ : Env) (m : M τ Bool) : TT := fun σ H Q => ∃ B S b, Hold E B Γ b σ S H ∧ aftT G E W B Γ σ S Q (m b)
def tzA (G : Gx) (E : Eff τ) (W : WX) (Γ : Env) (m : M τ α) (A : α → List Pr) : TA := fun σ H Q => ∃ B S b, Hold E B Γ b σ S H ∧ aftA G E W B Γ σ S A Q (m b)
inductive Fl (α κ ρ : Type) where
  | nx (a : α) | rt (r : ρ) | bk (k : κ) | ct (k : κ)
/-- what is wanted behind statements but the next one: of break and continue, of an exception, of what is handed back -/
structure Ls (κ ρ : Type) where
  k : κ → Env
  x : Env
  R : Rel ρ
  o : ρ → V → Env := fun _ _ => []
def aftS (G : Gx) (E : Eff τ) (W : WX) (L : Ls κ ρ) (B : Bs) (S : Hp) (Γn : α → Env) (D : Ends) : Out τ (Fl α κ ρ) → Prop
  | .ok (.nx a) b' => ∀ σ' S' H', Same S S' → Hold E B (Γn a) b' σ' S' H' → D.nx σ' H'
  | .ok (.rt r) b' => ∀ v σ' S' H', Hold E B (L.o r v) b' σ' S' H' → L.R.is r S' v → D.rt v H'
  | .ok (.bk a) b' => ∀ σ' S' H', Same S S' → Hold E B (L.k a) b' σ' S' H' → D.bk σ' H'
  | .ok (.ct a) b' => ∀ σ' S' H', Same S S' → Hold E B (L.k a) b' σ' S' H' → D.ct σ' H'
  | .exc x b' => ∀ c d σ' S' H', Hold E B L.x b' σ' S' H' → XAt G x H' c d → W c d σ' H'
  | .stuck => False
def tzS (G : Gx) (E : Eff τ) (W : WX) (L : Ls κ ρ) (Γ : Env) (m : M τ (Fl α κ ρ)) (Γn : α → Env) : TS := fun D σ H => ∃ B S b, Hold E B Γ b σ S H ∧ aftS G E W L B S Γn D (m b)
def ZE (G : Gx) (c : Sc) (E : Eff τ) (W : WX) (Γ : Env) (e : Expr) (m : M τ α) (R : Rel α) : Prop := ∀ X, CtxOk G c W X → PE X e (tzE G E W Γ m R)
def ZT (G : Gx) (c : Sc) (E : Eff τ) (W : WX) (Γ : Env) (e : Expr) (m : M τ Bool) : Prop := ∀ X, CtxOk G c W X → PT X e (tzT G E W Γ m)
def ZA (G : Gx) (c : Sc) (E : Eff τ) (W : WX) (Γ : Env) (es : List Expr) (m : M τ α) (A : α → List Pr) : Prop := ∀ X, CtxOk G c W X → PA X es (tzA G E W Γ m A)
def ZS (G : Gx) (c : Sc) (E : Eff τ) (W : WX) (L : Ls κ ρ) (Γ : Env) (st : Stmt) (m : M τ (Fl α κ ρ)) (Γn : α → Env) : Prop := ∀ X, CtxOk G c W X → PS X st (tzS G E W L Γ m Γn)
def ZB (G : Gx) (c : Sc) (E : Eff τ) (W : WX) (L : Ls κ ρ) (Γ : Env) (st : List Stmt) (m : M τ (Fl α κ ρ)) (Γn : α → Env) : Prop := ∀ X, CtxOk G c W X → PSs X st (tzS G E W L Γ m Γn)
end

/-! ### readings weakened -/
section
variable {X : Cx} {e : Expr} {st : Stmt} {sts : List Stmt}
theorem pe_wk {t t' : TE} (h : PE X e t) (w : ∀ σ H Q, σ.length = X.N.length → t' σ H Q → t σ H Q) : PE X e t' := ⟨fun pins s σ H Q I q => h.run pins s σ H Q I (w σ H Q I.len q)⟩
theorem pt_wk {t t' : TT} (h : PT X e t) (w : ∀ σ H Q, σ.length = X.N.length → t' σ H Q → t σ H Q) : PT X e t' := ⟨fun pins s σ H Q I q => h.run pins s σ H Q I (w σ H Q I.len q)⟩
theorem pa_wk {es : List Expr} {t t' : TA} (h : PA X es t) (w : ∀ σ H Q, σ.length = X.N.length → t' σ H Q → t σ H Q) : PA X es t' := ⟨fun pos pins s σ H Q I q => h.run pos pins s σ H Q I (w σ H Q I.len q)⟩
theorem ps_wk {t t' : TS} (h : PS X st t) (w : ∀ D σ H, σ.length = X.N.length → t' D σ H → t D σ H) : PS X st t' := ⟨fun pins s σ H D I q => h.run pins s σ H D I (w D σ H I.len q)⟩
theorem pss_wk {t t' : TS} (h : PSs X sts t) (w : ∀ D σ H, σ.length = X.N.length → t' D σ H → t D σ H) : PSs X sts t' := ⟨fun pins s σ H D I q => h.run pins s σ H D I (w D σ H I.len q)⟩
theorem pss_ex {ι : Type} {t : ι → TS} (h : ∀ i, PSs X sts (t i)) : PSs X sts (fun D σ H => ∃ i, t i D σ H) := ⟨fun pins s σ H D I ⟨i, q⟩ => (h i).run pins s σ H D I q⟩
theorem pe_ex {ι : Type} {t : ι → TE} (h : ∀ i, PE X e (t i)) : PE X e (fun σ H Q => ∃ i, t i σ H Q) := ⟨fun pins s σ H Q I ⟨i, q⟩ => (h i).run pins s σ H Q I q⟩
end

/-! ### the state goes on -/
section
variable {τ α β : Type} {E : Eff τ} {B : Bs} {Γ Γ' : Env} {b : τ} {σ : St} {S S' H H' : Hp}
theorem Hold.same (h : Hold E B Γ b σ S H) : Same S H := h.kp.same
theorem same_new {S : Hp} {p : Addr} {o : HO} (h : S p = none) : Same S (upd S p o) := fun a u e => by rw [upd_ne (ne_of_none e h)]; exact e
theorem same_upd2 {S H : Hp} {p : Addr} {o : HO} (h : Same S H) : Same (upd S p o) (upd H p o) := fun a u e => by
  unfold upd at *
  split
  · next q => rw [if_pos q] at e; exact e
  · next q => rw [if_neg q] at e; exact h _ _ e
/-- more is stable, nothing else has changed -/
theorem Hold.grow (h : Hold E B Γ b σ S H) (s1 : Same S S') (s2 : Same S' H') (k : ∀ a o, S a = none → H a = some o → S' a = none ∧ H' a = some o) (f : ∀ a, E.own a → S a = none → S' a = none) : Hold E B Γ b σ S' H' := by
  have kk : ∀ a o, H a = some o → H' a = some o := fun a o e => by
    cases q : S a with
    | none => exact (k a o q e).2
    | some u =>
      have := h.same _ _ q
      rw [e] at this; cases this
      exact s2 _ _ (s1 _ _ q)
  obtain ⟨Fs, hF, hs⟩ := h.sl
  refine ⟨⟨s2, h.kp.up.trans s1, fun a o h1 h2 h3 => ?_⟩, E.mono s1 f (fun a o _ e => kk a o e) h.ef, Fs, ⟨fun i a e => ?_, hF.ds⟩, fun i s e => ?_⟩
  · obtain ⟨q1, q2⟩ := h.kp.kp a o h1 h2 h3
    exact k a o q1 q2
  · obtain ⟨q1, q2, q3, o, q4⟩ := hF.at_ i a e
    exact ⟨(k a o q1 q4).1, q2, q3, o, (k a o q1 q4).2⟩
  · have q := hs i s e
    cases s with
    | no => trivial
    | st p => obtain ⟨x, e1, e2⟩ := q; exact ⟨x, e1, p.mono s1 e2⟩
    | ow p => obtain ⟨x, e1, e2⟩ := q; exact ⟨x, e1, p.mono s1 (fun a o _ e => kk a o e) e2⟩
    | gh p => exact p.mono s1 (fun a o _ e => kk a o e) q
/-- a new stable object -/
theorem Hold.fr {p : Addr} (h : Hold E B Γ b σ S H) (hp : H p = none) : ¬ E.own p := fun z => by
  obtain ⟨_, o, e⟩ := E.th h.ef z
  rw [hp] at e; cases e
theorem Hold.new {p : Addr} {o : HO} (h : Hold E B Γ b σ S H) (hp : H p = none) : Hold E B Γ b σ (upd S p o) (upd H p o) := by
  have hf := h.fr hp
  have hs : S p = none := h.same.free hp
  refine h.grow (same_new hs) (same_upd2 h.same) (fun a u e1 e2 => ?_) fun a ha e => ?_
  · have n : a ≠ p := ne_of_none e2 hp
    rw [upd_ne n, upd_ne n]; exact ⟨e1, e2⟩
  · have n : a ≠ p := fun z => hf (z ▸ ha)
    rw [upd_ne n]; exact e
/-- fewer slots are known -/
theorem Hold.wk (h : Hold E B Γ b σ S H) (w : ∀ (i : Nat) s, Γ'[i]? = some s → s = .no ∨ Γ[i]? = some s) : Hold E B Γ' b σ S H := by
  obtain ⟨Fs, hF, hs⟩ := h.sl
  refine ⟨h.kp, h.ef, Fs, hF, fun i s e => ?_⟩
  rcases w i s e with r | r
  · subst r; trivial
  · exact hs i s r
theorem set_get {α : Type} {l : List α} {i j : Nat} {x y : α} (h : (l.set i x)[j]? = some y) : (j = i ∧ y = x) ∨ (j ≠ i ∧ l[j]? = some y) := by
  by_cases hj : i = j
  · subst hj
    rw [List.getElem?_set] at h
    simp only [if_true] at h
    split at h
    · cases h; exact .inl ⟨rfl, rfl⟩
    · cases h
  · rw [List.getElem?_set_ne hj] at h
    exact .inr ⟨Ne.symm hj, h⟩
/-- a slot is stored -/
theorem Hold.set {i : Nat} {v : V} {p : Pr} (h : Hold E B Γ b σ S H) (hi : i < σ.length) (hp : p.p S v) : Hold E B (Γ.set i (.st p)) b (σ.set i (some v)) S H := by
  obtain ⟨Fs, hF, hs⟩ := h.sl
  refine ⟨h.kp, h.ef, Fs, hF, fun j s e => ?_⟩
  rcases set_get e with ⟨rfl, rfl⟩ | ⟨n, e⟩
  · rw [List.getElem?_set_self hi]; exact ⟨v, rfl, hp⟩
  · rw [List.getElem?_set_ne (Ne.symm n)]; exact hs j s e
/-- a slot is wiped -/
theorem Hold.unset {i : Nat} {v : Option V} (h : Hold E B Γ b σ S H) : Hold E B (Γ.set i .no) b (σ.set i v) S H := by
  obtain ⟨Fs, hF, hs⟩ := h.sl
  refine ⟨h.kp, h.ef, Fs, hF, fun j s e => ?_⟩
  rcases set_get e with ⟨rfl, rfl⟩ | ⟨n, e⟩
  · trivial
  · rw [List.getElem?_set_ne (Ne.symm n)]; exact hs j s e
/-- what the slot i owns has changed (or is new), nothing else -/
theorem Hold.mut {i : Nat} {v : V} {p : PrO} {F' : Addr → Prop} (h : Hold E B Γ b σ S H) (hi : i < σ.length) (kc : ∀ a, ¬ F' a → H' a = H a)
    (hF' : ∀ a, F' a → (∃ o, H' a = some o) ∧ (H a = none ∧ ¬ E.own a ∨ ∀ Fs : Nat → Addr → Prop, Feet E B S H Fs → (∀ (j : Nat) s, Γ[j]? = some s → slOk S H (σ[j]?.join) (Fs j) s) → Fs i a)) (hp : p.p S H' v F') : Hold E B (Γ.set i (.ow p)) b (σ.set i (some v)) S H' := by
  obtain ⟨Fs, hF, hs⟩ := h.sl
  have nS : ∀ a, F' a → S a = none := fun a ha => by
    rcases (hF' a ha).2 with ⟨q, _⟩ | q
    · exact h.same.free q
    · exact (hF.at_ i a (q Fs hF hs)).1
  have nE : ∀ a, F' a → ¬ E.own a := fun a ha => by
    rcases (hF' a ha).2 with ⟨_, q⟩ | q
    · exact q
    · exact (hF.at_ i a (q Fs hF hs)).2.2.1
  have nB : ∀ a o, B.S a = none → B.H a = some o → ¬ E.own a → ¬ F' a := fun a o h1 h2 h3 ha => by
    rcases (hF' a ha).2 with ⟨q, _⟩ | q
    · have := (h.kp.kp a o h1 h2 h3).2
      rw [q] at this; cases this
    · have := (hF.at_ i a (q Fs hF hs)).2.1
      rw [h2] at this; cases this
  have ap : ∀ j a, j ≠ i → Fs j a → ¬ F' a := fun j a hj e ha => by
    rcases (hF' a ha).2 with ⟨q, _⟩ | q
    · obtain ⟨_, _, _, o, e4⟩ := hF.at_ j a e
      rw [q] at e4; cases e4
    · exact hj (hF.ds _ _ a e (q Fs hF hs))
  refine ⟨⟨fun a o e => ?_, h.kp.up, fun a o h1 h2 h3 => ?_⟩, E.mono (Same.refl _) (fun _ _ z => z) (fun a o ha e => ?_) h.ef, fun j a => if j = i then F' a else Fs j a, ⟨fun j a e => ?_, fun j k a e1 e2 => ?_⟩, fun j s e => ?_⟩
  · rw [kc a fun z => by rw [nS a z] at e; cases e]; exact h.same _ _ e
  · rw [kc a (nB a o h1 h2 h3)]; exact h.kp.kp a o h1 h2 h3
  · rw [kc a fun z => nE a z ha]; exact e
  · by_cases hj : j = i
    · simp only [if_pos hj] at e
      refine ⟨nS a e, ?_, nE a e, (hF' a e).1⟩
      rcases (hF' a e).2 with ⟨q, q2⟩ | q
      · cases z : B.H a with
        | none => rfl
        | some o =>
          cases y : B.S a with
          | none => have := (h.kp.kp a o y z q2).2; rw [q] at this; cases this
          | some u => have := h.same _ _ (h.kp.up _ _ y); rw [q] at this; cases this
      · exact (hF.at_ i a (q Fs hF hs)).2.1
    · simp only [if_neg hj] at e
      obtain ⟨e1, e2, e3, o, e4⟩ := hF.at_ j a e
      exact ⟨e1, e2, e3, o, by rw [kc a (ap j a hj e)]; exact e4⟩
  · by_cases hj : j = i
    · by_cases hk : k = i
      · rw [hj, hk]
      · simp only [if_pos hj] at e1; simp only [if_neg hk] at e2
        exact absurd e1 (ap k a hk e2)
    · by_cases hk : k = i
      · simp only [if_neg hj] at e1; simp only [if_pos hk] at e2
        exact absurd e2 (ap j a hj e1)
      · simp only [if_neg hj] at e1; simp only [if_neg hk] at e2
        exact hF.ds _ _ a e1 e2
  · rcases set_get e with ⟨rfl, rfl⟩ | ⟨n, e⟩
    · rw [List.getElem?_set_self hi]
      simp only [if_true]
      exact ⟨v, rfl, hp⟩
    · rw [List.getElem?_set_ne (Ne.symm n)]
      simp only [if_neg n]
      have q := hs j s e
      cases s with
      | no => trivial
      | st p => exact q
      | ow p => obtain ⟨x, e1, e2⟩ := q; exact ⟨x, e1, p.mono (Same.refl _) (fun a o ha e => by rw [kc a (ap j a n ha)]; exact e) e2⟩
      | gh p => exact p.mono (Same.refl _) (fun a o ha e => by rw [kc a (ap j a n ha)]; exact e) q
theorem Hold.nil (h : Hold E B Γ b σ S H) : Hold E B [] b σ S H := h.wk fun i s e => by simp at e
end
end Zk

namespace Zk
open PySem L2

section
variable {τ α β γ δ : Type} {G : Gx} {c : Sc} {E : Eff τ} {W : WX} {Γ : Env} {B : Bs} {σ : St} {S S1 H : Hp} {b : τ}
theorem aft.same {R : Rel α} {Q : VK} (s : Same S S1) : ∀ {o : Out τ α}, aft G E W B Γ σ S R Q o → aft G E W B Γ σ S1 R Q o
  | .ok _ _, h => fun v S' H' s2 => h v S' H' (s.trans s2)
  | .exc _ _, h => fun c d S' H' s2 => h c d S' H' (s.trans s2)
  | .stuck, h => h
theorem aftT.same {Q : Bool → Hp → Prop} (s : Same S S1) : ∀ {o : Out τ Bool}, aftT G E W B Γ σ S Q o → aftT G E W B Γ σ S1 Q o
  | .ok _ _, h => fun S' H' s2 => h S' H' (s.trans s2)
  | .exc _ _, h => fun c d S' H' s2 => h c d S' H' (s.trans s2)
  | .stuck, h => h
theorem aftA.same {A : α → List Pr} {Q : List V → Hp → Prop} (s : Same S S1) : ∀ {o : Out τ α}, aftA G E W B Γ σ S A Q o → aftA G E W B Γ σ S1 A Q o
  | .ok _ _, h => fun v S' H' s2 => h v S' H' (s.trans s2)
  | .exc _ _, h => fun c d S' H' s2 => h c d S' H' (s.trans s2)
  | .stuck, h => h
/-- a part is reckoned, then what follows -/
theorem tz_bnd {m : M τ α} {f : α → M τ β} {R : Rel α} {Q : VK} {Q' : VK} {R' : Rel β} (hh : Hold E B Γ b σ S H) (h : aft G E W B Γ σ S R' Q (bnd m f b))
    (k : ∀ x b1 v S1 H1, Same S S1 → Hold E B Γ b1 σ S1 H1 → R.is x S1 v → aft G E W B Γ σ S1 R' Q (f x b1) → Q' v H1) : tzE G E W Γ m R σ H Q' := by
  refine ⟨B, S, b, hh, ?_⟩
  unfold bnd at h
  cases e : m b with
  | ok a b1 => rw [e] at h; exact fun v S1 H1 s h1 r => k a b1 v S1 H1 s h1 r (h.same s)
  | exc x b1 => rw [e] at h; exact h
  | stuck => rw [e] at h; exact h.elim
theorem tz_bndA {m : M τ α} {f : α → M τ β} {R : Rel α} {A : β → List Pr} {Q : List V → Hp → Prop} {Q' : VK} (hh : Hold E B Γ b σ S H) (h : aftA G E W B Γ σ S A Q (bnd m f b))
    (k : ∀ x b1 v S1 H1, Same S S1 → Hold E B Γ b1 σ S1 H1 → R.is x S1 v → aftA G E W B Γ σ S1 A Q (f x b1) → Q' v H1) : tzE G E W Γ m R σ H Q' := by
  refine ⟨B, S, b, hh, ?_⟩
  unfold bnd at h
  cases e : m b with
  | ok a b1 => rw [e] at h; exact fun v S1 H1 s h1 r => k a b1 v S1 H1 s h1 r (h.same s)
  | exc x b1 => rw [e] at h; exact h
  | stuck => rw [e] at h; exact h.elim
theorem tz_TbndT {m : M τ Bool} {f : Bool → M τ Bool} {Q : Bool → Hp → Prop} {Q' : Bool → Hp → Prop} (hh : Hold E B Γ b σ S H) (h : aftT G E W B Γ σ S Q (bnd m f b))
    (k : ∀ x b1 S1 H1, Same S S1 → Hold E B Γ b1 σ S1 H1 → aftT G E W B Γ σ S1 Q (f x b1) → Q' x H1) : tzT G E W Γ m σ H Q' := by
  refine ⟨B, S, b, hh, ?_⟩
  unfold bnd at h
  cases e : m b with
  | ok a b1 => rw [e] at h; exact fun S1 H1 s h1 => k a b1 S1 H1 s h1 (h.same s)
  | exc x b1 => rw [e] at h; exact h
  | stuck => rw [e] at h; exact h.elim
theorem tz_Abnd {m : M τ α} {f : α → M τ β} {A : α → List Pr} {R' : Rel β} {Q : VK} {Q' : List V → Hp → Prop} (hh : Hold E B Γ b σ S H) (h : aft G E W B Γ σ S R' Q (bnd m f b))
    (k : ∀ x b1 vs S1 H1, Same S S1 → Hold E B Γ b1 σ S1 H1 → All2 (fun (p : Pr) v => p.p S1 v) (A x) vs → aft G E W B Γ σ S1 R' Q (f x b1) → Q' vs H1) : tzA G E W Γ m A σ H Q' := by
  refine ⟨B, S, b, hh, ?_⟩
  unfold bnd at h
  cases e : m b with
  | ok a b1 => rw [e] at h; exact fun v S1 H1 s h1 r => k a b1 v S1 H1 s h1 r (h.same s)
  | exc x b1 => rw [e] at h; exact h
  | stuck => rw [e] at h; exact h.elim

/-! ### names and constants -/
structure Nm (c : Sc) (i : Nat) (x : Str) : Prop where
  n : c.N[i]? = some x
  v : Vis c.sc x
  d : (x == ("__debug__" : Str)) = false
  cd : (x == ("__classdict__" : Str)) = false
theorem z_var {i : Nat} {x : Str} {pos : Pos} {R : Rel α} {a : α} (n : Nm c i x) (h : Γ[i]? = some (.st (R.pr a)) := by rfl) : ZE G c E W Γ (.Name x pos) (ret a) R := fun X C =>
  pe_wk (pe_var (by rw [C.N]; exact n.n) (by rw [C.sc]; exact n.v) n.d n.cd) fun σ H Q _ ⟨B, S, b, hh, q⟩ => by
    obtain ⟨Fs, hF, hs⟩ := hh.sl
    obtain ⟨v, e1, e2⟩ := hs i _ h
    have e : σ[i]? = some (some v) := by
      cases z : σ[i]? with
      | none => rw [z] at e1; cases e1
      | some o => rw [z] at e1; cases o with
        | none => cases e1
        | some u => cases e1; rfl
    exact ⟨v, e, q v S H (Same.refl _) hh e2⟩
theorem z_int {i : Int} {j : Nat} {pos : Pos} : ZE G c E W Γ (.Constant (.int i) j pos) (ret i) rInt := fun X C => pe_wk pe_int fun σ H Q _ ⟨B, S, b, hh, q⟩ => q _ S H (Same.refl _) hh rfl
theorem z_bl {i : Bool} {j : Nat} {pos : Pos} : ZE G c E W Γ (.Constant (.bool i) j pos) (ret i) rBl := fun X C => pe_wk pe_bl fun σ H Q _ ⟨B, S, b, hh, q⟩ => q _ S H (Same.refl _) hh rfl
theorem z_str {i : Str} {j : Nat} {pos : Pos} : ZE G c E W Γ (.Constant (.str i) j pos) (ret i) rStr := fun X C => pe_wk pe_str fun σ H Q _ ⟨B, S, b, hh, q⟩ => q _ S H (Same.refl _) hh rfl
theorem z_non {j : Nat} {pos : Pos} : ZE G c E W Γ (.Constant .none j pos) (ret ()) rNon := fun X C => pe_wk pe_non fun σ H Q _ ⟨B, S, b, hh, q⟩ => q _ S H (Same.refl _) hh rfl
/-- a global constant -/
def Gb (c : Sc) (x : Str) : Prop := c.sc.names.lookup x = some .globalImplicit
theorem CtxOk.gl {X : Cx} {x : Str} (C : CtxOk G c W X) (h : Gb c x) : Gl X x := by
  show X.env.scope.names.lookup x = some .globalImplicit
  rw [C.sc]; exact h
theorem z_gint {x : Str} {i : Int} {pos : Pos} {u : Value} (g : Gb c x) (h : G.mg x = some u) (r : RelV (.int i) u) (hd : (x == ("__debug__" : Str)) = false := by decide) : ZE G c E W Γ (.Name x pos) (ret i) rInt := fun X C =>
  pe_wk (pe_glob (C.gl g) (by rw [C.mg]; exact h) r hd) fun σ H Q _ ⟨B, S, b, hh, q⟩ => q _ S H (Same.refl _) hh rfl
theorem z_gstr {x : Str} {i : Str} {pos : Pos} {u : Value} (g : Gb c x) (h : G.mg x = some u) (r : RelV (.str i) u) (hd : (x == ("__debug__" : Str)) = false := by decide) : ZE G c E W Γ (.Name x pos) (ret i) rStr := fun X C =>
  pe_wk (pe_glob (C.gl g) (by rw [C.mg]; exact h) r hd) fun σ H Q _ ⟨B, S, b, hh, q⟩ => q _ S H (Same.refl _) hh rfl

/-! ### what is done with values -/
def zop1 (f : α → M τ β) (m : M τ α) : M τ β := bnd m f
def zop2 (f : α → β → M τ γ) (m : M τ α) (n : M τ β) : M τ γ := bnd m fun x => bnd n fun y => f x y
/-- r, asked of what stands for x (x, y), answers as f does -/
def Op1 (G : Gx) (E : Eff τ) (W : WX) (Γ : Env) (r : V → Hp → VK → Prop) (Ra : Rel α) (f : α → M τ γ) (R : Rel γ) : Prop :=
  ∀ B σ S H b x v Q, Hold E B Γ b σ S H → Ra.is x S v → aft G E W B Γ σ S R Q (f x b) → r v H Q
def Op2 (G : Gx) (E : Eff τ) (W : WX) (Γ : Env) (r : R2) (Ra : Rel α) (Rb : Rel β) (f : α → β → M τ γ) (R : Rel γ) : Prop :=
  ∀ B σ S H b x y v w Q, Hold E B Γ b σ S H → Ra.is x S v → Rb.is y S w → aft G E W B Γ σ S R Q (f x y b) → r v w H Q
def OpA (G : Gx) (E : Eff τ) (W : WX) (Γ : Env) (r : List V → Hp → VK → Prop) (A : α → List Pr) (f : α → M τ γ) (R : Rel γ) : Prop :=
  ∀ B σ S H b x vs Q, Hold E B Γ b σ S H → All2 (fun (p : Pr) v => p.p S v) (A x) vs → aft G E W B Γ σ S R Q (f x b) → r vs H Q
theorem tz_op1 {e : TE → TE} {t : TE} {r : V → Hp → VK → Prop} {Ra : Rel α} {f : α → M τ γ} {R : Rel γ} {ma : M τ α} (h : Op1 G E W Γ r Ra f R) {σ : St} {H : Hp} {Q : VK} (q : tzE G E W Γ (zop1 f ma) R σ H Q) : tzE G E W Γ ma Ra σ H fun v H1 => r v H1 Q := by
  obtain ⟨B, S, b, hh, q⟩ := q
  exact tz_bnd hh q fun x b1 v S1 H1 s1 h1 r1 q1 => h B σ S1 H1 b1 x v Q h1 r1 q1
theorem tz_op2 {r : R2} {Ra : Rel α} {Rb : Rel β} {f : α → β → M τ γ} {R : Rel γ} {ma : M τ α} {mb : M τ β} (h : Op2 G E W Γ r Ra Rb f R) {σ : St} {H : Hp} {Q : VK} (q : tzE G E W Γ (zop2 f ma mb) R σ H Q) :
    tzE G E W Γ ma Ra σ H fun v H1 => tzE G E W Γ mb Rb σ H1 fun w H2 => r v w H2 Q := by
  obtain ⟨B, S, b, hh, q⟩ := q
  refine tz_bnd hh q fun x b1 v S1 H1 s1 h1 r1 q1 => ?_
  exact tz_bnd h1 q1 fun y b2 w S2 H2 s2 h2 r2 q2 => h B σ S2 H2 b2 x y v w Q h2 (Ra.mono s2 r1) r2 q2
theorem z_bin {op : Operator} {r : R2} {Ra : Rel α} {Rb : Rel β} {f : α → β → M τ γ} {R : Rel γ} {ma : M τ α} {mb : M τ β} {ea eb : Expr} {pos : Pos} (ho : ∀ X, CtxOk G c W X → OpR X (binaryOp op) r) (h : Op2 G E W Γ r Ra Rb f R)
    (ha : ZE G c E W Γ ea ma Ra) (hb : ZE G c E W Γ eb mb Rb) : ZE G c E W Γ (.BinOp ea op eb pos) (zop2 f ma mb) R := fun X C => pe_wk (pe_op (ho X C) (ha X C) (hb X C)) fun _ _ _ _ q => tz_op2 h q
theorem z_una {op : UnaryOp} {r : V → Hp → VK → Prop} {Ra : Rel α} {f : α → M τ γ} {R : Rel γ} {ma : M τ α} {ea : Expr} {pos : Pos} (ho : ∀ X, CtxOk G c W X → UnR X (unaryOp op) r) (h : Op1 G E W Γ r Ra f R)
    (ha : ZE G c E W Γ ea ma Ra) : ZE G c E W Γ (.UnaryOp op ea pos) (zop1 f ma) R := fun X C => pe_wk (pe_un (ho X C) (ha X C)) fun _ _ _ _ q => tz_op1 (e := id) (t := fun _ _ _ => True) h q
theorem z_cmp {op : CmpOp} {r : R2} {Ra : Rel α} {Rb : Rel β} {f : α → β → M τ Bool} {ma : M τ α} {mb : M τ β} {ea eb : Expr} {pos : Pos} (ho : ∀ X, CtxOk G c W X → OpR X (compareOp op) r) (h : Op2 G E W Γ r Ra Rb f rBl)
    (ha : ZE G c E W Γ ea ma Ra) (hb : ZE G c E W Γ eb mb Rb) (hm : behindInMarks op eb = false) : ZE G c E W Γ (.Compare ea [op] [eb] pos) (zop2 f ma mb) rBl := fun X C => pe_wk (pe_cmpR (ho X C) (ha X C) (hb X C) hm) fun _ _ _ _ q => tz_op2 h q
/-- a value's test: from what is wanted of a Bool to what is wanted of a value -/
theorem aft_T {B : Bs} {σ : St} {S : Hp} {Q : Bool → Hp → Prop} : ∀ {o : Out τ Bool}, aftT G E W B Γ σ S Q o → aft G E W B Γ σ S rBl (fun v H => ∃ k, v = .bl k ∧ Q k H) o
  | .ok a _, h => fun v S' H' s hh r => ⟨a, r, h S' H' s hh⟩
  | .exc _ _, h => h
  | .stuck, h => h
theorem zt_cmp {op : CmpOp} {r : R2} {Ra : Rel α} {Rb : Rel β} {f : α → β → M τ Bool} {ma : M τ α} {mb : M τ β} {ea eb : Expr} {pos : Pos} (ho : ∀ X, CtxOk G c W X → OpR X (compareOp op) r) (h : Op2 G E W Γ r Ra Rb f rBl)
    (ha : ZE G c E W Γ ea ma Ra) (hb : ZE G c E W Γ eb mb Rb) (hm : behindInMarks op eb = false) : ZT G c E W Γ (.Compare ea [op] [eb] pos) (zop2 f ma mb) := fun X C =>
  pt_wk (pt_cmpR (ho X C) (ha X C) (hb X C) hm) fun _ _ _ _ ⟨B, S, b, hh, q⟩ => tz_op2 h ⟨B, S, b, hh, aft_T q⟩
/-- an expression that gives a truth, as a test -/
theorem zt_val {e : Expr} {m : M τ Bool} (h : ZE G c E W Γ e m rBl) (he : ∀ (env : PySem.Env) whole, isTrue e env whole = (do let v ← whole; standAt e.pos; holding [v] (truthy v)) := by intro _ _; rfl) : ZT G c E W Γ e m := fun X C =>
  pt_wk (pt_val (h X C) (he X.env)) fun _ _ _ _ ⟨B, S, b, hh, q⟩ => ⟨B, S, b, hh, aft_T q⟩
def znot (m : M τ Bool) : M τ Bool := bnd m fun x => ret (!x)
def zand (m n : M τ Bool) : M τ Bool := bnd m fun x => if x = true then n else ret false
def zor (m n : M τ Bool) : M τ Bool := bnd m fun x => if x = true then ret true else n
theorem zt_not {e : Expr} {m : M τ Bool} {pos : Pos} (h : ZT G c E W Γ e m) : ZT G c E W Γ (.UnaryOp .Not e pos) (znot m) := fun X C => pt_wk (pt_not (h X C)) fun _ _ _ _ ⟨B, S, b, hh, q⟩ => by
  refine tz_TbndT hh q fun x b1 S1 H1 s1 h1 q1 => ?_
  exact q1 S1 H1 (Same.refl _) h1
theorem z_not {e : Expr} {m : M τ Bool} {pos : Pos} (h : ZE G c E W Γ e m rBl) : ZE G c E W Γ (.UnaryOp .Not e pos) (znot m) rBl := fun X C => pe_wk (pe_not (h X C)) fun _ _ _ _ ⟨B, S, b, hh, q⟩ => by
  refine tz_bnd hh q fun x b1 v S1 H1 s1 h1 r1 q1 => ?_
  exact ⟨x, r1, q1 _ S1 H1 (Same.refl _) h1 rfl⟩
/-- a test whatever its 'whole' is -/
def ZW (G : Gx) (c : Sc) (E : Eff τ) (W : WX) (Γ : Env) (e : Expr) (m : M τ Bool) : Prop := ∀ X, CtxOk G c W X → PW X e (tzT G E W Γ m)
theorem pw_wk {X : Cx} {e : Expr} {t t' : TT} (h : PW X e t) (w : ∀ σ H Q, t' σ H Q → t σ H Q) : PW X e t' := ⟨fun wh pins s σ H Q I q => h.run wh pins s σ H Q I (w σ H Q q)⟩
theorem zw_t {e : Expr} {m : M τ Bool} (h : ZW G c E W Γ e m) : ZT G c E W Γ e m := fun X C => (h X C).pt
theorem zw_and1 {e : Expr} {m : M τ Bool} {pos : Pos} (h : ZT G c E W Γ e m) : ZW G c E W Γ (.BoolOp .And [e] pos) m := fun X C => pw_and1 (h X C)
theorem zw_or1 {e : Expr} {m : M τ Bool} {pos : Pos} (h : ZT G c E W Γ e m) : ZW G c E W Γ (.BoolOp .Or [e] pos) m := fun X C => pw_or1 (h X C)
theorem zw_and {a d : Expr} {rest : List Expr} {m n : M τ Bool} {pos : Pos} (h : ZT G c E W Γ a m) (h2 : ZW G c E W Γ (.BoolOp .And (d :: rest) pos) n) : ZW G c E W Γ (.BoolOp .And (a :: d :: rest) pos) (zand m n) := fun X C =>
  pw_wk (pw_and (h X C) (h2 X C)) fun _ _ _ ⟨B, S, b, hh, q⟩ => by
    refine tz_TbndT hh q fun x b1 S1 H1 s1 h1 q1 => ?_
    cases x with
    | true => exact ⟨B, S1, b1, h1, q1⟩
    | false => exact q1 S1 H1 (Same.refl _) h1
theorem zw_or {a d : Expr} {rest : List Expr} {m n : M τ Bool} {pos : Pos} (h : ZT G c E W Γ a m) (h2 : ZW G c E W Γ (.BoolOp .Or (d :: rest) pos) n) : ZW G c E W Γ (.BoolOp .Or (a :: d :: rest) pos) (zor m n) := fun X C =>
  pw_wk (pw_or (h X C) (h2 X C)) fun _ _ _ ⟨B, S, b, hh, q⟩ => by
    refine tz_TbndT hh q fun x b1 S1 H1 s1 h1 q1 => ?_
    cases x with
    | true => exact q1 S1 H1 (Same.refl _) h1
    | false => exact ⟨B, S1, b1, h1, q1⟩
theorem z_one {op : BoolOp} {e : Expr} {m : M τ Bool} {pos : Pos} (h : ZE G c E W Γ e m rBl) : ZE G c E W Γ (.BoolOp op [e] pos) m rBl := fun X C => pe_one (h X C)
theorem z_and {a d : Expr} {rest : List Expr} {m n : M τ Bool} {pos : Pos} (h : ZE G c E W Γ a m rBl) (h2 : ZE G c E W Γ (.BoolOp .And (d :: rest) pos) n rBl) : ZE G c E W Γ (.BoolOp .And (a :: d :: rest) pos) (zand m n) rBl := fun X C =>
  pe_wk (pe_and (h X C) (h2 X C)) fun _ _ _ _ ⟨B, S, b, hh, q⟩ => by
    refine tz_bnd hh q fun x b1 v S1 H1 s1 h1 r1 q1 => ⟨x, r1, ?_⟩
    cases x with
    | true => exact ⟨B, S1, b1, h1, q1⟩
    | false => exact q1 _ S1 H1 (Same.refl _) h1 rfl
def zif (m : M τ Bool) (n o : M τ α) : M τ α := bnd m fun x => if x = true then n else o
/-! ### the operators on whole numbers -/
def iadd (x y : Int) : M τ Int := ret (x + y)
def isub (x y : Int) : M τ Int := ret (x - y)
def mulOk (x y : Int) : Prop := CMulW x y ∨ CMul x y
noncomputable instance {x y : Int} : Decidable (mulOk x y) := Classical.propDecidable _
noncomputable def imul (x y : Int) : M τ Int := chk (mulOk x y) (ret (x * y))
def divOk (x y : Int) : Prop := CDivW x y
noncomputable instance {x y : Int} : Decidable (divOk x y) := Classical.propDecidable _
noncomputable def idiv (x y : Int) : M τ Int := chk (divOk x y) (ret (x / y))
def imod (x y : Int) : M τ Int := chk (0 < y) (ret (x % y))
def powOk (x y : Int) : Prop := CPow x y
noncomputable instance {x y : Int} : Decidable (powOk x y) := Classical.propDecidable _
noncomputable def ipow (x y : Int) : M τ Int := chk (powOk x y) (ret (x ^ y.toNat))
def ineg (x : Int) : M τ Int := ret (-x)
def ilt (x y : Int) : M τ Bool := ret (decide (x < y))
def ile (x y : Int) : M τ Bool := ret (decide (x ≤ y))
def igt (x y : Int) : M τ Bool := ret (decide (y < x))
def ige (x y : Int) : M τ Bool := ret (decide (y ≤ x))
def feq [DecidableEq α] (x y : α) : M τ Bool := ret (decide (x = y))
def fne [DecidableEq α] (x y : α) : M τ Bool := ret (!decide (x = y))
theorem aft_ret {R : Rel α} {Q : VK} {a : α} (hh : Hold E B Γ b σ S H) (h : aft G E W B Γ σ S R Q (ret a b)) {v : V} (r : R.is a S v) : Q v H := h v S H (Same.refl _) hh r
theorem aft_chk {R : Rel α} {Q : VK} {p : Prop} [Decidable p] {m : M τ α} (h : aft G E W B Γ σ S R Q (chk p m b)) : p ∧ aft G E W B Γ σ S R Q (m b) := by
  unfold chk at h
  by_cases hp : p
  · rw [if_pos hp] at h; exact ⟨hp, h⟩
  · rw [if_neg hp] at h; exact h.elim
theorem opI2 {g : Int → Int → Int} : Op2 G E W Γ (rI0 fun i j => .int (g i j)) rInt rInt (fun x y => ret (g x y)) rInt := fun B σ S H b x y v w Q hh hx hy q => ⟨x, y, hx, hy, aft_ret hh q rfl⟩
theorem opB2 {g : Int → Int → Bool} : Op2 G E W Γ (rI0 fun i j => .bl (g i j)) rInt rInt (fun x y => ret (g x y)) rBl := fun B σ S H b x y v w Q hh hx hy q => ⟨x, y, hx, hy, aft_ret hh q rfl⟩
theorem opC2 {P : Int → Int → Prop} [∀ x y, Decidable (P x y)] {g : Int → Int → Int} : Op2 G E W Γ (rI P fun i j => .int (g i j)) rInt rInt (fun x y => chk (P x y) (ret (g x y))) rInt := fun B σ S H b x y v w Q hh hx hy q =>
  let ⟨p, q⟩ := aft_chk q
  ⟨x, y, hx, hy, p, aft_ret hh q rfl⟩
theorem op_mulA {X : Cx} : OpR X (binaryOp .Mult) (rI mulOk fun i j => .int (i * j)) := fun pins s σ H x y v u Q I rx ry ⟨i, j, e1, e2, hc, q⟩ => by
  rcases hc with hc | hc
  · exact op_mulW pins s σ H x y v u Q I rx ry ⟨i, j, e1, e2, hc, q⟩
  · exact op_mul pins s σ H x y v u Q I rx ry ⟨i, j, e1, e2, hc, q⟩
section
variable {ea eb : Expr} {pos : Pos} {ma mb : M τ Int}
theorem z_add (ha : ZE G c E W Γ ea ma rInt) (hb : ZE G c E W Γ eb mb rInt) : ZE G c E W Γ (.BinOp ea .Add eb pos) (zop2 iadd ma mb) rInt := z_bin (fun _ _ => op_add) opI2 ha hb
theorem z_sub (ha : ZE G c E W Γ ea ma rInt) (hb : ZE G c E W Γ eb mb rInt) : ZE G c E W Γ (.BinOp ea .Sub eb pos) (zop2 isub ma mb) rInt := z_bin (fun _ _ => op_sub) opI2 ha hb
theorem z_mul (ha : ZE G c E W Γ ea ma rInt) (hb : ZE G c E W Γ eb mb rInt) : ZE G c E W Γ (.BinOp ea .Mult eb pos) (zop2 imul ma mb) rInt := z_bin (fun _ _ => op_mulA) opC2 ha hb
theorem z_div (ha : ZE G c E W Γ ea ma rInt) (hb : ZE G c E W Γ eb mb rInt) : ZE G c E W Γ (.BinOp ea .FloorDiv eb pos) (zop2 idiv ma mb) rInt := z_bin (r := rI divOk fun i j => .int (i / j)) (fun _ _ => op_fdivW) opC2 ha hb
theorem z_mod (ha : ZE G c E W Γ ea ma rInt) (hb : ZE G c E W Γ eb mb rInt) : ZE G c E W Γ (.BinOp ea .Mod eb pos) (zop2 imod ma mb) rInt := z_bin (fun _ _ => op_mod) opC2 ha hb
theorem z_pow (ha : ZE G c E W Γ ea ma rInt) (hb : ZE G c E W Γ eb mb rInt) : ZE G c E W Γ (.BinOp ea .Pow eb pos) (zop2 ipow ma mb) rInt := z_bin (r := rI powOk fun i j => .int (i ^ j.toNat)) (fun _ _ => op_pow) opC2 ha hb
theorem z_neg (ha : ZE G c E W Γ ea ma rInt) : ZE G c E W Γ (.UnaryOp .USub ea pos) (zop1 ineg ma) rInt := z_una (fun _ _ => un_neg) (fun B σ S H b x v Q hh hx q => ⟨x, hx, aft_ret hh q rfl⟩) ha
theorem z_lt (ha : ZE G c E W Γ ea ma rInt) (hb : ZE G c E W Γ eb mb rInt) : ZE G c E W Γ (.Compare ea [.Lt] [eb] pos) (zop2 ilt ma mb) rBl := z_cmp (fun _ _ => op_lt) opB2 ha hb (nomark _)
theorem zt_lt (ha : ZE G c E W Γ ea ma rInt) (hb : ZE G c E W Γ eb mb rInt) : ZT G c E W Γ (.Compare ea [.Lt] [eb] pos) (zop2 ilt ma mb) := zt_cmp (fun _ _ => op_lt) opB2 ha hb (nomark _)
theorem zt_gt (ha : ZE G c E W Γ ea ma rInt) (hb : ZE G c E W Γ eb mb rInt) : ZT G c E W Γ (.Compare ea [.Gt] [eb] pos) (zop2 igt ma mb) := zt_cmp (fun _ _ => op_gt) opB2 ha hb (nomark _)
theorem zt_ge (ha : ZE G c E W Γ ea ma rInt) (hb : ZE G c E W Γ eb mb rInt) : ZT G c E W Γ (.Compare ea [.GtE] [eb] pos) (zop2 ige ma mb) := zt_cmp (fun _ _ => op_ge) opB2 ha hb (nomark _)
end
/-- a < b < c and its like -/
def zchain (f : α → β → M τ Bool) (g : β → γ → M τ Bool) (ma : M τ α) (mb : M τ β) (mc : M τ γ) : M τ Bool := bnd ma fun x => bnd mb fun y => bnd (f x y) fun k => if k = true then bnd mc fun z => g y z else ret false
theorem tz_chain {Ra : Rel α} {Rb : Rel β} {Rc : Rel γ} {f : α → β → M τ Bool} {g : β → γ → M τ Bool} {r r' : R2} {ma : M τ α} {mb : M τ β} {mc : M τ γ} (h : Op2 G E W Γ r Ra Rb f rBl) (h' : Op2 G E W Γ r' Rb Rc g rBl)
    {σ : St} {H : Hp} {Q : VK} (q : tzE G E W Γ (zchain f g ma mb mc) rBl σ H Q) : tChain r r' (tzE G E W Γ ma Ra) (tzE G E W Γ mb Rb) (tzE G E W Γ mc Rc) σ H Q := by
  obtain ⟨B, S, b, hh, q⟩ := q
  refine tz_bnd hh q fun x b1 v S1 H1 s1 h1 r1 q1 => ?_
  refine tz_bnd h1 q1 fun y b2 w S2 H2 s2 h2 r2 q2 => ?_
  refine h B σ S2 H2 b2 x y v w _ h2 (Ra.mono s2 r1) r2 ?_
  unfold bnd at q2
  cases e : f x y b2 with
  | stuck => rw [e] at q2; exact q2.elim
  | exc x b3 => rw [e] at q2; exact q2
  | ok k b3 =>
    rw [e] at q2
    intro v3 S3 H3 s3 h3 r3
    refine ⟨k, r3, ?_⟩
    cases k with
    | false => exact q2 _ S3 H3 s3 h3 rfl
    | true =>
      have q3 : aft G E W B Γ σ S2 rBl Q (bnd mc (fun z => g y z) b3) := q2
      exact tz_bnd h3 (q3.same s3) fun z b4 u S4 H4 s4 h4 r4 q4 => h' B σ S4 H4 b4 y z w u Q h4 (Rb.mono s4 (Rb.mono s3 r2)) r4 q4
theorem z_chain {op op' : CmpOp} {Ra : Rel α} {Rb : Rel β} {Rc : Rel γ} {f : α → β → M τ Bool} {g : β → γ → M τ Bool} {r r' : R2} {ma : M τ α} {mb : M τ β} {mc : M τ γ} {ea eb ec : Expr} {pos : Pos} (ho : ∀ X, CtxOk G c W X → OpR X (compareOp op) r) (ho' : ∀ X, CtxOk G c W X → OpR X (compareOp op') r')
    (h : Op2 G E W Γ r Ra Rb f rBl) (h' : Op2 G E W Γ r' Rb Rc g rBl) (ha : ZE G c E W Γ ea ma Ra) (hb : ZE G c E W Γ eb mb Rb) (hc : ZE G c E W Γ ec mc Rc) (hm : lastMarks [op, op'] [eb, ec] = false) :
    ZE G c E W Γ (.Compare ea [op, op'] [eb, ec] pos) (zchain f g ma mb mc) rBl := fun X C => pe_wk (pe_chain (ho X C) (ho' X C) (ha X C) (hb X C) (hc X C) hm) fun _ _ _ _ q => tz_chain h h' q
theorem zt_chain {op op' : CmpOp} {Ra : Rel α} {Rb : Rel β} {Rc : Rel γ} {f : α → β → M τ Bool} {g : β → γ → M τ Bool} {r r' : R2} {ma : M τ α} {mb : M τ β} {mc : M τ γ} {ea eb ec : Expr} {pos : Pos} (ho : ∀ X, CtxOk G c W X → OpR X (compareOp op) r) (ho' : ∀ X, CtxOk G c W X → OpR X (compareOp op') r')
    (h : Op2 G E W Γ r Ra Rb f rBl) (h' : Op2 G E W Γ r' Rb Rc g rBl) (ha : ZE G c E W Γ ea ma Ra) (hb : ZE G c E W Γ eb mb Rb) (hc : ZE G c E W Γ ec mc Rc) (hm : lastMarks [op, op'] [eb, ec] = false) :
    ZT G c E W Γ (.Compare ea [op, op'] [eb, ec] pos) (zchain f g ma mb mc) := fun X C => pt_wk (pt_chain (ho X C) (ho' X C) (ha X C) (hb X C) (hc X C) hm) fun _ _ _ _ ⟨B, S, b, hh, q⟩ => tz_chain h h' ⟨B, S, b, hh, aft_T q⟩
/-- the order of two whole numbers, for chains -/
structure CmpI (G : Gx) (E : Eff τ) (W : WX) (Γ : Env) (op : CmpOp) (f : Int → Int → M τ Bool) (r : R2) : Prop where
  o : ∀ X, OpR X (compareOp op) r
  h : Op2 G E W Γ r rInt rInt f rBl
theorem ci_lt : CmpI G E W Γ .Lt ilt (rI0 fun i j => .bl (decide (i < j))) := ⟨fun _ => op_lt, opB2⟩
theorem ci_le : CmpI G E W Γ .LtE ile (rI0 fun i j => .bl (decide (i ≤ j))) := ⟨fun _ => op_le, opB2⟩
theorem z_chI {op op' : CmpOp} {f g : Int → Int → M τ Bool} {r r' : R2} {ma mb mc : M τ Int} {ea eb ec : Expr} {pos : Pos} (h : CmpI G E W Γ op f r) (h' : CmpI G E W Γ op' g r') (ha : ZE G c E W Γ ea ma rInt) (hb : ZE G c E W Γ eb mb rInt) (hc : ZE G c E W Γ ec mc rInt) (hm : lastMarks [op, op'] [eb, ec] = false := by with_unfolding_all rfl) :
    ZE G c E W Γ (.Compare ea [op, op'] [eb, ec] pos) (zchain f g ma mb mc) rBl := z_chain (fun X _ => h.o X) (fun X _ => h'.o X) h.h h'.h ha hb hc hm
theorem zt_chI {op op' : CmpOp} {f g : Int → Int → M τ Bool} {r r' : R2} {ma mb mc : M τ Int} {ea eb ec : Expr} {pos : Pos} (h : CmpI G E W Γ op f r) (h' : CmpI G E W Γ op' g r') (ha : ZE G c E W Γ ea ma rInt) (hb : ZE G c E W Γ eb mb rInt) (hc : ZE G c E W Γ ec mc rInt) (hm : lastMarks [op, op'] [eb, ec] = false := by with_unfolding_all rfl) :
    ZT G c E W Γ (.Compare ea [op, op'] [eb, ec] pos) (zchain f g ma mb mc) := zt_chain (fun X _ => h.o X) (fun X _ => h'.o X) h.h h'.h ha hb hc hm

/-! ### argument lists, displays -/
def zpair (m : M τ α) (n : M τ β) : M τ (α × β) := bnd m fun x => bnd n fun y => ret (x, y)
abbrev Star (e : Expr) (es : List Expr) : Prop := ∀ env : PySem.Env, starEach (e :: es) env = (false, eval e env) :: starEach es env
theorem za_one {e : Expr} {m : M τ α} {R : Rel α} (h : ZE G c E W Γ e m R) (hs : Star e [] := by intro _; rfl) : ZA G c E W Γ [e] m (fun x => [R.pr x]) := fun X C =>
  pa_wk (pa_cons (h X C) pa_nil (hs X.env)) fun σ H Q _ ⟨B, S, b, hh, q⟩ => by
    refine ⟨B, S, b, hh, ?_⟩
    cases e : m b with
    | ok a b1 => rw [e] at q; exact fun v S1 H1 s h1 r => q [v] S1 H1 s h1 ⟨r, trivial⟩
    | exc x b1 => rw [e] at q; exact q
    | stuck => rw [e] at q; exact q.elim
theorem za_cons {e : Expr} {es : List Expr} {m : M τ α} {n : M τ β} {R : Rel α} {A : β → List Pr} (h : ZE G c E W Γ e m R) (h2 : ZA G c E W Γ es n A) (hs : Star e es := by intro _; rfl) : ZA G c E W Γ (e :: es) (zpair m n) (fun x => R.pr x.1 :: A x.2) := fun X C =>
  pa_wk (pa_cons (h X C) (h2 X C) (hs X.env)) fun σ H Q _ ⟨B, S, b, hh, q⟩ => by
    refine tz_bndA hh q fun x b1 v S1 H1 s1 h1 r1 q1 => ?_
    refine ⟨B, S1, b1, h1, ?_⟩
    unfold bnd at q1
    cases e : n b1 with
    | ok a b2 => rw [e] at q1; exact fun vs S2 H2 s h2 r => q1 (v :: vs) S2 H2 s h2 ⟨R.mono s r1, r⟩
    | exc x b1 => rw [e] at q1; exact q1
    | stuck => rw [e] at q1; exact q1.elim
/-- a list of things of one kind, one by one -/
def zcons (m : M τ α) (n : M τ (List α)) : M τ (List α) := bnd m fun x => bnd n fun y => ret (x :: y)
abbrev Rel.all (R : Rel α) (xs : List α) : List Pr := xs.map fun x => R.pr x
theorem zl_nil {R : Rel α} : ZA G c E W Γ [] (ret []) R.all := fun X C => pa_wk pa_nil fun _ H _ _ ⟨B, S, b, hh, q⟩ => q [] S H (Same.refl _) hh trivial
theorem zl_cons {e : Expr} {es : List Expr} {m : M τ α} {n : M τ (List α)} {R : Rel α} (h : ZE G c E W Γ e m R) (h2 : ZA G c E W Γ es n R.all) (hs : Star e es := by intro _; rfl) : ZA G c E W Γ (e :: es) (zcons m n) R.all := fun X C =>
  pa_wk (pa_cons (h X C) (h2 X C) (hs X.env)) fun σ H Q _ ⟨B, S, b, hh, q⟩ => by
    refine tz_bndA hh q fun x b1 v S1 H1 s1 h1 r1 q1 => ?_
    refine ⟨B, S1, b1, h1, ?_⟩
    unfold bnd at q1
    cases e : n b1 with
    | ok a b2 => rw [e] at q1; exact fun vs S2 H2 s h2 r => q1 (v :: vs) S2 H2 s h2 ⟨R.mono s r1, r⟩
    | exc x b1 => rw [e] at q1; exact q1
    | stuck => rw [e] at q1; exact q1.elim
theorem all_of {R : Rel α} {S : Hp} : ∀ {xs : List α} {vs : List V}, All2 (fun (p : Pr) v => p.p S v) (R.all xs) vs → All2 (fun x v => R.is x S v) xs vs
  | [], [], _ => trivial
  | _ :: _, _ :: _, ⟨a, b⟩ => ⟨a, all_of b⟩
  | [], _ :: _, h => h.elim
  | _ :: _, [], h => h.elim
/-- what a new stable object is -/
theorem aft_new {R : Rel α} {Q : VK} {a : α} {p : Addr} {o : HO} (hh : Hold E B Γ b σ S H) (h : aft G E W B Γ σ S R Q (ret a b)) (hp : H p = none) (r : R.is a (upd S p o) (.ref p)) : Q (.ref p) (upd H p o) :=
  h _ (upd S p o) _ (same_new (hh.same.free hp)) (hh.new hp) r
def zlist (m : M τ (List α)) : M τ (List α) := bnd m fun xs => chk (xs.length ≤ sizeLine) (ret xs)
theorem All2.rel {R : Rel α} {S S' : Hp} (s : Same S S') {xs : List α} {vs : List V} (h : All2 (fun x v => R.is x S v) xs vs) : All2 (fun x v => R.is x S' v) xs vs := h.imp fun _ _ h => R.mono s h
theorem rLst_new {R : Rel α} {p : Addr} {xs : List α} {vs : List V} (s : S p = none) (h : All2 (fun x v => R.is x S v) xs vs) : (rLst R).is xs (upd S p (.lst vs)) (.ref p) := ⟨p, vs, rfl, upd_same, All2.rel (same_new s) h⟩
theorem rVT_new {R : Rel α} {p : Addr} {xs : List α} {vs : List V} (s : S p = none) (h : All2 (fun x v => R.is x S v) xs vs) : (rVT R).is xs (upd S p (.tup vs)) (.ref p) := ⟨p, vs, rfl, upd_same, All2.rel (same_new s) h⟩
theorem z_list {es : List Expr} {m : M τ (List α)} {R : Rel α} {pos : Pos} (h : ZA G c E W Γ es m R.all) : ZE G c E W Γ (.List es pos) (zlist m) (rLst R) := fun X C => pe_wk (pe_lst (h X C)) fun σ H Q _ ⟨B, S, b, hh, q⟩ => by
  refine tz_Abnd hh q fun x b1 vs S1 H1 s1 h1 r1 q1 => ?_
  obtain ⟨hl, q2⟩ := aft_chk q1
  have r2 := all_of r1
  exact ⟨by rw [← r2.length]; exact hl, fun p hp => aft_new h1 q2 hp (rLst_new (h1.same.free hp) r2)⟩
theorem z_vtup {es : List Expr} {m : M τ (List α)} {R : Rel α} {k} {pos : Pos} (h : ZA G c E W Γ es m R.all) : ZE G c E W Γ (.Tuple es k pos) (zlist m) (rVT R) := fun X C => pe_wk (pe_tup (h X C)) fun σ H Q _ ⟨B, S, b, hh, q⟩ => by
  refine tz_Abnd hh q fun x b1 vs S1 H1 s1 h1 r1 q1 => ?_
  obtain ⟨hl, q2⟩ := aft_chk q1
  have r2 := all_of r1
  exact ⟨by rw [← r2.length]; exact hl, fun p hp => aft_new h1 q2 hp (rVT_new (h1.same.free hp) r2)⟩
/-! ### calls of what is built in -/
def zapp (f : α → M τ γ) (m : M τ α) : M τ γ := bnd m f
structure Blt (G : Gx) (c : Sc) (x : Str) (u : Value) : Prop where
  g : Gb c x
  m : G.mg x = none
  v : bootBuiltins x = some u
  n : x ≠ "__name__"
  d : (x == ("__debug__" : Str)) = false
theorem z_callB {x : Str} {id : String} {e : Expr} {es : List Expr} {r : List V → Hp → VK → Prop} {A : α → List Pr} {f : α → M τ γ} {R : Rel γ} {m : M τ α} {p pos : Pos} (bl : Blt G c x (.builtin id)) (hc : ∀ X, CtxOk G c W X → CallR X (.builtin id) r) (h : OpA G E W Γ r A f R)
    (ha : ZA G c E W Γ (e :: es) m A) (he : Star e es := by intro _; rfl) (hpl : ∀ env : PySem.Env, (backTo pos (starEach es env)).any (·.1) = false := by intro _; rfl) : ZE G c E W Γ (.Call (.Name x p) (e :: es) [] pos) (zapp f m) R := fun X C =>
  pe_wk (pe_callB (hc X C) (C.gl bl.g) (by rw [C.mg]; exact bl.m) bl.v (ha X C) bl.n bl.d (he X.env) (hpl X.env)) fun σ H Q _ ⟨B, S, b, hh, q⟩ =>
    tz_Abnd hh q fun x b1 vs S1 H1 s1 h1 r1 q1 => h B σ S1 H1 b1 x vs Q h1 r1 q1
theorem z_callTy {x : Str} {T : String} {e : Expr} {es : List Expr} {r : List V → Hp → VK → Prop} {A : α → List Pr} {f : α → M τ γ} {R : Rel γ} {m : M τ α} {p pos : Pos} (bl : Blt G c x (.type T)) (hc : ∀ X, CtxOk G c W X → CallR X (.type T) r) (h : OpA G E W Γ r A f R)
    (ha : ZA G c E W Γ (e :: es) m A) (he : Star e es := by intro _; rfl) (hpl : ∀ env : PySem.Env, (backTo pos (starEach es env)).any (·.1) = false := by intro _; rfl) : ZE G c E W Γ (.Call (.Name x p) (e :: es) [] pos) (zapp f m) R := fun X C =>
  pe_wk (pe_callTy (hc X C) (C.gl bl.g) (by rw [C.mg]; exact bl.m) bl.v (ha X C) bl.n bl.d (he X.env) (hpl X.env)) fun σ H Q _ ⟨B, S, b, hh, q⟩ =>
    tz_Abnd hh q fun x b1 vs S1 H1 s1 h1 r1 q1 => h B σ S1 H1 b1 x vs Q h1 r1 q1
end
end Zk

namespace Zk
open PySem L2

section
variable {τ α β γ δ : Type} {G : Gx} {c : Sc} {E : Eff τ} {W : WX} {Γ : Env} {B : Bs} {σ : St} {S S1 H : Hp} {b : τ}
/-! ### data at any depth -/
structure DatR (R : Rel α) where
  d : α → PyData
  n : Nat
  dep : ∀ x, (d x).depth ≤ n
  dp : ∀ {K : PySem.W.Frag} {x : α} {S H : Hp} {v : V}, Same S H → R.is x S v → Dp K H v (d x)
  eq : ∀ x y, PyData.eqv (d x) (d y) = true ↔ x = y
def datB : DatR rBl := ⟨.bool, 0, fun _ => by simp [PyData.depth], fun _ h => by cases h; exact .bl _, fun x y => by simp [PyData.eqv]⟩
def datS : DatR rStr := ⟨.str, 0, fun _ => by simp [PyData.depth], fun _ h => by cases h; exact .str _, fun x y => by simp [PyData.eqv]⟩
theorem dpAll {R : Rel α} (D : DatR R) {K : PySem.W.Frag} {S H : Hp} (s : Same S H) : ∀ {xs : List α} {vs : List V}, All2 (fun x v => R.is x S v) xs vs → DpAll K H vs (xs.map D.d)
  | [], [], _ => .nil
  | _ :: _, _ :: _, ⟨a, b⟩ => .cons (D.dp s a) (dpAll D s b)
  | [], _ :: _, h => h.elim
  | _ :: _, [], h => h.elim
theorem depAll {R : Rel α} (D : DatR R) : ∀ xs : List α, PyData.depthAll (xs.map D.d) ≤ D.n
  | [] => by simp [PyData.depthAll]
  | x :: xs => by
    have := depAll D xs
    have := D.dep x
    simp only [List.map_cons, PyData.depthAll]; omega
theorem eqAll {R : Rel α} (D : DatR R) : ∀ xs ys : List α, PyData.eqvAll (xs.map D.d) (ys.map D.d) = true ↔ xs = ys
  | [], [] => by simp [PyData.eqvAll]
  | [], _ :: _ => by simp [PyData.eqvAll]
  | _ :: _, [] => by simp [PyData.eqvAll]
  | x :: xs, y :: ys => by simp [PyData.eqvAll, D.eq, eqAll D xs ys]
def datL {R : Rel α} (D : DatR R) : DatR (rLst R) := ⟨fun xs => .list (xs.map D.d), D.n + 1, fun xs => by have := depAll D xs; simp only [PyData.depth]; omega, fun s ⟨a, vs, e, h, q⟩ => by cases e; exact .lst (.of (s _ _ h)) (dpAll D s q), fun x y => by simp [PyData.eqv, eqAll D]⟩
def deqOk {R : Rel α} (D : DatR R) (x y : α) : Prop := (D.d x).canLay0 = true ∧ (D.d y).canLay0 = true ∧ D.n ≤ 64
instance {R : Rel α} {D : DatR R} {x y : α} : Decidable (deqOk D x y) := inferInstanceAs (Decidable (_ ∧ _ ∧ _))
def deq {R : Rel α} (D : DatR R) [DecidableEq α] (x y : α) : M τ Bool := chk (deqOk D x y) (ret (decide (x = y)))
def dne {R : Rel α} (D : DatR R) [DecidableEq α] (x y : α) : M τ Bool := chk (deqOk D x y) (ret (!decide (x = y)))
theorem deq_sh {R : Rel α} {D : DatR R} {x : α} (h : (D.d x).canLay0 = true) (n : D.n ≤ 64) : SeqAt.shaped (D.d x) = true := by
  unfold SeqAt.shaped
  have := D.dep x
  simp only [h, Bool.true_and, decide_eq_true_eq]; omega
theorem deq_ev {R : Rel α} {D : DatR R} [DecidableEq α] (x y : α) : PyData.eqv (D.d x) (D.d y) = decide (x = y) := by
  by_cases e : x = y
  · rw [decide_eq_true e]; exact (D.eq x y).mpr e
  · rw [decide_eq_false e]
    cases q : PyData.eqv (D.d x) (D.d y) with
    | false => rfl
    | true => exact absurd ((D.eq x y).mp q) e
theorem op_deq {R : Rel α} {D : DatR R} [DecidableEq α] : Op2 G E W Γ (rEqD G.K) R R (deq D) rBl := fun B σ S H b x y v w Q hh hx hy q => by
  obtain ⟨⟨h1, h2, h3⟩, q⟩ := aft_chk q
  exact ⟨_, _, D.dp hh.same hx, D.dp hh.same hy, deq_sh h1 h3, deq_sh h2 h3, by rw [deq_ev]; exact aft_ret hh q rfl⟩
theorem op_dne {R : Rel α} {D : DatR R} [DecidableEq α] : Op2 G E W Γ (rNeD G.K) R R (dne D) rBl := fun B σ S H b x y v w Q hh hx hy q => by
  obtain ⟨⟨h1, h2, h3⟩, q⟩ := aft_chk q
  exact ⟨_, _, D.dp hh.same hx, D.dp hh.same hy, deq_sh h1 h3, deq_sh h2 h3, by rw [deq_ev]; exact aft_ret hh q rfl⟩
section
variable {ea eb : Expr} {pos : Pos}
theorem z_deq {R : Rel α} (D : DatR R) [DecidableEq α] {ma mb : M τ α} (ha : ZE G c E W Γ ea ma R) (hb : ZE G c E W Γ eb mb R) : ZE G c E W Γ (.Compare ea [.Eq] [eb] pos) (zop2 (deq D) ma mb) rBl := z_cmp (fun X C => by rw [← C.K]; exact op_eqD C.room.units) op_deq ha hb (nomark _)
theorem zt_dne {R : Rel α} (D : DatR R) [DecidableEq α] {ma mb : M τ α} (ha : ZE G c E W Γ ea ma R) (hb : ZE G c E W Γ eb mb R) : ZT G c E W Γ (.Compare ea [.NotEq] [eb] pos) (zop2 (dne D) ma mb) := zt_cmp (fun X C => by rw [← C.K]; exact op_neD C.room.units) op_dne ha hb (nomark _)
/-! scalars: no condition -/
structure ScalR (R : Rel α) (f : α → V) : Prop where
  is : ∀ {x : α} {S : Hp} {v : V}, R.is x S v → v = f x
  sc : ∀ x y, scal (f x) (f y) = true
  inj : ∀ x y, f x = f y ↔ x = y
theorem scI : ScalR rInt V.int := ⟨fun h => h, fun _ _ => rfl, fun x y => by simp⟩
theorem scS : ScalR rStr V.str := ⟨fun h => h, fun _ _ => rfl, fun x y => by simp⟩
theorem op_seq {R : Rel α} {f : α → V} (D : ScalR R f) [DecidableEq α] : Op2 G E W Γ rEq R R feq rBl := fun B σ S H b x y v w Q hh hx hy q => by
  refine ⟨by rw [D.is hx, D.is hy]; exact D.sc x y, ?_⟩
  have e : decide (v = w) = decide (x = y) := by rw [D.is hx, D.is hy]; exact decide_eq_decide.mpr (D.inj x y)
  rw [e]; exact aft_ret hh q rfl
theorem op_sne {R : Rel α} {f : α → V} (D : ScalR R f) [DecidableEq α] : Op2 G E W Γ rNe R R fne rBl := fun B σ S H b x y v w Q hh hx hy q => by
  refine ⟨by rw [D.is hx, D.is hy]; exact D.sc x y, ?_⟩
  have e : decide (v = w) = decide (x = y) := by rw [D.is hx, D.is hy]; exact decide_eq_decide.mpr (D.inj x y)
  rw [e]; exact aft_ret hh q rfl
theorem z_eq {R : Rel α} {f : α → V} (D : ScalR R f) [DecidableEq α] {ma mb : M τ α} (ha : ZE G c E W Γ ea ma R) (hb : ZE G c E W Γ eb mb R) : ZE G c E W Γ (.Compare ea [.Eq] [eb] pos) (zop2 feq ma mb) rBl := z_cmp (fun X C => op_eq) (op_seq D) ha hb (nomark _)
theorem zt_eq {R : Rel α} {f : α → V} (D : ScalR R f) [DecidableEq α] {ma mb : M τ α} (ha : ZE G c E W Γ ea ma R) (hb : ZE G c E W Γ eb mb R) : ZT G c E W Γ (.Compare ea [.Eq] [eb] pos) (zop2 feq ma mb) := zt_cmp (fun X C => op_eq) (op_seq D) ha hb (nomark _)
theorem zt_ne {R : Rel α} {f : α → V} (D : ScalR R f) [DecidableEq α] {ma mb : M τ α} (ha : ZE G c E W Γ ea ma R) (hb : ZE G c E W Γ eb mb R) : ZT G c E W Γ (.Compare ea [.NotEq] [eb] pos) (zop2 fne ma mb) := zt_cmp (fun X C => op_ne) (op_sne D) ha hb (nomark _)
end

/-! ### items -/
def ixat (xs : List α) (i : Int) : M τ α := match atI xs i with | some v => ret v | none => stk
theorem All2.atI {r : α → V → Prop} {xs : List α} {vs : List V} {i : Int} {x : α} (h : All2 r xs vs) (e : L2.atI xs i = some x) : ∃ v, L2.atI vs i = some v ∧ r x v := by
  unfold L2.atI at e ⊢
  rw [← h.length]
  cases q : ixN xs.length i with
  | none => rw [q] at e; cases e
  | some j => rw [q] at e; exact h.get e
theorem op_ixL {R : Rel α} : Op2 G E W Γ (rIxL G.K) (rLst R) rInt ixat R := fun B σ S H b xs i v w Q hh ⟨a, vs, e1, e2, e3⟩ e4 q => by
  unfold ixat at q
  cases z : atI xs i with
  | none => rw [z] at q; exact q.elim
  | some x =>
    rw [z] at q
    obtain ⟨u, h1, h2⟩ := e3.atI z
    exact ⟨a, vs, i, u, e1, e4, .of (hh.same _ _ e2), h1, aft_ret hh q h2⟩
abbrev PIx (e : Expr) : Prop := ∀ o i, subscripted e false o i = operate [o, i] (getItem o i)
theorem z_ixL {ea eb : Expr} {pos : Pos} {R : Rel α} {ma : M τ (List α)} {mb : M τ Int} (ha : ZE G c E W Γ ea ma (rLst R)) (hb : ZE G c E W Γ eb mb rInt) (hs : PIx eb := by intro _ _; rfl) : ZE G c E W Γ (.Subscript ea eb pos) (zop2 ixat ma mb) R := fun X C =>
  pe_wk (pe_ix ix_list (ha X C) (hb X C) hs) fun _ _ _ _ q => by rw [C.K]; exact tz_op2 op_ixL q
/-- a written place of a tuple of things of several kinds -/
structure TupAt (R : Rel α) (k : Int) (f : α → β) (R2 : Rel β) : Prop where
  h : ∀ {x : α} {S : Hp} {v : V}, R.is x S v → ∃ a vs u, v = .ref a ∧ S a = some (.tup vs) ∧ atI vs k = some u ∧ R2.is (f x) S u
def zget (f : α → β) (m : M τ α) : M τ β := bnd m fun x => ret (f x)
/-! ### built-in functions -/
theorem opA1 {r : List V → Hp → VK → Prop} {R : Rel α} {f : α → M τ γ} {R' : Rel γ} (h : Op1 G E W Γ (fun v H Q => r [v] H Q) R f R') : OpA G E W Γ r (fun x => [R.pr x]) f R' := fun B σ S H b x vs Q hh hv q => by
  match vs, hv with
  | [v], ⟨h1, _⟩ => exact h B σ S H b x v Q hh h1 q
section
variable {e e2 : Expr} {p pos : Pos} {x : Str}
theorem z_b1 {id : String} {r : List V → Hp → VK → Prop} {R : Rel α} {f : α → M τ γ} {R' : Rel γ} {m : M τ α} (bl : Blt G c x (.builtin id)) (hc : ∀ X, CtxOk G c W X → CallR X (.builtin id) r) (h : Op1 G E W Γ (fun v H Q => r [v] H Q) R f R')
    (ha : ZE G c E W Γ e m R) (hs : Star e [] := by intro _; rfl) : ZE G c E W Γ (.Call (.Name x p) [e] [] pos) (zapp f m) R' := z_callB bl hc (opA1 h) (za_one ha hs) hs (fun _ => rfl)
theorem z_ty1 {T : String} {r : List V → Hp → VK → Prop} {R : Rel α} {f : α → M τ γ} {R' : Rel γ} {m : M τ α} (bl : Blt G c x (.type T)) (hc : ∀ X, CtxOk G c W X → CallR X (.type T) r) (h : Op1 G E W Γ (fun v H Q => r [v] H Q) R f R')
    (ha : ZE G c E W Γ e m R) (hs : Star e [] := by intro _; rfl) : ZE G c E W Γ (.Call (.Name x p) [e] [] pos) (zapp f m) R' := z_callTy bl hc (opA1 h) (za_one ha hs) hs (fun _ => rfl)
def flen (xs : List α) : M τ Int := ret (xs.length : Int)
theorem z_lenL {R : Rel α} {m : M τ (List α)} (bl : Blt G c x (.builtin "len")) (ha : ZE G c E W Γ e m (rLst R)) (hs : Star e [] := by intro _; rfl) : ZE G c E W Γ (.Call (.Name x p) [e] [] pos) (zapp flen m) rInt :=
  z_b1 bl (R := rLst R) (r := fun xs H Q => ∃ p ys, xs = [.ref p] ∧ (SqL G.K H p ys ∨ SqT G.K H p ys) ∧ Q (.int ys.length) H) (fun X C => by rw [← C.K]; exact call_len_seq) (fun B σ S H b x v Q hh ⟨a, vs, e1, e2, e3⟩ q => ⟨a, vs, by rw [e1], .inl (.of (hh.same _ _ e2)), by rw [← e3.length]; exact aft_ret hh q rfl⟩) ha hs
def flenS (x : Str) : M τ Int := chk (x.length ≤ sizeLine) (ret (x.length : Int))
theorem z_lenS {m : M τ Str} (bl : Blt G c x (.builtin "len")) (ha : ZE G c E W Γ e m rStr) (hs : Star e [] := by intro _; rfl) : ZE G c E W Γ (.Call (.Name x p) [e] [] pos) (zapp flenS m) rInt :=
  z_b1 bl (r := fun xs H Q => ∃ z, xs = [.str z] ∧ z.length ≤ sizeLine ∧ Q (.int z.length) H) (fun X C => call_len_str) (fun B σ S H b x v Q hh h q => by
    obtain ⟨hl, q⟩ := aft_chk q
    cases h; exact ⟨x, rfl, hl, aft_ret hh q rfl⟩) ha hs
def fsum (xs : List Int) : M τ Int := ret xs.sum
def fabs (x : Int) : M τ Int := ret (if x < 0 then -x else x)
theorem z_abs {m : M τ Int} (bl : Blt G c x (.builtin "abs")) (ha : ZE G c E W Γ e m rInt) (hs : Star e [] := by intro _; rfl) : ZE G c E W Γ (.Call (.Name x p) [e] [] pos) (zapp fabs m) rInt :=
  z_b1 bl (fun X C => call_abs) (fun B σ S H b x v Q hh hx q => ⟨x, by rw [hx], aft_ret hh q rfl⟩) ha hs
def fall (xs : List Bool) : M τ Bool := ret (xs.all id)
def fany (xs : List Bool) : M τ Bool := ret (xs.any id)
theorem lst_bls {xs : List Bool} {S H : Hp} {v : V} {K : PySem.W.Frag} (s : Same S H) (h : (rLst rBl).is xs S v) : ∃ a, v = .ref a ∧ SqL K H a (xs.map V.bl) := by
  obtain ⟨a, vs, e1, e2, e3⟩ := h
  have := All2.bls e3
  subst this
  exact ⟨a, e1, .of (s _ _ e2)⟩
theorem z_all {m : M τ (List Bool)} (bl : Blt G c x (.builtin "all")) (ha : ZE G c E W Γ e m (rLst rBl)) (hs : Star e [] := by intro _; rfl) : ZE G c E W Γ (.Call (.Name x p) [e] [] pos) (zapp fall m) rBl :=
  z_b1 bl (r := rAll G.K) (fun X C => by rw [← C.K]; exact cr_all C.calm) (fun B σ S H b x v Q hh h q => by
    obtain ⟨a, e1, e2⟩ := lst_bls hh.same h
    exact ⟨a, x, by rw [e1], e2, aft_ret hh q rfl⟩) ha hs
theorem z_listL {R : Rel α} {m : M τ (List α)} (bl : Blt G c x (.type "list")) (ha : ZE G c E W Γ e m (rLst R)) (hs : Star e [] := by intro _; rfl) : ZE G c E W Γ (.Call (.Name x p) [e] [] pos) (zapp ret m) (rLst R) :=
  z_ty1 bl (R := rLst R) (r := fun xs H Q => ∃ p ys, xs = [.ref p] ∧ (SqL G.K H p ys ∨ SqT G.K H p ys) ∧ ∀ l, H l = none → Q (.ref l) (upd H l (.lst ys))) (fun X C => by rw [← C.K]; exact call_list_of) (fun B σ S H b x v Q hh ⟨a, vs, e1, e2, e3⟩ q => ⟨a, vs, by rw [e1], .inl (.of (hh.same _ _ e2)), fun l hl => aft_new hh q hl (rLst_new (hh.same.free hl) e3)⟩) ha hs
theorem z_tupL {R : Rel α} {m : M τ (List α)} (bl : Blt G c x (.type "tuple")) (ha : ZE G c E W Γ e m (rLst R)) (hs : Star e [] := by intro _; rfl) : ZE G c E W Γ (.Call (.Name x p) [e] [] pos) (zapp ret m) (rVT R) :=
  z_ty1 bl (R := rLst R) (r := fun xs H Q => ∃ p ys, xs = [.ref p] ∧ ((SqL G.K H p ys ∧ ∀ l, H l = none → Q (.ref l) (upd H l (.tup ys))) ∨ (SqT G.K H p ys ∧ Q (.ref p) H))) (fun X C => by rw [← C.K]; exact call_tuple_of) (fun B σ S H b x v Q hh ⟨a, vs, e1, e2, e3⟩ q => ⟨a, vs, by rw [e1], .inl ⟨.of (hh.same _ _ e2), fun l hl => aft_new hh q hl (rVT_new (hh.same.free hl) e3)⟩⟩) ha hs
/-! isinstance, both answers known by the kind -/
structure IsT (G : Gx) (R : Rel α) (t : Value) : Prop where
  h : ∀ {x : α} {S H : Hp} {v : V}, Same S H → R.is x S v → TyX G.K H v t
def zis (k : Bool) (m : M τ α) : M τ Bool := bnd m fun _ => ret k
end

/-! ### lists and tuples put together, cut -/
section
variable {ea eb : Expr} {pos : Pos}
def lcat (xs ys : List α) : M τ (List α) := chk (xs.length + ys.length ≤ sizeLine) (ret (xs ++ ys))
theorem z_catL {R : Rel α} {ma mb : M τ (List α)} (ha : ZE G c E W Γ ea ma (rLst R)) (hb : ZE G c E W Γ eb mb (rLst R)) : ZE G c E W Γ (.BinOp ea .Add eb pos) (zop2 lcat ma mb) (rLst R) :=
  z_bin (Ra := rLst R) (Rb := rLst R) (fun _ _ => op_cat) (fun B σ S H b x y v w Q hh ⟨a, vs, e1, e2, e3⟩ ⟨a', vs', e1', e2', e3'⟩ q => by
    obtain ⟨hl, q⟩ := aft_chk q
    exact ⟨a, a', vs, vs', e1, e1', hh.same _ _ e2, hh.same _ _ e2', by rw [← e3.length, ← e3'.length]; exact hl, fun p hp => aft_new hh q hp (rLst_new (hh.same.free hp) (e3.append e3'))⟩) ha hb
def lrep (xs : List α) (k : Int) : M τ (List α) := chk (-(2 ^ 63) ≤ k ∧ k < 2 ^ 63 ∧ xs.length * k.toNat ≤ sizeLine) (ret (List.replicate k.toNat xs).flatten)
theorem z_repL {R : Rel α} {ma : M τ (List α)} {mb : M τ Int} (ha : ZE G c E W Γ ea ma (rLst R)) (hb : ZE G c E W Γ eb mb rInt) : ZE G c E W Γ (.BinOp ea .Mult eb pos) (zop2 lrep ma mb) (rLst R) :=
  z_bin (Ra := rLst R) (fun _ _ => op_rep) (fun B σ S H b x y v w Q hh ⟨a, vs, e1, e2, e3⟩ hy q => by
    obtain ⟨⟨h1, h2, h3⟩, q⟩ := aft_chk q
    exact ⟨a, y, vs, e1, hy, hh.same _ _ e2, h1, h2, by rw [← e3.length]; exact h3, fun p hp => aft_new hh q hp (rLst_new (hh.same.free hp) (e3.rep _))⟩) ha hb
def scat (x y : Str) : M τ Str := chk (x.length + y.length ≤ sizeLine) (ret (x ++ y))
theorem z_catS {ma mb : M τ Str} (ha : ZE G c E W Γ ea ma rStr) (hb : ZE G c E W Γ eb mb rStr) : ZE G c E W Γ (.BinOp ea .Add eb pos) (zop2 scat ma mb) rStr :=
  z_bin (fun _ _ => op_add_str) (fun B σ S H b x y v w Q hh hx hy q => by
    obtain ⟨hl, q⟩ := aft_chk q
    exact ⟨x, y, hx, hy, hl, aft_ret hh q rfl⟩) ha hb
end
end
end Zk

namespace Zk
open PySem L2

section
variable {τ α β γ δ κ ρ ι : Type} {G : Gx} {c : Sc} {E : Eff τ} {W : WX} {Γ Γ' : Env} {B : Bs} {σ : St} {S S1 H H' : Hp} {b : τ} {L : Ls κ ρ}
theorem aftS.same {Γn : α → Env} {D : Ends} (s : Same S S1) : ∀ {o : Out τ (Fl α κ ρ)}, aftS G E W L B S Γn D o → aftS G E W L B S1 Γn D o
  | .ok (.nx _) _, h => fun σ' S' H' s2 => h σ' S' H' (s.trans s2)
  | .ok (.rt _) _, h => h
  | .ok (.bk _) _, h => fun σ' S' H' s2 => h σ' S' H' (s.trans s2)
  | .ok (.ct _) _, h => fun σ' S' H' s2 => h σ' S' H' (s.trans s2)
  | .exc _ _, h => h
  | .stuck, h => h
/-! ### fewer slots; what was one's own becomes stable -/
/-- what Γ tells Γ' tells too (perhaps more has become stable) -/
def Sub (E : Eff τ) (Γ Γ' : Env) : Prop := ∀ {B : Bs} {b : τ} {σ : St} {S H : Hp}, Hold E B Γ b σ S H → ∃ S', Same S S' ∧ Hold E B Γ' b σ S' H
theorem sub_nil : Sub E Γ [] := fun h => ⟨_, Same.refl _, h.nil⟩
theorem sub_wk (w : ∀ (i : Nat) s, Γ'[i]? = some s → s = .no ∨ Γ[i]? = some s) : Sub E Γ Γ' := fun h => ⟨_, Same.refl _, h.wk w⟩
inductive SubL : Env → Env → Prop
  | nil : SubL [] []
  | keep {s : Sl} {l l' : Env} : SubL l l' → SubL (s :: l) (s :: l')
  | drop {s : Sl} {l l' : Env} : SubL l l' → SubL (s :: l) (.no :: l')
theorem SubL.wk : ∀ {l l' : Env}, SubL l l' → ∀ (i : Nat) s, l'[i]? = some s → s = .no ∨ l[i]? = some s
  | _, _, .nil, _, _, h => by simp at h
  | _, _, .keep h, 0, s, e => .inr e
  | _, _, .keep h, i + 1, s, e => by simpa using SubL.wk h i s (by simpa using e)
  | _, _, .drop h, 0, s, e => by simp at e; exact .inl e.symm
  | _, _, .drop h, i + 1, s, e => by simpa using SubL.wk h i s (by simpa using e)
theorem SubL.sub (h : SubL Γ Γ') : Sub E Γ Γ' := sub_wk h.wk
theorem Sub.trans {Γ'' : Env} (h : Sub E Γ Γ') (h2 : Sub E Γ' Γ'') : Sub E Γ Γ'' := fun x => by
  obtain ⟨S1, s1, h1⟩ := h x
  obtain ⟨S2, s2, h3⟩ := h2 h1
  exact ⟨S2, s1.trans s2, h3⟩

/-! ### blocks -/
def zseq (m : M τ (Fl α κ ρ)) (f : α → M τ (Fl β κ ρ)) : M τ (Fl β κ ρ) := fun s => match m s with
  | .ok (.nx a) s' => f a s'
  | .ok (.rt r) s' => .ok (.rt r) s'
  | .ok (.bk k) s' => .ok (.bk k) s'
  | .ok (.ct k) s' => .ok (.ct k) s'
  | .exc e s' => .exc e s'
  | .stuck => .stuck
def znx (a : α) : M τ (Fl α κ ρ) := ret (.nx a)
theorem zb_nil {Γn : α → Env} {a : α} (h : Sub E Γ (Γn a)) : ZB G c E W L Γ [] (znx a) Γn := fun X C => pss_wk pss_nil fun D σ H _ ⟨B, S, b, hh, q⟩ => by
  obtain ⟨S', s', h'⟩ := h hh
  exact q σ S' H s' h'
theorem zb_cons {st : Stmt} {sts : List Stmt} {m : M τ (Fl α κ ρ)} {f : α → M τ (Fl β κ ρ)} {Γ1 : α → Env} {Γn : β → Env} (h1 : ZS G c E W L Γ st m Γ1) (h2 : ∀ a, ZB G c E W L (Γ1 a) sts (f a) Γn) : ZB G c E W L Γ (st :: sts) (zseq m f) Γn := fun X C =>
  pss_wk (pss_cons (h1 X C) (pss_ex fun a => h2 a X C)) fun D σ H _ ⟨B, S, b, hh, q⟩ => by
    refine ⟨B, S, b, hh, ?_⟩
    unfold zseq at q
    cases e : m b with
    | stuck => rw [e] at q; exact q.elim
    | exc x b1 => rw [e] at q; exact q
    | ok r b1 =>
      rw [e] at q
      cases r with
      | nx a => exact fun σ' S' H' s h => ⟨a, B, S', b1, h, q.same s⟩
      | rt r => exact q
      | bk k => exact q
      | ct k => exact q
/-- the last statement, which hands back or raises on every way, or what it tells is what the block tells -/
theorem zb_one {st : Stmt} {m : M τ (Fl α κ ρ)} {Γn : α → Env} (h1 : ZS G c E W L Γ st m Γn) : ZB G c E W L Γ [st] m Γn := fun X C => pss_wk (pss_one (h1 X C)) fun D σ H _ q => q
theorem zb_wk {st : List Stmt} {m : M τ (Fl α κ ρ)} {Γn : α → Env} (s : Sub E Γ Γ') (h1 : ZB G c E W L Γ' st m Γn) : ZB G c E W L Γ st m Γn := fun X C => pss_wk (h1 X C) fun D σ H _ ⟨B, S, b, hh, q⟩ => by
  obtain ⟨S', s', h'⟩ := s hh
  exact ⟨B, S', b, h', q.same s'⟩
/-- from an expression's reading on into a statement's -/
theorem tzS_bnd {m : M τ α} {f : α → M τ (Fl β κ ρ)} {R : Rel α} {Γn : β → Env} {D : Ends} {Q' : VK} (sx : Sub E Γ L.x) (hh : Hold E B Γ b σ S H) (h : aftS G E W L B S Γn D (bnd m f b))
    (k : ∀ x b1 v S1 H1, Same S S1 → Hold E B Γ b1 σ S1 H1 → R.is x S1 v → aftS G E W L B S1 Γn D (f x b1) → Q' v H1) : tzE G E W Γ m R σ H Q' := by
  refine ⟨B, S, b, hh, ?_⟩
  unfold bnd at h
  cases e : m b with
  | ok a b1 => rw [e] at h; exact fun v S1 H1 s h1 r => k a b1 v S1 H1 s h1 r (h.same s)
  | exc x b1 => rw [e] at h; exact fun c d S1 H1 _ h1 xa => let ⟨S2, _, h2⟩ := sx h1; h c d σ S2 H1 h2 xa
  | stuck => rw [e] at h; exact h.elim
theorem tzS_bndT {m : M τ Bool} {f : Bool → M τ (Fl β κ ρ)} {Γn : β → Env} {D : Ends} {Q' : Bool → Hp → Prop} (sx : Sub E Γ L.x) (hh : Hold E B Γ b σ S H) (h : aftS G E W L B S Γn D (bnd m f b))
    (k : ∀ x b1 S1 H1, Same S S1 → Hold E B Γ b1 σ S1 H1 → aftS G E W L B S1 Γn D (f x b1) → Q' x H1) : tzT G E W Γ m σ H Q' := by
  refine ⟨B, S, b, hh, ?_⟩
  unfold bnd at h
  cases e : m b with
  | ok a b1 => rw [e] at h; exact fun S1 H1 s h1 => k a b1 S1 H1 s h1 (h.same s)
  | exc x b1 => rw [e] at h; exact fun c d S1 H1 _ h1 xa => let ⟨S2, _, h2⟩ := sx h1; h c d σ S2 H1 h2 xa
  | stuck => rw [e] at h; exact h.elim
theorem tzS_bndA {m : M τ α} {f : α → M τ (Fl β κ ρ)} {A : α → List Pr} {Γn : β → Env} {D : Ends} {Q' : List V → Hp → Prop} (sx : Sub E Γ L.x) (hh : Hold E B Γ b σ S H) (h : aftS G E W L B S Γn D (bnd m f b))
    (k : ∀ x b1 v S1 H1, Same S S1 → Hold E B Γ b1 σ S1 H1 → All2 (fun (p : Pr) v => p.p S1 v) (A x) v → aftS G E W L B S1 Γn D (f x b1) → Q' v H1) : tzA G E W Γ m A σ H Q' := by
  refine ⟨B, S, b, hh, ?_⟩
  unfold bnd at h
  cases e : m b with
  | ok a b1 => rw [e] at h; exact fun v S1 H1 s h1 r => k a b1 v S1 H1 s h1 r (h.same s)
  | exc x b1 => rw [e] at h; exact fun c d S1 H1 _ h1 xa => let ⟨S2, _, h2⟩ := sx h1; h c d σ S2 H1 h2 xa
  | stuck => rw [e] at h; exact h.elim

/-! ### small statements -/
structure Ns (c : Sc) (i : Nat) (x : Str) : Prop where
  n : c.N[i]? = some x
  l : Loc c.sc x
  f : c.fx x = true ∨ c.sc.names.lookup x = some .local
abbrev NoSwap (e : Expr) : Prop := ∀ (t : Option Expr) (l : Nat) (env : PySem.Env), swapsWith e t l env = pure false
def zset (m : M τ α) : M τ (Fl α κ ρ) := bnd m fun x => ret (.nx x)
theorem CtxOk.set_hN {X : Cx} (C : CtxOk G c W X) : X.N.Nodup := by rw [C.N]; exact C.nd
theorem CtxOk.lt {X : Cx} {i : Nat} {x : Str} (C : CtxOk G c W X) (n : c.N[i]? = some x) (h : σ.length = X.N.length) : i < σ.length := by
  rw [h, C.N]; exact (List.getElem?_eq_some_iff.mp n).1
theorem CtxOk.hi {X : Cx} {i : Nat} {x : Str} (C : CtxOk G c W X) (n : c.N[i]? = some x) : X.N[i]? = some x := by rw [C.N]; exact n
theorem CtxOk.hf {X : Cx} {i : Nat} {x : Str} (C : CtxOk G c W X) (n : Ns c i x) : X.fn x = true ∨ X.env.scope.names.lookup x = some .local := by rw [C.fx, C.sc]; exact n.f
theorem zs_set {i : Nat} {x : Str} {e : Expr} {m : M τ α} {R : Rel α} {p pos : Pos} (n : Ns c i x) (h : ZE G c E W Γ e m R) (sx : Sub E Γ L.x) (hs : NoSwap e := by intro _ _ _; rfl) : ZS G c E W L Γ (.Assign [.Name x p] e pos) (zset m) (fun a => Γ.set i (.st (R.pr a))) := fun X C =>
  ps_wk (ps_set C.set_hN (C.hi n.n) (by rw [C.sc]; exact n.l) (h X C) (hs _ _ _) (C.hf n)) fun D σ H hl ⟨B, S, b, hh, q⟩ => by
    refine tzS_bnd (R := R) sx hh q fun x b1 v S1 H1 s1 h1 r1 q1 => ?_
    exact q1 _ S1 H1 (Same.refl _) (h1.set (C.lt n.n hl) r1)
def zrt (m : M τ ρ) : M τ (Fl α κ ρ) := bnd m fun x => ret (.rt x)
theorem zs_ret {e : Expr} {m : M τ ρ} {pos : Pos} {Γn : α → Env} (h : ZE G c E W Γ e m L.R) (sx : Sub E Γ L.x) (ho : ∀ r v, L.o r v = [] := by intro _ _; rfl) : ZS G c E W L Γ (.Return (some e) pos) (zrt m) Γn := fun X C =>
  ps_wk (ps_ret (h X C)) fun D σ H hl ⟨B, S, b, hh, q⟩ => by
    refine tzS_bnd (R := L.R) sx hh q fun x b1 v S1 H1 s1 h1 r1 q1 => ?_
    exact q1 v σ S1 H1 (by rw [ho]; exact h1.nil) r1
def zifS (m : M τ Bool) (n o : M τ (Fl α κ ρ)) : M τ (Fl α κ ρ) := bnd m fun x => if x = true then n else o
theorem zs_if {e : Expr} {a d : List Stmt} {m : M τ Bool} {n o : M τ (Fl α κ ρ)} {Γn : α → Env} {pos : Pos} (h : ZT G c E W Γ e m) (ha : ZB G c E W L Γ a n Γn) (hd : ZB G c E W L Γ d o Γn) (sx : Sub E Γ L.x) : ZS G c E W L Γ (.If e a d pos) (zifS m n o) Γn := fun X C =>
  ps_wk (ps_if (h X C) (ha X C) (hd X C)) fun D σ H hl ⟨B, S, b, hh, q⟩ => by
    refine tzS_bndT sx hh q fun x b1 S1 H1 s1 h1 q1 => ?_
    cases x with
    | true => exact ⟨B, S1, b1, h1, q1⟩
    | false => exact ⟨B, S1, b1, h1, q1⟩

/-! ### targets -/
/-- the target tg is given what stands for x: the slots vs may change, then Γ is f x -/
def tzG (E : Eff τ) (Γ : Env) (vs : List Nat) (f : α → Env) (R : Rel α) : TG := fun v σ H Q => ∃ B S b x, Hold E B Γ b σ S H ∧ R.is x S v ∧ ∀ σ', wipe σ' vs = wipe σ vs → Hold E B (f x) b σ' S H → Q σ' H
def ZG (G : Gx) (c : Sc) (E : Eff τ) (W : WX) (Γ : Env) (vs : List Nat) (tg : Expr) (f : α → Env) (R : Rel α) : Prop := (∀ X, CtxOk G c W X → PG X tg (tzG E Γ vs f R)) ∧ ∀ x (i : Nat), i ∉ vs → (f x)[i]? = Γ[i]?
theorem pg_wk {X : Cx} {tg : Expr} {t t' : TG} (h : PG X tg t) (w : ∀ v σ H Q, σ.length = X.N.length → t' v σ H Q → t v σ H Q) : PG X tg t' := ⟨fun pins s σ H v u Q I r q => h.run pins s σ H v u Q I r (w v σ H Q I.len q)⟩
theorem pg_ex {ι : Type} {X : Cx} {tg : Expr} {t : ι → TG} (h : ∀ i, PG X tg (t i)) : PG X tg (fun v σ H Q => ∃ i, t i v σ H Q) := ⟨fun pins s σ H v u Q I r ⟨i, q⟩ => (h i).run pins s σ H v u Q I r q⟩
theorem wipe_set {i : Nat} {v : Option V} : ∀ {vs : List Nat} {σ : St}, i ∈ vs → wipe (σ.set i v) vs = wipe σ vs
  | j :: vs, σ, h => by
    unfold wipe
    by_cases hj : i ∈ vs
    · rw [wipe_set hj]
    · have e : i = j := by simpa [hj] using h
      subst e
      have : ∀ (vs : List Nat), i ∉ vs → wipe (σ.set i v) vs = (wipe σ vs).set i v := by
        intro vs
        induction vs with
        | nil => intro _; rfl
        | cons k vs ih => intro hk; unfold wipe; rw [ih (by simp at hk; exact hk.2), List.set_comm _ _ (by simp at hk; exact hk.1)]
      rw [this vs hj, List.set_set]
theorem zg_name {i : Nat} {x : Str} {p : Pos} {vs : List Nat} {R : Rel α} (n : Ns c i x) (hv : i ∈ vs) : ZG G c E W Γ vs (.Name x p) (fun a => Γ.set i (.st (R.pr a))) R := ⟨fun X C =>
  pg_wk (pg_name C.set_hN (C.hi n.n) (by rw [C.sc]; exact n.l) (C.hf n)) fun v σ H Q hl ⟨B, S, b, x, hh, r, q⟩ => q _ (wipe_set hv) (hh.set (C.lt n.n hl) r), fun a j hj => List.getElem?_set_ne fun e => hj (by rw [← e]; exact hv)⟩
/-- a tuple of things -/
structure TupOf (R : Rel α) (n : Nat) (A : α → List Pr) : Prop where
  h : ∀ {x : α} {S : Hp} {v : V}, R.is x S v → ∃ a us, v = .ref a ∧ S a = some (.tup us) ∧ us.length = n ∧ All2 (fun (p : Pr) v => p.p S v) (A x) us
/-! ### what a for walks -/
/-- an iterator J gives, while I stands, what stands for xs, one by one -/
structure Src (P : Hp → Hp → Prop) (J : It) (xs : List β) (R : Rel β) (I : Hp → Prop) : Prop where
  mono : ∀ {S S' : Hp}, Same S S' → I S → I S'
  go : ∀ {i : Nat} {S H : Hp}, Same S H → P S H → I S → i < xs.length → J.go i H
  yl : ∀ {i : Nat} {S H H' : Hp} {x : V} {y : β}, Same S H → P S H → I S → xs[i]? = some y → J.yld i H x H' → (H' = H ∧ R.is y S x) ∨ ∃ p o, H p = none ∧ H' = upd H p o ∧ R.is y (upd S p o) x
  st : ∀ {S H : Hp}, Same S H → P S H → I S → J.stop xs.length H
def aftI (G : Gx) (E : Eff τ) (W : WX) (B : Bs) (Γ : Env) (σ : St) (S : Hp) (R : Rel β) (Q : It → Hp → Prop) : Out τ (List β) → Prop
  | .ok xs b' => ∀ J I S' H', Same S S' → Hold E B Γ b' σ S' H' → Src (fun S H => ∃ b, E.is b S H) J xs R I → I S' → Q J H'
  | .exc x b' => ∀ c d S' H', Same S S' → Hold E B Γ b' σ S' H' → XAt G x H' c d → W c d σ H'
  | .stuck => False
theorem aftI.same {R : Rel β} {Q : It → Hp → Prop} (s : Same S S1) : ∀ {o : Out τ (List β)}, aftI G E W B Γ σ S R Q o → aftI G E W B Γ σ S1 R Q o
  | .ok _ _, h => fun J I S' H' s2 => h J I S' H' (s.trans s2)
  | .exc _ _, h => fun c d S' H' s2 => h c d S' H' (s.trans s2)
  | .stuck, h => h
def tzI (G : Gx) (E : Eff τ) (W : WX) (Γ : Env) (m : M τ (List β)) (R : Rel β) : TI := fun σ H Q => ∃ B S b, Hold E B Γ b σ S H ∧ aftI G E W B Γ σ S R Q (m b)
def ZI (G : Gx) (c : Sc) (E : Eff τ) (W : WX) (Γ : Env) (tg iter : Expr) (m : M τ (List β)) (R : Rel β) : Prop := ∀ X, CtxOk G c W X → PI X tg iter (tzI G E W Γ m R)
theorem pi_wk {X : Cx} {tg e : Expr} {t t' : TI} (h : PI X tg e t) (w : ∀ σ H Q, t' σ H Q → t σ H Q) : PI X tg e t' := ⟨fun pins s σ H Q I q => h.run pins s σ H Q I (w σ H Q q)⟩
theorem src_list {P : Hp → Hp → Prop} {K : PySem.W.Frag} {R : Rel β} {xs : List β} {a : Addr} : Src P (Itl K a) xs R (fun S => ∃ vs, S a = some (.lst vs) ∧ All2 (fun x v => R.is x S v) xs vs) where
  mono := fun s ⟨vs, e, q⟩ => ⟨vs, s _ _ e, All2.rel s q⟩
  go := fun {i S H} s _ ⟨vs, e, q⟩ hi => ⟨vs, vs[i]'(by rw [← q.length]; exact hi), .of (s _ _ e), by rw [List.getElem?_eq_getElem]⟩
  yl := fun {i S H H' x y} s _ ⟨vs, e, q⟩ hy ⟨e1, e2⟩ => .inl ⟨e1, by
    obtain ⟨v, h1, h2⟩ := q.get hy
    have := e2 vs (.of (s _ _ e))
    rw [h1] at this; cases this; exact h2⟩
  st := fun s _ ⟨vs, e, q⟩ => ⟨vs, .of (s _ _ e), by rw [q.length]; exact Nat.le_refl _⟩
theorem zi_list {tg e : Expr} {m : M τ (List β)} {R : Rel β} (h : ZE G c E W Γ e m (rLst R)) : ZI G c E W Γ tg e m R := fun X C => pi_wk (pi_list (h X C)) fun σ H Q ⟨B, S, b, hh, q⟩ => by
  refine ⟨B, S, b, hh, ?_⟩
  cases e : m b with
  | stuck => rw [e] at q; exact q.elim
  | exc x b1 => rw [e] at q; exact q
  | ok xs b1 => rw [e] at q; exact fun v S' H' s h' ⟨a, vs, e1, e2, e3⟩ => ⟨a, e1, ⟨vs, .of (h'.same _ _ e2)⟩, q _ _ S' H' s h' src_list ⟨vs, e2, e3⟩⟩
def rng (lo : Int) (n : Nat) : List Int := (List.range n).map fun (i : Nat) => lo + (i : Int)
theorem rng_get {lo : Int} {n i : Nat} {y : Int} (h : (rng lo n)[i]? = some y) : y = lo + (i : Int) ∧ i < n := by
  unfold rng at h
  rw [List.getElem?_map] at h
  by_cases hi : i < n
  · rw [List.getElem?_range hi] at h; cases h; exact ⟨rfl, hi⟩
  · rw [List.getElem?_eq_none (by simpa using hi)] at h; cases h
theorem src_rng {P : Hp → Hp → Prop} {lo : Int} {n : Nat} : Src P (Itr lo n) (rng lo n) rInt (fun _ => True) where
  mono := fun _ _ => trivial
  go := fun {i S H} _ _ _ hi => by
    unfold rng at hi
    show i < n
    simpa using hi
  yl := fun _ _ _ hy ⟨e1, e2⟩ => .inl ⟨e1, by rw [(rng_get hy).1]; exact e2⟩
  st := fun _ _ _ => by unfold rng; simp [Itr]
theorem tzI_bndA {m : M τ α} {f : α → M τ (List β)} {A : α → List Pr} {R : Rel β} {Q : It → Hp → Prop} {Q' : List V → Hp → Prop} (hh : Hold E B Γ b σ S H) (h : aftI G E W B Γ σ S R Q (bnd m f b))
    (k : ∀ x b1 vs S1 H1, Same S S1 → Hold E B Γ b1 σ S1 H1 → All2 (fun (p : Pr) v => p.p S1 v) (A x) vs → aftI G E W B Γ σ S1 R Q (f x b1) → Q' vs H1) : tzA G E W Γ m A σ H Q' := by
  refine ⟨B, S, b, hh, ?_⟩
  unfold bnd at h
  cases e : m b with
  | ok a b1 => rw [e] at h; exact fun v S1 H1 s h1 r => k a b1 v S1 H1 s h1 r (h.same s)
  | exc x b1 => rw [e] at h; exact h
  | stuck => rw [e] at h; exact h.elim
def fenum (xs : List α) : List (Int × α) := xs.zipIdx.map fun p => ((p.2 : Int), p.1)
def zenum (m : M τ (List α)) : M τ (List (Int × α)) := bnd m fun xs => ret (fenum xs)
/-! ### for -/
theorem for_src {P : Hp → Hp → Prop} {J : It} {xs : List β} {R : Rel β} {I : Hp → Prop} (src : Src P J xs R I) {g : TG} {tb : TS} {D : Ends} {σ : St} {H : Hp} (Pv : Nat → St → Hp → Prop) (h0 : Pv 0 σ H) (hl : ∀ i σ H, i ≤ xs.length → Pv i σ H → ∃ S, Same S H ∧ P S H ∧ I S)
    (hs : ∀ i y σ H, xs[i]? = some y → Pv i σ H → ∀ x H', J.yld i H x H' → g x σ H' fun σ2 H2 => tb { D with nx := Pv (i + 1), ct := Pv (i + 1), bk := D.nx } σ2 H2) (hd : ∀ σ H, Pv xs.length σ H → D.nx σ H) :
    ∃ W : Nat → Nat → St → Hp → Prop, (∃ m, W 0 m σ H) ∧ ∀ i m σ H, W i m σ H →
      (J.stop i H ∧ D.nx σ H) ∨ (J.go i H ∧ ∃ N : St → Hp → Prop, (∀ σ' H', N σ' H' → ∃ m', m' < m ∧ W (i + 1) m' σ' H') ∧ ∀ x H', J.yld i H x H' → g x σ H' fun σ2 H2 => tb { D with nx := N, ct := N, bk := D.nx } σ2 H2) := by
  refine ⟨fun i m σ H => m = xs.length - i ∧ i ≤ xs.length ∧ Pv i σ H, ⟨xs.length, by simp, Nat.zero_le _, h0⟩, ?_⟩
  rintro i m σ H ⟨rfl, hi, p⟩
  obtain ⟨S, s, hP, hI⟩ := hl i σ H hi p
  by_cases hlt : i < xs.length
  · exact .inr ⟨src.go s hP hI hlt, Pv (i + 1), fun σ' H' p' => ⟨xs.length - (i + 1), by omega, rfl, hlt, p'⟩, fun x H' y => hs i xs[i] σ H (by simp [hlt]) p x H' y⟩
  · have e : i = xs.length := by omega
    subst e
    exact .inl ⟨src.st s hP hI, hd σ H p⟩
def zfor (f : α → β → M τ (Fl α α ρ)) : α → List β → M τ (Fl α κ ρ)
  | a, [] => ret (.nx a)
  | a, x :: xs => fun s => match f a x s with
    | .ok (.nx a') s' => zfor f a' xs s'
    | .ok (.ct a') s' => zfor f a' xs s'
    | .ok (.bk a') s' => .ok (.nx a') s'
    | .ok (.rt r) s' => .ok (.rt r) s'
    | .exc e s' => .exc e s'
    | .stuck => .stuck
def zforI (m : M τ (List β)) (a : α) (f : α → β → M τ (Fl α α ρ)) : M τ (Fl α κ ρ) := bnd m fun xs => zfor f a xs
theorem zs_for {tg iter : Expr} {body : List Stmt} {pos : Pos} {m : M τ (List β)} {a0 : α} {f : α → β → M τ (Fl α α ρ)} {R : Rel β} {Γh : α → Env} {Γb : α → β → Env} {vs : List Nat} (hi : ZI G c E W Γ tg iter m R) (h0 : Sub E Γ (Γh a0)) (hg : ∀ a, ZG G c E W (Γh a) vs tg (Γb a) R)
    (hb : ∀ a x, ZB G c E W ⟨Γh, L.x, L.R, L.o⟩ (Γb a x) body (f a x) Γh) (sx : Sub E Γ L.x) (hs : ∀ (env : PySem.Env) x, foldedSetIterable iter env x = pure x := by intro _ _; rfl) : ZS G c E W L Γ (.For tg iter body [] pos) (zforI m a0 f) Γh := fun X C =>
  ps_wk (ps_for C.owns C.calm (hi X C) (pg_ex fun a => (hg a).1 X C) (pss_ex fun (p : α × β) => hb p.1 p.2 X C) (hs X.env)) fun D σ H hl ⟨B, S, b, hh, q⟩ => by
    refine ⟨B, S, b, hh, ?_⟩
    unfold zforI bnd at q
    cases e : m b with
    | stuck => rw [e] at q; exact q.elim
    | exc x b1 => rw [e] at q; exact fun c d S1 H1 _ h1 xa => let ⟨S2, _, h2⟩ := sx h1; q c d σ S2 H1 h2 xa
    | ok xs b1 =>
      rw [e] at q
      intro J I S1 H1 s1 h1 src hI
      obtain ⟨S2, s2, h2⟩ := h0 h1
      refine for_src (g := fun v σ H Q => ∃ i, tzG E (Γh i) vs (Γb i) R v σ H Q) (tb := fun D σ H => ∃ p : α × β, tzS G E W ⟨Γh, L.x, L.R, L.o⟩ (Γb p.1 p.2) (f p.1 p.2) Γh D σ H) (D := D) src (fun i σ H => ∃ S b a, Same S1 S ∧ Hold E B (Γh a) b σ S H ∧ aftS G E W L B S Γh D (zfor f a (xs.drop i) b)) ⟨S2, b1, a0, s2, h2, (q.same s1).same s2⟩ (fun i σ H _ ⟨S, b, a, s, h, _⟩ => ⟨S, h.same, ⟨b, h.ef⟩, src.mono s hI⟩) ?_ ?_
      · rintro i y σ H hy ⟨S, b, a, s, h, q⟩ x H' yl
        have hd : xs.drop i = y :: xs.drop (i + 1) := by
          obtain ⟨h1, h2⟩ := List.getElem?_eq_some_iff.mp hy
          rw [List.drop_eq_getElem_cons h1, h2]
        rw [hd] at q
        have go : ∀ S' H', Same S S' → Hold E B (Γh a) b σ S' H' → R.is y S' x → (fun v σ H Q => ∃ i, tzG E (Γh i) vs (Γb i) R v σ H Q) x σ H' fun σ2 H2 => (fun D σ H => ∃ p : α × β, tzS G E W ⟨Γh, L.x, L.R, L.o⟩ (Γb p.1 p.2) (f p.1 p.2) Γh D σ H) { D with nx := fun σ H => ∃ S b a, Same S1 S ∧ Hold E B (Γh a) b σ S H ∧ aftS G E W L B S Γh D (zfor f a (xs.drop (i + 1)) b), ct := fun σ H => ∃ S b a, Same S1 S ∧ Hold E B (Γh a) b σ S H ∧ aftS G E W L B S Γh D (zfor f a (xs.drop (i + 1)) b), bk := D.nx } σ2 H2 := by
          intro S' H' s' h' r'
          refine ⟨a, B, S', b, y, h', r', fun σ' _ h'' => ⟨(a, y), B, S', b, h'', ?_⟩⟩
          have q := q.same s'
          unfold zfor at q
          dsimp only at q ⊢
          cases e : f a y b with
          | stuck => rw [e] at q; exact q.elim
          | exc x b1 => rw [e] at q; exact q
          | ok r b2 =>
            rw [e] at q
            cases r with
            | nx a' => exact fun σ3 S3 H3 s3 h3 => ⟨S3, b2, a', (s.trans s').trans s3, h3, q.same s3⟩
            | ct a' => exact fun σ3 S3 H3 s3 h3 => ⟨S3, b2, a', (s.trans s').trans s3, h3, q.same s3⟩
            | bk a' => exact q
            | rt r => exact q
        rcases src.yl h.same ⟨_, h.ef⟩ (src.mono s hI) hy yl with ⟨e1, r⟩ | ⟨p, o, hp, e1, r⟩
        · subst e1; exact go S _ (Same.refl _) h r
        · subst e1; exact go (upd S p o) _ (same_new (h.same.free hp)) (h.new hp) r
      · rintro σ H ⟨S, b, a, s, h, q⟩
        rw [List.drop_length] at q
        exact q σ S H (Same.refl _) h
end
end Zk

namespace Zk
open PySem L2

/-! ### the promise of a def, with what is known of the guards (g) -/
structure FnG (g : Bool) (P : Program) (w : World) (K : PySem.W.Frag) (mg : Str → Option Value) (base : Heap) (k : Nat) (f : Addr) (fd : FuncData) (ps : List Str) (sp : Sp) : Prop where
  len : ∀ vs H Q XE, sp vs H Q XE → vs.length = ps.length
  go : ∀ (A : Around) (out : List PySem.Env) (s : Shared) (H : Hp) (args : Args) (us : List Value) (vs : List V) (Q : VK) (XE : XK), Room k A → (g = true → A.guards = some []) → Env0 P w K mg base A out s H → BindsTo s fd args (ps.zip us) → Vals vs us → sp vs H Q XE →
    codeAny (model P w) A (.call (.ref f) args) (CR (L2.CX P w) out P w H s Q XE) s
section
variable {P : Program} {w : World} {K : PySem.W.Frag} {mg : Str → Option Value} {base : Heap} {k : Nat} {f : Addr} {fd : FuncData} {ps : List Str} {sp : Sp} {g : Bool}
theorem FnG.ok (F : FnG false P w K mg base k f fd ps sp) : FnOk P w K mg base (L2.CX P w) k f fd ps sp := ⟨F.len, fun A out s H args us vs Q XE hr => F.go A out s H args us vs Q XE hr fun z => nomatch z⟩
theorem FnG.up (F : FnG g P w K mg base k f fd ps sp) {g' : Bool} (h : g = true → g' = true) : FnG g' P w K mg base k f fd ps sp := ⟨F.len, fun A out s H args us vs Q XE hr hg => F.go A out s H args us vs Q XE hr fun z => hg (h z)⟩
theorem FnG.mono (F : FnG g P w K mg base k f fd ps sp) {k' : Nat} (h : k ≤ k') : FnG g P w K mg base k' f fd ps sp := ⟨F.len, fun A out s H args us vs Q XE hr => F.go A out s H args us vs Q XE (hr.mono h)⟩
/-- a def by its body, where it stands in the written part -/
theorem fng_mk {nm qual : Str} {prm : Arguments} {body : List Stmt} {scp : Scope} {dV kV doc pm cdv ct oc : Value} {an od : Option Addr} {osl : Array (Option Value)} {N : List Str}
    (lk : K.lookup f = some ⟨oc, od, .func (PySem.W.fnOf nm qual prm body scp dV kV doc pm an cdv ct), osl⟩) (hcd : PySem.W.codeIn K cdv qual = true) (S : FnScope N ps scp) (len : ∀ vs H Q XE, sp vs H Q XE → vs.length = ps.length)
    (hb : ∀ (A : Around) (out : List PySem.Env) (s : Shared) (H : Hp) (vs : List V) (Q : VK) (XE : XK), Room k (A.deeper (PyProof.Rows.envOfC qual scp s.heap.objs.size f cdv)) → (g = true → A.guards = some []) → sp vs H Q XE →
      ∃ t, PSs (cxOf (L2.CX P w) P w K mg base N qual scp f cdv A out s H XE) body t ∧ t { nx := fun _ H' => Q .non H', rt := Q } (start N vs) H) :
    FnG g P w K mg base (k + 1) f (PySem.W.fnOf nm qual prm body scp dV kV doc pm an cdv ct) ps sp :=
  ⟨len, fun A out s H args us vs Q XE hr hg e0 bd rel hsp => by
    have kin : K.In s.heap := e0.mod.kin.keeps fun a o z => (e0.bs a o z).1
    have nol : s.heap.NoLimit := e0.mod.nolimit.keeps fun a o z => (e0.bs a o z).1
    have hl := len _ _ _ _ hsp
    have par : ∀ y ∈ ps.zip us, scp.names.lookup y.1 = some .local ∨ (scp.names.lookup y.1 = some .cell ∧ ((cellsFrom (s.heap.objs.size + 1) scp.names []).lookup y.1).isSome = true) := by
      intro y hy
      rcases S.par y.1 (List.of_mem_zip (a := y.1) (b := y.2) hy).1 with z | z
      · exact Or.inl z
      · exact Or.inr (And.intro z (PySem.W.cellsFrom_some _ _ _ (.inl z)))
    refine codeAny_call_function hr.depth (kin _ _ lk) rfl S.co S.gen rfl (PySem.W.codeRec_of kin hcd) (bd _ _ _ _ (wpAny_newFunctionEnv_cells S.kind par fun env he s1 nw => ?_))
    subst he
    refine ⟨nol.keeps nw.toInCall.keep, codeAny_func ?_⟩
    obtain ⟨t, ht, hq⟩ := hb A out s H vs Q XE (hr.deeper _) hg hsp
    have I := inv_start (CX := L2.CX P w) (mg := mg) (qual := qual) (f := f) (cd := cdv) (E := XE) S hr.hd e0 hl rel nw
    refine wpAny_mono (ht.run [] s1 (start N vs) H _ I hq) (fun fl s' hs => ?_) fun _ _ z => z
    cases fl with
    | ret u => obtain ⟨v, σ', H', J, rv, q⟩ := hs; exact ⟨v, H', J.os, J.bare, J.base, J.hok, rv, q⟩
    | next => obtain ⟨σ', H', J, q⟩ := hs; exact ⟨.non, H', J.os, J.bare, J.base, J.hok, rfl, q⟩
    | brk => obtain ⟨_, _, _, q⟩ := hs; exact q.elim
    | cont => obtain ⟨_, _, _, q⟩ := hs; exact q.elim⟩
theorem fng_F {x qual : Str} {st : Stmt} {N : List Str} (F : Fun K x qual st f fd) (S : FnScope N ps (defScope st)) (len : ∀ vs H Q XE, sp vs H Q XE → vs.length = ps.length)
    (hb : ∀ (cdv : Value) (A : Around) (out : List PySem.Env) (s : Shared) (H : Hp) (vs : List V) (Q : VK) (XE : XK), Room k (A.deeper (PyProof.Rows.envOfC qual (defScope st) s.heap.objs.size f cdv)) → (g = true → A.guards = some []) → sp vs H Q XE →
      ∃ t, PSs (cxOf (L2.CX P w) P w K mg base N qual (defScope st) f cdv A out s H XE) (defBody st) t ∧ t { nx := fun _ H' => Q .non H', rt := Q } (start N vs) H) : FnG g P w K mg base (k + 1) f fd ps sp := by
  obtain ⟨oc, od, kV, doc, pm, an, cdv, ct, osl, rfl, lk, hcd⟩ := F.ex
  exact fng_mk lk hcd S len fun A out s H vs Q XE => hb cdv A out s H vs Q XE
end
section
variable {X : Cx} {k : Nat} {f C : Addr} {fd : FuncData} {ps : List Str} {sp : Sp} {dvs : List V} {ds : List Value} {Ex : St → XK} {x m : Str} {pos apos p : Pos} {e o : Expr} {es : List Expr} {ta : TE} {t : TA} {g : Bool}
abbrev FnX (g : Bool) (X : Cx) := FnG g X.prog X.w X.K X.mg X.base
theorem FnG.run_ {pins : List (Addr × Obj)} {σ : St} {H : Hp} {s : Shared} {Q : VK} {us : List Value} {vs : List V} (F : FnX g X k f fd ps sp) (hr : Room k X.A) (hg : g = true → X.A.guards = some []) (hb : Binds X.K fd ps ds) (hd : Vals dvs ds) (hx : PassesAt (L2.CX X.prog X.w) X σ (Ex σ))
    (I : Inv X pins σ H s) (r : Vals vs us) (h : sp (vs ++ dvs) H Q (Ex σ)) : wpAny (model X.prog X.w) X.A (call (.ref f) us) (EP X pins σ Q) X.xe s := by
  have rr := r.append hd
  refine wpAny_call (codeAny_mono (F.go X.A X.stack s H ⟨us, []⟩ (us ++ ds) (vs ++ dvs) Q (Ex σ) hr hg I.env0 (hb s us I.kIn (rr.length.symm.trans (F.len _ _ _ _ h))) rr h) fun r s' hq => ?_)
  match r with
  | .error z => exact hx pins H s z s' I hq
  | .ok (.ret u) => exact I.after hq
  | .ok .next => exact hq.elim
  | .ok .brk => exact hq.elim
  | .ok .cont => exact hq.elim
theorem pe_callG (F : FnX g X k f fd ps sp) (hr : Room k X.A) (hg : g = true → X.A.guards = some []) (gl : Gl X x) (hm : X.mg x = some (.ref f)) (hk : PySem.W.keepIn X.K (.ref f) = true) (hb : Binds X.K fd ps ds) (hd : Vals dvs ds) (hx : ∀ σ, PassesAt (L2.CX X.prog X.w) X σ (Ex σ))
    (ha : PA X (e :: es) t) (hdb : (x == ("__debug__" : Str)) = false) (he : starEach (e :: es) X.env = (false, eval e X.env) :: starEach es X.env) (hpl : (backTo pos (starEach es X.env)).any (·.1) = false) :
    PE X (.Call (.Name x p) (e :: es) [] pos) (fun σ H Q => t σ H fun vs H1 => sp (vs ++ dvs) H1 Q (Ex σ)) :=
  ⟨fun pins s σ H Q I h => wpAny_Call_Name_kw (ld_glob I gl hm (PySem.W.callWith_K (h₀ := X.base) I.ok.mod.kin hk (thn (ha.run pos pins s σ H _ I h) fun us s1 ⟨vs, H1, I1, r, q⟩ => ⟨I1.kIn, F.run_ hr hg hb hd (hx σ) I1 r q⟩) he hpl) hdb)⟩
end

section
variable {τ α β γ δ κ ρ ι θ : Type} {G : Gx} {c : Sc} {E : Eff τ} {W : WX} {Γ Γ' : Env} {B : Bs} {σ : St} {S S1 S' H H' : Hp} {b b' : τ} {L : Ls κ ρ}
/-! ### defs: their promise, their call -/
def noE : Eff Unit := ⟨fun _ => False, fun _ _ _ => True, fun _ _ _ _ => trivial, fun _ h => h.elim⟩
/-- behind a call: what was one's own stands -/
theorem Hold.call (h : Hold E B Γ b σ S H) (k : Keep E.own ⟨S, H⟩ S' H') (e : E.is b' S' H') : Hold E B Γ b' σ S' H' := by
  obtain ⟨Fs, hF, hs⟩ := h.sl
  refine ⟨⟨k.same, h.kp.up.trans k.up, fun a o h1 h2 h3 => ?_⟩, e, Fs, ⟨fun i a e => ?_, hF.ds⟩, fun i s e => ?_⟩
  · obtain ⟨q1, q2⟩ := h.kp.kp a o h1 h2 h3
    exact k.kp a o q1 q2 h3
  · obtain ⟨q1, q2, q3, o, q4⟩ := hF.at_ i a e
    exact ⟨(k.kp a o q1 q4 q3).1, q2, q3, o, (k.kp a o q1 q4 q3).2⟩
  · have q := hs i s e
    cases s with
    | no => trivial
    | st p => obtain ⟨x, e1, e2⟩ := q; exact ⟨x, e1, p.mono k.up e2⟩
    | ow p => obtain ⟨x, e1, e2⟩ := q; exact ⟨x, e1, p.mono k.up (fun a o ha e => by
        obtain ⟨q1, _, q3, _⟩ := hF.at_ i a ha
        exact (k.kp a o q1 e q3).2) e2⟩
    | gh p => exact p.mono k.up (fun a o ha e => by
        obtain ⟨q1, _, q3, _⟩ := hF.at_ i a ha
        exact (k.kp a o q1 e q3).2) q
theorem Hold.callP (h : Hold E B Γ b σ S H) (k : Keep (fun _ => False) ⟨S, H⟩ S' H') : Hold E B Γ b σ S' H' := by
  refine h.grow k.up k.same (fun a o h1 h2 => k.kp a o h1 h2 id) fun a ha hs => ?_
  obtain ⟨_, o, ho⟩ := E.th h.ef ha
  exact (k.kp a o hs ho id).1
def finZ (G : Gx) (E : Eff τ) (S H : Hp) (R : Rel ρ) (Q : VK) (XE : XK) : Out τ ρ → Prop
  | .ok r b' => ∀ v S' H', Keep E.own ⟨S, H⟩ S' H' → E.is b' S' H' → R.is r S' v → Q v H'
  | .exc e b' => ∀ c d S' H', Keep E.own ⟨S, H⟩ S' H' → E.is b' S' H' → XAt G e H' c d → XE c d H'
  | .stuck => False
/-- the promise of a def: of what stands for x (the addresses q of what it may change are the caller's) it hands back what m x tells -/
def spZ (G : Gx) (E : θ → Eff τ) (A : θ → α → List Pr) (m : α → M τ ρ) (R : Rel ρ) : Sp := fun vs H Q XE => ∃ q x S b, All2 (fun (p : Pr) v => p.p S v) (A q x) vs ∧ Same S H ∧ (E q).is b S H ∧ finZ G (E q) S H R Q XE (m x b)
structure FnAt (g : Bool) (G : Gx) (x : Str) (k : Nat) (ps : List Str) (sp : Sp) : Prop where
  ex : ∃ f fd, G.mg x = some (.ref f) ∧ PySem.W.keepIn G.K (.ref f) = true ∧ Binds G.K fd ps [] ∧ FnG g G.P G.w G.K G.mg G.base k f fd ps sp
theorem tz_sp {E' : θ → Eff τ} {A : θ → α → List Pr} {m : α → M τ ρ} {R : Rel ρ} {q : θ} {x : α} {vs : List V} {Q : VK} (hE : E' q = E) (h : Hold E B Γ b σ S H) (r : All2 (fun (p : Pr) v => p.p S v) (A q x) vs) (a : aft G E W B Γ σ S R Q (m x b)) : spZ G E' A m R vs H Q (WE W σ) := by
  subst hE
  refine ⟨q, x, S, b, r, h.same, h.ef, ?_⟩
  cases e : m x b with
  | stuck => rw [e] at a; exact a.elim
  | exc e b' => rw [e] at a; exact fun c d S' H' k he xa => a c d S' H' k.up (h.call k he) xa
  | ok r b' => rw [e] at a; exact fun v S' H' k he rr => a v S' H' k.up (h.call k he) rr
theorem tz_spP {A : θ → α → List Pr} {m : α → M Unit ρ} {R : Rel ρ} {q : θ} {x : α} {vs : List V} {Q : VK} (h : Hold E B Γ b σ S H) (r : All2 (fun (p : Pr) v => p.p S v) (A q x) vs) (a : aft G E W B Γ σ S R Q (lft (m x) b)) : spZ G (fun _ => noE) A m R vs H Q (WE W σ) := by
  refine ⟨q, x, S, (), r, h.same, trivial, ?_⟩
  unfold lft at a
  cases e : m x () with
  | stuck => rw [e] at a; exact a.elim
  | exc e b' => rw [e] at a; exact fun c d S' H' k he xa => a c d S' H' k.up (h.callP k) xa
  | ok r b' => rw [e] at a; exact fun v S' H' k he rr => a v S' H' k.up (h.callP k) rr
theorem z_call {g : Bool} {x : Str} {k : Nat} {ps : List Str} {E' : θ → Eff τ} {A : θ → α → List Pr} {f : α → M τ ρ} {R : Rel ρ} {q : θ} {e : Expr} {es : List Expr} {m : M τ α} {p pos : Pos} (F : FnAt g G x k ps (spZ G E' A f R)) (hE : E' q = E) (hk : k ≤ c.k) (hg : g = true → c.gd = true) (gb : Gb c x) (ha : ZA G c E W Γ (e :: es) m (A q))
    (hd : (x == ("__debug__" : Str)) = false := by decide) (he : Star e es := by intro _; rfl) (hpl : ∀ env : PySem.Env, (backTo pos (starEach es env)).any (·.1) = false := by intro _; rfl) : ZE G c E W Γ (.Call (.Name x p) (e :: es) [] pos) (zapp f m) R := fun X C => by
  obtain ⟨f0, fd, h1, h2, h3, h4⟩ := F.ex
  rw [← C.prog, ← C.w, ← C.K, ← C.mg, ← C.base] at h4
  rw [← C.mg] at h1
  rw [← C.K] at h2 h3
  exact pe_wk (pe_callG (Ex := WE W) h4 (C.room.mono hk) (fun z => C.gds (hg z)) (C.gl gb) h1 h2 h3 .nil (passAt C.takes) (ha X C) hd (he _) (hpl _)) fun σ H Q _ ⟨B, S, b, hh, qq⟩ =>
    tz_Abnd hh qq fun x b1 vs S1 H1 s1 hh1 r1 q1 => by rw [List.append_nil]; exact tz_sp hE hh1 r1 q1
theorem z_callP {g : Bool} {x : Str} {k : Nat} {ps : List Str} {A : θ → α → List Pr} {f : α → M Unit ρ} {R : Rel ρ} {q : θ} {e : Expr} {es : List Expr} {m : M τ α} {p pos : Pos} (F : FnAt g G x k ps (spZ G (fun _ => noE) A f R)) (hk : k ≤ c.k) (hg : g = true → c.gd = true) (gb : Gb c x) (ha : ZA G c E W Γ (e :: es) m (A q))
    (hd : (x == ("__debug__" : Str)) = false := by decide) (he : Star e es := by intro _; rfl) (hpl : ∀ env : PySem.Env, (backTo pos (starEach es env)).any (·.1) = false := by intro _; rfl) : ZE G c E W Γ (.Call (.Name x p) (e :: es) [] pos) (zapp (fun x => lft (f x)) m) R := fun X C => by
  obtain ⟨f0, fd, h1, h2, h3, h4⟩ := F.ex
  rw [← C.prog, ← C.w, ← C.K, ← C.mg, ← C.base] at h4
  rw [← C.mg] at h1
  rw [← C.K] at h2 h3
  exact pe_wk (pe_callG (Ex := WE W) h4 (C.room.mono hk) (fun z => C.gds (hg z)) (C.gl gb) h1 h2 h3 .nil (passAt C.takes) (ha X C) hd (he _) (hpl _)) fun σ H Q _ ⟨B, S, b, hh, qq⟩ =>
    tz_Abnd hh qq fun x b1 vs S1 H1 s1 hh1 r1 q1 => by rw [List.append_nil]; exact tz_spP hh1 r1 q1
/-! ### a def's body -/
/-- behind a body that may go on to its end -/
def zfin (n : α → M τ ρ) (m : M τ (Fl α κ ρ)) : M τ ρ := fun s => match m s with
  | .ok (.nx a) s' => n a s'
  | .ok (.rt r) s' => .ok r s'
  | .ok _ _ => .stuck
  | .exc e s' => .exc e s'
  | .stuck => .stuck
/-- a def never ends but by return -/
def zbody (m : M τ (Fl α κ ρ)) : M τ ρ := zfin (fun _ => stk) m
def envOf (n : Nat) (ps : List Pr) : Env := ps.map .st ++ List.replicate (n - ps.length) .no
theorem hold_start {q : Eff τ} {S H : Hp} {ps : List Pr} {vs : List V} {N : List Str} (s : Same S H) (he : q.is b S H) (r : All2 (fun (p : Pr) v => p.p S v) ps vs) : Hold q ⟨S, H⟩ (envOf N.length ps) b (L2.start N vs) S H := by
  refine ⟨⟨s, Same.refl _, fun a o h1 h2 _ => ⟨h1, h2⟩⟩, he, fun _ _ => False, ⟨fun _ _ h => h.elim, fun _ _ _ h => h.elim⟩, fun i sl e => ?_⟩
  unfold envOf at e
  unfold L2.start
  by_cases hi : i < ps.length
  · rw [List.getElem?_append_left (by simpa using hi), List.getElem?_map] at e
    cases e2 : ps[i]? with
    | none => rw [e2] at e; cases e
    | some p =>
      rw [e2] at e; cases e
      obtain ⟨v, h1, h2⟩ := r.get e2
      rw [List.getElem?_append_left (by rw [List.length_map, ← r.length]; exact hi), List.getElem?_map, h1]
      exact ⟨v, rfl, h2⟩
  · rw [List.getElem?_append_right (by simpa using hi), List.getElem?_replicate] at e
    split at e
    · cases e; trivial
    · cases e
theorem All2.len {r : Pr → V → Prop} {ps : List Pr} {vs : List V} (h : All2 r ps vs) : vs.length = ps.length := h.length.symm
/-- THE RULE for a def: its body's mirror -/
theorem fn_ok {g : Bool} {x qual : Str} {st : Stmt} {f : Addr} {fd : FuncData} {N ps : List Str} {k : Nat} {E : θ → Eff τ} {A : θ → α → List Pr} {m : α → M τ ρ} {R : Rel ρ} {mb : α → M τ (Fl β Empty ρ)} {Γn : θ → α → β → Env} {n : α → β → M τ ρ} (F : Fun G.K x qual st f fd) (sc : FnScope N ps (defScope st))
    (hA : ∀ q x, (A q x).length = ps.length) (hm : ∀ x, m x = zfin (n x) (mb x)) (hn : (∀ x a, n x a = stk) ∨ (∀ x a, ∃ r, n x a = ret r ∧ ∀ S, R.is r S .non))
    (hb : ∀ q x (W : WX), ZB G ⟨N, defScope st, k, true, fun _ => true, g⟩ (E q) W ⟨fun e : Empty => e.elim, [], R, fun _ _ => []⟩ (envOf N.length (A q x)) (defBody st) (mb x) (Γn q x)) :
    FnG g G.P G.w G.K G.mg G.base (k + 1) f fd ps (spZ G E A m R) := by
  refine fng_F F sc (fun vs H Q XE h => ?_) (fun cdv A0 outer s H vs Q XE hr hgd h => ?_)
  · obtain ⟨q, x, S, b, r, _⟩ := h
    rw [← r.length, hA]
  · obtain ⟨q, x, S, b, r, hs, he, fz⟩ := h
    let W : WX := fun cls d _ H => XE cls d H
    have C : CtxOk G ⟨N, defScope st, k, true, fun _ => true, g⟩ W (cxOf (L2.CX G.P G.w) G.P G.w G.K G.mg G.base N qual (defScope st) f cdv A0 outer s H XE) :=
      ⟨rfl, rfl, rfl, rfl, rfl, rfl, sc.nd, rfl, rfl, hr, hgd, takes_of rfl rfl rfl rfl, passes_of rfl, rfl, fun _ => ⟨rfl, rfl⟩⟩
    refine ⟨_, hb q x W _ C, ⟨S, H⟩, S, b, hold_start hs he r, ?_⟩
    rw [hm] at fz
    unfold zfin at fz
    cases e : mb x b with
    | stuck => rw [e] at fz; exact fz.elim
    | exc e b' => rw [e] at fz; exact fun c d σ' S' H' h xa => fz c d S' H' h.kp h.ef xa
    | ok r b' =>
      rw [e] at fz
      cases r with
      | bk k => exact k.elim
      | ct k => exact k.elim
      | rt r => exact fun v σ' S' H' h rr => fz v S' H' h.kp h.ef rr
      | nx a =>
        intro σ' S' H' _ h
        rcases hn with hn | hn
        · have fz : finZ G (E q) S H R Q XE (n x a b') := fz
          rw [hn] at fz; exact fz.elim
        · obtain ⟨r, hr, hR⟩ := hn x a
          have fz : finZ G (E q) S H R Q XE (n x a b') := fz
          rw [hr] at fz
          exact fz .non S' H' h.kp h.ef (hR S')
end
end Zk

namespace Zk
open PySem L2

section
variable {τ α β γ δ κ ρ ι θ : Type} {G : Gx} {c : Sc} {E : Eff τ} {W : WX} {Γ Γ' : Env} {B : Bs} {σ : St} {S S1 S' H H' : Hp} {b b' : τ} {L : Ls κ ρ}
/-! ### what is one's own -/
def ownL (R : Rel α) (xs : List α) : PrO := ⟨fun S H v F => ∃ l vs, v = .ref l ∧ (∀ a, F a ↔ a = l) ∧ H l = some (.lst vs) ∧ All2 (fun x v => R.is x S v) xs vs,
  fun s k ⟨l, vs, e, f, h, q⟩ => ⟨l, vs, e, f, k _ _ ((f l).mpr rfl) h, All2.rel s q⟩⟩
/-- a thing of one's own, what it is where all of it is stable -/
structure One (p : PrO) (q : Pr) : Prop where
  at_ : ∀ {S H : Hp} {v : V} {F : Addr → Prop}, p.p S H v F → ∀ S', Same S S' → (∀ a o, F a → H a = some o → S' a = some o) → q.p S' v
theorem one_L {R : Rel α} {xs : List α} : One (ownL R xs) ((rLst R).pr xs) := ⟨fun ⟨l, vs, e, f, h, q⟩ S' s k => ⟨l, vs, e, k _ _ ((f l).mpr rfl) h, All2.rel s q⟩⟩
open Classical in
/-- becomes stable -/
theorem Hold.frz {i : Nat} {p : PrO} {q : Pr} (one : One p q) (h : Hold E B Γ b σ S H) (hi : Γ[i]? = some (.ow p)) : ∃ S', Same S S' ∧ Hold E B (Γ.set i (.st q)) b σ S' H := by
  obtain ⟨Fs, hF, hs⟩ := h.sl
  obtain ⟨v, e1, e2⟩ := hs i _ hi
  let T : Hp := fun a => if Fs i a then H a else S a
  have ti : ∀ a, Fs i a → T a = H a := fun a z => if_pos z
  have tn : ∀ a, ¬ Fs i a → T a = S a := fun a z => if_neg z
  have sm : Same S T := fun a o e => by
    rw [tn a fun z => by rw [(hF.at_ i a z).1] at e; cases e]; exact e
  refine ⟨T, sm, ⟨fun a o e => ?_, h.kp.up.trans sm, fun a o h1 h2 h3 => ?_⟩, E.mono sm (fun a ha hn => ?_) (fun _ _ _ e => e) h.ef, fun j a => j ≠ i ∧ Fs j a, ⟨fun j a ⟨n, e⟩ => ?_, fun j k a e1 e2 => hF.ds _ _ a e1.2 e2.2⟩, fun j s e => ?_⟩
  · by_cases ha : Fs i a
    · rw [ti a ha] at e; exact e
    · rw [tn a ha] at e; exact h.same _ _ e
  · obtain ⟨r1, r2⟩ := h.kp.kp a o h1 h2 h3
    rw [tn a fun z => by rw [(hF.at_ i a z).2.1] at h2; cases h2]; exact ⟨r1, r2⟩
  · rw [tn a fun z => (hF.at_ i a z).2.2.1 ha]; exact hn
  · obtain ⟨r1, r2, r3, r4⟩ := hF.at_ j a e
    rw [tn a fun z => n (hF.ds j i a e z)]; exact ⟨r1, r2, r3, r4⟩
  · rcases set_get e with ⟨rfl, rfl⟩ | ⟨n, e⟩
    · exact ⟨_, e1, one.at_ e2 T sm fun a o z e => by rw [ti a z]; exact e⟩
    · have q := hs j s e
      cases s with
      | no => trivial
      | st p => obtain ⟨x, e1, e2⟩ := q; exact ⟨x, e1, p.mono sm e2⟩
      | ow p =>
        obtain ⟨x, e1, e2⟩ := q
        refine ⟨x, e1, ?_⟩
        have ef : (fun a => j ≠ i ∧ Fs j a) = Fs j := funext fun a => propext ⟨fun z => z.2, fun z => ⟨n, z⟩⟩
        show p.p T H x (fun a => j ≠ i ∧ Fs j a)
        rw [ef]
        exact p.mono sm (fun _ _ _ e => e) e2
      | gh p =>
        have ef : (fun a => j ≠ i ∧ Fs j a) = Fs j := funext fun a => propext ⟨fun z => z.2, fun z => ⟨n, z⟩⟩
        show p.p T H .non (fun a => j ≠ i ∧ Fs j a)
        rw [ef]
        exact p.mono sm (fun _ _ _ e => e) q
theorem sub_frz {i : Nat} {p : PrO} {q : Pr} (one : One p q) (hi : Γ[i]? = some (.ow p) := by rfl) : Sub E Γ (Γ.set i (.st q)) := fun h => h.frz one hi
/-- kinds whose things have nothing in the heap -/
structure Flat (R : Rel α) : Prop where
  h : ∀ {x : α} {S S' : Hp} {v : V}, R.is x S v → R.is x S' v
theorem fl_int : Flat rInt := ⟨fun h => h⟩
/-- what may change hangs on nothing stable -/
structure Free (E : Eff τ) : Prop where
  h : ∀ {b : τ} {S S' H : Hp}, (∀ a, E.own a → S' a = none) → E.is b S H → E.is b S' H
/-- all that is one's own, as if it were stable -/
inductive Frz : Env → Env → Prop
  | nil : Frz [] []
  | no {l l' : Env} : Frz l l' → Frz (.no :: l) (.no :: l')
  | st {p : Pr} {l l' : Env} : Frz l l' → Frz (.st p :: l) (.st p :: l')
  | ow {p : PrO} {q : Pr} {l l' : Env} : One p q → Frz l l' → Frz (.ow p :: l) (.st q :: l')
  | gh {p : PrO} {l l' : Env} : Frz l l' → Frz (.gh p :: l) (.no :: l')
theorem Frz.get : ∀ {l l' : Env}, Frz l l' → ∀ {i : Nat} {s : Sl}, l'[i]? = some s → s = .no ∨ (∃ p, s = .st p ∧ l[i]? = some (.st p)) ∨ ∃ p q, s = .st q ∧ One p q ∧ l[i]? = some (.ow p)
  | _, _, .nil, i, s, h => by simp at h
  | _, _, .no f, 0, s, h => by simp at h; exact .inl h.symm
  | _, _, .st f, 0, s, h => by simp at h; exact .inr (.inl ⟨_, h.symm, rfl⟩)
  | _, _, .ow one f, 0, s, h => by simp at h; exact .inr (.inr ⟨_, _, h.symm, one, rfl⟩)
  | _, _, .gh f, 0, s, h => by simp at h; exact .inl h.symm
  | _, _, .no f, i + 1, s, h => by simpa using f.get (i := i) (by simpa using h)
  | _, _, .st f, i + 1, s, h => by simpa using f.get (i := i) (by simpa using h)
  | _, _, .ow one f, i + 1, s, h => by simpa using f.get (i := i) (by simpa using h)
  | _, _, .gh f, i + 1, s, h => by simpa using f.get (i := i) (by simpa using h)
open Classical in
/-- read as if stable, then one's own again (what is in ghost slots is hidden) -/
theorem Hold.lend (fz : Frz Γ Γ') (fr : Free E) (h : Hold E B Γ b σ S H) : ∃ B1 Sp, Same S Sp ∧ Hold E B1 Γ' b σ Sp H ∧ ∀ b1 S2 H2, Same Sp S2 → Hold E B1 Γ' b1 σ S2 H2 → ∃ S3, Same S S3 ∧ Hold E B Γ b1 σ S3 H2 := by
  obtain ⟨Fs, hF, hs⟩ := h.sl
  let Ow : Addr → Prop := fun a => ∃ i p, Γ[i]? = some (.ow p) ∧ Fs i a
  let Gh : Addr → Prop := fun a => ∃ i p, Γ[i]? = some (.gh p) ∧ Fs i a
  have nS : ∀ a, Ow a → S a = none := fun a ⟨i, p, _, e⟩ => (hF.at_ i a e).1
  have nB : ∀ a, Ow a → B.H a = none := fun a ⟨i, p, _, e⟩ => (hF.at_ i a e).2.1
  have nE : ∀ a, Ow a → ¬ E.own a := fun a ⟨i, p, _, e⟩ => (hF.at_ i a e).2.2.1
  have gS : ∀ a, Gh a → S a = none := fun a ⟨i, p, _, e⟩ => (hF.at_ i a e).1
  have gB : ∀ a, Gh a → B.H a = none := fun a ⟨i, p, _, e⟩ => (hF.at_ i a e).2.1
  have gE : ∀ a, Gh a → ¬ E.own a := fun a ⟨i, p, _, e⟩ => (hF.at_ i a e).2.2.1
  have gO : ∀ a, Gh a → ¬ Ow a := fun a ⟨i, p, ep, e⟩ ⟨j, p', ep', e'⟩ => by
    have := hF.ds i j a e e'
    subst this
    rw [ep] at ep'; cases ep'
  have sm : Same S (fun a => if Ow a then H a else S a) := fun a o e => by
    have n : ¬ Ow a := fun z => by rw [nS a z] at e; cases e
    show (if Ow a then H a else S a) = some o
    rw [if_neg n]; exact e
  have bS : ∀ a, Gh a → B.S a = none := fun a ha => by
    cases e : B.S a with
    | none => rfl
    | some o => have := h.kp.up _ _ e; rw [gS a ha] at this; cases this
  have b1H : ∀ a, Gh a → (⟨B.S, fun a => if Gh a then H a else B.H a⟩ : Bs).H a = H a := fun a z => if_pos z
  have b2H : ∀ a, ¬ Gh a → (⟨B.S, fun a => if Gh a then H a else B.H a⟩ : Bs).H a = B.H a := fun a z => if_neg z
  refine ⟨⟨B.S, fun a => if Gh a then H a else B.H a⟩, fun a => if Ow a then H a else S a, sm, ⟨⟨fun a o e => ?_, h.kp.up.trans sm, fun a o h1 h2 h3 => ?_⟩, E.mono sm (fun a ha hn => ?_) (fun _ _ _ e => e) h.ef, fun _ _ => False, ⟨fun _ _ z => z.elim, fun _ _ _ z => z.elim⟩, fun i s e => ?_⟩, fun b1 S2 H2 s2 h2 => ?_⟩
  · have e : (if Ow a then H a else S a) = some o := e
    by_cases ha : Ow a
    · rw [if_pos ha] at e; exact e
    · rw [if_neg ha] at e; exact h.same _ _ e
  · by_cases hg : Gh a
    · rw [b1H a hg] at h2
      exact ⟨by show (if Ow a then H a else S a) = none; rw [if_neg (gO a hg)]; exact gS a hg, h2⟩
    · rw [b2H a hg] at h2
      have n : ¬ Ow a := fun z => by rw [nB a z] at h2; cases h2
      obtain ⟨r1, r2⟩ := h.kp.kp a o h1 h2 h3
      exact ⟨by show (if Ow a then H a else S a) = none; rw [if_neg n]; exact r1, r2⟩
  · show (if Ow a then H a else S a) = none
    rw [if_neg fun z => nE a z ha]; exact hn
  · rcases fz.get e with rfl | ⟨p, rfl, e'⟩ | ⟨p, q, rfl, one, e'⟩
    · trivial
    · obtain ⟨x, e1, e2⟩ := hs i _ e'; exact ⟨x, e1, p.mono sm e2⟩
    · obtain ⟨x, e1, e2⟩ := hs i _ e'
      refine ⟨_, e1, one.at_ e2 _ sm fun a o z e => ?_⟩
      show (if Ow a then H a else S a) = some o
      rw [if_pos ⟨i, p, e', z⟩]; exact e
  · have kk : ∀ a o, Ow a → H a = some o → H2 a = some o := fun a o ha e => h2.same _ _ (s2 _ _ (by show (if Ow a then H a else S a) = some o; rw [if_pos ha]; exact e))
    have kg : ∀ a o, Gh a → H a = some o → S2 a = none ∧ H2 a = some o := fun a o ha e => h2.kp.kp a o (bS a ha) (by rw [b1H a ha]; exact e) (gE a ha)
    have sm2 : Same S (fun a => if Ow a then none else S2 a) := fun a o e => by
      have n : ¬ Ow a := fun z => by rw [nS a z] at e; cases e
      show (if Ow a then none else S2 a) = some o
      rw [if_neg n]; exact s2 _ _ (sm _ _ e)
    have hOG : ∀ i p a, Γ[i]? = some (.ow p) → Fs i a → Ow a := fun i p a ep e => ⟨i, p, ep, e⟩
    refine ⟨fun a => if Ow a then none else S2 a, sm2, ⟨⟨fun a o e => ?_, h.kp.up.trans sm2, fun a o h1 h2' h3 => ?_⟩, fr.h (fun a ha => ?_) h2.ef, fun i a => ((∃ p, Γ[i]? = some (.ow p)) ∨ ∃ p, Γ[i]? = some (.gh p)) ∧ Fs i a, ⟨fun i a ⟨ep, e⟩ => ?_, fun i j a e1 e2 => hF.ds _ _ a e1.2 e2.2⟩, fun i s e => ?_⟩⟩
    · have e : (if Ow a then none else S2 a) = some o := e
      by_cases ha : Ow a
      · rw [if_pos ha] at e; cases e
      · rw [if_neg ha] at e; exact h2.same _ _ e
    · have n : ¬ Ow a := fun z => by rw [nB a z] at h2'; cases h2'
      have n2 : ¬ Gh a := fun z => by rw [gB a z] at h2'; cases h2'
      obtain ⟨r1, r2⟩ := h2.kp.kp a o h1 (by rw [b2H a n2]; exact h2') h3
      exact ⟨by show (if Ow a then none else S2 a) = none; rw [if_neg n]; exact r1, r2⟩
    · show (if Ow a then none else S2 a) = none
      rw [if_neg fun z => nE a z ha]; exact (E.th h2.ef ha).1
    · obtain ⟨r1, r2, r3, o, r4⟩ := hF.at_ i a e
      rcases ep with ⟨p, ep⟩ | ⟨p, ep⟩
      · refine ⟨?_, r2, r3, o, kk a o ⟨i, p, ep, e⟩ r4⟩
        show (if Ow a then none else S2 a) = none
        rw [if_pos ⟨i, p, ep, e⟩]
      · obtain ⟨z1, z2⟩ := kg a o ⟨i, p, ep, e⟩ r4
        refine ⟨?_, r2, r3, o, z2⟩
        show (if Ow a then none else S2 a) = none
        split
        · rfl
        · exact z1
    · have q := hs i s e
      cases s with
      | no => trivial
      | st p => obtain ⟨x, e1, e2⟩ := q; exact ⟨x, e1, p.mono sm2 e2⟩
      | ow p =>
        obtain ⟨x, e1, e2⟩ := q
        refine ⟨x, e1, ?_⟩
        have ef : (fun a => ((∃ p, Γ[i]? = some (.ow p)) ∨ ∃ p, Γ[i]? = some (.gh p)) ∧ Fs i a) = Fs i := funext fun a => propext ⟨fun z => z.2, fun z => ⟨.inl ⟨p, e⟩, z⟩⟩
        show p.p _ H2 x (fun a => ((∃ p, Γ[i]? = some (.ow p)) ∨ ∃ p, Γ[i]? = some (.gh p)) ∧ Fs i a)
        rw [ef]
        exact p.mono sm2 (fun a o ha e' => kk a o ⟨i, p, e, ha⟩ e') e2
      | gh p =>
        have ef : (fun a => ((∃ p, Γ[i]? = some (.ow p)) ∨ ∃ p, Γ[i]? = some (.gh p)) ∧ Fs i a) = Fs i := funext fun a => propext ⟨fun z => z.2, fun z => ⟨.inr ⟨p, e⟩, z⟩⟩
        show p.p _ H2 .non (fun a => ((∃ p, Γ[i]? = some (.ow p)) ∨ ∃ p, Γ[i]? = some (.gh p)) ∧ Fs i a)
        rw [ef]
        exact p.mono sm2 (fun a o ha e' => (kg a o ⟨i, p, e, ha⟩ e').2) q
theorem z_lend {e : Expr} {m : M τ α} {R : Rel α} (fz : Frz Γ Γ') (fr : Free E) (fl : Flat R) (h : ZE G c E W Γ' e m R) : ZE G c E W Γ e m R := fun X C => pe_wk (h X C) fun σ H Q _ ⟨B, S, b, hh, q⟩ => by
  obtain ⟨B1, Sp, s, hp, back⟩ := hh.lend fz fr
  refine ⟨B1, Sp, b, hp, ?_⟩
  cases e : m b with
  | stuck => rw [e] at q; exact q.elim
  | exc x b1 => rw [e] at q; exact fun c d S' H' s' h' xa => let ⟨S3, s3, h3⟩ := back b1 S' H' s' h'; q c d S3 H' s3 h3 xa
  | ok a b1 => rw [e] at q; exact fun v S' H' s' h' r => let ⟨S3, s3, h3⟩ := back b1 S' H' s' h'; q v S3 H' s3 h3 (fl.h r)
end
end Zk

namespace Zk
open PySem L2

section
variable {τ α β γ δ κ ρ ι θ : Type} {G : Gx} {c : Sc} {E : Eff τ} {W : WX} {Γ Γ' : Env} {B : Bs} {σ : St} {S S1 S' H H' : Hp} {b b' : τ} {L : Ls κ ρ}
/-! ### new things that are one's own -/
def aftF (G : Gx) (E : Eff τ) (W : WX) (B : Bs) (Γ : Env) (σ : St) (S : Hp) (P : α → PrO) (Q : VK) : Out τ α → Prop
  | .ok a b' => ∀ v S' H1 H' F, Same S S' → Hold E B Γ b' σ S' H1 → (∀ x, F x → H1 x = none ∧ ∃ o, H' x = some o) → (∀ x, ¬ F x → H' x = H1 x) → (P a).p S' H' v F → Q v H'
  | .exc x b' => ∀ c d S' H', Same S S' → Hold E B Γ b' σ S' H' → XAt G x H' c d → W c d σ H'
  | .stuck => False
theorem aftF.same {P : α → PrO} {Q : VK} (s : Same S S1) : ∀ {o : Out τ α}, aftF G E W B Γ σ S P Q o → aftF G E W B Γ σ S1 P Q o
  | .ok _ _, h => fun v S' H1 H' F s2 => h v S' H1 H' F (s.trans s2)
  | .exc _ _, h => fun c d S' H' s2 => h c d S' H' (s.trans s2)
  | .stuck, h => h
def tzF (G : Gx) (E : Eff τ) (W : WX) (Γ : Env) (m : M τ α) (P : α → PrO) : TE := fun σ H Q => ∃ B S b, Hold E B Γ b σ S H ∧ aftF G E W B Γ σ S P Q (m b)
def ZF (G : Gx) (c : Sc) (E : Eff τ) (W : WX) (Γ : Env) (e : Expr) (m : M τ α) (P : α → PrO) : Prop := ∀ X, CtxOk G c W X → PE X e (tzF G E W Γ m P)
theorem tz_AbndF {m : M τ α} {f : α → M τ β} {A : α → List Pr} {P : β → PrO} {Q : VK} {Q' : List V → Hp → Prop} (hh : Hold E B Γ b σ S H) (h : aftF G E W B Γ σ S P Q (bnd m f b))
    (k : ∀ x b1 vs S1 H1, Same S S1 → Hold E B Γ b1 σ S1 H1 → All2 (fun (p : Pr) v => p.p S1 v) (A x) vs → aftF G E W B Γ σ S1 P Q (f x b1) → Q' vs H1) : tzA G E W Γ m A σ H Q' := by
  refine ⟨B, S, b, hh, ?_⟩
  unfold bnd at h
  cases e : m b with
  | ok a b1 => rw [e] at h; exact fun v S1 H1 s h1 r => k a b1 v S1 H1 s h1 r (h.same s)
  | exc x b1 => rw [e] at h; exact h
  | stuck => rw [e] at h; exact h.elim
theorem aftF_chk {P : α → PrO} {Q : VK} {p : Prop} [Decidable p] {m : M τ α} (h : aftF G E W B Γ σ S P Q (chk p m b)) : p ∧ aftF G E W B Γ σ S P Q (m b) := by
  unfold chk at h
  by_cases hp : p
  · rw [if_pos hp] at h; exact ⟨hp, h⟩
  · rw [if_neg hp] at h; exact h.elim
/-- one new object -/
theorem aftF_new {P : α → PrO} {Q : VK} {a : α} {p : Addr} {o : HO} (hh : Hold E B Γ b σ S H) (h : aftF G E W B Γ σ S P Q (ret a b)) (hp : H p = none) (r : (P a).p S (upd H p o) (.ref p) (fun x => x = p)) : Q (.ref p) (upd H p o) :=
  h _ S H _ (fun x => x = p) (Same.refl _) hh (fun x e => by subst e; exact ⟨hp, o, upd_same⟩) (fun x n => upd_ne n) r
theorem ownL_new {R : Rel α} {p : Addr} {xs : List α} {vs : List V} (h : All2 (fun x v => R.is x S v) xs vs) : (ownL R xs).p S (upd H p (.lst vs)) (.ref p) (fun x => x = p) := ⟨p, vs, rfl, fun _ => Iff.rfl, upd_same, h⟩
theorem zf_list {es : List Expr} {m : M τ (List α)} {R : Rel α} {pos : Pos} (h : ZA G c E W Γ es m R.all) : ZF G c E W Γ (.List es pos) (zlist m) (ownL R) := fun X C => pe_wk (pe_lst (h X C)) fun σ H Q _ ⟨B, S, b, hh, q⟩ => by
  refine tz_AbndF hh q fun x b1 vs S1 H1 s1 h1 r1 q1 => ?_
  obtain ⟨hl, q2⟩ := aftF_chk q1
  have r2 := all_of r1
  exact ⟨by rw [← r2.length]; exact hl, fun p hp => aftF_new h1 q2 hp (ownL_new r2)⟩
theorem zs_setF {i : Nat} {x : Str} {e : Expr} {m : M τ α} {P : α → PrO} {p pos : Pos} (n : Ns c i x) (h : ZF G c E W Γ e m P) (sx : Sub E Γ L.x) (hs : NoSwap e := by intro _ _ _; rfl) : ZS G c E W L Γ (.Assign [.Name x p] e pos) (zset m) (fun a => Γ.set i (.ow (P a))) := fun X C =>
  ps_wk (ps_set C.set_hN (C.hi n.n) (by rw [C.sc]; exact n.l) (h X C) (hs _ _ _) (C.hf n)) fun D σ H hl ⟨B, S, b, hh, q⟩ => by
    refine ⟨B, S, b, hh, ?_⟩
    unfold zset bnd at q
    cases e : m b with
    | stuck => rw [e] at q; exact q.elim
    | exc x b1 => rw [e] at q; exact fun c d S1 H1 _ h1 xa => let ⟨S2, _, h2⟩ := sx h1; q c d σ S2 H1 h2 xa
    | ok a b1 =>
      rw [e] at q
      intro v S1 H1 H2 F s1 h1 hF hk hp
      exact q _ S1 H2 s1 (h1.mut (C.lt n.n hl) hk (fun y hy => ⟨(hF y hy).2, .inl ⟨(hF y hy).1, h1.fr (hF y hy).1⟩⟩) hp)
/-- the value of a slot -/
theorem slot_get {i : Nat} {v : V} (e : σ[i]?.join = some v) : σ[i]? = some (some v) := by
  cases z : σ[i]? with
  | none => rw [z] at e; cases e
  | some o => rw [z] at e; cases o with
    | none => cases e
    | some u => cases e; rfl
theorem slot_set {i : Nat} {v : V} (e : σ[i]? = some (some v)) : σ.set i (some v) = σ := by
  obtain ⟨h, e⟩ := List.getElem?_eq_some_iff.mp e
  rw [← e]; exact List.set_getElem_self h
/-- what is owned at one address is changed -/
theorem Hold.chg {i : Nat} {l : Addr} {o : HO} {p p' : PrO} (h : Hold E B Γ b σ S H) (hi : Γ[i]? = some (.ow p)) (hp : ∀ {S H v F}, p.p S H v F → v = .ref l → ∀ a, F a ↔ a = l) (hv : σ[i]? = some (some (.ref l))) (hp' : p'.p S (upd H l o) (.ref l) (fun a => a = l)) : Hold E B (Γ.set i (.ow p')) b σ S (upd H l o) := by
  have hlt := (List.getElem?_eq_some_iff.mp hv).1
  rw [show σ = σ.set i (some (.ref l)) from (slot_set hv).symm]
  refine Hold.mut h hlt (F' := fun a => a = l) (fun a n => upd_ne n) (fun a e => ?_) hp'
  subst e
  refine ⟨⟨o, upd_same⟩, .inr fun Fs hF hs => ?_⟩
  obtain ⟨v, e1, e2⟩ := hs i _ hi
  rw [hv] at e1; cases e1
  exact (hp e2 rfl a).mpr rfl
theorem own_at {R : Rel α} {xs : List α} {i : Nat} (h : Hold E B Γ b σ S H) (hi : Γ[i]? = some (.ow (ownL R xs))) : ∃ l vs, σ[i]? = some (some (.ref l)) ∧ H l = some (.lst vs) ∧ All2 (fun x v => R.is x S v) xs vs := by
  obtain ⟨Fs, hF, hs⟩ := h.sl
  obtain ⟨v, e1, l, vs, rfl, hf, hu, hq⟩ := hs i _ hi
  exact ⟨l, vs, slot_get e1, hu, hq⟩
theorem ownL_feet {R : Rel α} {xs : List α} {l : Addr} {S H : Hp} {v : V} {F : Addr → Prop} (h : (ownL R xs).p S H v F) (e : v = .ref l) : ∀ a, F a ↔ a = l := by
  obtain ⟨l', vs, rfl, hf, _⟩ := h; cases e; exact hf
structure BmEnv (o : Expr) (name : Str) (es : List Expr) (apos cpos : Pos) : Prop where
  base : ∀ env : PySem.Env, attributeBase o name env (eval o env) = eval o env
  few : ∀ env : PySem.Env, ((backTo cpos (starEach es env)).all (fun x => !x.1) && (backToKw cpos (keywordEach [] env)).all (fun x => x.1.isSome)
      && decide (es.length + ([] : List Keyword).length + (if ([] : List Keyword).isEmpty then 0 else 1) < 30)) = true
  line : (apos.endLine == cpos.line) = true
  star : ∀ env : PySem.Env, ∀ e r, es = e :: r → starEach es env = (false, eval e env) :: starEach r env ∧ (backTo cpos (starEach r env)).any (·.1) = false
/-! ### own classes -/
/-- the field f of what R tells is what R2 tells of g -/
structure FldAt (R : Rel α) (C : Addr) (f : Str) (g : α → β) (R2 : Rel β) : Prop where
  h : ∀ {x : α} {S : Hp} {v : V}, R.is x S v → ∃ a dx vs u, v = .ref a ∧ S a = some (.ins C dx vs) ∧ vs.lookup f = some u ∧ R2.is (g x) S u
end
end Zk

namespace Zk
open PySem L2

section
variable {τ α β γ δ κ ρ ι θ : Type} {G : Gx} {c : Sc} {E : Eff τ} {W : WX} {Γ Γ' : Env} {B : Bs} {σ : St} {S S1 S' H H' : Hp} {b b' : τ} {L : Ls κ ρ}
/-! ### exceptions of own classes -/
/-- A.__init__(self, ..), A an own class over ValueError that has no __init__ of its own -/
structure AIn (K : PySem.W.Frag) (A : Addr) (mc : Value) : Prop where
  rd : ClX.CRead K A mc
  at_ : PySem.W.findCls K (.ref A) mc "__init__" = some (.val (.builtin "ValueError.__init__"))
/-- what the written part says of a class of exceptions, and of its __init__ -/
structure XAtC (G : Gx) (x : Str) (k : Nat) (ps : List Str) (sp : Sp) (C : Addr) : Prop where
  mg : G.mg x = some (.ref C)
  ox : OexC G.K C
  ini : ∃ f fd, PySem.W.findIn G.K (.ref C) "__init__" = some (some (.ref f)) ∧ PySem.W.typeIn G.K (.ref f) = some (.type "function") ∧ Binds G.K fd ps [] ∧ FnOk G.P G.w G.K G.mg G.base (L2.CX G.P G.w) k f fd ps sp
/-! ### methods -/
section
variable {X : Cx} {CX : CXT} {k : Nat} {f C : Addr} {fd : FuncData} {ps : List Str} {sp : Sp} {dvs : List V} {ds : List Value} {Ex : St → XK} {m : Str} {pos apos : Pos} {e o : Expr} {es : List Expr} {ta : TE} {t : TA} {g : Bool}
end
structure MethAt (g : Bool) (G : Gx) (C : Addr) (m : Str) (k : Nat) (ps : List Str) (sp : Sp) : Prop where
  ex : ∃ f fd, Meth G.K C m f ∧ Binds G.K fd ps [] ∧ FnG g G.P G.w G.K G.mg G.base k f fd ps sp
/-- R tells instances of the class at C, of which m is no field -/
structure InsAt (R : Rel α) (C : Addr) (m : Str) : Prop where
  h : ∀ {x : α} {S : Hp} {v : V}, R.is x S v → ∃ a dx vs, v = .ref a ∧ S a = some (.ins C dx vs) ∧ vs.lookup m = none
def zmeth (f : α × β → M τ γ) (m : M τ α) (n : M τ β) : M τ γ := bnd m fun x => bnd n fun y => f (x, y)
end
end Zk

namespace Zk
open PySem L2

section
variable {τ α β γ δ κ ρ ι θ : Type} {G : Gx} {c : Sc} {E : Eff τ} {W : WX} {Γ Γ' : Env} {B : Bs} {σ : St} {S S1 S' H H' : Hp} {b b' : τ} {L : Ls κ ρ}
/-! ### list comprehensions -/
def nox (m : M τ α) : M τ α := fun s => match m s with | .ok a s' => .ok a s' | .exc _ _ => .stuck | .stuck => .stuck
def zcomp (t : β → M τ Bool) (f : β → M τ γ) : List γ → List β → M τ (List γ)
  | acc, [] => ret acc
  | acc, x :: xs => bnd (nox (t x)) fun k => if k = true then bnd (nox (f x)) fun y => chk (acc.length < sizeLine) (zcomp t f (acc ++ [y]) xs) else zcomp t f acc xs
def zlc (t : β → M τ Bool) (f : β → M τ γ) (m : M τ (List β)) : M τ (List γ) := bnd m fun xs => zcomp t f [] xs
def Wf : WX := fun _ _ _ _ => False
def wipeE (Γ : Env) : List Nat → Env
  | [] => Γ
  | v :: vs => (wipeE Γ vs).set v .no
theorem Hold.wipe (h : Hold E B Γ b σ S H) : ∀ vs : List Nat, Hold E B (wipeE Γ vs) b (wipe σ vs) S H
  | [] => h
  | v :: vs => (h.wipe vs).unset
/-- the context of a comprehension's block -/
abbrev Sc.blk (c : Sc) (scope : Scope) : Sc := ⟨c.N, relS scope c.sc, c.k, false, fun x => scope.names.lookup x == some .cell, c.gd⟩
theorem CtxOk.blk {X : Cx} (C : CtxOk G c W X) (s : Shared) (H : Hp) (scope : Scope) (A : Addr) (cl : List (Str × Addr)) (fp : List Addr) : CtxOk G (c.blk scope) Wf (X.blk s H scope (compEnvC scope cl A X.env) fp) where
  prog := C.prog
  w := C.w
  K := C.K
  mg := C.mg
  base := C.base
  N := C.N
  nd := C.nd
  sc := by show relS scope X.env.scope = _; rw [C.sc]
  calm := C.calm
  room := C.room
  gds := C.gds
  takes := takes0
  owns := PassesOwn.never
  fx := rfl
  isfn := fun h => nomatch h
/-- a new list, filled, seen from outside -/
def Bd (B : Bs) (D : Addr) (o : HO) : Bs := ⟨B.S, upd B.H D o⟩
theorem Hold.cell0 {D : Addr} {o : HO} (h : Hold E B Γ b σ S H) (hD : H D = none) : Hold E (Bd B D o) Γ b σ S (upd H D o) := by
  have hS : S D = none := h.same.free hD
  obtain ⟨Fs, hF, hs⟩ := h.sl
  have ne : ∀ a o, H a = some o → a ≠ D := fun a o e => ne_of_none e hD
  refine ⟨⟨fun a u e => by rw [upd_ne (ne a u (h.same _ _ e))]; exact h.same _ _ e, h.kp.up, fun a u h1 h2 h3 => ?_⟩, E.mono (Same.refl _) (fun _ _ z => z) (fun a u _ e => by rw [upd_ne (ne a u e)]; exact e) h.ef, Fs, ⟨fun i a e => ?_, hF.ds⟩, fun i s e => ?_⟩
  · by_cases ha : a = D
    · subst ha
      have h2 : upd B.H a o a = some u := h2
      rw [upd_same] at h2 ⊢; exact ⟨hS, h2⟩
    · have h2 : upd B.H D o a = some u := h2
      rw [upd_ne ha] at h2 ⊢; exact h.kp.kp a u h1 h2 h3
  · obtain ⟨r1, r2, r3, u, r4⟩ := hF.at_ i a e
    exact ⟨r1, by show upd B.H D o a = none; rw [upd_ne (ne a u r4)]; exact r2, r3, u, by rw [upd_ne (ne a u r4)]; exact r4⟩
  · have q := hs i s e
    cases s with
    | no => trivial
    | st p => exact q
    | ow p => obtain ⟨x, e1, e2⟩ := q; exact ⟨x, e1, p.mono (Same.refl _) (fun a u _ e => by rw [upd_ne (ne a u e)]; exact e) e2⟩
    | gh p => exact p.mono (Same.refl _) (fun a u _ e => by rw [upd_ne (ne a u e)]; exact e) q
theorem Hold.cellAt {D : Addr} {o : HO} (h : Hold E (Bd B D o) Γ b σ S H) (hB : B.S D = none) (hE : ¬ E.own D) : S D = none ∧ H D = some o := h.kp.kp D o hB upd_same hE
theorem Hold.cellSet {D : Addr} {o o' : HO} (h : Hold E (Bd B D o) Γ b σ S H) (hB : B.S D = none) (hE : ¬ E.own D) : Hold E (Bd B D o') Γ b σ S (upd H D o') := by
  obtain ⟨hS, _⟩ := h.cellAt hB hE
  obtain ⟨Fs, hF, hs⟩ := h.sl
  have nF : ∀ i a, Fs i a → a ≠ D := fun i a e z => by
    have := (hF.at_ i a e).2.1
    rw [z] at this
    have this : upd B.H D o D = none := this
    rw [upd_same] at this; cases this
  refine ⟨⟨fun a u e => by rw [upd_ne (fun z => by rw [z, hS] at e; cases e)]; exact h.same _ _ e, h.kp.up, fun a u h1 h2 h3 => ?_⟩, E.mono (Same.refl _) (fun _ _ z => z) (fun a u ha e => by rw [upd_ne (fun z => hE (by rw [← z]; exact ha))]; exact e) h.ef, Fs, ⟨fun i a e => ?_, hF.ds⟩, fun i s e => ?_⟩
  · by_cases ha : a = D
    · subst ha
      have h2 : upd B.H a o' a = some u := h2
      rw [upd_same] at h2 ⊢; exact ⟨hS, h2⟩
    · have h2 : upd B.H D o' a = some u := h2
      rw [upd_ne ha] at h2 ⊢; exact h.kp.kp a u h1 (by show upd B.H D o a = some u; rw [upd_ne ha]; exact h2) h3
  · obtain ⟨r1, r2, r3, u, r4⟩ := hF.at_ i a e
    have n := nF i a e
    have r2 : upd B.H D o a = none := r2
    rw [upd_ne n] at r2
    exact ⟨r1, by show upd B.H D o' a = none; rw [upd_ne n]; exact r2, r3, u, by rw [upd_ne n]; exact r4⟩
  · have q := hs i s e
    cases s with
    | no => trivial
    | st p => exact q
    | ow p => obtain ⟨x, e1, e2⟩ := q; exact ⟨x, e1, p.mono (Same.refl _) (fun a u ha e => by rw [upd_ne (nF i a ha)]; exact e) e2⟩
    | gh p => exact p.mono (Same.refl _) (fun a u ha e => by rw [upd_ne (nF i a ha)]; exact e) q
/-- .. the list left out of the heap -/
theorem Hold.cellOff {D : Addr} {o : HO} (h : Hold E (Bd B D o) Γ b σ S H) (hB : B.S D = none) (hBH : B.H D = none) (hE : ¬ E.own D) : Hold E B Γ b σ S (del H D) := by
  obtain ⟨hS, _⟩ := h.cellAt hB hE
  obtain ⟨Fs, hF, hs⟩ := h.sl
  have nF : ∀ i a, Fs i a → a ≠ D := fun i a e z => by
    have := (hF.at_ i a e).2.1
    rw [z] at this
    have this : upd B.H D o D = none := this
    rw [upd_same] at this; cases this
  refine ⟨⟨fun a u e => by rw [del_ne (fun z => by rw [z, hS] at e; cases e)]; exact h.same _ _ e, h.kp.up, fun a u h1 h2 h3 => ?_⟩, E.mono (Same.refl _) (fun _ _ z => z) (fun a u ha e => by rw [del_ne (fun z => hE (by rw [← z]; exact ha))]; exact e) h.ef, Fs, ⟨fun i a e => ?_, hF.ds⟩, fun i s e => ?_⟩
  · have ha : a ≠ D := fun z => by rw [z, hBH] at h2; cases h2
    rw [del_ne ha]; exact h.kp.kp a u h1 (by show upd B.H D o a = some u; rw [upd_ne ha]; exact h2) h3
  · obtain ⟨r1, r2, r3, u, r4⟩ := hF.at_ i a e
    have n := nF i a e
    have r2 : upd B.H D o a = none := r2
    rw [upd_ne n] at r2
    exact ⟨r1, r2, r3, u, by rw [del_ne n]; exact r4⟩
  · have q := hs i s e
    cases s with
    | no => trivial
    | st p => exact q
    | ow p => obtain ⟨x, e1, e2⟩ := q; exact ⟨x, e1, p.mono (Same.refl _) (fun a u ha e => by rw [del_ne (nF i a ha)]; exact e) e2⟩
    | gh p => exact p.mono (Same.refl _) (fun a u ha e => by rw [del_ne (nF i a ha)]; exact e) q
theorem lc_src {P : Hp → Hp → Prop} {J : It} {xs : List β} {R : Rel β} {I : Hp → Prop} (src : Src P J xs R I) {g : TG} {tt : TT} {te : TE} {vs : List Nat} {σ : St} {H1 : Hp} {D : Addr} {Qd : Hp → Prop} (Pv : Nat → Hp → Prop) (h0 : Pv 0 (upd H1 D (.lst []))) (hl : ∀ i H, i ≤ xs.length → Pv i H → ∃ S, Same S H ∧ P S H ∧ I S)
    (hs : ∀ i y H, xs[i]? = some y → Pv i H → ∀ x H', J.yld i H x H' → g x (wipe σ vs) H' fun σ2 H2 => wipe σ2 vs = wipe σ vs ∧ tt σ2 H2 fun b H3 =>
      if b = true then te σ2 H3 fun y H4 => ∃ acc, H4 D = some (.lst acc) ∧ acc.length < sizeLine ∧ Pv (i + 1) (upd H4 D (.lst (acc ++ [y]))) else Pv (i + 1) H3) (hd : ∀ H, Pv xs.length H → Qd H) :
    ∃ W : Nat → Nat → Hp → Prop, (∃ m, W 0 m (upd H1 D (.lst []))) ∧ ∀ i m H, W i m H →
      (J.stop i H ∧ Qd H) ∨ (J.go i H ∧ ∃ Nx : Hp → Prop, (∀ H', Nx H' → ∃ m', m' < m ∧ W (i + 1) m' H') ∧ ∀ x H', J.yld i H x H' → g x (wipe σ vs) H' fun σ2 H2 => wipe σ2 vs = wipe σ vs ∧ tt σ2 H2 fun b H3 =>
        if b = true then te σ2 H3 fun y H4 => ∃ acc, H4 D = some (.lst acc) ∧ acc.length < sizeLine ∧ Nx (upd H4 D (.lst (acc ++ [y]))) else Nx H3) := by
  refine ⟨fun i m H => m = xs.length - i ∧ i ≤ xs.length ∧ Pv i H, ⟨xs.length, by simp, Nat.zero_le _, h0⟩, ?_⟩
  rintro i m H ⟨rfl, hi, p⟩
  obtain ⟨S, s, hP, hI⟩ := hl i H hi p
  by_cases hlt : i < xs.length
  · exact .inr ⟨src.go s hP hI hlt, Pv (i + 1), fun H' p' => ⟨xs.length - (i + 1), by omega, rfl, hlt, p'⟩, fun x H' y => hs i xs[i] H (by simp [hlt]) p x H' y⟩
  · have e : i = xs.length := by omega
    subst e
    exact .inl ⟨src.st s hP hI, hd H p⟩
/-- the tests of a comprehension's clause -/
def ZTs (G : Gx) (c : Sc) (E : Eff τ) (W : WX) (Γ : Env) (es : List Expr) (m : M τ Bool) : Prop := ∀ X, CtxOk G c W X → PTs X es (tzT G E W Γ m)
theorem pts_wk {X : Cx} {es : List Expr} {t t' : TT} (h : PTs X es t) (w : ∀ σ H Q, t' σ H Q → t σ H Q) : PTs X es t' := ⟨fun pins s σ H Q I q => h.run pins s σ H Q I (w σ H Q q)⟩
theorem pts_ex {ι : Type} {X : Cx} {e : List Expr} {t : ι → TT} (h : ∀ i, PTs X e (t i)) : PTs X e (fun σ H Q => ∃ i, t i σ H Q) := ⟨fun pins s σ H Q I ⟨i, q⟩ => (h i).run pins s σ H Q I q⟩
theorem zts_nil : ZTs G c E W Γ [] (ret true) := fun X C => pts_wk pts_nil fun σ H Q ⟨B, S, b, hh, q⟩ => q S H (Same.refl _) hh
theorem zts_one {e : Expr} {m : M τ Bool} (h : ZT G c E W Γ e m) : ZTs G c E W Γ [e] m := fun X C => pts_one (h X C)
def lcEnd (E : Eff τ) (B : Bs) (Γ : Env) (σ : St) (S : Hp) (R' : Rel γ) (Q : VK) : Out τ (List γ) → Prop
  | .ok ys b' => ∀ D S' H' us, Same S S' → Hold E (Bd B D (.lst us)) Γ b' σ S' H' → B.S D = none → B.H D = none → ¬ E.own D → All2 (fun x v => R'.is x S' v) ys us → Q (.ref D) H'
  | _ => False
theorem lcEnd.same {R' : Rel γ} {Q : VK} (s : Same S S1) : ∀ {o : Out τ (List γ)}, lcEnd E B Γ σ S R' Q o → lcEnd E B Γ σ S1 R' Q o
  | .ok _ _, h => fun D S' H' us s2 => h D S' H' us (s.trans s2)
  | .exc _ _, h => h
  | .stuck, h => h
theorem lcEnd_bnd {m : M τ α} {f : α → M τ (List γ)} {R' : Rel γ} {Q : VK} (h : lcEnd E B Γ σ S R' Q (bnd (nox m) f b)) : ∃ a b1, m b = .ok a b1 ∧ lcEnd E B Γ σ S R' Q (f a b1) := by
  unfold bnd nox at h
  cases e : m b with
  | ok a b1 => rw [e] at h; exact ⟨a, b1, rfl, h⟩
  | exc x b1 => rw [e] at h; exact h.elim
  | stuck => rw [e] at h; exact h.elim
theorem wipe_wipe {vs : List Nat} {σ : St} : ∀ {ws : List Nat}, (∀ w ∈ ws, w ∈ vs) → L2.wipe (L2.wipe σ ws) vs = L2.wipe σ vs
  | [], _ => rfl
  | w :: ws, h => by
    have e : L2.wipe σ (w :: ws) = (L2.wipe σ ws).set w none := rfl
    rw [e, wipe_set (h w (by simp))]
    exact wipe_wipe fun x hx => h x (by simp [hx])
theorem wipeE_in {i : Nat} {s : Sl} : ∀ {vs : List Nat}, i ∈ vs → (wipeE Γ vs)[i]? = some s → s = .no
  | v :: vs, h, e => by
    unfold wipeE at e
    rcases set_get e with ⟨_, r⟩ | ⟨n, e⟩
    · exact r
    · exact wipeE_in (by simpa [n] using h) e
theorem wipe_out' {i : Nat} {σ : St} : ∀ {vs : List Nat}, i ∉ vs → (L2.wipe σ vs)[i]? = σ[i]?
  | [], _ => rfl
  | v :: vs, h => by
    have e : L2.wipe σ (v :: vs) = (L2.wipe σ vs).set v none := rfl
    simp only [List.mem_cons, not_or] at h
    rw [e, List.getElem?_set_ne (Ne.symm h.1)]
    exact wipe_out' h.2
/-- a slot of the block, seen from the def -/
theorem Hold.unwipe {vs : List Nat} {σ σ2 : St} {Γ1 : Env} (hΓ : ∀ (i : Nat), i ∉ vs → Γ1[i]? = (wipeE Γ vs)[i]?) (hw : L2.wipe σ2 vs = L2.wipe σ vs) (h : Hold E B Γ1 b σ2 S H) : Hold E B (wipeE Γ vs) b (L2.wipe σ vs) S H := by
  obtain ⟨Fs, hF, hs⟩ := h.sl
  refine ⟨h.kp, h.ef, Fs, hF, fun i s e => ?_⟩
  by_cases hi : i ∈ vs
  · have := wipeE_in hi e
    subst this; trivial
  · have q := hs i s (by rw [hΓ i hi]; exact e)
    have e1 : (L2.wipe σ vs)[i]? = σ2[i]? := by rw [← hw]; exact wipe_out' hi
    rw [e1]; exact q
/-- the reading of a comprehension: the list D with ys is there -/
theorem lc_core {m : M τ (List β)} {t : β → M τ Bool} {f : β → M τ γ} {R : Rel β} {R' : Rel γ} {Γ1 : β → Env} {vs : List Nat} {σ : St} {H : Hp} {Q : VK} (hh : Hold E B Γ b σ S H) (hk : ∀ x (i : Nat), i ∉ vs → (Γ1 x)[i]? = (wipeE Γ vs)[i]?)
    (q : match m b with
      | .ok xs b1 => ∀ S1, Same S S1 → lcEnd E B (wipeE Γ vs) (L2.wipe σ vs) S1 R' Q (zcomp t f [] xs b1)
      | .exc x b' => ∀ c d S' H', Same S S' → Hold E B Γ b' σ S' H' → XAt G x H' c d → W c d σ H'
      | .stuck => False) :
    tLc (tzI G E W Γ m R) (tzG E (wipeE Γ vs) vs Γ1 R) (fun σ H Q => ∃ x, tzT G E Wf (Γ1 x) (t x) σ H Q) (fun σ H Q => ∃ x, tzE G E Wf (Γ1 x) (f x) R' σ H Q) vs σ H Q := by
  refine ⟨B, S, b, hh, ?_⟩
  cases e : m b with
  | stuck => rw [e] at q; exact q.elim
  | exc x b1 => rw [e] at q; exact q
  | ok xs b1 =>
    rw [e] at q
    intro J I S1 H1 s1 h1 src hI D hD
    have hE := h1.fr hD
    have hS1 : S1 D = none := h1.same.free hD
    have hBS : B.S D = none := h1.kp.up.free hS1
    have hBH : B.H D = none := by
      cases z : B.H D with
      | none => rfl
      | some o => have := (h1.kp.kp D o hBS z hE).2; rw [hD] at this; cases this
    have hw := (h1.cell0 (o := .lst []) hD).wipe vs
    refine lc_src (g := tzG E (wipeE Γ vs) vs Γ1 R) (tt := fun σ H Q => ∃ x, tzT G E Wf (Γ1 x) (t x) σ H Q) (te := fun σ H Q => ∃ x, tzE G E Wf (Γ1 x) (f x) R' σ H Q) (vs := vs) (σ := σ) (Qd := fun H => Q (.ref D) H) src
      (fun i H => ∃ S b us acc, Same S1 S ∧ Hold E (Bd B D (.lst us)) (wipeE Γ vs) b (L2.wipe σ vs) S H ∧ All2 (fun x v => R'.is x S v) acc us ∧ lcEnd E B (wipeE Γ vs) (L2.wipe σ vs) S R' Q (zcomp t f acc (xs.drop i) b))
      ⟨S1, b1, [], [], Same.refl _, hw, trivial, by rw [List.drop_zero]; exact q S1 s1⟩ (fun i H _ ⟨S, _, _, _, s, h, _⟩ => ⟨S, h.same, ⟨_, h.ef⟩, src.mono s hI⟩) ?_ ?_
    · rintro i y H hy ⟨S2, b2, us, acc, s2, h2, r2, q2⟩ x H' yl
      have hd : xs.drop i = y :: xs.drop (i + 1) := by
        obtain ⟨h1, h2⟩ := List.getElem?_eq_some_iff.mp hy
        rw [List.drop_eq_getElem_cons h1, h2]
      rw [hd] at q2
      obtain ⟨k, b3, ek, q3⟩ := lcEnd_bnd q2
      have go : ∀ S' H', Same S2 S' → Hold E (Bd B D (.lst us)) (wipeE Γ vs) b2 (L2.wipe σ vs) S' H' → R.is y S' x → tzG E (wipeE Γ vs) vs Γ1 R x (L2.wipe σ vs) H' fun σ2 H2 => L2.wipe σ2 vs = L2.wipe σ vs ∧ (∃ x, tzT G E Wf (Γ1 x) (t x) σ2 H2 fun b H3 =>
          if b = true then ∃ x, tzE G E Wf (Γ1 x) (f x) R' σ2 H3 fun y H4 => ∃ vacc, H4 D = some (.lst vacc) ∧ vacc.length < sizeLine ∧ (∃ S b us, ∃ acc : List γ, Same S1 S ∧ Hold E (Bd B D (.lst us)) (wipeE Γ vs) b (L2.wipe σ vs) S (upd H4 D (.lst (vacc ++ [y]))) ∧ All2 (fun x v => R'.is x S v) acc us ∧ lcEnd E B (wipeE Γ vs) (L2.wipe σ vs) S R' Q (zcomp t f acc (xs.drop (i + 1)) b))
          else (∃ S b us acc, Same S1 S ∧ Hold E (Bd B D (.lst us)) (wipeE Γ vs) b (L2.wipe σ vs) S H3 ∧ All2 (fun x v => R'.is x S v) acc us ∧ lcEnd E B (wipeE Γ vs) (L2.wipe σ vs) S R' Q (zcomp t f acc (xs.drop (i + 1)) b))) := by
        intro S' H' s' h' r'
        refine ⟨_, S', b2, y, h', r', fun σ' hwσ h'' => ?_⟩
        have hw' : L2.wipe σ' vs = L2.wipe σ vs := hwσ.trans (wipe_wipe fun _ h => h)
        refine ⟨hw', y, _, S', b2, h'', ?_⟩
        rw [ek]
        intro S3 H3 s3 h3
        have q3 := q3.same (s'.trans s3)
        cases k with
        | false =>
          rw [if_neg (by decide)] at q3 ⊢
          exact ⟨S3, b3, us, acc, (s2.trans s').trans s3, h3.unwipe (hk y) hw', All2.rel (s'.trans s3) r2, q3⟩
        | true =>
          rw [if_pos rfl] at q3 ⊢
          obtain ⟨z, b4, ez, q4⟩ := lcEnd_bnd q3
          refine ⟨y, _, S3, b3, h3, ?_⟩
          rw [ez]
          intro v S4 H4 s4 h4 rz
          obtain ⟨_, hD4⟩ := h4.cellAt hBS hE
          unfold chk at q4
          by_cases hz : acc.length < sizeLine
          · rw [if_pos hz] at q4
            exact ⟨us, hD4, by rw [← r2.length]; exact hz, S4, b4, us ++ [v], acc ++ [z], ((s2.trans s').trans s3).trans s4, (h4.unwipe (hk y) hw').cellSet hBS hE, (All2.rel ((s'.trans s3).trans s4) r2).append ⟨rz, trivial⟩, q4.same s4⟩
          · rw [if_neg hz] at q4; exact q4.elim
      rcases src.yl h2.same ⟨_, h2.ef⟩ (src.mono s2 hI) hy yl with ⟨e1, r⟩ | ⟨p, o, hp, e1, r⟩
      · subst e1; exact go S2 _ (Same.refl _) h2 r
      · subst e1; exact go (upd S2 p o) _ (same_new (h2.same.free hp)) (h2.new hp) r
    · rintro H ⟨S2, b2, us, acc, s2, h2, r2, q2⟩
      rw [List.drop_length] at q2
      exact q2 D S2 H us (Same.refl _) h2 hBS hBH hE r2
theorem wipe_back {vs : List Nat} (hΓ : ∀ (i : Nat) s, Γ[i]? = some s → s = .no ∨ i ∉ vs) (h : Hold E B (wipeE Γ vs) b (L2.wipe σ vs) S H) : Hold E B Γ b σ S H := by
  obtain ⟨Fs, hF, hs⟩ := h.sl
  refine ⟨h.kp, h.ef, Fs, hF, fun i s e => ?_⟩
  rcases hΓ i s e with r | r
  · subst r; trivial
  · have e2 : (wipeE Γ vs)[i]? = some s := by
      have : ∀ {vs : List Nat}, i ∉ vs → (wipeE Γ vs)[i]? = Γ[i]? := by
        intro vs
        induction vs with
        | nil => intro _; rfl
        | cons v vs ih => intro h; simp only [List.mem_cons, not_or] at h; unfold wipeE; rw [List.getElem?_set_ne (Ne.symm h.1)]; exact ih h.2
      rw [this r]; exact e
    have q := hs i s e2
    rw [wipe_out' r] at q; exact q
theorem bnd_noexc {m : M τ α} {f : α → M τ γ} {x : Exc} {b' : τ} (h : ∀ a b1, f a b1 ≠ .exc x b') : bnd (nox m) f b ≠ .exc x b' := by
  unfold bnd nox
  cases m b with
  | stuck => intro h; cases h
  | exc e b1 => intro h; cases h
  | ok k b1 => exact h k b1
theorem zcomp_noexc {t : β → M τ Bool} {f : β → M τ γ} : ∀ {xs : List β} {acc : List γ} {b : τ} {x : Exc} {b' : τ}, zcomp t f acc xs b ≠ .exc x b'
  | [], acc, b, x, b' => by unfold zcomp; intro h; cases h
  | y :: xs, acc, b, x, b' => by
    unfold zcomp
    refine bnd_noexc fun k b1 => ?_
    cases k with
    | false => exact zcomp_noexc
    | true =>
      refine bnd_noexc (f := fun z => chk (acc.length < sizeLine) (zcomp t f (acc ++ [z]) xs)) fun z b2 => ?_
      unfold chk
      split
      · exact zcomp_noexc
      · intro h; cases h
theorem del_back {D : Addr} {o : HO} {H : Hp} (h : H D = some o) : upd (del H D) D o = H := by
  funext a
  by_cases ha : a = D
  · subst ha; rw [upd_same, h]
  · rw [upd_ne ha, del_ne ha]
theorem lc_stable {m : M τ (List β)} {t : β → M τ Bool} {f : β → M τ γ} {R' : Rel γ} {vs : List Nat} {Q : VK} (hΓ : ∀ (i : Nat) s, Γ[i]? = some s → s = .no ∨ i ∉ vs) (q : aft G E W B Γ σ S (rLst R') Q (zlc t f m b)) :
    match m b with
      | .ok xs b1 => ∀ S1, Same S S1 → lcEnd E B (wipeE Γ vs) (L2.wipe σ vs) S1 R' Q (zcomp t f [] xs b1)
      | .exc x b' => ∀ c d S' H', Same S S' → Hold E B Γ b' σ S' H' → XAt G x H' c d → W c d σ H'
      | .stuck => False := by
  unfold zlc bnd at q
  cases e : m b with
  | stuck => rw [e] at q; exact q
  | exc x b1 => rw [e] at q; exact q
  | ok xs b1 =>
    rw [e] at q
    intro S1 s1
    dsimp only at q
    cases e2 : zcomp t f [] xs b1 with
    | stuck => rw [e2] at q; exact q
    | exc x b2 => exact absurd e2 zcomp_noexc
    | ok ys b2 =>
      rw [e2] at q
      intro D S' H' us s' h hBS hBH hE r
      obtain ⟨hS, hD⟩ := h.cellAt hBS hE
      have h2 := h.cellOff hBS hBH hE
      have h3 := h2.new (o := .lst us) (p := D) del_same
      rw [del_back hD] at h3
      exact q _ (upd S' D (.lst us)) H' ((s1.trans s').trans (same_new hS)) (wipe_back hΓ h3) (rLst_new hS r)
theorem lc_own {m : M τ (List β)} {t : β → M τ Bool} {f : β → M τ γ} {R' : Rel γ} {vs : List Nat} {Q : VK} (hΓ : ∀ (i : Nat) s, Γ[i]? = some s → s = .no ∨ i ∉ vs) (q : aftF G E W B Γ σ S (ownL R') Q (zlc t f m b)) :
    match m b with
      | .ok xs b1 => ∀ S1, Same S S1 → lcEnd E B (wipeE Γ vs) (L2.wipe σ vs) S1 R' Q (zcomp t f [] xs b1)
      | .exc x b' => ∀ c d S' H', Same S S' → Hold E B Γ b' σ S' H' → XAt G x H' c d → W c d σ H'
      | .stuck => False := by
  unfold zlc bnd at q
  cases e : m b with
  | stuck => rw [e] at q; exact q
  | exc x b1 => rw [e] at q; exact q
  | ok xs b1 =>
    rw [e] at q
    intro S1 s1
    dsimp only at q
    cases e2 : zcomp t f [] xs b1 with
    | stuck => rw [e2] at q; exact q
    | exc x b2 => exact absurd e2 zcomp_noexc
    | ok ys b2 =>
      rw [e2] at q
      intro D S' H' us s' h hBS hBH hE r
      obtain ⟨hS, hD⟩ := h.cellAt hBS hE
      have h2 := h.cellOff hBS hBH hE
      exact q _ S' (del H' D) H' (fun x => x = D) (s1.trans s') (wipe_back hΓ h2) (fun x e => by subst e; exact ⟨del_same, _, hD⟩) (fun x n => (del_ne n).symm) ⟨D, us, rfl, fun _ => Iff.rfl, hD, r⟩
/-- a comprehension's parts: its scope, its own names' slots -/
structure Lc (G : Gx) (c : Sc) (E : Eff τ) (W : WX) (Γ : Env) (elt tg iter : Expr) (ifs : List Expr) (scope : Scope) (own : List (Str × Nat)) (m : M τ (List β)) (t : β → M τ Bool) (f : β → M τ γ) (R : Rel β) (R' : Rel γ) (Γ1 : β → Env) : Prop where
  ok : BlkOk c.N c.sc scope own
  hi : ZI G c E W Γ tg iter m R
  hg : ZG G (c.blk scope) E Wf (wipeE Γ (own.map (·.2))) (own.map (·.2)) tg Γ1 R
  ht : ∀ x, ZTs G (c.blk scope) E Wf (Γ1 x) ifs (t x)
  he : ∀ x, ZE G (c.blk scope) E Wf (Γ1 x) elt (f x) R'
  no : ∀ (i : Nat) s, Γ[i]? = some s → s = .no ∨ i ∉ own.map (·.2)
  fs : ∀ (env : PySem.Env) x, foldedSetIterable iter env x = pure x
theorem Lc.pe {elt tg iter : Expr} {ifs : List Expr} {scope : Scope} {own : List (Str × Nat)} {pos : Pos} {m : M τ (List β)} {t : β → M τ Bool} {f : β → M τ γ} {R : Rel β} {R' : Rel γ} {Γ1 : β → Env} (l : Lc G c E W Γ elt tg iter ifs scope own m t f R R' Γ1) {X : Cx} (C : CtxOk G c W X) :
    PE X (.ListComp elt [⟨tg, iter, ifs, 0⟩] scope pos) (tLc (tzI G E W Γ m R) (tzG E (wipeE Γ (own.map (·.2))) (own.map (·.2)) Γ1 R) (fun σ H Q => ∃ x, tzT G E Wf (Γ1 x) (t x) σ H Q) (fun σ H Q => ∃ x, tzE G E Wf (Γ1 x) (f x) R' σ H Q) (own.map (·.2))) :=
  pe_lc C.calm C.set_hN (l.hi X C) (by rw [C.N, C.sc]; exact l.ok) (fun s H A cl fp => l.hg.1 _ (C.blk s H scope A cl fp)) (fun s H A cl fp => pts_ex fun x => l.ht x _ (C.blk s H scope A cl fp)) (fun s H A cl fp => pe_ex fun x => l.he x _ (C.blk s H scope A cl fp)) (l.fs _)
theorem z_lc {elt tg iter : Expr} {ifs : List Expr} {scope : Scope} {own : List (Str × Nat)} {pos : Pos} {m : M τ (List β)} {t : β → M τ Bool} {f : β → M τ γ} {R : Rel β} {R' : Rel γ} {Γ1 : β → Env} (l : Lc G c E W Γ elt tg iter ifs scope own m t f R R' Γ1) : ZE G c E W Γ (.ListComp elt [⟨tg, iter, ifs, 0⟩] scope pos) (zlc t f m) (rLst R') := fun X C =>
  pe_wk (l.pe C) fun σ H Q _ ⟨B, S, b, hh, q⟩ => lc_core hh l.hg.2 (lc_stable l.no q)
theorem zf_lc {elt tg iter : Expr} {ifs : List Expr} {scope : Scope} {own : List (Str × Nat)} {pos : Pos} {m : M τ (List β)} {t : β → M τ Bool} {f : β → M τ γ} {R : Rel β} {R' : Rel γ} {Γ1 : β → Env} (l : Lc G c E W Γ elt tg iter ifs scope own m t f R R' Γ1) : ZF G c E W Γ (.ListComp elt [⟨tg, iter, ifs, 0⟩] scope pos) (zlc t f m) (ownL R') := fun X C =>
  pe_wk (l.pe C) fun σ H Q _ ⟨B, S, b, hh, q⟩ => lc_core hh l.hg.2 (lc_own l.no q)
theorem Lc.ps {i : Nat} {y : Str} {py spos : Pos} {elt tg iter : Expr} {ifs : List Expr} {scope : Scope} {own : List (Str × Nat)} {pos : Pos} {m : M τ (List β)} {t : β → M τ Bool} {f : β → M τ γ} {R : Rel β} {R' : Rel γ} {Γ1 : β → Env} (l : Lc G c E W Γ elt tg iter ifs scope own m t f R R' Γ1) (n : c.N[i]? = some y) (hy : c.sc.names.lookup y = some .local) (hk : c.sc.kind = .function)
    (hl : (py.line == pos.line) = true) (ha : (scope.names.any fun (n, k) => n == y && (k == .local || k == .cell)) = false) {X : Cx} (C : CtxOk G c W X) :
    PS X (.Assign [.Name y py] (.ListComp elt [⟨tg, iter, ifs, 0⟩] scope pos) spos) (tAsg (tLc (tzI G E W Γ m R) (tzG E (wipeE Γ (own.map (·.2))) (own.map (·.2)) Γ1 R) (fun σ H Q => ∃ x, tzT G E Wf (Γ1 x) (t x) σ H Q) (fun σ H Q => ∃ x, tzE G E Wf (Γ1 x) (f x) R' σ H Q) (own.map (·.2))) (gName i)) :=
  ps_setLc C.calm C.set_hN (C.hi n) (by rw [C.sc]; exact hy) (sw_true (by rw [C.sc]; exact hk) (by rw [C.sc]; exact hy) hl ha) (l.hi X C) (by rw [C.N, C.sc]; exact l.ok) (fun s H A cl fp => l.hg.1 _ (C.blk s H scope A cl fp)) (fun s H A cl fp => pts_ex fun x => l.ht x _ (C.blk s H scope A cl fp)) (fun s H A cl fp => pe_ex fun x => l.he x _ (C.blk s H scope A cl fp)) (l.fs _)
end
end Zk

namespace Zk
open PySem L2

section
variable {X : Cx} {CX : CXT} {k n : Nat} {f C : Addr} {fd : FuncData} {ps ks : List Str} {sp : Sp} {dvs : List V} {ds : List Value} {Ex : St → XK} {x : Str} {p pos : Pos} {e : Expr} {es : List Expr} {kws : List Keyword} {t tk : TA} {g : List Value → List Value → List Value} {gV : List V → List V → List V} {gd : Bool}
end

section
variable {τ α β γ δ κ ρ ι θ : Type} {G : Gx} {c : Sc} {E : Eff τ} {W : WX} {Γ Γ' : Env} {B : Bs} {σ : St} {S S1 S' H H' : Hp} {b b' : τ} {L : Ls κ ρ}
def zini (n : α → ρ) (m : M τ (Fl α Empty Empty)) : M τ ρ := fun s => match m s with
  | .ok (.nx y) s' => .ok (n y) s'
  | .ok _ _ => .stuck
  | .exc e s' => .exc e s'
  | .stuck => .stuck
structure MkAt (g : Bool) (G : Gx) (C : Addr) (k : Nat) (ps : List Str) (sp : Sp) (dvs : List V) : Prop where
  ex : ∃ f fd ds, Mk G.K C f ∧ Binds G.K fd ps ds ∧ Vals dvs ds ∧ FnG g G.P G.w G.K G.mg G.base k f fd ps sp
end
end Zk

namespace Zk
open PySem L2

/-! ### ranges of any size -/
theorem turn_long {P : Program} {w : World} {K : PySem.W.Frag} {tg : Expr} (it : Addr) (lo : Int) (n : Nat) : Turn P w K tg (Itr lo n) [it] it (fun i h => IsLongIter h it (lo + (i : Nat) * 1) ((n : Int) - (i : Nat)) 1) where
  mem := by simp
  obj := fun i h st b hb => by
    have e : b = it := by simpa using hb
    subst e
    exact ⟨_, st, fun v z => by cases z⟩
  keep := fun i h h' st k => k it (by simp) _ st
  item := by
    intro X hP hw hK hc i pins s σ H E I hf st hg
    subst hP hw hK
    obtain ⟨f0, f1, f2, f3, f4, f5⟩ := hf it (by simp)
    have hg' : i < n := hg
    refine wpAny_pyNext_long_item st (by omega) fun h' st' sb => ?_
    have I1 : Inv X pins σ H { s with heap := h', toks := s.toks + 1 } := I.turned (fun b o hb e => sb.extBut b o (by simpa using hb) e) f0 f1 f3 f4 f5
    have e1 : lo + ((i + 1 : Nat) : Int) * 1 = lo + (i : Int) * 1 + 1 := by push_cast; omega
    have e2 : (n : Int) - ((i + 1 : Nat) : Int) = (n : Int) - (i : Int) - 1 := by push_cast; omega
    have st2 : IsLongIter h' it (lo + ((i + 1 : Nat) : Int) * 1) ((n : Int) - ((i + 1 : Nat) : Int)) 1 := by rw [e1, e2]; exact st'
    refine ⟨_, rfl, go_of (s := { s with heap := h', toks := s.toks + 1 }) (n := "longrange_iterator") st' rfl rfl (by decide) ⟨.int (lo + i), H, I1, ⟨s.toks, ?_⟩, ⟨rfl, rfl⟩, st2, fun b hb => (hf b hb).1⟩⟩
    rw [Int.mul_one]
  done := by
    intro X hP hw hK hc i pins s σ H E I hf st hg
    subst hP hw hK
    obtain ⟨f0, f1, f2, f3, f4, f5⟩ := hf it (by simp)
    have hg' : n ≤ i := hg
    exact wpAny_pyNext_long_end (I.ok.hd hc) st (by omega) fun h' eb => ⟨rfl, I.turned (t' := s.toks) (fun b o hb e => eb b o (by simpa using hb) e) f0 f1 f3 f4 f5⟩
  self := fun _ _ _ _ _ st h => wpAny_pyIter_longiter st h
theorem range_itA {X : Cx} {tg : Expr} {pins : List (Addr × Obj)} {σ : St} {H : Hp} {s : Shared} {R : It → Hp → Prop} {E : Value → Shared → Prop} {lo hi : Int} {t u v : Tok} {tk : Nat} (I : Inv X pins σ H s)
    (q : R (Itr lo (hi - lo).toNat) H) : wpAny (model X.prog X.w) X.A (pyIter (.ref s.heap.objs.size)) (PIE X pins σ tg R) E { s with heap := s.heap.push { cls := .type "range", data := .fields #[.int lo t, .int hi u, .int 1 v] }, toks := tk } := by
  have I1 : Inv X pins σ H { s with heap := s.heap.push { cls := .type "range", data := .fields #[.int lo t, .int hi u, .int 1 v] }, toks := tk } := I.kept fun b o e => Heap.get?_push_of_some _ e
  have e1 : lo + ((0 : Nat) : Int) * 1 = lo := by simp
  have e2 : (((hi - lo).toNat : Nat) : Int) - ((0 : Nat) : Int) = Builtin.Range.rangeSize lo hi 1 := by rw [rangeSize_one]; split <;> omega
  cases hs : Builtin.Range.small lo hi 1 with
  | true =>
    refine wpAny_pyIter_range (IsRange.new ..) hs ?_
    refine ⟨(s.heap.push { cls := .type "range", data := .fields #[.int lo t, .int hi u, .int 1 v] }).objs.size, [(s.heap.push { cls := .type "range", data := .fields #[.int lo t, .int hi u, .int 1 v] }).objs.size], _, _, H, rfl,
      I1.kept (t' := tk) fun b o e => Heap.get?_push_of_some _ e, turn_range _ lo (hi - lo).toNat, ?_, fun b hb => ?_, q⟩
    · show IsRangeIter _ _ (lo + ((0 : Nat) : Int) * 1) ((((hi - lo).toNat : Nat) : Int) - ((0 : Nat) : Int)) 1
      rw [e1, e2]
      exact Heap.get?_push_size _ rfl
    · have e : b = (s.heap.push { cls := .type "range", data := .fields #[.int lo t, .int hi u, .int 1 v] }).objs.size := by simpa using hb
      subst e
      exact I1.fpOk (Nat.le_refl _) (I1.hok.fresh (Nat.le_refl _))
  | false =>
    refine wpAny_pyIter_longrange (IsRange.new ..) hs ?_
    refine ⟨(s.heap.push { cls := .type "range", data := .fields #[.int lo t, .int hi u, .int 1 v] }).objs.size, [(s.heap.push { cls := .type "range", data := .fields #[.int lo t, .int hi u, .int 1 v] }).objs.size], _, _, H, rfl,
      I1.kept (t' := tk) fun b o e => Heap.get?_push_of_some _ e, turn_long _ lo (hi - lo).toNat, ?_, fun b hb => ?_, q⟩
    · show IsLongIter _ _ (lo + ((0 : Nat) : Int) * 1) ((((hi - lo).toNat : Nat) : Int) - ((0 : Nat) : Int)) 1
      rw [e1, e2]
      exact Heap.get?_push_size _ rfl
    · have e : b = (s.heap.push { cls := .type "range", data := .fields #[.int lo t, .int hi u, .int 1 v] }).objs.size := by simpa using hb
      subst e
      exact I1.fpOk (Nat.le_refl _) (I1.hok.fresh (Nat.le_refl _))
def iRng1A (ta : TA) : TI := fun σ H R => ta σ H fun vs H1 => ∃ j : Int, vs = [.int j] ∧ R (Itr 0 j.toNat) H1
theorem pi_range1A {X : Cx} {tg a : Expr} {ta : TA} {p pos : Pos} (hg : Gl X "range") (hm : X.mg "range" = none) (ha : PA X [a] ta) (hs : starEach [a] X.env = [(false, eval a X.env)]) : PI X tg (.Call (.Name "range" p) [a] [] pos) (iRng1A ta) := by
  refine ⟨fun pins s σ H R I h => ?_⟩
  refine PyProof.Rows.Call_ (ld_blt I hg hm PyProof.Rows.boot_range (PyProof.Rows.callWith_type1 (thn (ha.run pos pins s σ H _ I h) fun us s1 ⟨vs, H1, I1, r1, q1⟩ => ?_) hs rfl))
  obtain ⟨j, e, q⟩ := q1
  subst e
  cases r1 with
  | cons r rr =>
    cases rr
    obtain ⟨t, rfl⟩ := r
    exact call_range_1 (range_itA I1 (by simpa using q))
section
variable {τ α β γ δ κ ρ ι θ : Type} {G : Gx} {c : Sc} {E : Eff τ} {W : WX} {Γ Γ' : Env} {B : Bs} {σ : St} {S S1 S' H H' : Hp} {b b' : τ} {L : Ls κ ρ}
def frA1 (j : Int) : M τ (List Int) := ret (rng 0 j.toNat)
def frA2 (x : Int × Int) : M τ (List Int) := ret (rng x.1 (x.2 - x.1).toNat)
theorem zi_r1 {tg e : Expr} {m : M τ Int} {p pos : Pos} (bl : Blt G c "range" (.type "range")) (h : ZE G c E W Γ e m rInt) (hs : ∀ env : PySem.Env, starEach [e] env = [(false, eval e env)] := by intro _; rfl) : ZI G c E W Γ tg (.Call (.Name "range" p) [e] [] pos) (zapp frA1 m) rInt := fun X C =>
  pi_wk (pi_range1A (C.gl bl.g) (by rw [C.mg]; exact bl.m) (za_one h (fun env => hs env) X C) (hs X.env)) fun σ H Q ⟨B, S, b, hh, q⟩ => by
    refine tzI_bndA (A := fun x => [rInt.pr x]) hh q fun x b1 vs S1 H1 s1 h1 r1 q1 => ?_
    match vs, r1 with
    | [v], ⟨r, _⟩ => exact ⟨x, by rw [show v = V.int x from r], q1 _ _ S1 H1 (Same.refl _) h1 src_rng trivial⟩
/-! ### while -/
open Classical in
end
end Zk

namespace Zk
open PySem L2

theorem get_list {X : Cx} : PGet X (rIxL X.K) := by
  intro pins s σ H x y v u Q I rx ry h
  obtain ⟨p, xs, i, z, rfl, rfl, hq, he, q⟩ := h
  cases rx
  obtain ⟨t, rfl⟩ := ry
  obtain ⟨its, r, pl, hz⟩ := I.list hq
  obtain ⟨j, h1, h2, h3, h4, h5⟩ := atI_get he
  obtain ⟨w, ew, rw'⟩ := r.get h2
  have hl := r.length
  have hn := line63
  have fin : EP X pins σ Q w s := ⟨z, H, I, rw', q⟩
  by_cases h0 : 0 ≤ i
  · have hj : i.toNat = j := by
      rw [seqIndex_of h0 h5] at h1
      exact Option.some.inj h1
    exact wpAny_getItem_list pl.isList h0 (by omega) (by rw [hj]; simpa using ew) fin
  · have hj : (i + (its.toArray.size : Int)).toNat = j := by
      rw [seqIndex_neg (by omega) h4] at h1
      rw [List.size_toArray, ← hl]
      exact Option.some.inj h1
    exact wpAny_getItem_list_neg pl.isList (by omega) (by rw [List.size_toArray] <;> omega) (by omega) (by rw [hj]; simpa using ew) fin

/-! ### the bag of a law -/
structure Bag where
  big : Int
  mix : Int
  pos : Int
  cells : List Int
def Bag.row (s : Bag) (c : Addr) : List V := [.int s.big, .int s.mix, .int s.pos, .ref c]
def bagE (b c : Addr) : Eff Bag where
  own a := a = b ∨ a = c
  is s S H := b ≠ c ∧ S b = none ∧ S c = none ∧ H b = some (.lst (s.row c)) ∧ H c = some (.lst (s.cells.map V.int))
  mono := fun s f k ⟨h0, h1, h2, h3, h4⟩ => ⟨h0, f _ (.inl rfl) h1, f _ (.inr rfl) h2, k _ _ (.inl rfl) h3, k _ _ (.inr rfl) h4⟩
  th := fun ⟨h0, h1, h2, h3, h4⟩ h => by
    rcases h with h | h
    · subst h; exact ⟨h1, _, h3⟩
    · subst h; exact ⟨h2, _, h4⟩
theorem free_bag {b c : Addr} : Free (bagE b c) := ⟨fun k ⟨h0, h1, h2, h3, h4⟩ => ⟨h0, k _ (.inl rfl), k _ (.inr rfl), h3, h4⟩⟩
section
variable {α β γ δ κ ρ : Type} {G : Gx} {c : Sc} {W : WX} {Γ Γ' : Env} {B : Bs} {σ : St} {S S1 S' H H' : Hp} {s s' : Bag} {b d : Addr} {L : Ls κ ρ}
/-- the bag's row is written -/
theorem Hold.bag (h : Hold (bagE b d) B Γ s σ S H) (e : s'.cells = s.cells) : Hold (bagE b d) B Γ s' σ S (upd H b (.lst (s'.row d))) := by
  obtain ⟨Fs, hF, hs⟩ := h.sl
  obtain ⟨h0, h1, h2, h3, h4⟩ := h.ef
  refine ⟨⟨fun a o e => ?_, h.kp.up, fun a o e1 e2 e3 => ?_⟩, ⟨h0, h1, h2, upd_same, by rw [upd_ne (Ne.symm h0), e]; exact h4⟩, Fs, ⟨fun i a e => ?_, hF.ds⟩, fun i t e => ?_⟩
  · have n : a ≠ b := fun z => by rw [z, h1] at e; cases e
    rw [upd_ne n]; exact h.same _ _ e
  · have n : a ≠ b := fun z => e3 (.inl z)
    rw [upd_ne n]; exact h.kp.kp a o e1 e2 e3
  · obtain ⟨q1, q2, q3, o, q4⟩ := hF.at_ i a e
    have n : a ≠ b := fun z => q3 (.inl z)
    exact ⟨q1, q2, q3, o, by rw [upd_ne n]; exact q4⟩
  · have q := hs i t e
    cases t with
    | no => trivial
    | st p => exact q
    | ow p => obtain ⟨x, e1, e2⟩ := q; exact ⟨x, e1, p.mono (Same.refl _) (fun a o ha e => by
        have n : a ≠ b := fun z => (hF.at_ i a ha).2.2.1 (.inl z)
        rw [upd_ne n]; exact e) e2⟩
    | gh p => exact p.mono (Same.refl _) (fun a o ha e => by
        have n : a ≠ b := fun z => (hF.at_ i a ha).2.2.1 (.inl z)
        rw [upd_ne n]; exact e) q
def bget (f : Bag → α) : M Bag α := fun s => .ok (f s) s
variable {i : Nat} {x : Str} {p1 p2 p3 p4 p5 p6 pos : Pos} {j j2 j3 : Nat}
theorem ref_slot {E : Eff δ} {t : δ} {p : Addr} (h : Hold E B Γ t σ S H) (hi : Γ[i]? = some (.st ((rRef p).pr ()))) : σ[i]? = some (some (.ref p)) := by
  obtain ⟨Fs, hF, hs⟩ := h.sl
  obtain ⟨v, e1, e2⟩ := hs i _ hi
  have : v = .ref p := e2
  subst this
  exact slot_get e1
theorem z_bag {k : Int} {f : Bag → Int} (n : Nm c i x) (hi : Γ[i]? = some (.st ((rRef b).pr ()))) (hf : ∀ s : Bag, atI (s.row d) k = some (.int (f s))) (hs : PIx (.Constant (.int k) j p2) := by intro _ _; rfl) :
    ZE G c (bagE b d) W Γ (.Subscript (.Name x p1) (.Constant (.int k) j p2) pos) (bget f) rInt := fun X C =>
  pe_wk (pe_ix ix_list (pe_var (C.hi n.n) (by rw [C.sc]; exact n.v) n.d n.cd) pe_int hs) fun σ H Q _ ⟨B, S, s, hh, q⟩ =>
    ⟨.ref b, ref_slot hh hi, b, s.row d, k, _, rfl, rfl, .of hh.ef.2.2.2.1, hf s, q _ S H (Same.refl _) hh rfl⟩
theorem z_bag3 (n : Nm c i x) (hi : Γ[i]? = some (.st ((rRef b).pr ()))) (hs : PIx (.Constant (.int 3) j p2) := by intro _ _; rfl) :
    ZE G c (bagE b d) W Γ (.Subscript (.Name x p1) (.Constant (.int 3) j p2) pos) (ret ()) (rRef d) := fun X C =>
  pe_wk (pe_ix ix_list (pe_var (C.hi n.n) (by rw [C.sc]; exact n.v) n.d n.cd) pe_int hs) fun σ H Q _ ⟨B, S, s, hh, q⟩ =>
    ⟨.ref b, ref_slot hh hi, b, s.row d, 3, .ref d, rfl, rfl, .of hh.ef.2.2.2.1, rfl, q _ S H (Same.refl _) hh rfl⟩
def bcell (m : M Bag Unit) (n : M Bag Int) : M Bag Int := bnd m fun _ => bnd n fun i => fun s => match atI s.cells i with | some x => .ok x s | none => .stuck
theorem atI_map {xs : List Int} {i : Int} {x : Int} (h : atI xs i = some x) : atI (xs.map V.int) i = some (.int x) := by
  unfold atI at *
  rw [List.length_map]
  cases e : ixN xs.length i with
  | none => rw [e] at h; cases h
  | some j =>
    rw [e] at h
    have h : xs[j]? = some x := h
    show (xs.map V.int)[j]? = _
    rw [List.getElem?_map, h]; rfl
theorem z_bcell {ea eb : Expr} {m : M Bag Unit} {n : M Bag Int} (ha : ZE G c (bagE b d) W Γ ea m (rRef d)) (hb : ZE G c (bagE b d) W Γ eb n rInt) (hs : PIx eb := by intro _ _; rfl) : ZE G c (bagE b d) W Γ (.Subscript ea eb pos) (bcell m n) rInt := fun X C =>
  pe_wk (pe_ix ix_list (ha X C) (hb X C) hs) fun σ H Q _ ⟨B, S, s, hh, q⟩ => by
    refine tz_bnd hh q fun _ s1 v S1 H1 m1 h1 r1 q1 => ?_
    refine tz_bnd h1 q1 fun y s2 w S2 H2 m2 h2 r2 q2 => ?_
    cases e : atI s2.cells y with
    | none => rw [e] at q2; exact q2.elim
    | some z => rw [e] at q2; exact ⟨d, _, y, _, r1, r2, .of h2.ef.2.2.2.2, atI_map e, q2 _ S2 H2 (Same.refl _) h2 rfl⟩
def blen (_ : Unit) : M Bag Int := fun s => .ok (s.cells.length : Int) s
theorem z_blen {e : Expr} {y : Str} {m : M Bag Unit} (bl : Blt G c y (.builtin "len")) (ha : ZE G c (bagE b d) W Γ e m (rRef d)) (hs : Star e [] := by intro _; rfl) : ZE G c (bagE b d) W Γ (.Call (.Name y p1) [e] [] pos) (zapp blen m) rInt :=
  z_b1 bl (R := rRef d) (r := fun xs H Q => ∃ p ys, xs = [.ref p] ∧ (SqL G.K H p ys ∨ SqT G.K H p ys) ∧ Q (.int ys.length) H) (fun X C => by rw [← C.K]; exact call_len_seq) (fun B σ S H t x v Q hh e q => ⟨d, _, by rw [show v = .ref d from e], .inl (.of hh.ef.2.2.2.2), by rw [List.length_map]; exact q _ S H (Same.refl _) hh rfl⟩) ha hs
/-- bag[k] = e -/
def bput (f : Bag → Int → Bag) (m : M Bag Int) : M Bag (Fl Unit κ ρ) := bnd m fun v s => .ok (.nx ()) (f s v)
theorem zs_bput {k : Int} {kj : Nat} {f : Bag → Int → Bag} {e : Expr} {m : M Bag Int} (n : Nm c i x) (hi : Γ[i]? = some (.st ((rRef b).pr ()))) (hk : ixN 4 k = some kj) (hf : ∀ s v, (s.row d).set kj (.int v) = (f s v).row d) (hc : ∀ s v, (f s v).cells = s.cells) (h : ZE G c (bagE b d) W Γ e m rInt) (sx : Sub (bagE b d) Γ L.x)
    (hs : ∀ (l : Nat) (env : PySem.Env), swapsWithSole [.Subscript (.Name x p1) (.Constant (.int k) j p2) p3] e l env = pure false := by intro _ _; rfl)
    (hw : ∀ env : PySem.Env, swappedStores [.Subscript (.Name x p1) (.Constant (.int k) j p2) p3] e env = pure none := by intro _; rfl) :
    ZS G c (bagE b d) W L Γ (.Assign [.Subscript (.Name x p1) (.Constant (.int k) j p2) p3] e pos) (bput f m) (fun _ => Γ) := fun X C =>
  ps_wk (ps_asg (h X C) (pg_sub (pe_var (C.hi n.n) (by rw [C.sc]; exact n.v) n.d n.cd) pe_int set_list) (hs _ _) (hw _)) fun D σ H hl ⟨B, S, s, hh, q⟩ => by
    refine tzS_bnd (R := rInt) sx hh q fun y s1 v S1 H1 m1 h1 r1 q1 => ?_
    have r1 : v = .int y := r1
    subst r1
    exact ⟨.ref b, ref_slot h1 hi, b, s1.row d, k, kj, rfl, rfl, h1.ef.2.2.2.1, hk, by rw [hf]; exact q1 σ S1 _ (Same.refl _) (h1.bag (hc _ _))⟩
/-- bag[k] += e -/
theorem zs_binc {k : Int} {kj : Nat} {g : Bag → Int} {f : Bag → Int → Bag} {e : Expr} {m : M Bag Int} (n : Nm c i x) (hi : Γ[i]? = some (.st ((rRef b).pr ()))) (hg : ∀ s : Bag, atI (s.row d) k = some (.int (g s))) (hk : ixN 4 k = some kj) (hf : ∀ s v, (s.row d).set kj (.int v) = (f s v).row d) (hc : ∀ s v, (f s v).cells = s.cells) (h : ZE G c (bagE b d) W Γ e m rInt) (sx : Sub (bagE b d) Γ L.x)
    (ha : ∀ ov iv new, augStore (.Constant (.int k) j p2) ov iv new = (do holding [new, ov, iv] (setItem ov iv new); release [new, ov, iv] []; pure .next) := by intros; rfl) :
    ZS G c (bagE b d) W L Γ (.AugAssign (.Subscript (.Name x p1) (.Constant (.int k) j p2) p3) .Add e pos) (bput f (zop2 iadd (bget g) m)) (fun _ => Γ) := fun X C =>
  ps_wk (ps_augS (pe_var (C.hi n.n) (by rw [C.sc]; exact n.v) n.d n.cd) pe_int get_list (h X C) ip_add set_list ha) fun D σ H hl ⟨B, S, s, hh, q⟩ => by
    refine ⟨.ref b, ref_slot hh hi, b, s.row d, k, _, rfl, rfl, .of hh.ef.2.2.2.1, hg s, ?_⟩
    have q : aftS G (bagE b d) W L B S (fun _ => Γ) D ((bnd m fun v s2 => .ok (.nx ()) (f s2 (g s + v)) : M Bag (Fl Unit κ ρ)) s) := by
      have : (bput f (zop2 iadd (bget g) m) : M Bag (Fl Unit κ ρ)) s = (bnd m fun v s2 => .ok (.nx ()) (f s2 (g s + v)) : M Bag (Fl Unit κ ρ)) s := by
        simp only [bput, zop2, bget, bnd, iadd, ret]
        cases m s <;> rfl
      rw [← this]; exact q
    refine tzS_bnd (R := rInt) sx hh q fun y s1 v S1 H1 m1 h1 r1 q1 => ?_
    have r1 : v = .int y := r1
    subst r1
    exact ⟨g s, y, rfl, rfl, b, s1.row d, k, kj, rfl, rfl, h1.ef.2.2.2.1, hk, by rw [hf]; exact q1 σ S1 _ (Same.refl _) (h1.bag (hc _ _))⟩
end
end Zk

namespace Zk
open PySem L2

section
variable {τ α β γ δ κ ρ ι θ : Type} {G : Gx} {c : Sc} {E : Eff τ} {W : WX} {Γ Γ' : Env} {B : Bs} {σ : St} {S S1 S' H H' : Hp} {b b' : τ} {L : Ls κ ρ}

/-! ### several targets at once -/
theorem zs_par2 {i j : Nat} {x y : Str} {ea eb : Expr} {m : M τ (α × β)} {R : Rel α} {R2 : Rel β} {px py pt pos : Pos} {kt k2 pt2} (nx : c.N[i]? = some x) (ny : c.N[j]? = some y) (lx : c.sc.names.lookup x = some .local) (ly : c.sc.names.lookup y = some .local) (hij : i ≠ j)
    (h : ZA G c E W Γ [ea, eb] m (fun p => [R.pr p.1, R2.pr p.2])) (sx : Sub E Γ L.x) (hw : ∀ env : PySem.Env, env.scope = c.sc → swappedStores [.Tuple [.Name x px, .Name y py] kt pt] (.Tuple [ea, eb] k2 pt2) env = pure (some [x, y]) := by intro env h; cases env; cases h; rfl)
    (hs : ∀ (l : Nat) (env : PySem.Env), swapsWithSole [.Tuple [.Name x px, .Name y py] kt pt] (.Tuple [ea, eb] k2 pt2) l env = pure false := by intro _ _; rfl) :
    ZS G c E W L Γ (.Assign [.Tuple [.Name x px, .Name y py] kt pt] (.Tuple [ea, eb] k2 pt2) pos) (zset m) (fun p => (Γ.set i (.st (R.pr p.1))).set j (.st (R2.pr p.2))) := fun X C =>
  ps_wk (ps_par C.calm C.set_hN (C.hi nx) (C.hi ny) hij (by rw [C.sc]; exact lx) (by rw [C.sc]; exact ly) (h X C) (hw _ C.sc) (hs _ _)) fun D σ H hl ⟨B, S, b, hh, q⟩ => by
    refine tzS_bndA (A := fun p => [R.pr p.1, R2.pr p.2]) sx hh q fun y b1 us S1 H1 s1 h1 r1 q1 => ?_
    match us, r1 with
    | [u, w], ⟨r, r2, _⟩ => exact ⟨u, w, rfl, q1 _ S1 H1 (Same.refl _) ((h1.set (C.lt nx hl) r).set (by rw [List.length_set]; exact C.lt ny hl) r2)⟩
/-- (a, b, ..) = a list of that length -/
structure LstOf (R : Rel α) (n : Nat) (A : α → List Pr) : Prop where
  h : ∀ {x : α} {S : Hp} {v : V}, R.is x S v → ∃ a us, v = .ref a ∧ S a = some (.lst us) ∧ us.length = n ∧ All2 (fun (p : Pr) v => p.p S v) (A x) us
/-! ### self.f, self.g = .. -/
def tgs (x : Str) (l : List (Str × Pos × Pos)) : List Expr := l.map fun t => .Attribute (.Name x t.2.1) t.1 t.2.2
theorem set_set {l : Env} {i : Nat} {a b : Sl} : (l.set i a).set i b = l.set i b := by rw [List.set_set]
inductive Tgs (x : Str) : List Expr → List (Str × Pos × Pos) → Prop
  | nil : Tgs x [] []
  | cons {f : Str} {p1 p2 : Pos} {es : List Expr} {l : List (Str × Pos × Pos)} : Tgs x es l → Tgs x (.Attribute (.Name x p1) f p2 :: es) ((f, p1, p2) :: l)
theorem Tgs.eq {x : Str} : ∀ {es : List Expr} {l : List (Str × Pos × Pos)}, Tgs x es l → es = tgs x l
  | _, _, .nil => rfl
  | _, _, .cons h => by rw [h.eq]; rfl
/-! ### name += e -/
/-! ### slices -/
def cut (xs : List α) (lo hi : Option Int) : List α := (xs.drop (HT.sIx xs.length 0 lo)).take (HT.sIx xs.length xs.length hi - HT.sIx xs.length 0 lo)
theorem All2.cut {r : α → V → Prop} {xs : List α} {vs : List V} (h : All2 r xs vs) (lo hi : Option Int) : All2 r (Zk.cut xs lo hi) (cutV vs lo hi) := by
  unfold Zk.cut cutV
  rw [← h.length]
  exact (h.drop _).take _
/-- a written bound of a slice -/
def ZP (G : Gx) (c : Sc) (E : Eff τ) (W : WX) (Γ : Env) (e : Option Expr) (m : M τ (Option Int)) : Prop := ∀ X, CtxOk G c W X → PO X e fun σ H Q => ∃ B S b, Hold E B Γ b σ S H ∧ (match m b with | .ok a b' => ∀ S' H', Same S S' → Hold E B Γ b' σ S' H' → Q a H' | .exc x b' => ∀ c d S' H', Same S S' → Hold E B Γ b' σ S' H' → XAt G x H' c d → W c d σ H' | .stuck => False)
theorem po_wk {X : Cx} {e : Option Expr} {t t' : TO} (h : PO X e t) (w : ∀ σ H Q, t' σ H Q → t σ H Q) : PO X e t' := ⟨fun pins s σ H Q I q => h.run pins s σ H Q I (w σ H Q q)⟩
theorem zp_no : ZP G c E W Γ none (ret none) := fun X C => po_wk po_none fun σ H Q ⟨B, S, b, hh, q⟩ => q S H (Same.refl _) hh
def zsome (m : M τ Int) : M τ (Option Int) := bnd m fun i => ret (some i)
theorem zp_so {e : Expr} {m : M τ Int} (h : ZE G c E W Γ e m rInt) : ZP G c E W Γ (some e) (zsome m) := fun X C => po_wk (po_some (h X C)) fun σ H Q ⟨B, S, b, hh, q⟩ => by
  refine ⟨B, S, b, hh, ?_⟩
  unfold zsome bnd at q
  cases e : m b with
  | stuck => rw [e] at q; exact q.elim
  | exc x b1 => rw [e] at q; exact q
  | ok a b1 => rw [e] at q; exact fun v S1 H1 s1 h1 r1 => ⟨a, r1, q S1 H1 s1 h1⟩
def zsl (m : M τ (List α)) (l h : M τ (Option Int)) : M τ (List α) := bnd m fun xs => bnd l fun lo => bnd h fun hi => ret (cut xs lo hi)
theorem tz_sl {r : V → Option Int → Option Int → Hp → VK → Prop} {R R' : Rel (List α)} {m : M τ (List α)} {l h : M τ (Option Int)} {e : Expr} {lo hi : Option Expr} {p2 pos : Pos} (hr : ∀ X, CtxOk G c W X → SlR X r) (he : ZE G c E W Γ e m R) (hl : ZP G c E W Γ lo l) (hh : ZP G c E W Γ hi h)
    (hq : ∀ {xs : List α} {v : V} {lo hi : Option Int} {B : Bs} {S H : Hp} {b : τ} {σ : St} {Q : VK}, Hold E B Γ b σ S H → R.is xs S v → aft G E W B Γ σ S R' Q (ret (cut xs lo hi) b) → r v lo hi H Q) : ZE G c E W Γ (.Subscript e (.Slice lo hi none p2) pos) (zsl m l h) R' := fun X C =>
  pe_wk (pe_slice (hr X C) (he X C) (hl X C) (hh X C)) fun σ H Q _ ⟨B, S, b, hh, q⟩ => by
    refine tz_bnd hh q fun xs b1 v S1 H1 s1 h1 r1 q1 => ?_
    refine ⟨B, S1, b1, h1, ?_⟩
    unfold bnd at q1
    cases e : l b1 with
    | stuck => rw [e] at q1; exact q1.elim
    | exc x b1 => rw [e] at q1; exact q1
    | ok lo b2 =>
      rw [e] at q1
      intro S2 H2 s2 h2
      refine ⟨B, S2, b2, h2, ?_⟩
      dsimp only at q1
      cases e : h b2 with
      | stuck => rw [e] at q1; exact q1.elim
      | exc x b1 => rw [e] at q1; exact fun c d S' H' s' h' xa => q1 c d S' H' (s2.trans s') h' xa
      | ok hi b3 =>
        rw [e] at q1
        exact fun S3 H3 s3 h3 => hq h3 (R.mono (s2.trans s3) r1) (aft.same (s2.trans s3) q1)
theorem z_slSc {R : Rel α} {m : M τ (List α)} {l h : M τ (Option Int)} {e : Expr} {lo hi : Option Expr} {p2 pos : Pos} (he : ZE G c E W Γ e m (rSc G.K R)) (hl : ZP G c E W Γ lo l) (hh : ZP G c E W Γ hi h) : ZE G c E W Γ (.Subscript e (.Slice lo hi none p2) pos) (zsl m l h) (rLst R) :=
  tz_sl (r := rSlL G.K) (fun X C => by rw [← C.K]; exact sl_list) he hl hh fun hh ⟨a, vs, e1, e2, e3⟩ q => ⟨a, vs, e1, e2.elim (fun z => .inl (z.elim (fun z => .inl (hh.same _ _ z)) fun ⟨o, z⟩ => .inr ⟨o, hh.same _ _ z⟩)) .inr, fun p hp => aft_new hh q hp (rLst_new (hh.same.free hp) (e3.cut _ _))⟩
/-! ### tuples added -/
/-! ### sorted -/
end
end Zk

namespace Zk
open PySem L2

section
variable {τ α β γ δ κ ρ ι θ : Type} {G : Gx} {c : Sc} {E : Eff τ} {W : WX} {Γ Γ' : Env} {B : Bs} {σ : St} {S S1 S' H H' : Hp} {b b' : τ} {L : Ls κ ρ}

/-! ### an __init__ of an own exception -/
/-! ### repr of data -/
def frepr {R : Rel α} (D : DatR R) (x : α) : M τ Str := chk ((D.d x).showable = true ∧ (D.d x).canLay0 = true ∧ D.n ≤ 60 ∧ (D.d x).shown.length ≤ sizeLine) (ret (D.d x).shown)
structure RefR (R : Rel α) : Prop where
  h : ∀ {x : α} {S : Hp} {v : V}, R.is x S v → ∃ a, v = .ref a
theorem rfL {R : Rel α} : RefR (rLst R) := ⟨fun ⟨a, _, e, _⟩ => ⟨a, e⟩⟩
def rReprD (K : PySem.W.Frag) : List V → Hp → VK → Prop := fun xs H Q => ∃ a d, xs = [.ref a] ∧ Dp K H (.ref a) d ∧ d.showable = true ∧ d.hasDict = false ∧ d.depth ≤ 60 ∧ d.shown.length ≤ sizeLine ∧ Q (.str d.shown) H
theorem cr_reprD {X : Cx} (hg : X.A.guards = some []) (hu : X.A.units + 64 < cLine) : CallR X (.builtin "repr") (rReprD X.K) := by
  intro pins s σ H vs us Q I r h
  obtain ⟨a, d, rfl, hd, h1, h2, h3, h4, q⟩ := h
  rw [Vals.ref1 r]
  obtain ⟨as, rd⟩ := Dp.reads I d _ (.ref a) hd rfl
  exact repr_of_reads' rd h1 (PyData.noDict_hsm h2) hg (by omega) (fun _ _ z => z) (fun h' u tk k => ⟨.str _, H, I.kept (t' := tk) k, ⟨_, rfl⟩, q⟩) h4
theorem z_repr {R : Rel α} (D : DatR R) (rf : RefR R) {x : Str} {p pos : Pos} {e : Expr} {m : M τ α} (hgd : c.gd = true) (bl : Blt G c x (.builtin "repr")) (ha : ZE G c E W Γ e m R) (hs : Star e [] := by intro _; rfl) : ZE G c E W Γ (.Call (.Name x p) [e] [] pos) (zapp (frepr D) m) rStr :=
  z_b1 bl (R := R) (r := rReprD G.K) (fun X C => by rw [← C.K]; exact cr_reprD (C.gds hgd) C.room.units) (fun B σ S H b x v Q hh hx q => by
    obtain ⟨⟨h1, h2, h3, h4⟩, q⟩ := aft_chk q
    obtain ⟨a, rfl⟩ := rf.h hx
    exact ⟨a, _, rfl, D.dp hh.same hx, h1, PyData.hasDict_of_canLay _ h2, Nat.le_trans (D.dep x) h3, h4, aft_ret hh q rfl⟩) ha hs
/-! ### C(e, .., k = e) -/
structure MkAtK (g : Bool) (G : Gx) (C : Addr) (k n : Nat) (ps ks : List Str) (sp : Sp) (gV : List V → List V → List V) : Prop where
  ex : ∃ f fd gg, Mk G.K C f ∧ KBn G.K fd ps (n + 1) ks gg gV ∧ FnG g G.P G.w G.K G.mg G.base k f fd ps sp
/-! ### the bag's making -/
def spBag (K : PySem.W.Frag) (mk : List Int → M Unit (List Int)) : Sp := fun vs H Q _ => ∃ xs v S, vs = [v] ∧ (rSc K rInt).is xs S v ∧ Same S H ∧ match mk xs () with
  | .ok cs _ => ∀ p l S' H', Keep (fun _ => False) ⟨S, H⟩ S' H' → S' p = none → S' l = none → H p = none → H l = none → p ≠ l → H' p = some (.lst (Bag.row ⟨0, 1234567891, 0, cs⟩ l)) → H' l = some (.lst (cs.map V.int)) → Q (.ref p) H'
  | _ => False
theorem bag_ok {g : Bool} {x qual pn : Str} {st : Stmt} {f : Addr} {fd : FuncData} {N : List Str} {e : Expr} {j1 j2 j3 : Nat} {p1 p2 p3 p4 p5 : Pos} {mk : List Int → M Unit (List Int)} (F : Fun G.K x qual st f fd) (sc : FnScope N [pn] (defScope st))
    (hb : defBody st = [.Return (some (.List [.Constant (.int 0) j1 p1, .Constant (.int 1234567891) j2 p2, .Constant (.int 0) j3 p3, e] p4)) p5])
    (h : ∀ xs W, ZF G ⟨N, defScope st, 0, true, fun _ => true, g⟩ noE W (envOf N.length [(rSc G.K rInt).pr xs]) e (mk xs) (ownL rInt))
    (hs : ∀ env : PySem.Env, swapsWith (.List [.Constant (.int 0) j1 p1, .Constant (.int 1234567891) j2 p2, .Constant (.int 0) j3 p3, e] p4) none p5.line env = pure false := by intro _; rfl)
    (h1 : Star (.Constant (.int 0) j1 p1) [.Constant (.int 1234567891) j2 p2, .Constant (.int 0) j3 p3, e] := by intro _; rfl) (h2 : Star (.Constant (.int 1234567891) j2 p2) [.Constant (.int 0) j3 p3, e] := by intro _; rfl) (h3 : Star (.Constant (.int 0) j3 p3) [e] := by intro _; rfl) (h4 : Star e [] := by intro _; rfl) :
    FnG g G.P G.w G.K G.mg G.base 1 f fd [pn] (spBag G.K mk) := by
  refine fng_F F sc (fun vs H Q XE h => ?_) (fun cdv A0 outer s H vs Q XE hr hgd hq => ?_)
  · obtain ⟨xs, v, S, rfl, _⟩ := h; rfl
  · obtain ⟨xs, v, S, rfl, hv, sm, q⟩ := hq
    let W : WX := fun cls d _ H => XE cls d H
    have C : CtxOk G ⟨N, defScope st, 0, true, fun _ => true, g⟩ W (cxOf (L2.CX G.P G.w) G.P G.w G.K G.mg G.base N qual (defScope st) f cdv A0 outer s H XE) :=
      ⟨rfl, rfl, rfl, rfl, rfl, rfl, sc.nd, rfl, rfl, hr, hgd, takes_of rfl rfl rfl rfl, passes_of rfl, rfl, fun _ => ⟨rfl, rfl⟩⟩
    rw [hb]
    refine ⟨_, pss_one (ps_ret (pe_lst (pa_cons pe_int (pa_cons pe_int (pa_cons pe_int (pa_cons (h xs W _ C) pa_nil (h4 _)) (h3 _)) (h2 _)) (h1 _)))), ?_⟩
    have hh : Hold noE ⟨S, H⟩ (envOf N.length [(rSc G.K rInt).pr xs]) () (start N [v]) S H := hold_start sm trivial ⟨hv, trivial⟩
    refine ⟨⟨S, H⟩, S, (), hh, ?_⟩
    cases e : mk xs () with
    | stuck => rw [e] at q; exact q.elim
    | exc x b => rw [e] at q; exact q.elim
    | ok cs u =>
      rw [e] at q
      intro w S1 H1 H2 F s1 hh1 hF hk ⟨l, ws, ew, hf, hl, hw⟩
      subst ew
      obtain ⟨n1, _⟩ := hF l ((hf l).mpr rfl)
      refine ⟨by show 4 ≤ _; decide, fun p hp => ?_⟩
      have npl : p ≠ l := fun z => by rw [z, hl] at hp; cases hp
      have hp1 : H1 p = none := by rw [← hk p fun z => npl ((hf p).mp z)]; exact hp
      have oldH : ∀ a o, S a = none → H a = some o → a ≠ p ∧ a ≠ l := fun a o e1 e2 => by
        have := (hh1.kp.kp a o e1 e2 id).2
        exact ⟨ne_of_none this hp1, ne_of_none this n1⟩
      have fr : ∀ a, H1 a = none → H a = none := fun a z => by
        cases y : H a with
        | none => rfl
        | some o =>
          cases t : S a with
          | none => have := (hh1.kp.kp a o t y id).2; rw [z] at this; cases this
          | some o' => have := hh1.same _ _ (hh1.kp.up _ _ t); rw [z] at this; cases this
      refine q p l S1 _ ⟨fun a o e => ?_, hh1.kp.up, fun a o e1 e2 _ => ?_⟩ (hh1.same.free hp1) (hh1.same.free n1) (fr p hp1) (fr l n1) npl upd_same ?_
      · have e := hh1.same _ _ e
        rw [upd_ne (ne_of_none e hp1), hk a fun z => ne_of_none e n1 ((hf a).mp z)]; exact e
      · obtain ⟨y1, y2⟩ := oldH a o e1 e2
        obtain ⟨z1, z2⟩ := hh1.kp.kp a o e1 e2 id
        exact ⟨z1, by rw [upd_ne y1, hk a fun z => y2 ((hf a).mp z)]; exact z2⟩
      · rw [upd_ne (Ne.symm npl), hl, All2.ints hw]
theorem Hold.unbag {Γ : Env} {B : Bs} {σ : St} {S H : Hp} {s : Bag} {p l : Addr} (h : Hold (bagE p l) B Γ s σ S H) (f : ∀ a o, B.S a = none → B.H a = some o → a ≠ p ∧ a ≠ l) : Hold noE B Γ () σ S H := by
  obtain ⟨Fs, hF, hs⟩ := h.sl
  exact ⟨⟨h.kp.same, h.kp.up, fun a o e1 e2 _ => h.kp.kp a o e1 e2 fun z => z.elim (f a o e1 e2).1 (f a o e1 e2).2⟩, trivial, Fs, ⟨fun i a e => let ⟨q1, q2, _, q4⟩ := hF.at_ i a e; ⟨q1, q2, id, q4⟩, hF.ds⟩, hs⟩
theorem Hold.inbag {Γ : Env} {B : Bs} {σ : St} {S H S' H' : Hp} {s : Bag} {p l : Addr} (h : Hold noE B Γ () σ S H) (k : Keep (fun _ => False) ⟨S, H⟩ S' H') (e : (bagE p l).is s S' H') (hp : H p = none) (hl : H l = none) : Hold (bagE p l) B Γ s σ S' H' := by
  obtain ⟨Fs, hF, hs⟩ := h.sl
  refine ⟨⟨k.same, h.kp.up.trans k.up, fun a o h1 h2 _ => ?_⟩, e, Fs, ⟨fun i a e => ?_, hF.ds⟩, fun i t e => ?_⟩
  · obtain ⟨q1, q2⟩ := h.kp.kp a o h1 h2 id
    exact k.kp a o q1 q2 id
  · obtain ⟨q1, q2, q3, o, q4⟩ := hF.at_ i a e
    exact ⟨(k.kp a o q1 q4 id).1, q2, fun z => z.elim (ne_of_none q4 hp) (ne_of_none q4 hl), o, (k.kp a o q1 q4 id).2⟩
  · have q := hs i t e
    cases t with
    | no => trivial
    | st p => obtain ⟨x, e1, e2⟩ := q; exact ⟨x, e1, p.mono k.up e2⟩
    | ow p => obtain ⟨x, e1, e2⟩ := q; exact ⟨x, e1, p.mono k.up (fun a o ha e => (k.kp a o (hF.at_ i a ha).1 e id).2) e2⟩
    | gh p => exact p.mono k.up (fun a o ha e => (k.kp a o (hF.at_ i a ha).1 e id).2) q
def unb (o : Out Bag α) : Out Unit α := match o with | .ok a _ => .ok a () | .exc e _ => .exc e () | .stuck => .stuck
def zbag (mk : List Int → M Unit (List Int)) (xs : List Int) (m : M Bag α) : M Unit α := fun _ => match mk xs () with
  | .ok cs _ => unb (m ⟨0, 1234567891, 0, cs⟩)
  | _ => .stuck
/-- bag = _law_bag(script), then the rest -/
theorem zb_bag {g : Bool} {i j k : Nat} {x y fn : Str} {ps : List Str} {rest : List Stmt} {p p2 p3 pos pos2 : Pos} {mk : List Int → M Unit (List Int)} {xs : List Int} {m : M Bag (Fl α κ ρ)} {Γn : α → Env} (F : FnAt g G fn k ps (spBag G.K mk)) (hk : k ≤ c.k) (hg : g = true → c.gd = true) (gb : Gb c fn)
    (nx : Nm c i x) (hi : Γ[i]? = some (.st ((rSc G.K rInt).pr xs))) (ny : Ns c j y) (h : ∀ p l, ZB G c (bagE p l) W L (Γ.set j (.st ((rRef p).pr ()))) rest m Γn)
    (hd : (fn == ("__debug__" : Str)) = false := by decide) (hs : NoSwap (.Call (.Name fn p2) [.Name x p3] [] pos2) := by intro _ _ _; rfl) :
    ZB G c noE W L Γ (.Assign [.Name y p] (.Call (.Name fn p2) [.Name x p3] [] pos2) pos :: rest) (zbag mk xs m) Γn := fun X C => by
  obtain ⟨f0, fd, h1, h2, h3, h4⟩ := F.ex
  rw [← C.prog, ← C.w, ← C.K, ← C.mg, ← C.base] at h4
  rw [← C.mg] at h1
  rw [← C.K] at h2 h3
  refine pss_wk (pss_cons (ps_set C.set_hN (C.hi ny.n) (by rw [C.sc]; exact ny.l) (pe_callG (Ex := WE W) h4 (C.room.mono hk) (fun z => C.gds (hg z)) (C.gl gb) h1 h2 h3 .nil (passAt C.takes) (pa_cons (pe_var (C.hi nx.n) (by rw [C.sc]; exact nx.v) nx.d nx.cd) pa_nil rfl) hd rfl rfl) (hs _ _ _) (C.hf ny)) (pss_ex fun p : Addr × Addr => h p.1 p.2 X C)) fun D σ H hl ⟨B, S, b, hh, q⟩ => ?_
  obtain ⟨Fs, hF, hsl⟩ := id hh.sl
  obtain ⟨v, e1, e2⟩ := hsl i _ hi
  refine ⟨v, slot_get e1, xs, v, S, rfl, by rw [C.K]; exact e2, hh.same, ?_⟩
  unfold zbag at q
  cases e : mk xs () with
  | stuck => rw [e] at q; exact q.elim
  | exc x b => rw [e] at q; exact q.elim
  | ok cs u =>
    rw [e] at q
    intro p l S' H' k s1 s2 f1 f2 hne e3 e4
    have h' : Hold (bagE p l) B (Γ.set j (.st ((rRef p).pr ()))) ⟨0, 1234567891, 0, cs⟩ (σ.set j (some (.ref p))) S' H' := (hh.inbag (s := ⟨0, 1234567891, 0, cs⟩) k ⟨hne, s1, s2, e3, e4⟩ f1 f2).set (C.lt ny.n hl) rfl
    refine ⟨(p, l), B, S', _, h', ?_⟩
    have ff : ∀ a o, B.S a = none → B.H a = some o → a ≠ p ∧ a ≠ l := fun a o e1 e2 => by
      have := (hh.kp.kp a o e1 e2 id).2
      exact ⟨ne_of_none this f1, ne_of_none this f2⟩
    dsimp only at q
    cases e : m ⟨0, 1234567891, 0, cs⟩ with
    | stuck => rw [e] at q; exact q.elim
    | exc x b => rw [e] at q; exact fun c d σ' S1 H1 h1 xa => q c d σ' S1 H1 (h1.unbag ff) xa
    | ok r b =>
      rw [e] at q
      cases r with
      | nx a => exact fun σ' S1 H1 s h1 => q σ' S1 H1 (k.up.trans s) (h1.unbag ff)
      | rt r => exact fun v σ' S1 H1 h1 rr => q v σ' S1 H1 (h1.unbag ff) rr
      | bk r => exact fun σ' S1 H1 s h1 => q σ' S1 H1 (k.up.trans s) (h1.unbag ff)
      | ct r => exact fun σ' S1 H1 s h1 => q σ' S1 H1 (k.up.trans s) (h1.unbag ff)
end
end Zk

namespace Zk
open PySem L2
/-! ### small checks, for printed walks -/
def visB (k : Option NameKind) : Bool := match k with | some .local => true | some .cell => true | some .free => true | _ => false
def nmB (c : Sc) (i : Nat) (x : Str) : Bool := (c.N[i]? == some x) && visB (c.sc.names.lookup x) && !(x == ("__debug__" : Str)) && !(x == ("__classdict__" : Str))
theorem nm_of {c : Sc} {i : Nat} {x : Str} (h : nmB c i x = true) : Nm c i x := by
  unfold nmB at h
  simp only [Bool.and_eq_true, Bool.not_eq_true', beq_iff_eq] at h
  obtain ⟨⟨⟨h1, h2⟩, h3⟩, h4⟩ := h
  refine ⟨h1, ?_, h3, h4⟩
  cases e : c.sc.names.lookup x with
  | none => rw [e] at h2; cases h2
  | some k =>
    rw [e] at h2
    cases k with
    | «local» => exact .inl e
    | cell => exact .inr (.inl e)
    | free => exact .inr (.inr e)
    | _ => cases h2
def nsB (c : Sc) (i : Nat) (x : Str) : Bool := (c.N[i]? == some x) && (match c.sc.names.lookup x with | some .local => true | some .cell => c.fx x | _ => false)
theorem ns_of {c : Sc} {i : Nat} {x : Str} (h : nsB c i x = true) : Ns c i x := by
  unfold nsB at h
  simp only [Bool.and_eq_true, beq_iff_eq] at h
  obtain ⟨h1, h2⟩ := h
  cases e : c.sc.names.lookup x with
  | none => rw [e] at h2; cases h2
  | some k =>
    rw [e] at h2
    cases k with
    | «local» => exact ⟨h1, .inl e, .inr e⟩
    | cell => exact ⟨h1, .inr e, .inl h2⟩
    | _ => cases h2
theorem blt_of {G : Gx} {c : Sc} {x : Str} {u : Value} (m : G.mg x = none) (h : (c.sc.names.lookup x = some .globalImplicit ∧ bootBuiltins x = some u) ∧ x ≠ "__name__" ∧ (x == ("__debug__" : Str)) = false) : Blt G c x u := ⟨h.1.1, m, h.1.2, h.2.1, h.2.2⟩
theorem blk_of {N : List Str} {sc scope : Scope} {own : List (Str × Nat)} (k : scope.kind = .function) (h : (∀ y ∈ scope.names, scope.names.lookup y.1 = some y.2) ∧ (∀ p ∈ own, N[p.2]? = some p.1) ∧ (∀ y ∈ scope.names, y.2 = .free → sc.names.lookup y.1 = some .cell ∨ sc.names.lookup y.1 = some .free) ∧ ∀ y ∈ scope.names, y.2 = .local ∨ y.2 = .cell → y.1 ∈ own.map (·.1) ∨ y.1 ∉ N) : BlkOk N sc scope own := ⟨k, h.1, h.2.1, h.2.2.1, h.2.2.2⟩
def NoAt (Γ : Env) : List Nat → Prop
  | [] => True
  | v :: vs => Γ[v]? = some .no ∧ NoAt Γ vs
theorem lc_no {Γ : Env} : ∀ {vs : List Nat}, NoAt Γ vs → ∀ (i : Nat) s, Γ[i]? = some s → s = .no ∨ i ∉ vs
  | [], _, _, _, _ => .inr (by simp)
  | v :: vs, ⟨h1, h2⟩, i, s, h => by
    by_cases e : i = v
    · subst e; rw [h1] at h; cases h; exact .inl rfl
    · rcases lc_no h2 i s h with z | z
      · exact .inl z
      · exact .inr (by simp [e, z])
theorem z_gintE {τ : Type} {G : Gx} {c : Sc} {E : Eff τ} {W : WX} {Γ : Env} {x : Str} {i : Int} {pos : Pos} (g : Gb c x) (h : ∃ u, G.mg x = some u ∧ RelV (.int i) u) (hd : (x == ("__debug__" : Str)) = false := by decide) : ZE G c E W Γ (.Name x pos) (ret i) rInt := let ⟨_, h1, h2⟩ := h; z_gint g h1 h2 hd
section
variable {α β γ δ ε : Type} {R1 : Rel α} {R2 : Rel β} {R3 : Rel γ} {R4 : Rel δ}
end
end Zk

namespace Zk
open PySem L2 PySem.Spec PyProof.Rows
/-! ### the end: a law whose def is known with the guards -/
section
variable {P : Program} {w : World} {K : PySem.W.Frag} {mg mb : Str → Option Value} {k : Nat} {fa a : Addr} {fd : FuncData} {x : Str} {sp : Sp} {s : Shared} {vs : List Value} {ns : List Int} {H : Hp}
/-- the call, where nothing but the script may be tracked -/
theorem enter_law (KX : K.In s.heap) (hns : s.heap.Ns mainGlobals mg) (hb : s.heap.Ns builtinsNs mb) (hbb : ∀ x : Str, x ≠ "__name__" → mb x = bootBuiltins x) (hlim : s.heap.NoLimit) (hg : s.gens = #[])
    (ha : s.heap.get? a = some { cls := .type "list", data := .seq vs.toArray }) (hr : Room k callerA) (F : ∀ base : Heap, K.In base → base.Ns mainGlobals mg → FnG true P w K mg base k fa fd [x] sp) (hbind : ∀ (s : Shared) (u : Value), BindsTo s fd ⟨[u], []⟩ [(x, u)])
    (hO : Only H) (hok : HOk P w H s.heap) (hA : ∀ b u, H b = some u → b = a ∧ K.lookup a = none) (hsp : sp [.ref a] H (fun v _ => v = .bl true) fun _ _ _ => False) :
    codeAny (model P w) callerA (.call (.ref fa) ⟨[.ref a], []⟩) (fun r s' => r = .ok (.ret (.bool true)) ∧ OldK s.heap s'.heap ∧ s'.os = s.os ∧ AllBare s'.gens) s := by
  have keepNs : ∀ b (m : Str → Option Value), s.heap.Ns b m → (hidT s.heap H).Ns b m := by
    rintro b m ⟨o, es, ep, e, d, r⟩
    have hn : H b = none := by
      cases q : H b with
      | none => rfl
      | some u =>
        obtain ⟨rfl, _⟩ := hA b u q
        rw [ha] at e
        cases e
        exact nomatch d
    exact ⟨o, es, ep, hidT_get e hn, d, r⟩
  have kin : K.In (hidT s.heap H) := by
    intro b o e
    cases q : H b with
    | none => exact hidT_get (KX b o e) q
    | some u =>
      obtain ⟨rfl, z⟩ := hA b u q
      rw [z] at e
      exact nomatch e
  obtain ⟨ml, l1, l2⟩ := hlim
  have md : Mod K mg (hidT s.heap H) := ⟨kin, keepNs _ _ hns, ⟨mb, keepNs _ _ hb, hbb⟩, ⟨ml, keepNs _ _ l1, l2⟩⟩
  have noMem : ∀ b : Addr, b ∉ ([] : List Addr) := by simp
  refine codeAny_mono ((F _ kin (keepNs _ _ hns)).go callerA [] s H ⟨[.ref a], []⟩ [.ref a] [.ref a] _ _ hr (fun _ => rfl) ⟨rfl, md, fun b o e => of_hidT e, Nat.le_of_eq (hidT_size _ _), trivial, fun b hb => absurd hb (noMem b), hok, .of_eq hg⟩ (hbind s (.ref a)) (.cons rfl .nil) hsp) fun r s' h => ?_
  match r, h with
  | .error e, h =>
    obtain ⟨_, _, _, _, _, _, _, _, _, _, _, _, z⟩ := h
    exact z.elim
  | .ok .next, h => exact False.elim h
  | .ok .brk, h => exact False.elim h
  | .ok .cont, h => exact False.elim h
  | .ok (.ret u), h =>
    obtain ⟨v, H', os, bare, un, hok', rv, q⟩ := h
    have q : v = .bl true := q
    subst q
    have rv : u = Value.bool true := rv
    subst rv
    refine ⟨rfl, OldK.of_keep fun b o e => ?_, os, bare⟩
    rcases hO b with z | ⟨ob, xs, z⟩
    · exact un.keep b o e z (fun y => absurd y (noMem b)) (by simp)
    · obtain ⟨e1, _⟩ := hok b _ z
      obtain ⟨e2, _⟩ := hok' b _ (un.frzs b ob _ z)
      rw [e1] at e
      cases e
      exact e2
open Classical in
theorem enter_lawS (KX : K.In s.heap) (hns : s.heap.Ns mainGlobals mg) (hb : s.heap.Ns builtinsNs mb) (hbb : ∀ x : Str, x ≠ "__name__" → mb x = bootBuiltins x) (hlim : s.heap.NoLimit) (hg : s.gens = #[])
    (ha : s.heap.get? a = some { cls := .type "list", data := .seq vs.toArray }) (hi : IntsAre vs ns) (hl : ns.length ≤ sizeLine) (hr : Room k callerA) (F : ∀ base : Heap, K.In base → base.Ns mainGlobals mg → FnG true P w K mg base k fa fd [x] sp) (hbind : ∀ (s : Shared) (u : Value), BindsTo s fd ⟨[u], []⟩ [(x, u)])
    (hsp : ∀ H, SqL K H a (ns.map V.int) → sp [.ref a] H (fun v _ => v = .bl true) fun _ _ _ => False) :
    codeAny (model P w) callerA (.call (.ref fa) ⟨[.ref a], []⟩) (fun r s' => r = .ok (.ret (.bool true)) ∧ OldK s.heap s'.heap ∧ s'.os = s.os ∧ AllBare s'.gens) s := by
  have rv : Vals (ns.map V.int) vs := vals_ints hi
  have lv : vs.length = ns.length := hi.length
  by_cases hk : K.lookup a = none
  · let u : HO := .frz { cls := .type "list", data := .seq vs.toArray } (.lst (ns.map V.int))
    have at_ : ∀ b z, (fun b => if b = a then some u else none : Hp) b = some z → b = a ∧ z = u := fun b z e => by
      by_cases hba : b = a
      · simp only [hba, if_true] at e; cases e; exact ⟨hba, rfl⟩
      · simp only [if_neg hba] at e; cases e
    refine enter_law (H := fun b => if b = a then some u else none) KX hns hb hbb hlim hg ha hr F hbind (fun b => ?_) (fun b z e => ?_) (fun b z e => ⟨(at_ b z e).1, hk⟩) (hsp _ (.inl (.inr ⟨_, if_pos rfl⟩)))
    · by_cases hba : b = a
      · exact .inr ⟨_, _, if_pos hba⟩
      · exact .inl (if_neg hba)
    · obtain ⟨rfl, rfl⟩ := at_ b z e
      exact ⟨ha, by rw [List.length_map]; exact hl, vs, _, rv, ha⟩
  · obtain ⟨o, e⟩ : ∃ o, K.lookup a = some o := Option.ne_none_iff_exists'.mp hk
    have e2 := KX a o e
    rw [ha] at e2
    cases e2
    exact enter_law (H := fun _ => none) KX hns hb hbb hlim hg ha hr F hbind (fun _ => .inl rfl) (fun b z e => nomatch e) (fun b z e => nomatch e) (hsp _ (.inr ⟨_, vs.toArray, _, e, rfl, rfl, rfl, by rw [List.size_toArray, lv]; exact hl, by simpa using rv⟩))
end
theorem walk_G {l : PySem.W.OpenLaw} {n k : Nat} {q : Program} {loose : List Str} {XP : (Str → Option Value) → Heap → Prop} {YP : World → Heap → Prop} {d : DefRec} {K : Params → PySem.W.Frag} {x : Str} {m : List Int → M Unit Bool}
    (hn : l.most = some n) (hn2 : n ≤ sizeLine) (hdf : d.params.defaults = []) (hr : Room k callerA) (hY : ∀ (w : World) (h : Heap), YP w h → (K w.params).In h)
    (F : ∀ (w : World) (mg : Str → Option Value) (fa : Addr) (h : Heap), (K w.params).In h → h.Ns mainGlobals mg → mg d.name = some (.ref fa) →
      ∃ fd : FuncData, (∀ (s : Shared) (u : Value), BindsTo s fd ⟨[u], []⟩ [(x, u)]) ∧ ∀ base : Heap, (K w.params).In base → base.Ns mainGlobals mg →
        FnG true l.prog w (K w.params) mg base k fa fd [x] (spZ ⟨l.prog, w, K w.params, mg, base⟩ (fun _ : Unit => noE) (fun (_ : Unit) (p : List Int) => [(rSc (K w.params) rInt).pr p]) m rBl))
    (hm : ∀ ns : List Int, ns.length ≤ n → m ns () = .ok true ()) : PySem.W.WalkO q loose XP YP l.row.toRowW d [] (fun f vs => PySem.call f vs) := by
  refine Att.attach_call hn hdf fun w s₀ s₁ mg mb fa o pm cd doc a vs ns G Y ho hd hcd hmg hobj hints hlen hg => ?_
  obtain ⟨fd, hb, hF⟩ := F w mg fa _ (hY w _ Y) G.T.g hmg
  refine enter_lawS (sp := spZ ⟨l.prog, w, K w.params, mg, s₁.heap⟩ (fun _ : Unit => noE) (fun (_ : Unit) (p : List Int) => [(rSc (K w.params) rInt).pr p]) m rBl) (hY w _ Y) G.T.g G.T.b G.T.builtins G.T.nolimit hg hobj hints (Nat.le_trans hlen hn2) hr (fun base k1 k2 => hF base k1 k2) hb fun H hS => ?_
  refine ⟨(), ns, H, (), ⟨⟨a, _, rfl, hS, All2.of_ints ns⟩, trivial⟩, Same.refl _, trivial, ?_⟩
  rw [hm ns hlen]
  exact fun v S' H' _ _ r => r
end Zk

namespace Zk
open PySem L2 PySem.Spec PyProof.Rows
/-! ### mirrors reckoned -/
section
variable {τ α β γ δ κ ρ : Type}
@[simp] theorem bnd_ret {a : α} {f : α → M τ β} : bnd (ret a) f = f a := rfl
@[simp] theorem ret_at {a : α} {s : τ} : (ret a : M τ α) s = .ok a s := rfl
@[simp] theorem zop1_ret {f : α → M τ β} {a : α} : zop1 f (ret a) = f a := rfl
@[simp] theorem zop2_ret {f : α → β → M τ γ} {a : α} {b : β} : zop2 f (ret a) (ret b) = f a b := rfl
@[simp] theorem zapp_ret {f : α → M τ β} {a : α} : zapp f (ret a) = f a := rfl
@[simp] theorem zpair_ret {a : α} {b : β} : zpair (ret a) (ret b) = (ret (a, b) : M τ _) := rfl
@[simp] theorem zcons_ret {a : α} {b : List α} : zcons (ret a) (ret b) = (ret (a :: b) : M τ _) := rfl
@[simp] theorem zget_ret {f : α → β} {a : α} : zget f (ret a) = (ret (f a) : M τ _) := rfl
@[simp] theorem zis_ret {k : Bool} {a : α} : zis k (ret a) = (ret k : M τ _) := rfl
@[simp] theorem zset_ret {a : α} : zset (ret a) = (ret (.nx a) : M τ (Fl α κ ρ)) := rfl
@[simp] theorem zrt_ret {a : ρ} : zrt (ret a) = (ret (.rt a) : M τ (Fl α κ ρ)) := rfl
@[simp] theorem znx_ret {a : α} : znx a = (ret (.nx a) : M τ (Fl α κ ρ)) := rfl
@[simp] theorem zseq_nx {a : α} {f : α → M τ (Fl β κ ρ)} : zseq (ret (.nx a)) f = f a := rfl
@[simp] theorem zseq_rt {r : ρ} {f : α → M τ (Fl β κ ρ)} : zseq (ret (.rt r)) f = ret (.rt r) := rfl
@[simp] theorem zseq_bk {r : κ} {f : α → M τ (Fl β κ ρ)} : zseq (ret (.bk r)) f = ret (.bk r) := rfl
@[simp] theorem zseq_ct {r : κ} {f : α → M τ (Fl β κ ρ)} : zseq (ret (.ct r)) f = ret (.ct r) := rfl
@[simp] theorem zseq_rse {e : Exc} {f : α → M τ (Fl β κ ρ)} : zseq (rse e) f = rse e := rfl
@[simp] theorem zifS_ret {b : Bool} {n o : M τ (Fl α κ ρ)} : zifS (ret b) n o = if b = true then n else o := rfl
@[simp] theorem zif_ret {b : Bool} {n o : M τ α} : zif (ret b) n o = if b = true then n else o := rfl
@[simp] theorem zbody_rt {r : ρ} : zbody (ret (.rt r) : M τ (Fl α κ ρ)) = ret r := rfl
@[simp] theorem zbody_rse {e : Exc} : zbody (rse e : M τ (Fl α κ ρ)) = rse e := rfl
@[simp] theorem zfin_rt {r : ρ} {n : α → M τ ρ} : zfin n (ret (.rt r) : M τ (Fl α κ ρ)) = ret r := rfl
@[simp] theorem zfin_nx {a : α} {n : α → M τ ρ} : zfin n (ret (.nx a) : M τ (Fl α κ ρ)) = n a := rfl
@[simp] theorem zini_nx {y : α} {n : α → ρ} : zini n (ret (.nx y) : M τ (Fl α Empty Empty)) = ret (n y) := rfl
@[simp] theorem lft_ret {a : α} : lft (ret a) = (ret a : M τ α) := rfl
@[simp] theorem lft_rse {e : Exc} : lft (rse e) = (rse e : M τ α) := rfl
@[simp] theorem znot_ret {b : Bool} : znot (ret b) = (ret (!b) : M τ _) := rfl
@[simp] theorem zand_rr {b c : Bool} : zand (ret b) (ret c) = (ret (b && c) : M τ _) := by cases b <;> rfl
@[simp] theorem zor_rr {b c : Bool} : zor (ret b) (ret c) = (ret (b || c) : M τ _) := by cases b <;> rfl
@[simp] theorem zand_t {n : M τ Bool} : zand (ret true) n = n := rfl
@[simp] theorem zand_f {n : M τ Bool} : zand (ret false) n = ret false := rfl
@[simp] theorem zor_t {n : M τ Bool} : zor (ret true) n = ret true := rfl
@[simp] theorem zor_f {n : M τ Bool} : zor (ret false) n = n := rfl
@[simp] theorem iadd_eq {x y : Int} : (iadd x y : M τ Int) = ret (x + y) := rfl
@[simp] theorem isub_eq {x y : Int} : (isub x y : M τ Int) = ret (x - y) := rfl
@[simp] theorem ineg_eq {x : Int} : (ineg x : M τ Int) = ret (-x) := rfl
@[simp] theorem ilt_eq {x y : Int} : (ilt x y : M τ Bool) = ret (decide (x < y)) := rfl
@[simp] theorem ile_eq {x y : Int} : (ile x y : M τ Bool) = ret (decide (x ≤ y)) := rfl
@[simp] theorem igt_eq {x y : Int} : (igt x y : M τ Bool) = ret (decide (x > y)) := rfl
@[simp] theorem ige_eq {x y : Int} : (ige x y : M τ Bool) = ret (decide (x ≥ y)) := rfl
@[simp] theorem feq_eq [DecidableEq α] {x y : α} : (feq x y : M τ Bool) = ret (decide (x = y)) := rfl
@[simp] theorem fne_eq [DecidableEq α] {x y : α} : (fne x y : M τ Bool) = ret (!decide (x = y)) := rfl
@[simp] theorem flen_eq {xs : List α} : (flen xs : M τ Int) = ret (xs.length : Int) := rfl
@[simp] theorem fsum_eq {xs : List Int} : (fsum xs : M τ Int) = ret xs.sum := rfl
@[simp] theorem fabs_eq {x : Int} : (fabs x : M τ Int) = ret (if x < 0 then -x else x) := rfl
@[simp] theorem fall_eq {xs : List Bool} : (fall xs : M τ Bool) = ret (xs.all id) := rfl
@[simp] theorem fany_eq {xs : List Bool} : (fany xs : M τ Bool) = ret (xs.any id) := rfl
@[simp] theorem frA1_eq {j : Int} : (frA1 j : M τ (List Int)) = ret (rng 0 j.toNat) := rfl
@[simp] theorem frA2_eq {x : Int × Int} : (frA2 x : M τ (List Int)) = ret (rng x.1 (x.2 - x.1).toNat) := rfl
@[simp] theorem zenum_ret {xs : List α} : zenum (ret xs) = (ret (fenum xs) : M τ _) := rfl
@[simp] theorem zsome_ret {i : Int} : zsome (ret i) = (ret (some i) : M τ _) := rfl
@[simp] theorem zsl_ret {xs : List α} {l h : Option Int} : zsl (ret xs) (ret l) (ret h) = (ret (cut xs l h) : M τ _) := rfl
theorem chk_pos {c : Prop} [Decidable c] {m : M τ α} (h : c) : chk c m = m := if_pos h
theorem zchain_ret {f : α → β → M τ Bool} {g : β → γ → M τ Bool} {a : α} {b : β} {c : γ} : zchain f g (ret a) (ret b) (ret c) = zand (f a b) (g b c) := rfl
@[simp] theorem zchain_ll {x y z : Int} : zchain ile ile (ret x) (ret y) (ret z) = (ret (decide (x ≤ y) && decide (y ≤ z)) : M τ _) := by rw [zchain_ret]; simp
@[simp] theorem zmeth_ret {f : α × β → M τ γ} {a : α} {b : β} : zmeth f (ret a) (ret b) = f (a, b) := rfl
theorem zlist_ret {xs : List α} (h : xs.length ≤ sizeLine) : zlist (ret xs) = (ret xs : M τ _) := by unfold zlist; rw [bnd_ret, chk_pos h]
theorem imod_eq {x y : Int} (h : 0 < y) : (imod x y : M τ Int) = ret (x % y) := chk_pos h
theorem imul_eq {x y : Int} (h : mulOk x y) : (imul x y : M τ Int) = ret (x * y) := chk_pos h
theorem idiv_eq {x y : Int} (h : divOk x y) : (idiv x y : M τ Int) = ret (x / y) := chk_pos h
theorem mul_small {x y : Int} (h : -(2 ^ 64) < y ∧ y < 2 ^ 64) : mulOk x y := .inr (.inr h)
theorem mul_smallL {x y : Int} (h : -(2 ^ 64) < x ∧ x < 2 ^ 64) : mulOk x y := .inr (.inl h)
theorem div_ok {x y : Int} (h : 0 < y) (hy : y < 2 ^ 9000) : divOk x y := wide_div (b := 9000) h (by omega) (by omega) (by omega)
theorem ixat_eq {xs : List α} {i : Int} {x : α} (h : atI xs i = some x) : (ixat xs i : M τ α) = ret x := by unfold ixat; rw [h]
theorem atI_nat {xs : List α} {i : Int} (h0 : 0 ≤ i) (h : i.toNat < xs.length) : atI xs i = some (xs[i.toNat]'h) := by
  unfold atI ixN
  have : i < xs.length := by omega
  simp [h0, this, h]
theorem ixat_nat {xs : List α} {i : Int} (h0 : 0 ≤ i) (h : i.toNat < xs.length) : (ixat xs i : M τ α) = ret (xs[i.toNat]'h) := ixat_eq (atI_nat h0 h)
theorem atI_last {xs : List α} (h : xs ≠ []) : atI xs (-1) = some (xs.getLast h) := by
  have hl : 0 < xs.length := List.length_pos_iff.mpr h
  unfold atI ixN
  rw [if_neg (by omega), if_pos (by omega)]
  show xs[(-1 + (xs.length : Int)).toNat]? = _
  rw [show (-1 + (xs.length : Int)).toNat = xs.length - 1 by omega, List.getLast_eq_getElem, List.getElem?_eq_getElem (by omega)]
theorem ixat_last {xs : List α} (h : xs ≠ []) : (ixat xs (-1) : M τ α) = ret (xs.getLast h) := ixat_eq (atI_last h)
/-- a comprehension of pure parts -/
theorem zcomp_map {f : β → M τ γ} {g : β → γ} : ∀ (xs : List β) (acc : List γ), (∀ x ∈ xs, f x = ret (g x)) → acc.length + xs.length ≤ sizeLine → zcomp (fun _ => ret true) f acc xs = (ret (acc ++ xs.map g) : M τ _)
  | [], acc, _, _ => by simp [zcomp]
  | x :: xs, acc, h, hl => by
    unfold zcomp
    rw [show nox (ret true : M τ Bool) = ret true from rfl, bnd_ret, if_pos rfl, h x (by simp), show nox (ret (g x) : M τ γ) = ret (g x) from rfl, bnd_ret, chk_pos (by simp at hl; omega), zcomp_map xs (acc ++ [g x]) (fun y hy => h y (by simp [hy])) (by simp at hl ⊢; omega)]
    simp
theorem zlc_map {f : β → M τ γ} {g : β → γ} {xs : List β} (h : ∀ x ∈ xs, f x = ret (g x)) (hl : xs.length ≤ sizeLine) : zlc (fun _ => ret true) f (ret xs) = (ret (xs.map g) : M τ _) := by
  unfold zlc
  rw [bnd_ret, zcomp_map xs [] h (by simpa using hl)]; rfl
theorem deq_eq {R : Rel α} {D : DatR R} [DecidableEq α] {x y : α} (h : deqOk D x y) : (deq D x y : M τ Bool) = ret (decide (x = y)) := chk_pos h
theorem dne_eq {R : Rel α} {D : DatR R} [DecidableEq α] {x y : α} (h : deqOk D x y) : (dne D x y : M τ Bool) = ret (!decide (x = y)) := chk_pos h

/-! ### what a mirror with draws answers -/
def Ok (I : τ → Prop) (m : M τ α) (Q : α → Prop) : Prop := ∀ s, I s → ∃ a s', m s = .ok a s' ∧ I s' ∧ Q a
def OkS (I : τ → Prop) (m : M τ (Fl α κ ρ)) (N : α → Prop) (R : ρ → Prop) (Kb Kc : κ → Prop) : Prop := ∀ s, I s → ∃ o s', m s = .ok o s' ∧ I s' ∧ (match o with | .nx a => N a | .rt r => R r | .bk k => Kb k | .ct k => Kc k)
variable {I : τ → Prop}
theorem ok_ret {a : α} {Q : α → Prop} (h : Q a) : Ok I (ret a) Q := fun s hs => ⟨a, s, rfl, hs, h⟩
theorem Ok.mono {m : M τ α} {P Q : α → Prop} (h : Ok I m P) (k : ∀ a, P a → Q a) : Ok I m Q := fun s hs => let ⟨a, s', e, i, p⟩ := h s hs; ⟨a, s', e, i, k a p⟩
theorem ok_bnd {m : M τ α} {f : α → M τ β} {P : α → Prop} {Q : β → Prop} (h : Ok I m P) (k : ∀ a, P a → Ok I (f a) Q) : Ok I (bnd m f) Q := fun s hs => by
  obtain ⟨a, s', e, i, p⟩ := h s hs
  unfold bnd; rw [e]; exact k a p s' i
theorem ok_op2 {m : M τ α} {n : M τ β} {f : α → β → M τ γ} {P1 : α → Prop} {P2 : β → Prop} {Q : γ → Prop} (h : Ok I m P1) (h2 : Ok I n P2) (k : ∀ a b, P1 a → P2 b → Ok I (f a b) Q) : Ok I (zop2 f m n) Q := ok_bnd h fun a pa => ok_bnd h2 fun b pb => k a b pa pb
theorem ok_app {m : M τ α} {f : α → M τ β} {P : α → Prop} {Q : β → Prop} (h : Ok I m P) (k : ∀ a, P a → Ok I (f a) Q) : Ok I (zapp f m) Q := ok_bnd h k
theorem ok_pair {m : M τ α} {n : M τ β} {P1 : α → Prop} {P2 : β → Prop} (h : Ok I m P1) (h2 : Ok I n P2) : Ok I (zpair m n) (fun p => P1 p.1 ∧ P2 p.2) := ok_bnd h fun a pa => ok_bnd h2 fun b pb => ok_ret ⟨pa, pb⟩
theorem ok_get {m : M τ α} {f : α → β} {P : α → Prop} (h : Ok I m P) : Ok I (zget f m) (fun y => ∃ x, P x ∧ y = f x) := ok_bnd h fun a pa => ok_ret ⟨a, pa, rfl⟩
/-- a list of k things that all keep Q -/
def LOf (k : Nat) (Q : α → Prop) (xs : List α) : Prop := xs.length = k ∧ ∀ x ∈ xs, Q x
theorem ok_nil {Q : α → Prop} : Ok I (ret ([] : List α)) (LOf 0 Q) := ok_ret ⟨rfl, by simp⟩
theorem ok_cons {m : M τ α} {n : M τ (List α)} {k : Nat} {Q : α → Prop} (h : Ok I m Q) (h2 : Ok I n (LOf k Q)) : Ok I (zcons m n) (LOf (k + 1) Q) := ok_bnd h fun a pa => ok_bnd h2 fun b pb => ok_ret ⟨by simp [pb.1], fun x hx => by
  rcases List.mem_cons.mp hx with e | e
  · rw [e]; exact pa
  · exact pb.2 x e⟩
theorem ok_list {m : M τ (List α)} {P : List α → Prop} (h : Ok I m P) (k : ∀ xs, P xs → xs.length ≤ sizeLine) : Ok I (zlist m) P := ok_bnd h fun a pa => by rw [chk_pos (k a pa)]; exact ok_ret pa
theorem ok_listN {m : M τ (List α)} {k : Nat} {Q : α → Prop} (h : Ok I m (LOf k Q)) (hk : k ≤ 1000) : Ok I (zlist m) (LOf k Q) := ok_list h fun xs p => by rw [p.1]; exact Nat.le_trans hk (by decide)
theorem ok_ix {m : M τ (List α)} {n : M τ Int} {k : Nat} {Q : α → Prop} (h : Ok I m (LOf k Q)) (h2 : Ok I n (fun i => 0 ≤ i ∧ i < (k : Int))) : Ok I (zop2 ixat m n) Q := ok_op2 h h2 fun xs i p q => by
  have hi : i.toNat < xs.length := by rw [p.1]; omega
  rw [ixat_nat q.1 hi]
  exact ok_ret (p.2 _ (List.getElem_mem hi))
theorem ok_or {m n : M τ Bool} {P Q : Bool → Prop} (h : Ok I m P) (ht : P true → Q true) (hf : P false → Ok I n Q) : Ok I (zor m n) Q := ok_bnd h fun a pa => by
  cases a with
  | true => exact ok_ret (ht pa)
  | false => exact hf pa
theorem ok_zcomp {f : β → M τ γ} {Q : γ → Prop} : ∀ (xs : List β) (acc : List γ), (∀ x ∈ xs, Ok I (f x) Q) → (∀ y ∈ acc, Q y) → acc.length + xs.length ≤ sizeLine → Ok I (zcomp (fun _ => ret true) f acc xs) (LOf (acc.length + xs.length) Q)
  | [], acc, _, ha, _ => ok_ret ⟨rfl, ha⟩
  | x :: xs, acc, h, ha, hl => by
    unfold zcomp
    rw [show nox (ret true : M τ Bool) = ret true from rfl, bnd_ret, if_pos rfl]
    refine ok_bnd (P := Q) (fun s hs => ?_) fun y hy => ?_
    · obtain ⟨a, s', e, i, p⟩ := h x (by simp) s hs
      exact ⟨a, s', by unfold nox; rw [e], i, p⟩
    · rw [chk_pos (by simp at hl; omega)]
      have := ok_zcomp xs (acc ++ [y]) (fun z hz => h z (by simp [hz])) (fun z hz => by
        rcases List.mem_append.mp hz with q | q
        · exact ha z q
        · simp at q; rw [q]; exact hy) (by simp at hl ⊢; omega)
      refine this.mono fun a p => ⟨?_, p.2⟩
      have := p.1
      simp at this ⊢; omega
theorem ok_lc {f : β → M τ γ} {xs : List β} {Q : γ → Prop} (h : ∀ x ∈ xs, Ok I (f x) Q) (hl : xs.length ≤ sizeLine) : Ok I (zlc (fun _ => ret true) f (ret xs)) (LOf xs.length Q) := by
  unfold zlc
  rw [bnd_ret]
  exact (ok_zcomp xs [] h (by simp) (by simpa using hl)).mono fun a p => by simpa using p
section
variable {N N' : α → Prop} {N2 : β → Prop} {R : ρ → Prop} {Kb Kc : κ → Prop}
theorem oks_seq {m : M τ (Fl α κ ρ)} {f : α → M τ (Fl β κ ρ)} (h : OkS I m N R Kb Kc) (k : ∀ a, N a → OkS I (f a) N2 R Kb Kc) : OkS I (zseq m f) N2 R Kb Kc := fun s hs => by
  obtain ⟨o, s', e, i, p⟩ := h s hs
  unfold zseq; rw [e]
  cases o with
  | nx a => exact k a p s' i
  | rt r => exact ⟨_, _, rfl, i, p⟩
  | bk r => exact ⟨_, _, rfl, i, p⟩
  | ct r => exact ⟨_, _, rfl, i, p⟩
theorem oks_set {m : M τ α} (h : Ok I m N) : OkS I (zset m) N R Kb Kc := fun s hs => by
  obtain ⟨o, s', e, i, p⟩ := h s hs
  exact ⟨.nx o, s', by unfold zset bnd; rw [e]; rfl, i, p⟩
theorem oks_rt {m : M τ ρ} (h : Ok I m R) : OkS I (zrt m : M τ (Fl α κ ρ)) N R Kb Kc := fun s hs => by
  obtain ⟨o, s', e, i, p⟩ := h s hs
  exact ⟨.rt o, s', by unfold zrt bnd; rw [e]; rfl, i, p⟩
theorem oks_nx {a : α} (h : N a) : OkS I (znx a : M τ (Fl α κ ρ)) N R Kb Kc := fun s hs => ⟨.nx a, s, rfl, hs, h⟩
theorem oks_if {m : M τ Bool} {n o : M τ (Fl α κ ρ)} {P : Bool → Prop} (h : Ok I m P) (ht : P true → OkS I n N R Kb Kc) (hf : P false → OkS I o N R Kb Kc) : OkS I (zifS m n o) N R Kb Kc := fun s hs => by
  obtain ⟨b, s', e, i, p⟩ := h s hs
  unfold zifS bnd; rw [e]
  cases b with
  | true => exact ht p s' i
  | false => exact hf p s' i
theorem oks_zfor {f : α → β → M τ (Fl α α ρ)} {J : List β → α → Prop} (step : ∀ x xs a, J (x :: xs) a → OkS I (f a x) (fun a' => J xs a') R N (fun a' => J xs a')) (fin : ∀ a, J [] a → N a) : ∀ (xs : List β) (a : α), J xs a → OkS I (zfor f a xs : M τ (Fl α κ ρ)) N R Kb Kc
  | [], a, h => fun s hs => ⟨.nx a, s, rfl, hs, fin a h⟩
  | x :: xs, a, h => fun s hs => by
    obtain ⟨o, s', e, i, p⟩ := step x xs a h s hs
    unfold zfor; rw [e]
    cases o with
    | nx a' => exact oks_zfor step fin xs a' p s' i
    | ct a' => exact oks_zfor step fin xs a' p s' i
    | bk a' => exact ⟨_, _, rfl, i, p⟩
    | rt r => exact ⟨_, _, rfl, i, p⟩
theorem oks_for {f : α → β → M τ (Fl α α ρ)} {xs : List β} {a0 : α} {J : List β → α → Prop} (h0 : J xs a0) (step : ∀ x xs a, J (x :: xs) a → OkS I (f a x) (fun a' => J xs a') R N (fun a' => J xs a')) (fin : ∀ a, J [] a → N a) : OkS I (zforI (ret xs) a0 f : M τ (Fl α κ ρ)) N R Kb Kc := oks_zfor step fin xs a0 h0
theorem ok_body {m : M τ (Fl α κ ρ)} (h : OkS I m (fun _ => False) R (fun _ => False) (fun _ => False)) : Ok I (zbody m) R := fun s hs => by
  obtain ⟨o, s', e, i, p⟩ := h s hs
  unfold zbody zfin; rw [e]
  cases o with
  | rt r => exact ⟨r, s', rfl, i, p⟩
  | nx a => exact p.elim
  | bk a => exact p.elim
  | ct a => exact p.elim
end
/-! ### repr of lists of ints -/
theorem int_small {i : Int} (h : i.natAbs < 2 ^ 1900) : i.natAbs.log2 < 1920 := by
  by_cases z : i.natAbs = 0
  · rw [z]; decide
  · exact Nat.lt_trans ((Nat.log2_lt z).mpr h) (by omega)
theorem show_int {i : Int} (h : i.natAbs < 2 ^ 1900) : (PyData.shown (.int i)).length ≤ 1921 := by
  simp only [PyData.shown]
  exact PyProof.Rows.int_text_len_1921 (int_small h)
/-! ### the bag -/
def Bok (s : Bag) : Prop := 0 ≤ s.big ∧ 0 ≤ s.mix ∧ 0 ≤ s.pos ∧ ∀ x ∈ s.cells, 0 ≤ x
theorem ok_bget {I : Bag → Prop} {f : Bag → α} {P : α → Prop} (h : ∀ s, I s → P (f s)) : Ok I (bget f) P := fun s hs => ⟨f s, s, rfl, hs, h s hs⟩
theorem oks_bput {I : Bag → Prop} {f : Bag → Int → Bag} {m : M Bag Int} {P : Int → Prop} {R : ρ → Prop} {Kb Kc : κ → Prop} (h : Ok I m P) (k : ∀ s v, I s → P v → I (f s v)) : OkS I (bput f m : M Bag (Fl Unit κ ρ)) (fun _ => True) R Kb Kc := fun s hs => by
  obtain ⟨v, s', e, i, p⟩ := h s hs
  exact ⟨.nx (), f s' v, by unfold bput bnd; rw [e], k s' v i p, trivial⟩
/-- the law's end: from the bag's beginning -/
theorem law_end {mk : List Int → M Unit (List Int)} {xs cs : List Int} {m : M Bag (Fl Unit Empty Bool)} {I : Bag → Prop} (h1 : mk xs = ret cs) (h2 : I ⟨0, 1234567891, 0, cs⟩) (h : OkS I m (fun _ => False) (fun b => b = true) (fun _ => False) (fun _ => False)) : zbody (zbag mk xs m) () = .ok true () := by
  obtain ⟨o, s', e, i, p⟩ := h _ h2
  unfold zbody zfin zbag
  rw [h1]
  simp only [ret_at]
  rw [e]
  cases o with
  | rt r => have p : r = true := p; rw [p]; rfl
  | nx a => exact p.elim
  | bk a => exact p.elim
  | ct a => exact p.elim
end
end Zk

namespace Zk
open PySem L2 PySem.W PyProof.Rows
/-! ### == and != of own classes, by values -/
section
variable {prog : Program} {w : World} {A : Around} {E : Value → Shared → Prop} {s : Shared} {K : PySem.W.Frag} {x C L f : Addr} {h₀ : Heap} {m : Str → Option Value} {ox : Obj} {od : Option Obj} {tb b : Value}
end
section
variable {X : Cx} {k : Nat} {f C : Addr} {fd : FuncData} {ps : List Str} {sp : Sp} {g : Bool}
end
end Zk

namespace Zk
open PySem L2
section
variable {τ α β γ δ κ ρ ι θ : Type} {G : Gx} {c : Sc} {E : Eff τ} {W : WX} {Γ Γ' : Env} {B : Bs} {σ : St} {S S1 S' H H' : Hp} {b b' : τ} {L : Ls κ ρ}
/-- what the written part says of an own class that has __eq__ -/
structure EqAt (g : Bool) (G : Gx) (C : Addr) (k : Nat) (ps : List Str) (sp : Sp) : Prop where
  ex : ∃ f fd, PySem.W.findIn G.K (.ref C) "__eq__" = some (some (.ref f)) ∧ PySem.W.isFn G.K (.ref f) = true ∧ Binds G.K fd ps [] ∧ FnG g G.P G.w G.K G.mg G.base k f fd ps sp
section
variable {C0 : Addr} {k : Nat} {g : Bool} {ps : List Str} {fs : α → List (Str × Pr)} {m : α × α → M Unit Bool} {ea eb : Expr} {ma mb : M τ α} {pos : Pos}
end
/-! ### own __repr__ -/
structure RpAt (g : Bool) (G : Gx) (C : Addr) (k : Nat) (ps : List Str) (sp : Sp) : Prop where
  ex : ∃ f fd, PySem.W.findIn G.K (.ref C) "__repr__" = some (some (.ref f)) ∧ PySem.W.isFn G.K (.ref f) = true ∧ Binds G.K fd ps [] ∧ FnG g G.P G.w G.K G.mg G.base k f fd ps sp
end
end Zk

namespace Zk
open PySem L2
section
variable {τ α β γ δ κ ρ ι θ : Type} {G : Gx} {c : Sc} {E : Eff τ} {W : WX} {Γ Γ' : Env} {B : Bs} {σ : St} {S S1 S' H H' : Hp} {b b' : τ} {L : Ls κ ρ}
/-! ### f-strings -/
/-! ### C(e, ..), what lacks has a default -/
/-! ### an instance of one's own in a slot: a field stored again -/
end
end Zk

namespace Zk
open PySem L2
section
variable {α β γ δ ε : Type} {R1 : Rel α} {R2 : Rel β} {R3 : Rel γ} {i : Int}
structure Ic (K : PySem.W.Frag) (C : Addr) : Prop where
  cl : Cls K C
  a : PySem.W.findIn K (.ref C) "__class__" = some (some (.builtin "object.__class__"))
  n : PySem.W.specialIn K (.builtin "object.__class__") "__get__" = some (some (.builtin "getset_descriptor.__get__"))
  t : PySem.W.takesIn K (.builtin "object.__class__") = some true
  m : PySem.W.mroIn K C (.type "object") = some true
end
end Zk

namespace Zk
open PySem L2 PySem.Spec PyProof.Rows
/-! ### how many things are apart -/
section
variable {τ : Type} {G : Gx} {c : Sc} {E : Eff τ} {W : WX} {Γ : Env}
end
end Zk

namespace Zk
open PySem L2
/-! ### lists of things of several kinds -/
section
variable {τ α β : Type} {G : Gx} {c : Sc} {E : Eff τ} {W : WX} {Γ : Env}
structure DH (A : α → List Pr) where
  d : α → List PyData
  n : Nat
  dep : ∀ x, PyData.depthAll (d x) ≤ n
  dp : ∀ {K : PySem.W.Frag} {x : α} {S H : Hp} {vs : List V}, Same S H → All2 (fun (p : Pr) v => p.p S v) (A x) vs → DpAll K H vs (d x)
  eq : ∀ x y, PyData.eqvAll (d x) (d y) = true ↔ x = y
end
end Zk

namespace Zk
open PySem L2 PySem.Spec PyProof.Rows RT
/-! ### list(reversed(a tuple)) -/
section
variable {prog : Program} {w : World} {A : Around} {E : Value → Shared → Prop} {s : Shared}
end
end Zk

namespace Zk
open PySem L2
section
variable {τ α : Type} {G : Gx} {c : Sc} {E : Eff τ} {W : WX} {Γ : Env}
end
end Zk

namespace Zk
open PySem L2

section
variable {τ α β γ δ κ ρ ι θ : Type} {G : Gx} {c : Sc} {E : Eff τ} {W : WX} {Γ Γ' : Env} {B : Bs} {σ : St} {S S1 S' H H' : Hp} {b b' : τ} {L : Ls κ ρ}
/-! ### own lists of own lists -/
/-- the lists at rs are what xss tells -/
def Rows (R : Rel α) (S H : Hp) (rs : List Addr) (xss : List (List α)) : Prop := All2 (fun xs r => ∃ vs, H r = some (.lst vs) ∧ All2 (fun x v => R.is x S v) xs vs) xss rs
theorem ne_mem {a p : Addr} {rs : List Addr} (h : p ∉ rs) (ha : a ∈ rs) : a ≠ p := fun z => h (by rw [← z]; exact ha)
theorem Rows.mono {R : Rel α} {rs : List Addr} (s : Same S S') (k : ∀ a o, a ∈ rs → H a = some o → H' a = some o) : ∀ {rs' : List Addr} {xss : List (List α)}, (∀ a, a ∈ rs' → a ∈ rs) → Rows R S H rs' xss → Rows R S' H' rs' xss
  | [], [], _, _ => trivial
  | r :: rs', xs :: xss, hm, ⟨⟨vs, e, q⟩, h⟩ => ⟨⟨vs, k _ _ (hm r (by simp)) e, All2.rel s q⟩, Rows.mono s k (fun a ha => hm a (by simp [ha])) h⟩
  | [], _ :: _, _, h => h.elim
  | _ :: _, [], _, h => h.elim
def ownLL (R : Rel α) (rs : List Addr) (xss : List (List α)) : PrO := ⟨fun S H v F => ∃ l, v = .ref l ∧ l ∉ rs ∧ rs.Nodup ∧ (∀ a, F a ↔ a = l ∨ a ∈ rs) ∧ H l = some (.lst (rs.map V.ref)) ∧ Rows R S H rs xss,
  fun s k ⟨l, e, n, d, f, h, q⟩ => ⟨l, e, n, d, f, k _ _ ((f l).mpr (.inl rfl)) h, Rows.mono s (fun a o ha e => k a o ((f a).mpr (.inr ha)) e) (fun _ z => z) q⟩⟩
/-! making: a display of new lists -/
def aftAL (G : Gx) (E : Eff τ) (W : WX) (B : Bs) (Γ : Env) (σ : St) (S : Hp) (R : Rel α) (Q : List V → Hp → Prop) : Out τ (List (List α)) → Prop
  | .ok xss b' => ∀ rs S' H1 H', Same S S' → Hold E B Γ b' σ S' H1 → rs.Nodup → (∀ r ∈ rs, H1 r = none) → (∀ x, x ∉ rs → H' x = H1 x) → Rows R S' H' rs xss → Q (rs.map V.ref) H'
  | .exc x b' => ∀ c d S' H', Same S S' → Hold E B Γ b' σ S' H' → XAt G x H' c d → W c d σ H'
  | .stuck => False
theorem aftAL.same {R : Rel α} {Q : List V → Hp → Prop} (s : Same S S1) : ∀ {o : Out τ (List (List α))}, aftAL G E W B Γ σ S R Q o → aftAL G E W B Γ σ S1 R Q o
  | .ok _ _, h => fun v S' H1 H' s2 => h v S' H1 H' (s.trans s2)
  | .exc _ _, h => fun c d S' H' s2 => h c d S' H' (s.trans s2)
  | .stuck, h => h
/-- what a slot owns -/
theorem ll_at {R : Rel α} {rs : List Addr} {xss : List (List α)} {i : Nat} (h : Hold E B Γ b σ S H) (hi : Γ[i]? = some (.ow (ownLL R rs xss))) : ∃ l, σ[i]? = some (some (.ref l)) ∧ l ∉ rs ∧ rs.Nodup ∧ H l = some (.lst (rs.map V.ref)) ∧ Rows R S H rs xss := by
  obtain ⟨Fs, hF, hs⟩ := h.sl
  obtain ⟨v, e1, l, rfl, n, d, f, hl, q⟩ := hs i _ hi
  exact ⟨l, slot_get e1, n, d, hl, q⟩
theorem Rows.at_ {R : Rel α} : ∀ {rs : List Addr} {xss : List (List α)} {j : Nat} {xs : List α}, Rows R S H rs xss → xss[j]? = some xs → ∃ r vs, rs[j]? = some r ∧ H r = some (.lst vs) ∧ All2 (fun x v => R.is x S v) xs vs := fun {rs xss j xs} h e => by
  obtain ⟨r, e2, vs, e3, e4⟩ := All2.get (β := Addr) h e
  exact ⟨r, vs, e2, e3, e4⟩
/-- one of the own lists is written -/
theorem Hold.row {R : Rel α} {rs : List Addr} {xss : List (List α)} {i j : Nat} {r : Addr} {ys : List α} {vs : List V} (h : Hold E B Γ b σ S H) (hi : Γ[i]? = some (.ow (ownLL R rs xss))) (hr : rs[j]? = some r) (hv : All2 (fun x v => R.is x S v) ys vs) :
    Hold E B (Γ.set i (.ow (ownLL R rs (xss.set j ys)))) b σ S (upd H r (.lst vs)) := by
  obtain ⟨l, e1, n, d, hl, q⟩ := ll_at h hi
  have hlt := (List.getElem?_eq_some_iff.mp e1).1
  have hm : r ∈ rs := by obtain ⟨hj, e⟩ := List.getElem?_eq_some_iff.mp hr; rw [← e]; exact List.getElem_mem hj
  rw [show σ = σ.set i (some (.ref l)) from (slot_set e1).symm]
  refine Hold.mut h hlt (F' := fun a => a = l ∨ a ∈ rs) (fun a hn => upd_ne fun z => hn (.inr (z ▸ hm))) (fun a ha => ?_) ⟨l, rfl, n, d, fun _ => Iff.rfl, ?_, ?_⟩
  · constructor
    · by_cases z : a = r
      · subst z; exact ⟨_, upd_same⟩
      · rw [upd_ne z]
        rcases ha with rfl | ha
        · exact ⟨_, hl⟩
        · obtain ⟨k, hk, rfl⟩ := List.mem_iff_getElem.mp ha
          obtain ⟨_, _, vs, e, _⟩ := All2.get' (β := Addr) q (List.getElem?_eq_getElem hk)
          exact ⟨_, e⟩
    · refine .inr fun Fs hF hs => ?_
      obtain ⟨v, z1, l', rfl, n', d', f', hl', q'⟩ := hs i _ hi
      rw [e1] at z1; cases z1
      exact (f' a).mpr ha
  · rw [upd_ne fun z => n (by rw [z]; exact hm)]; exact hl
  · have : ∀ (rs : List Addr) (xss : List (List α)) (j : Nat), rs.Nodup → rs[j]? = some r → Rows R S H rs xss → Rows R S (upd H r (.lst vs)) rs (xss.set j ys) := by
      intro rs
      induction rs with
      | nil => intro xss j _ e; simp at e
      | cons r0 rs ih =>
        intro xss j nd e q
        match xss, q with
        | xs :: xss, ⟨⟨us, e1, e2⟩, q⟩ =>
          obtain ⟨n0, nd⟩ := List.nodup_cons.mp nd
          cases j with
          | zero =>
            simp at e
            subst e
            exact ⟨⟨vs, upd_same, hv⟩, Rows.mono (rs := rs) (Same.refl _) (fun a o ha e => by rw [upd_ne (ne_mem n0 ha)]; exact e) (fun _ z => z) q⟩
          | succ j =>
            simp at e
            have hm : r ∈ rs := by obtain ⟨hj, e⟩ := List.getElem?_eq_some_iff.mp e; rw [← e]; exact List.getElem_mem hj
            exact ⟨⟨us, by rw [upd_ne (Ne.symm (ne_mem n0 hm))]; exact e1, e2⟩, ih xss j nd e q⟩
    exact this rs xss j d hr q
/-! one of the lists, by its place -/
end
end Zk

namespace Zk
open PySem L2

section
variable {τ α β γ δ κ ρ ι θ : Type} {G : Gx} {c : Sc} {E : Eff τ} {W : WX} {Γ Γ' : Env} {B : Bs} {σ : St} {S S1 S' H H' : Hp} {b b' : τ} {L : Ls κ ρ}
/-! ### among -/
structure ScalIn (R : Rel α) (f : α → V) : Prop where
  s : ScalR R f
  fl : ∀ x, flatV (f x) = true
  eq : ∀ x y, eqV (f x) (f y) = true ↔ x = y
theorem inI : ScalIn rInt V.int := ⟨scI, fun _ => rfl, fun x y => by simp [eqV]⟩
theorem inS : ScalIn rStr V.str := ⟨scS, fun _ => rfl, fun x y => by simp [eqV]⟩
theorem ScalIn.map {R : Rel α} {f : α → V} (D : ScalIn R f) : ∀ {xs : List α} {vs : List V}, All2 (fun x v => R.is x S v) xs vs → vs = xs.map f
  | [], [], _ => rfl
  | _ :: _, _ :: _, ⟨a, b⟩ => by rw [D.s.is a, D.map b]; rfl
  | [], _ :: _, h => h.elim
  | _ :: _, [], h => h.elim
theorem ScalIn.inV {R : Rel α} {f : α → V} [DecidableEq α] (D : ScalIn R f) (x : α) (xs : List α) : inV (f x) (xs.map f) = decide (x ∈ xs) := by
  unfold L2.inV
  rw [List.any_map]
  by_cases h : x ∈ xs
  · rw [decide_eq_true h, List.any_eq_true]; exact ⟨x, h, (D.eq x x).mpr rfl⟩
  · rw [decide_eq_false h, List.any_eq_false]
    intro y hy z
    exact h ((D.eq y x).mp z ▸ hy)
theorem ScalIn.all {R : Rel α} {f : α → V} (D : ScalIn R f) (xs : List α) : (xs.map f).all flatV = true := by
  rw [List.all_map, List.all_eq_true]; exact fun x _ => D.fl x
def fin_ [DecidableEq α] (x : α) (xs : List α) : M τ Bool := ret (decide (x ∈ xs))
def fnin [DecidableEq α] (x : α) (xs : List α) : M τ Bool := ret (!decide (x ∈ xs))
section
variable {ea eb : Expr} {pos : Pos}
theorem op_inL {R : Rel α} {f : α → V} (D : ScalIn R f) [DecidableEq α] : Op2 G E W Γ (rIn G.K false) R (rLst R) fin_ rBl := fun B σ S H b x xs v w Q hh hx ⟨a, vs, e1, e2, e3⟩ q => by
  have e := D.map e3
  subst e
  refine ⟨a, _, e1, .inl (.of (hh.same _ _ e2)), by rw [D.s.is hx]; exact D.fl x, D.all xs, ?_⟩
  rw [D.s.is hx, D.inV]; exact aft_ret hh q rfl
theorem op_ninL {R : Rel α} {f : α → V} (D : ScalIn R f) [DecidableEq α] : Op2 G E W Γ (rIn G.K true) R (rLst R) fnin rBl := fun B σ S H b x xs v w Q hh hx ⟨a, vs, e1, e2, e3⟩ q => by
  have e := D.map e3
  subst e
  refine ⟨a, _, e1, .inl (.of (hh.same _ _ e2)), by rw [D.s.is hx]; exact D.fl x, D.all xs, ?_⟩
  rw [D.s.is hx, D.inV]; exact aft_ret hh q rfl
theorem z_inL {R : Rel α} {f : α → V} (D : ScalIn R f) [DecidableEq α] {ma : M τ α} {mb : M τ (List α)} (ha : ZE G c E W Γ ea ma R) (hb : ZE G c E W Γ eb mb (rLst R)) (hm : behindInMarks .In eb = false := by rfl) : ZE G c E W Γ (.Compare ea [.In] [eb] pos) (zop2 fin_ ma mb) rBl := z_cmp (fun X C => by rw [← C.K]; exact op_in_seq) (op_inL D) ha hb hm
theorem zt_ninL {R : Rel α} {f : α → V} (D : ScalIn R f) [DecidableEq α] {ma : M τ α} {mb : M τ (List α)} (ha : ZE G c E W Γ ea ma R) (hb : ZE G c E W Γ eb mb (rLst R)) (hm : behindInMarks .NotIn eb = false := by rfl) : ZT G c E W Γ (.Compare ea [.NotIn] [eb] pos) (zop2 fnin ma mb) := zt_cmp (fun X C => by rw [← C.K]; exact op_notIn_seq) (op_ninL D) ha hb hm
end
/-! ### int(..) -/
section
variable {e : Expr} {p pos : Pos} {x : Str}
end
end
end Zk

namespace Zk
open PySem L2
/-! ### plain facts: texts, places -/
theorem mem_rng {lo d : Int} {n : Nat} : d ∈ rng lo n ↔ lo ≤ d ∧ d < lo + n := by
  unfold rng
  rw [List.mem_map]
  constructor
  · rintro ⟨i, hi, rfl⟩
    have := List.mem_range.mp hi
    omega
  · intro h
    exact ⟨(d - lo).toNat, List.mem_range.mpr (by omega), by omega⟩
theorem rng_length (lo : Int) (n : Nat) : (rng lo n).length = n := by unfold rng; rw [List.length_map, List.length_range]
end Zk

namespace Zk
open PySem L2

section
variable {τ α β γ δ κ ρ ι θ : Type} {G : Gx} {c : Sc} {E : Eff τ} {W : WX} {Γ Γ' : Env} {B : Bs} {σ : St} {S S1 S' H H' : Hp} {b b' : τ} {L : Ls κ ρ}
/-! ### things of any kind -/
/-- its type -/
def tyD : PyData → String
  | .none => "NoneType" | .bool _ => "bool" | .int _ => "int" | .str _ => "str" | .list _ => "list" | .tuple _ => "tuple" | .dict _ => "dict"
theorem tyx_of {K : PySem.W.Frag} {S : Hp} {v : V} {d : PyData} (h : Dp K S v d) : TyX K S v (.type (tyD d)) := by
  cases h with
  | non => exact .base .non
  | bl b => exact .base (.bl b)
  | int i => exact .base (.int i)
  | str x => exact .base (.str x)
  | lst h q =>
    rcases h with (h | ⟨o, h⟩) | ⟨o, its, n, e1, e2, _⟩
    · exact .base (.lst h)
    · exact .base (.frz h)
    · exact .kList e1 e2
  | tup h q =>
    rcases h with (h | ⟨o, h⟩) | ⟨o, its, n, e1, e2, _⟩
    · exact .base (.tup h)
    · exact .fTuple h
    · exact .kTuple e1 e2
def isD (n : String) (d : PyData) : Bool := tyD d == n || (n == "int" && tyD d == "bool")
section
variable {e : Expr} {p pos : Pos} {x : Str}
end
/-! own == and != with a thing of any kind -/
section
variable {X : Cx} {k : Nat} {f C : Addr} {fd : FuncData} {ps : List Str} {sp : Sp} {g : Bool}
open PySem.W in
open PySem.W in
open PySem.W in
open PySem.W in
end
section
variable {C0 : Addr} {k : Nat} {g : Bool} {ps : List Str} {fs : α → List (Str × Pr)} {m : α × PyData → M Unit Bool} {ea eb : Expr} {pos : Pos} {ma : M τ α} {mb : M τ PyData}
end
end
end Zk

namespace Zk
open PySem L2
/-! ### plain facts: the greatest, the least, parts of lists, comprehensions with a test -/
section
variable {α β γ τ κ ρ : Type}
theorem cut_hi {xs : List α} (k : Nat) : cut xs none (some (k : Int)) = xs.take k := by
  unfold cut
  rw [HT.sIx_none, HT.sIx_nat, List.drop_zero, Nat.sub_zero]
  by_cases h : k ≤ xs.length
  · rw [Nat.min_eq_left h]
  · rw [Nat.min_eq_right (by omega), List.take_of_length_le (Nat.le_refl _), List.take_of_length_le (by omega)]
/-- a comprehension with a test, of pure parts -/
theorem zcomp_filter {t : β → M τ Bool} {f : β → M τ γ} {p : β → Bool} {g : β → γ} : ∀ (xs : List β) (acc : List γ), (∀ x ∈ xs, t x = ret (p x)) → (∀ x ∈ xs, f x = ret (g x)) → acc.length + xs.length ≤ sizeLine → zcomp t f acc xs = (ret (acc ++ (xs.filter p).map g) : M τ _)
  | [], acc, _, _, _ => by simp [zcomp]
  | x :: xs, acc, ht, h, hl => by
    simp only [List.length_cons] at hl
    unfold zcomp
    rw [ht x (by simp), show nox (ret (p x) : M τ Bool) = ret (p x) from rfl, bnd_ret]
    by_cases hp : p x = true
    · rw [if_pos hp, h x (by simp), show nox (ret (g x) : M τ γ) = ret (g x) from rfl, bnd_ret, chk_pos (by omega), zcomp_filter xs (acc ++ [g x]) (fun y hy => ht y (by simp [hy])) (fun y hy => h y (by simp [hy])) (by simp; omega), List.filter_cons_of_pos hp]
      simp
    · rw [if_neg hp, zcomp_filter xs acc (fun y hy => ht y (by simp [hy])) (fun y hy => h y (by simp [hy])) (by omega), List.filter_cons_of_neg hp]
theorem zlc_filter {t : β → M τ Bool} {f : β → M τ γ} {p : β → Bool} {g : β → γ} {xs : List β} (ht : ∀ x ∈ xs, t x = ret (p x)) (h : ∀ x ∈ xs, f x = ret (g x)) (hl : xs.length ≤ sizeLine) : zlc t f (ret xs) = (ret ((xs.filter p).map g) : M τ _) := by
  unfold zlc
  rw [bnd_ret, zcomp_filter xs [] ht h (by simpa using hl)]; rfl
variable {I : τ → Prop}
theorem ok_eqk {m : M τ Int} {k : Int} (h : Ok I m fun _ => True) : Ok I (zop2 feq m (ret k)) fun _ => True := ok_op2 h (ok_ret trivial) (P2 := fun _ => True) fun _ _ _ _ => ok_ret trivial
theorem ok_any {m : M τ α} {P : α → Prop} (h : Ok I m P) : Ok I m fun _ => True := h.mono fun _ _ => trivial
theorem ok_catL {m n : M τ (List α)} {j k : Nat} {Q : α → Prop} (h1 : Ok I m (LOf j Q)) (h2 : Ok I n (LOf k Q)) (hk : j + k ≤ 1000000) : Ok I (zop2 lcat m n) (LOf (j + k) Q) := ok_op2 h1 h2 fun xs ys hx hy => by
  unfold lcat
  rw [chk_pos (by rw [hx.1, hy.1]; exact Nat.le_trans hk (by decide))]
  exact ok_ret ⟨by rw [List.length_append, hx.1, hy.1], fun z hz => (List.mem_append.mp hz).elim (hx.2 z) (hy.2 z)⟩
theorem lcat_eq {xs ys : List α} (h : xs.length + ys.length ≤ 16777216) : (lcat xs ys : M τ _) = ret (xs ++ ys) := chk_pos (by rw [show sizeLine = 16777216 by decide]; exact h)
theorem zlist_eq {xs : List α} (h : xs.length ≤ 16777216) : zlist (ret xs) = (ret xs : M τ _) := zlist_ret (by rw [show sizeLine = 16777216 by decide]; exact h)
end
end Zk

namespace Zk
open PySem L2

/-! ### what is lent: read, never changed -/
def Eff.lent {τ : Type} (E : Eff τ) (L : Hp) : Eff τ where
  own a := E.own a ∨ ∃ o, L a = some o
  is b S H := E.is b S H ∧ (∀ a o, L a = some o → S a = none ∧ H a = some o) ∧ ∀ a o, L a = some o → ¬ E.own a
  mono := fun s f k ⟨h1, h2, h3⟩ => ⟨E.mono s (fun a ha => f a (.inl ha)) (fun a o ha => k a o (.inl ha)) h1, fun a o e => ⟨f a (.inr ⟨o, e⟩) (h2 a o e).1, k a o (.inr ⟨o, e⟩) (h2 a o e).2⟩, h3⟩
  th := fun ⟨h1, h2, h3⟩ ha => ha.elim (fun ha => E.th h1 ha) fun ⟨o, e⟩ => ⟨(h2 _ o e).1, o, (h2 _ o e).2⟩
structure HasL {τ : Type} (E : Eff τ) (L : Hp) : Prop where
  h : ∀ {b : τ} {S H : Hp}, E.is b S H → ∀ a o, L a = some o → H a = some o
theorem hasL {τ : Type} {E : Eff τ} {L : Hp} : HasL (E.lent L) L := ⟨fun h a o e => (h.2.1 a o e).2⟩

section
variable {τ α β γ δ κ ρ ι θ : Type} {G : Gx} {c : Sc} {E : Eff τ} {W : WX} {Γ : Env} {B : Bs} {σ : St} {S S1 S' H H' : Hp} {b b' : τ} {Ls : Ls κ ρ} {L : Hp}
/-- a thing of one's own, as it is seen while it is lent -/
structure View (p : PrO) (q : Hp → Pr) : Prop where
  v : ∀ {S H : Hp} {v : V} {F : Addr → Prop}, p.p S H v F → ∀ L : Hp, (∀ a o, F a → H a = some o → L a = some o) → (q L).p S v
def rLF (L : Hp) (R : Rel α) : Rel (List α) :=
  ⟨fun xs S v => ∃ a vs, v = .ref a ∧ L a = some (.lst vs) ∧ All2 (fun x v => R.is x S v) xs vs, fun s ⟨a, vs, e, h, q⟩ => ⟨a, vs, e, h, All2.rel s q⟩⟩
theorem view_L {R : Rel α} {xs : List α} : View (ownL R xs) (fun L => (rLF L R).pr xs) := ⟨fun ⟨l, vs, e, f, h, q⟩ L k => ⟨l, vs, e, k _ _ ((f l).mpr rfl) h, q⟩⟩
inductive FrzX : Env → (Hp → Env) → Prop
  | nil : FrzX [] (fun _ => [])
  | no {l : Env} {l' : Hp → Env} : FrzX l l' → FrzX (.no :: l) (fun L => .no :: l' L)
  | st {p : Pr} {l : Env} {l' : Hp → Env} : FrzX l l' → FrzX (.st p :: l) (fun L => .st p :: l' L)
  | ow {p : PrO} {q : Hp → Pr} {l : Env} {l' : Hp → Env} : View p q → FrzX l l' → FrzX (.ow p :: l) (fun L => .st (q L) :: l' L)
  | gh {p : PrO} {l : Env} {l' : Hp → Env} : FrzX l l' → FrzX (.gh p :: l) (fun L => .no :: l' L)
theorem FrzX.get {L : Hp} : ∀ {l : Env} {l' : Hp → Env}, FrzX l l' → ∀ {i : Nat} {s : Sl}, (l' L)[i]? = some s → s = .no ∨ (∃ p, s = .st p ∧ l[i]? = some (.st p)) ∨ ∃ p q, s = .st (q L) ∧ View p q ∧ l[i]? = some (.ow p)
  | _, _, .nil, i, s, h => by simp at h
  | _, _, .no f, 0, s, h => by simp at h; exact .inl h.symm
  | _, _, .st f, 0, s, h => by simp at h; exact .inr (.inl ⟨_, h.symm, rfl⟩)
  | _, _, .ow v f, 0, s, h => by simp at h; exact .inr (.inr ⟨_, _, h.symm, v, rfl⟩)
  | _, _, .gh f, 0, s, h => by simp at h; exact .inl h.symm
  | _, _, .no f, i + 1, s, h => by simpa using f.get (i := i) (by simpa using h)
  | _, _, .st f, i + 1, s, h => by simpa using f.get (i := i) (by simpa using h)
  | _, _, .ow v f, i + 1, s, h => by simpa using f.get (i := i) (by simpa using h)
  | _, _, .gh f, i + 1, s, h => by simpa using f.get (i := i) (by simpa using h)
open Classical in
/-- all that is one's own is lent, then back -/
theorem Hold.lendX {Γ' : Hp → Env} (fz : FrzX Γ Γ') (h : Hold E B Γ b σ S H) : ∃ L, Hold (E.lent L) B (Γ' L) b σ S H ∧ ∀ b1 S2 H2, Same S S2 → Hold (E.lent L) B (Γ' L) b1 σ S2 H2 → Hold E B Γ b1 σ S2 H2 := by
  obtain ⟨Fs, hF, hs⟩ := h.sl
  let Ow : Addr → Prop := fun a => ∃ i, (∃ p, Γ[i]? = some (.ow p) ∨ Γ[i]? = some (.gh p)) ∧ Fs i a
  have lOw : ∀ a o, (if Ow a then H a else none) = some o → Ow a ∧ H a = some o := fun a o e => by
    by_cases z : Ow a
    · rw [if_pos z] at e; exact ⟨z, e⟩
    · rw [if_neg z] at e; cases e
  refine ⟨fun a => if Ow a then H a else none, ⟨⟨h.same, h.kp.up, fun a o h1 h2 h3 => h.kp.kp a o h1 h2 fun z => h3 (.inl z)⟩, ⟨h.ef, fun a o e => ?_, fun a o e => ?_⟩, fun _ _ => False, ⟨fun _ _ z => z.elim, fun _ _ _ z => z.elim⟩, fun i s e => ?_⟩, fun b1 S2 H2 s2 h2 => ?_⟩
  · obtain ⟨⟨i, _, z⟩, e⟩ := lOw a o e
    exact ⟨(hF.at_ i a z).1, e⟩
  · obtain ⟨⟨i, _, z⟩, e⟩ := lOw a o e
    exact (hF.at_ i a z).2.2.1
  · rcases fz.get e with rfl | ⟨p, rfl, e'⟩ | ⟨p, q, rfl, vw, e'⟩
    · trivial
    · obtain ⟨x, e1, e2⟩ := hs i _ e'; exact ⟨x, e1, e2⟩
    · obtain ⟨x, e1, e2⟩ := hs i _ e'
      exact ⟨x, e1, vw.v e2 _ fun a o z e => by show (if Ow a then H a else none) = some o; rw [if_pos ⟨i, ⟨p, .inl e'⟩, z⟩]; exact e⟩
  · have kk : ∀ a o, Ow a → H a = some o → S2 a = none ∧ H2 a = some o := fun a o z e => h2.ef.2.1 a o (by show (if Ow a then H a else none) = some o; rw [if_pos z]; exact e)
    refine ⟨⟨h2.same, h2.kp.up, fun a o e1 e2 e3 => h2.kp.kp a o e1 e2 fun z => z.elim e3 fun ⟨o', z⟩ => ?_⟩, h2.ef.1, fun i a => (∃ p, Γ[i]? = some (.ow p) ∨ Γ[i]? = some (.gh p)) ∧ Fs i a, ⟨fun i a ⟨ep, e⟩ => ?_, fun i j a e1 e2 => hF.ds _ _ a e1.2 e2.2⟩, fun i s e => ?_⟩
    · obtain ⟨⟨i, _, z⟩, _⟩ := lOw a o' z
      rw [(hF.at_ i a z).2.1] at e2; cases e2
    · obtain ⟨r1, r2, r3, o, r4⟩ := hF.at_ i a e
      have := kk a o ⟨i, ep, e⟩ r4
      exact ⟨this.1, r2, r3, o, this.2⟩
    · have q := hs i s e
      cases s with
      | no => trivial
      | st p => obtain ⟨x, e1, e2⟩ := q; exact ⟨x, e1, p.mono s2 e2⟩
      | ow p =>
        obtain ⟨x, e1, e2⟩ := q
        refine ⟨x, e1, ?_⟩
        have ef : (fun a => (∃ p, Γ[i]? = some (.ow p) ∨ Γ[i]? = some (.gh p)) ∧ Fs i a) = Fs i := funext fun a => propext ⟨fun z => z.2, fun z => ⟨⟨p, .inl e⟩, z⟩⟩
        show p.p S2 H2 x (fun a => (∃ p, Γ[i]? = some (.ow p) ∨ Γ[i]? = some (.gh p)) ∧ Fs i a)
        rw [ef]
        exact p.mono s2 (fun a o ha e' => (kk a o ⟨i, ⟨p, .inl e⟩, ha⟩ e').2) e2
      | gh p =>
        have ef : (fun a => (∃ p, Γ[i]? = some (.ow p) ∨ Γ[i]? = some (.gh p)) ∧ Fs i a) = Fs i := funext fun a => propext ⟨fun z => z.2, fun z => ⟨⟨p, .inr e⟩, z⟩⟩
        show p.p S2 H2 .non (fun a => (∃ p, Γ[i]? = some (.ow p) ∨ Γ[i]? = some (.gh p)) ∧ Fs i a)
        rw [ef]
        exact p.mono s2 (fun a o ha e' => (kk a o ⟨i, ⟨p, .inr e⟩, ha⟩ e').2) q
theorem z_lendX {Γ' : Hp → Env} {e : Expr} {m : M τ α} {R : Rel α} (fz : FrzX Γ Γ') (h : ∀ L, ZE G c (E.lent L) W (Γ' L) e m R) : ZE G c E W Γ e m R := fun X C => pe_wk (pe_ex fun L => h L X C) fun σ H Q _ ⟨B, S, b, hh, q⟩ => by
  obtain ⟨L, hp, back⟩ := hh.lendX fz
  refine ⟨L, B, S, b, hp, ?_⟩
  cases e : m b with
  | stuck => rw [e] at q; exact q.elim
  | exc x b1 => rw [e] at q; exact fun c d S' H' s' h' xa => q c d S' H' s' (back b1 S' H' s' h') xa
  | ok a b1 => rw [e] at q; exact fun v S' H' s' h' r => q v S' H' s' (back b1 S' H' s' h') r
/-! reading what is lent -/
theorem rlf_at {R : Rel α} {xs : List α} {v : V} (hl : HasL E L) (hh : Hold E B Γ b σ S H) (h : (rLF L R).is xs S v) : ∃ a vs, v = .ref a ∧ L a = some (.lst vs) ∧ H a = some (.lst vs) ∧ All2 (fun x v => R.is x S v) xs vs :=
  let ⟨a, vs, e, h1, q⟩ := h; ⟨a, vs, e, h1, hl.h hh.ef _ _ h1, q⟩
section
variable {ea eb e : Expr} {p pos : Pos} {x : Str}
theorem z_lenF {R : Rel α} {m : M τ (List α)} (hl : HasL E L) (bl : Blt G c x (.builtin "len")) (ha : ZE G c E W Γ e m (rLF L R)) (hs : Star e [] := by intro _; rfl) : ZE G c E W Γ (.Call (.Name x p) [e] [] pos) (zapp flen m) rInt :=
  z_b1 bl (R := rLF L R) (r := fun xs H Q => ∃ p ys, xs = [.ref p] ∧ (SqL G.K H p ys ∨ SqT G.K H p ys) ∧ Q (.int ys.length) H) (fun X C => by rw [← C.K]; exact call_len_seq) (fun B σ S H b x v Q hh hx q => by
    obtain ⟨a, vs, e1, _, e2, e3⟩ := rlf_at hl hh hx
    exact ⟨a, vs, by rw [e1], .inl (.of e2), by rw [← e3.length]; exact aft_ret hh q rfl⟩) ha hs
end

/-! calls where something is lent -/
theorem Hold.callE {E0 : Eff τ} (h : Hold (E0.lent L) B Γ b σ S H) (k : Keep E0.own ⟨S, H⟩ S' H') (e : E0.is b' S' H') : Hold (E0.lent L) B Γ b' σ S' H' :=
  h.call ⟨k.same, k.up, fun a o h1 h2 h3 => k.kp a o h1 h2 fun z => h3 (.inl z)⟩ ⟨e, fun a o z => k.kp a o (h.ef.2.1 a o z).1 (h.ef.2.1 a o z).2 (h.ef.2.2 a o z), h.ef.2.2⟩
/-- of a def of what else may change (the bag) -/
theorem tz_spE {E0 : Eff τ} {E' : θ → Eff τ} {A : θ → α → List Pr} {m : α → M τ ρ} {R : Rel ρ} {q : θ} {x : α} {vs : List V} {Q : VK} (hE : E' q = E0) (h : Hold (E0.lent L) B Γ b σ S H) (r : All2 (fun (p : Pr) v => p.p S v) (A q x) vs) (a : aft G (E0.lent L) W B Γ σ S R Q (m x b)) : spZ G E' A m R vs H Q (WE W σ) := by
  subst hE
  refine ⟨q, x, S, b, r, h.same, h.ef.1, ?_⟩
  cases e : m x b with
  | stuck => rw [e] at a; exact a.elim
  | exc e b' => rw [e] at a; exact fun c d S' H' k he xa => a c d S' H' k.up (h.callE k he) xa
  | ok r b' => rw [e] at a; exact fun v S' H' k he rr => a v S' H' k.up (h.callE k he) rr
theorem z_callU {E0 : Eff τ} {g : Bool} {x : Str} {k : Nat} {ps : List Str} {E' : θ → Eff τ} {A : θ → α → List Pr} {f : α → M τ ρ} {R : Rel ρ} {q : θ} {e : Expr} {es : List Expr} {m : M τ α} {p pos : Pos} (F : FnAt g G x k ps (spZ G E' A f R)) (hE : E' q = E0) (hk : k ≤ c.k) (hg : g = true → c.gd = true) (gb : Gb c x) (ha : ZA G c (E0.lent L) W Γ (e :: es) m (A q))
    (hd : (x == ("__debug__" : Str)) = false := by decide) (he : Star e es := by intro _; rfl) (hpl : ∀ env : PySem.Env, (backTo pos (starEach es env)).any (·.1) = false := by intro _; rfl) : ZE G c (E0.lent L) W Γ (.Call (.Name x p) (e :: es) [] pos) (zapp f m) R := fun X C => by
  obtain ⟨f0, fd, h1, h2, h3, h4⟩ := F.ex
  rw [← C.prog, ← C.w, ← C.K, ← C.mg, ← C.base] at h4
  rw [← C.mg] at h1
  rw [← C.K] at h2 h3
  exact pe_wk (pe_callG (Ex := WE W) h4 (C.room.mono hk) (fun z => C.gds (hg z)) (C.gl gb) h1 h2 h3 .nil (passAt C.takes) (ha X C) hd (he _) (hpl _)) fun σ H Q _ ⟨B, S, b, hh, qq⟩ =>
    tz_Abnd hh qq fun x b1 vs S1 H1 s1 hh1 r1 q1 => by rw [List.append_nil]; exact tz_spE hE hh1 r1 q1
end
end Zk

namespace Zk
open PySem L2

section
variable {τ α β γ δ κ ρ ι θ : Type} {G : Gx} {c : Sc} {E : Eff τ} {W : WX} {Γ : Env} {B : Bs} {σ : St} {S S1 S' H H' : Hp} {b b' : τ} {Ls : Ls κ ρ} {L : Hp}
/-! ### instances made of what is lent -/
/-- behind the making of an instance -/
theorem Hold.made {E : Eff Unit} {b : Unit} {C0 l dx : Addr} (hh : Hold E B Γ b σ S H) (hl : H l = none) (hdx : H dx = none) (k : Keep E.own ⟨S, del (upd (upd H dx (.own l)) l (.ins C0 dx [])) l⟩ S' H') (he : E.is () S' H') (hS' : S' l = none) : Hold E B Γ () σ S' (del H' l) := by
  have old : ∀ a o, H a = some o → del (upd (upd H dx (.own l)) l (.ins C0 dx [])) l a = some o := fun a o e => by
    rw [del_ne (ne_of_none e hl), upd_ne (ne_of_none e hl), upd_ne (ne_of_none e hdx)]; exact e
  have nl := hh.fr hl
  refine hh.call ⟨fun a o e => ?_, k.up, fun a o e1 e2 e3 => ?_⟩ (E.mono (Same.refl _) (fun _ _ z => z) (fun a o ha e => ?_) he)
  · rw [del_ne (fun z => by rw [z, hS'] at e; cases e)]; exact k.same _ _ e
  · rw [del_ne (ne_of_none e2 hl)]; exact k.kp a o e1 (old a o e2) e3
  · rw [del_ne (fun z => nl (by rw [← z]; exact ha))]; exact e
/-! ### a loop over an own list of own lists, each changed in its turn; then it is gone -/
/-- the list at l, and of its lists those at rs -/
def ownRest (R : Rel α) (l : Addr) (rs0 rs : List Addr) (xss : List (List α)) : PrO := ⟨fun S H v F => v = .ref l ∧ l ∉ rs ∧ rs.Nodup ∧ (∀ a, F a ↔ a = l ∨ a ∈ rs) ∧ H l = some (.lst (rs0.map V.ref)) ∧ Rows R S H rs xss,
  fun s k ⟨e, n, d, f, h, q⟩ => ⟨e, n, d, f, k _ _ ((f l).mpr (.inl rfl)) h, Rows.mono s (fun a o ha e => k a o ((f a).mpr (.inr ha)) e) (fun _ z => z) q⟩⟩
/-- one of the lists goes into a slot of its own -/
theorem Hold.split {R : Rel α} {l : Addr} {rs0 rs : List Addr} {r : Addr} {xs : List α} {xss : List (List α)} {i j : Nat} (h : Hold E B Γ b σ S H) (hi : Γ[i]? = some (.ow (ownRest R l rs0 (r :: rs) (xs :: xss)))) (hij : j ≠ i) (hj : j < σ.length) :
    Hold E B ((Γ.set i (.ow (ownRest R l rs0 rs xss))).set j (.ow (ownL R xs))) b (σ.set j (some (.ref r))) S H := by
  obtain ⟨Fs, hF, hs⟩ := h.sl
  obtain ⟨v, e1, rfl, n, d, f, hl, ⟨us, eu, hu⟩, q⟩ := hs i _ hi
  obtain ⟨nr, d⟩ := List.nodup_cons.mp d
  have nl : l ∉ rs := fun z => n (by simp [z])
  have hlr : l ≠ r := fun z => n (by simp [z])
  have fi : ∀ a, Fs i a ↔ a = l ∨ a = r ∨ a ∈ rs := fun a => (f a).trans (by simp)
  let Fn : Nat → Addr → Prop := fun k a => if k = j then a = r else if k = i then a = l ∨ a ∈ rs else Fs k a
  have sub : ∀ k a, Fn k a → ∃ k', Fs k' a ∧ (k' = k ∨ (k' = i ∧ (k = j ∨ k = i))) := fun k a e => by
    show ∃ k', Fs k' a ∧ _
    by_cases hk : k = j
    · have e : a = r := by have : (if k = j then a = r else if k = i then a = l ∨ a ∈ rs else Fs k a) := e; rwa [if_pos hk] at this
      exact ⟨i, (fi a).mpr (.inr (.inl e)), .inr ⟨rfl, .inl hk⟩⟩
    · have e : (if k = j then a = r else if k = i then a = l ∨ a ∈ rs else Fs k a) := e
      rw [if_neg hk] at e
      by_cases hk2 : k = i
      · rw [if_pos hk2] at e
        exact ⟨i, (fi a).mpr (e.elim .inl fun z => .inr (.inr z)), .inr ⟨rfl, .inr hk2⟩⟩
      · rw [if_neg hk2] at e
        exact ⟨k, e, .inl rfl⟩
  refine ⟨h.kp, h.ef, Fn, ⟨fun k a e => ?_, fun k m a e1 e2 => ?_⟩, fun k s e => ?_⟩
  · obtain ⟨k', e', _⟩ := sub k a e
    exact hF.at_ k' a e'
  · have g1 : ∀ k, Fn k a → k = j → a = r := fun k e hk => by have e : (if k = j then a = r else if k = i then a = l ∨ a ∈ rs else Fs k a) := e; rwa [if_pos hk] at e
    have g2 : ∀ k, Fn k a → k ≠ j → k = i → a = l ∨ a ∈ rs := fun k e hk hk2 => by have e : (if k = j then a = r else if k = i then a = l ∨ a ∈ rs else Fs k a) := e; rwa [if_neg hk, if_pos hk2] at e
    have g3 : ∀ k, Fn k a → k ≠ j → k ≠ i → Fs k a := fun k e hk hk2 => by have e : (if k = j then a = r else if k = i then a = l ∨ a ∈ rs else Fs k a) := e; rwa [if_neg hk, if_neg hk2] at e
    have nor : a = r → ¬ (a = l ∨ a ∈ rs) := fun z w => w.elim (fun w => hlr (w.symm.trans z)) fun w => nr (by rw [← z]; exact w)
    have inI : (a = r ∨ a = l ∨ a ∈ rs) → Fs i a := fun z => (fi a).mpr (by rcases z with z | z | z <;> simp [z])
    by_cases k1 : k = j <;> by_cases m1 : m = j
    · rw [k1, m1]
    · by_cases m2 : m = i
      · exact absurd (g2 m e2 m1 m2) (nor (g1 k e1 k1))
      · exact absurd (hF.ds _ _ a (g3 m e2 m1 m2) (inI (.inl (g1 k e1 k1)))) m2
    · by_cases k2 : k = i
      · exact absurd (g2 k e1 k1 k2) (nor (g1 m e2 m1))
      · exact absurd (hF.ds _ _ a (g3 k e1 k1 k2) (inI (.inl (g1 m e2 m1)))) k2
    · by_cases k2 : k = i <;> by_cases m2 : m = i
      · rw [k2, m2]
      · exact absurd (hF.ds _ _ a (g3 m e2 m1 m2) (inI (.inr (g2 k e1 k1 k2)))) m2
      · exact absurd (hF.ds _ _ a (g3 k e1 k1 k2) (inI (.inr (g2 m e2 m1 m2)))) k2
      · exact hF.ds _ _ a (g3 k e1 k1 k2) (g3 m e2 m1 m2)
  · rcases set_get e with ⟨rfl, rfl⟩ | ⟨nk, e⟩
    · rw [List.getElem?_set_self hj]
      refine ⟨.ref r, rfl, r, us, rfl, fun a => ?_, eu, hu⟩
      show (if k = k then a = r else _) ↔ a = r
      rw [if_pos rfl]
    · rw [List.getElem?_set_ne (Ne.symm nk)]
      rcases set_get e with ⟨rfl, rfl⟩ | ⟨ni, e⟩
      · refine ⟨.ref l, e1, rfl, nl, d, fun a => ?_, hl, q⟩
        show (if k = j then a = r else if k = k then a = l ∨ a ∈ rs else Fs k a) ↔ _
        rw [if_neg nk, if_pos rfl]
      · have hq := hs k s e
        have ef : Fn k = Fs k := funext fun a => by
          show (if k = j then a = r else if k = i then a = l ∨ a ∈ rs else Fs k a) = Fs k a
          rw [if_neg nk, if_neg ni]
        rw [ef]
        exact hq
end
end Zk

namespace Zk
open PySem L2

section
variable {τ α β γ δ κ ρ ι θ : Type} {G : Gx} {c : Sc} {E : Eff τ} {W : WX} {Γ : Env} {B : Bs} {σ : St} {S S1 S' H H' : Hp} {b b' : τ} {Ls : Ls κ ρ} {L : Hp}
end
end Zk

namespace Zk
open PySem L2

/-! ### sorted of data -/
section
variable {X : Cx} {β : Type}
end
section
variable {τ α β γ δ κ ρ ι θ : Type} {G : Gx} {c : Sc} {E : Eff τ} {W : WX} {Γ Γ' : Env} {B : Bs} {σ : St} {S S1 S' H H' : Hp} {b b' : τ} {L : Ls κ ρ}
/-- data that can be compared -/
structure Srt {R : Rel α} (D : DatR R) : Prop where
  al : ∀ a b, PySem.W.alike (D.d a) (D.d b) = true
  nn : ∀ a, D.d a ≠ .none
structure SrtK {R : Rel α} (D : DatR R) : Prop extends Srt D where
  k : (∀ b, ∃ x r, D.d b = .tuple (x :: r)) ∨ ∀ b, D.d b ≠ .none ∧ ∀ xs, D.d b ≠ .tuple xs
/-! ### texts -/
theorem op_mul_str {X : Cx} : OpR X (binaryOp .Mult) (fun x y H Q => ∃ z i, x = .str z ∧ y = .int i ∧ -(2 ^ 63) ≤ i ∧ i < 2 ^ 63 ∧ z.length * i.toNat ≤ sizeLine ∧ Q (.str (Txt.mul z i)) H) := by
  intro pins s σ H x y v u Q I rx ry h
  obtain ⟨z, i, rfl, rfl, h1, h2, h3, q⟩ := h
  obtain ⟨t, rfl⟩ := rx
  obtain ⟨t2, rfl⟩ := ry
  refine SB.mul ⟨?_, fun h4 h5 => ?_, fun h4 h5 => ?_⟩ fun t' k => ⟨.str _, H, I.tok _, ⟨_, rfl⟩, q⟩
  · rw [Bool.or_eq_false_iff, decide_eq_false_iff_not, decide_eq_false_iff_not]; omega
  · intro h6
    have h7 : (2 ^ 63 - 1 : Int) < z.length * i := by
      have := Int.lt_mul_of_ediv_lt (by omega) h6
      exact this
    have h8 : ((z.length * i.toNat : Nat) : Int) = z.length * i := by
      push_cast
      rw [Int.toNat_of_nonneg (by omega)]
    have h9 : ((z.length * i.toNat : Nat) : Int) ≤ (sizeLine : Int) := by exact_mod_cast h3
    have : (sizeLine : Int) = 16777216 := by decide
    omega
  · show PySem.Builtin.Str.tooLong (z.length * i.toNat) = false
    unfold PySem.Builtin.Str.tooLong
    rw [decide_eq_false_iff_not]; omega
def smul (x : Str) (k : Int) : M τ Str := chk (-(2 ^ 63) ≤ k ∧ k < 2 ^ 63 ∧ x.length * k.toNat ≤ sizeLine) (ret (Txt.mul x k))
variable {ea eb e : Expr} {p pos : Pos}
theorem z_mulS {ma : M τ Str} {mb : M τ Int} (ha : ZE G c E W Γ ea ma rStr) (hb : ZE G c E W Γ eb mb rInt) : ZE G c E W Γ (.BinOp ea .Mult eb pos) (zop2 smul ma mb) rStr :=
  z_bin (Ra := rStr) (Rb := rInt) (fun _ _ => op_mul_str) (fun B σ S H b x y v w Q hh hx hy q => by
    obtain ⟨⟨h1, h2, h3⟩, q⟩ := aft_chk q
    exact ⟨x, y, hx, hy, h1, h2, h3, aft_ret hh q rfl⟩) ha hb
def sixat (x : Str) (i : Int) : M τ Str := chk (x.length ≤ sizeLine) (match atI x.cps.toList i with | some c => ret ⟨#[c]⟩ | none => stk)
theorem z_ixS {ma : M τ Str} {mb : M τ Int} (ha : ZE G c E W Γ ea ma rStr) (hb : ZE G c E W Γ eb mb rInt) (hs : PIx eb := by intro _ _; rfl) : ZE G c E W Γ (.Subscript ea eb pos) (zop2 sixat ma mb) rStr := fun X C =>
  pe_wk (pe_ix ix_str (ha X C) (hb X C) hs) fun _ _ _ _ q => by
    refine tz_op2 (fun B σ S H b x i v w Q hh hx hi q => ?_) q
    obtain ⟨h1, q⟩ := aft_chk q
    cases z : atI x.cps.toList i with
    | none => rw [z] at q; exact q.elim
    | some y =>
      rw [z] at q
      exact ⟨x, i, y, hx, hi, h1, z, aft_ret hh q rfl⟩
def zslS (m : M τ Str) (l h : M τ (Option Int)) : M τ Str := bnd m fun xs => bnd l fun lo => bnd h fun hi => chk (xs.length ≤ sizeLine) (ret (Txt.slice xs lo hi))
theorem z_slS {m : M τ Str} {l h : M τ (Option Int)} {lo hi : Option Expr} {p2 : Pos} (he : ZE G c E W Γ e m rStr) (hl : ZP G c E W Γ lo l) (hh : ZP G c E W Γ hi h) : ZE G c E W Γ (.Subscript e (.Slice lo hi none p2) pos) (zslS m l h) rStr := fun X C =>
  pe_wk (pe_slice C8.sl_txt (he X C) (hl X C) (hh X C)) fun σ H Q _ ⟨B, S, b, hh, q⟩ => by
    refine tz_bnd hh q fun xs b1 v S1 H1 s1 h1 r1 q1 => ?_
    refine ⟨B, S1, b1, h1, ?_⟩
    unfold bnd at q1
    cases e : l b1 with
    | stuck => rw [e] at q1; exact q1.elim
    | exc x b1 => rw [e] at q1; exact q1
    | ok lo b2 =>
      rw [e] at q1
      intro S2 H2 s2 h2
      refine ⟨B, S2, b2, h2, ?_⟩
      dsimp only at q1
      cases e : h b2 with
      | stuck => rw [e] at q1; exact q1.elim
      | exc x b1 => rw [e] at q1; exact fun c d S' H' s' h' xa => q1 c d S' H' (s2.trans s') h' xa
      | ok hi b3 =>
        rw [e] at q1
        intro S3 H3 s3 h3
        obtain ⟨hz, q2⟩ := aft_chk q1
        exact ⟨xs, r1, hz, aft_ret h3 (aft.same (s2.trans s3) q2) rfl⟩
def signs (x : Str) : List Str := x.cps.toList.map fun c => ⟨#[c]⟩
theorem src_str {P : Hp → Hp → Prop} {x : Str} : Src P (Its x) (signs x) rStr (fun _ => True) where
  mono := fun _ _ => trivial
  go := fun {i S H} s _ _ hi => by
    show i < x.cps.size
    simpa [signs] using hi
  yl := fun {i S H H' v y} s _ _ hy ⟨e1, c, e2, e3⟩ => .inl ⟨e1, by
    unfold signs at hy
    rw [List.getElem?_map, Array.getElem?_toList, e2] at hy
    cases hy; exact e3⟩
  st := fun s _ _ => by
    show x.cps.size ≤ (signs x).length
    simp [signs]
def fsigns (x : Str) : M τ (List Str) := ret (signs x)
theorem zi_str {tg : Expr} {m : M τ Str} (h : ZE G c E W Γ e m rStr) : ZI G c E W Γ tg e (zapp fsigns m) rStr := fun X C => pi_wk (pi_str (h X C)) fun σ H Q ⟨B, S, b, hh, q⟩ => by
  refine ⟨B, S, b, hh, ?_⟩
  unfold zapp bnd at q
  cases e : m b with
  | stuck => rw [e] at q; exact q.elim
  | exc x b1 => rw [e] at q; exact q
  | ok x b1 => rw [e] at q; exact fun v S' H' s h' hx => ⟨x, hx, q _ _ S' H' s h' src_str trivial⟩
def sin_ (x y : Str) : M τ Bool := match x.cps.toList with | [c] => ret (decide (c ∈ y.cps.toList)) | _ => stk
theorem sin_op : Op2 G E W Γ (fun x y H Q => ∃ (c : Nat) (z : Str), x = .str ⟨#[c]⟩ ∧ y = .str z ∧ Q (.bl (decide (c ∈ z.cps.toList))) H) rStr rStr sin_ rBl := fun B σ S H b x y v w Q hh hx hy q => by
  unfold sin_ at q
  match e : x.cps.toList with
  | [c] =>
    rw [e] at q
    have ex : x = ⟨#[c]⟩ := by
      cases x with
      | mk cps => simp only [Str.mk.injEq]; exact Array.toList_inj.mp e
    exact ⟨c, y, by rw [hx, ex], hy, aft_ret hh q rfl⟩
  | [] => rw [e] at q; exact q.elim
  | _ :: _ :: _ => rw [e] at q; exact q.elim
theorem z_inS {ma mb : M τ Str} (ha : ZE G c E W Γ ea ma rStr) (hb : ZE G c E W Γ eb mb rStr) (hm : behindInMarks .In eb = false := by rfl) : ZE G c E W Γ (.Compare ea [.In] [eb] pos) (zop2 sin_ ma mb) rBl := z_cmp (fun _ _ => op_in_sign) sin_op ha hb hm
theorem z_gstrE {x : Str} {i : Str} (g : Gb c x) (h : ∃ u, G.mg x = some u ∧ RelV (.str i) u) (hd : (x == ("__debug__" : Str)) = false := by decide) : ZE G c E W Γ (.Name x pos) (ret i) rStr := let ⟨_, h1, h2⟩ := h; z_gstr g h1 h2 hd
end
end Zk

namespace Zk
open PySem L2 PySem.Spec PyProof.Rows

/-! ### keys that are tuples: data without lists and dicts -/
mutual
def nkD : PyData → NestedKey
  | .none => .none
  | .bool b => .num (if b = true then 1 else 0)
  | .int i => .num i
  | .str x => .text x
  | .tuple xs => .tup (nkAll xs)
  | .list _ => .none
  | .dict _ => .none
def nkAll : List PyData → List NestedKey
  | [] => []
  | x :: xs => nkD x :: nkAll xs
end
mutual
def keyD : PyData → Bool
  | .none => true
  | .bool _ => true
  | .int _ => true
  | .str _ => true
  | .tuple xs => keyAll xs
  | .list _ => false
  | .dict _ => false
def keyAll : List PyData → Bool
  | [] => true
  | x :: xs => keyD x && keyAll xs
end
mutual
theorem nested_of {h : Heap} : ∀ (d : PyData) (v : Value) (as : List Addr), Reads h v d as → keyD d = true → NestedIs h (nkD d) v
  | .none, _, _, r, _ => by cases r; rw [nkD]; exact .none
  | .bool b, _, _, r, _ => by cases r; rw [nkD]; exact .bool rfl
  | .int i, _, _, r, _ => by cases r; rw [nkD]; exact .int _ _
  | .str x, _, _, r, _ => by cases r; rw [nkD]; exact .text _ _
  | .tuple xs, _, _, r, k => by
    cases r with
    | tuple h1 h2 h3 h4 => rw [nkD]; exact .tup h1 h2 h3 (nested_all xs _ _ h4 (by simpa [keyD] using k))
  | .list _, _, _, _, k => by simp [keyD] at k
  | .dict _, _, _, _, k => by simp [keyD] at k
theorem nested_all {h : Heap} : ∀ (ds : List PyData) (vs : List Value) (as : List Addr), ReadsAll h vs ds as → keyAll ds = true → NestedAll h (nkAll ds) vs
  | [], _, _, r, _ => by cases r; rw [nkAll]; exact .nil
  | d :: ds, _, _, r, k => by
    rw [keyAll, Bool.and_eq_true] at k
    cases r with
    | cons h1 h2 => rw [nkAll]; exact .cons (nested_of d _ _ h1 k.1) (nested_all ds _ _ h2 k.2)
end
mutual
theorem nk_eqv : ∀ d e : PyData, keyD d = true → keyD e = true → nkD d = nkD e → PyData.eqv d e = true
  | .none, e, _, k, h => by cases e <;> simp_all [nkD, keyD, PyData.eqv]
  | .bool b, e, _, k, h => by cases e <;> simp_all [nkD, keyD, PyData.eqv]
                              all_goals (cases b <;> simp_all)
                              all_goals (rename_i b'; cases b' <;> simp_all)
  | .int i, e, _, k, h => by cases e <;> simp_all [nkD, keyD, PyData.eqv]
  | .str x, e, _, k, h => by cases e <;> simp_all [nkD, keyD, PyData.eqv]
  | .tuple xs, e, k1, k, h => by
    cases e with
    | tuple ys =>
      simp only [nkD, NestedKey.tup.injEq] at h
      simp only [keyD] at k1 k
      simp only [PyData.eqv]
      exact nkAll_eqv xs ys k1 k h
    | _ => simp_all [nkD, keyD]
  | .list _, _, k, _, _ => by simp [keyD] at k
  | .dict _, _, k, _, _ => by simp [keyD] at k
theorem nkAll_eqv : ∀ ds es : List PyData, keyAll ds = true → keyAll es = true → nkAll ds = nkAll es → PyData.eqvAll ds es = true
  | [], [], _, _, _ => by simp [PyData.eqvAll]
  | d :: ds, e :: es, k1, k2, h => by
    rw [keyAll, Bool.and_eq_true] at k1 k2
    simp only [nkAll, List.cons.injEq] at h
    simp [PyData.eqvAll, nk_eqv d e k1.1 k2.1 h.1, nkAll_eqv ds es k1.2 k2.2 h.2]
  | [], _ :: _, _, _, h => by simp [nkAll] at h
  | _ :: _, [], _, _, h => by simp [nkAll] at h
end
/-- a kind whose things may be keys, all of them tuples -/
structure KyT {κ : Type} {R : Rel κ} (D : DatR R) : Prop where
  key : ∀ x, keyD (D.d x) = true
  tup : ∀ x, ∃ xs, D.d x = .tuple xs
  dep : ∀ x, (nkD (D.d x)).depth ≤ 8
theorem KyT.inj {κ : Type} {R : Rel κ} {D : DatR R} (h : KyT D) {x y : κ} (e : nkD (D.d x) = nkD (D.d y)) : x = y := (D.eq x y).mp (nk_eqv _ _ (h.key x) (h.key y) e)

/-! ### dicts of such keys -/
abbrev NE := NestedKey × Addr × V
def elook (es : List NE) (k : NestedKey) : Option V := (es.find? fun e => decide (e.1 = k)).map (·.2.2)
def ehas (es : List NE) (k : NestedKey) : Bool := es.any fun e => decide (e.1 = k)
def eput (es : List NE) (k : NestedKey) (b : Addr) (v : V) : List NE := if ehas es k = true then es.map (fun e => if e.1 = k then (e.1, e.2.1, v) else e) else es ++ [(k, b, v)]
abbrev NP : List NE → List (NestedKey × Addr × Value) → Prop := Paired fun e x => e.1 = x.1 ∧ e.2.1 = x.2.1 ∧ RelV e.2.2 x.2.2
theorem NP.look {k : NestedKey} : ∀ {es : List NE} {xs : List (NestedKey × Addr × Value)}, NP es xs → RelO (elook es k) ((atKey xs k).map (·.2)) := fun {es xs} r => by
  induction r with
  | nil => exact True.intro
  | @cons e x es xs h t ih =>
    obtain ⟨h1, _, h3⟩ := h
    by_cases z : e.1 = k
    · have z' : x.1 = k := h1.symm.trans z
      have a : elook (e :: es) k = some e.2.2 := by simp [elook, List.find?_cons, z]
      have b : atKey (x :: xs) k = some x.2 := by simp [atKey, List.find?_cons, z']
      rw [a, b]; exact h3
    · have z' : ¬ x.1 = k := fun y => z (h1.trans y)
      have a : elook (e :: es) k = elook es k := by simp [elook, List.find?_cons, z]
      have b : atKey (x :: xs) k = atKey xs k := by simp [atKey, List.find?_cons, z']
      rw [a, b]; exact ih
theorem ehas_look (k : NestedKey) : ∀ es : List NE, ehas es k = (elook es k).isSome
  | [] => rfl
  | e :: es => by
    have ih := ehas_look k es
    unfold ehas elook at *
    by_cases z : e.1 = k
    · simp [List.find?_cons, z]
    · simp only [List.any_cons, decide_eq_false z, Bool.false_or, List.find?_cons]; exact ih
theorem NP.repl {k : NestedKey} {v : V} {u : Value} (rv : RelV v u) {es : List NE} {xs : List (NestedKey × Addr × Value)} (r : NP es xs) : NP (es.map fun e => if e.1 = k then (e.1, e.2.1, v) else e) (xs.map (putAt k u)) := by
  induction r with
  | nil => exact .nil
  | @cons e x es xs h t ih =>
    rw [List.map_cons, List.map_cons]
    refine .cons ?_ ih
    obtain ⟨h1, h2, h3⟩ := h
    unfold putAt
    by_cases z : e.1 = k
    · rw [if_pos z, if_pos (h1.symm.trans z)]; exact ⟨h1, h2, rv⟩
    · rw [if_neg z, if_neg (fun y => z (h1.trans y))]; exact ⟨h1, h2, h3⟩
theorem NP.put {k : NestedKey} {b : Addr} {v : V} {u : Value} {es : List NE} {xs : List (NestedKey × Addr × Value)} (r : NP es xs) (rv : RelV v u) : NP (eput es k b v) (storedH xs k b u) := by
  have e : ehas es k = (atKey xs k).isSome := by rw [ehas_look, (r.look (k := k)).isSome_eq, Option.isSome_map]
  unfold eput storedH
  rw [e]
  by_cases q : (atKey xs k).isSome = true
  · rw [if_pos q, if_pos q]; exact r.repl rv
  · rw [if_neg q, if_neg q]; exact Paired.snoc r ⟨rfl, rfl, rv⟩
section
variable {X : Cx} {pins : List (Addr × Obj)} {σ : L2.St} {H : Hp} {s : Shared} {a b : Addr} {es : List NE} {k : NestedKey} {A : Around} {EE : Value → Shared → Prop}
/-- .ref b is the key k -/
def KAt (K : PySem.W.Frag) (H : Hp) (b : Addr) (k : NestedKey) : Prop := ∃ d, Dp K H (.ref b) d ∧ nkD d = k ∧ keyD d = true ∧ (nkD d).depth ≤ 8
theorem KAt.is (I : Inv X pins σ H s) (h : KAt X.K H b k) : (nestedKind X.prog X.w).is s.heap k b := by
  obtain ⟨d, h1, h2, h3, h4⟩ := h
  obtain ⟨as, hr⟩ := Dp.reads I d (.ref b) (.ref b) h1 rfl
  rw [← h2]
  exact ⟨nested_of d _ _ hr h3, h4⟩
end
section
variable {X : Cx} {o i e value : Expr} {pos pos' tpos : Pos} {td ty tv : TE}
end
section
variable {X : Cx} {pins : List (Addr × Obj)} {σ : L2.St} {H : Hp} {s : Shared} {d : Addr} {o : Obj} {es : List NE}
end
end Zk

namespace Zk
open PySem L2

/-! ### dicts as association lists -/
section
variable {κ α β : Type} [DecidableEq κ]
def dlook (xs : List (κ × α)) (k : κ) : Option α := (xs.find? fun p => decide (p.1 = k)).map (·.2)
def dput (xs : List (κ × α)) (k : κ) (v : α) : List (κ × α) := if xs.any (fun p => decide (p.1 = k)) = true then xs.map (fun p => if p.1 = k then (p.1, v) else p) else xs ++ [(k, v)]
structure MonoE (t : TE) : Prop where
  h : ∀ {σ : St} {H : Hp} {Q Q' : VK}, (∀ v H, Q v H → Q' v H) → t σ H Q → t σ H Q'
theorem pc_wk {X : Cx} {op : CmpOp} {a b : Expr} {t t' : TE} (h : PC X op a b t) (w : ∀ σ H Q, σ.length = X.N.length → t' σ H Q → t σ H Q) : PC X op a b t' := ⟨fun pins s σ H Q I q => h.run pins s σ H Q I (w σ H Q I.len q)⟩
structure CtxE (G : Gx) (X : Cx) : Prop where
  P : X.prog = G.P
  w : X.w = G.w
  K : X.K = G.K
  hu : X.A.units + 64 < cLine
  calm : X.calm = true
def klook {T : Type} (val : T → V) (ks : List κ) (es : List T) (k : κ) : Option V := ((ks.zip es).find? fun p => decide (p.1 = k)).map fun p => val p.2
def kput {T : Type} (rv : T → V → T) (t : T) (ks : List κ) (es : List T) (k : κ) (v : V) : List T := if ks.any (fun x => decide (x = k)) = true then (ks.zip es).map (fun p => if p.1 = k then rv p.2 v else p.2) else es ++ [t]
theorem klook_nil {T : Type} {val : T → V} {k : κ} {es : List T} : klook val ([] : List κ) es k = none := by simp [klook]
theorem klook_cons {T : Type} {val : T → V} {x k : κ} {ks : List κ} {t : T} {es : List T} : klook val (x :: ks) (t :: es) k = if x = k then some (val t) else klook val ks es k := by
  unfold klook
  rw [List.zip_cons_cons, List.find?_cons]
  by_cases h : x = k
  · simp [h]
  · simp [h]
end
/-- a kind of keys, and of the dicts that have such keys -/
structure Ky (G : Gx) (κ : Type) [DecidableEq κ] where
  R : Rel κ
  T : Type
  val : T → V
  kr : κ → Hp → T → Prop
  krm : ∀ {x : κ} {S S' : Hp} {t : T}, Same S S' → kr x S t → kr x S' t
  ob : Addr → List T → HO
  mu : ∀ a es, Mut (some (ob a es))
  nt : κ → V → V → T
  mkv : ∀ k y v, val (nt k y v) = v
  mkr : ∀ {k : κ} {S : Hp} {y v : V}, R.is k S y → kr k S (nt k y v)
  rv : T → V → T
  rvv : ∀ t v, val (rv t v) = v
  rvr : ∀ {x : κ} {S : Hp} {t : T} {v : V}, kr x S t → kr x S (rv t v)
  get : ∀ {X : Cx}, CtxE G X → ∀ {o i : Expr} {pos : Pos} {td ty : TE}, MonoE td → MonoE ty → PE X o td → PE X i ty → NoSl i → PE X (.Subscript o i pos) (fun σ H Q => td σ H fun x H1 => ty σ H1 fun y H2 => ∃ a es ks k S v, x = .ref a ∧ Rd H2 a (ob a es) ∧ Same S H2 ∧ All2 (fun x t => kr x S t) ks es ∧ R.is k S y ∧ klook val ks es k = some v ∧ Q v H2)
  has : ∀ {X : Cx}, CtxE G X → ∀ (neg : Bool) {o i : Expr} {td ty : TE}, MonoE td → MonoE ty → PE X i ty → PE X o td → PC X (if neg = true then .NotIn else .In) i o (fun σ H Q => ty σ H fun y H1 => td σ H1 fun x H2 => ∃ a es ks k S, x = .ref a ∧ Rd H2 a (ob a es) ∧ Same S H2 ∧ All2 (fun x t => kr x S t) ks es ∧ R.is k S y ∧ Q (.bl (neg ^^ (klook val ks es k).isSome)) H2)
  get2 : ∀ {X : Cx}, CtxE G X → ∀ {o e f : Expr} {apos cpos : Pos} {td ty tx : TE}, MonoE td → MonoE ty → MonoE tx → PE X o td → PE X e ty → PE X f tx → M2 X o "get" apos e f cpos → PE X (.Call (.Attribute o "get" apos) [e, f] [] cpos) (fun σ H Q => td σ H fun x H1 => ∃ a es0 ks0 S0, x = .ref a ∧ Rd H1 a (ob a es0) ∧ Same S0 H1 ∧ All2 (fun x t => kr x S0 t) ks0 es0 ∧ ty σ H1 fun y H2 => tx σ H2 fun z H3 => ∃ es ks k S, Rd H3 a (ob a es) ∧ Same S H3 ∧ All2 (fun x t => kr x S t) ks es ∧ R.is k S y ∧ Q ((klook val ks es k).getD z) H3)
  put : ∀ {X : Cx}, CtxE G X → ∀ {o i value : Expr} {pos pos' : Pos} {td ty tv : TE}, MonoE td → MonoE ty → MonoE tv → PE X o td → PE X i ty → PE X value tv → (swapsWith value (some (.Subscript o i pos')) pos.line X.env = pure false) → PS X (.Assign [.Subscript o i pos'] value pos) (fun D σ H => tv σ H fun v H1 => td σ H1 fun x H2 => ty σ H2 fun y H3 => ∃ a es ks k S, x = .ref a ∧ H3 a = some (ob a es) ∧ Same S H3 ∧ All2 (fun x t => kr x S t) ks es ∧ R.is k S y ∧ es.length < sizeLine ∧ D.nx σ (upd H3 a (ob a (kput rv (nt k y v) ks es k v))))
  aug : ∀ {X : Cx}, CtxE G X → ∀ {o i value : Expr} {op : Operator} {rd : V → V → Hp → VK → Prop} {pos pos' : Pos} {td ty tv : TE}, MonoE td → MonoE ty → MonoE tv → (∀ x y H, ∀ {Q Q' : VK}, (∀ v H, Q v H → Q' v H) → rd x y H Q → rd x y H Q') → PE X o td → PE X i ty → PE X value tv → InOp X op rd → (∀ ov iv new, augStore i ov iv new = (do holding [new, ov, iv] (setItem ov iv new); release [new, ov, iv] []; pure .next)) → PS X (.AugAssign (.Subscript o i pos') op value pos) (fun D σ H => td σ H fun x H1 => ty σ H1 fun y H2 => ∃ a es ks k S v, x = .ref a ∧ H2 a = some (ob a es) ∧ Same S H2 ∧ All2 (fun x t => kr x S t) ks es ∧ R.is k S y ∧ klook val ks es k = some v ∧
    tv σ H2 fun y2 H3 => rd v y2 H3 fun z H4 => ∃ es ks S, H4 a = some (ob a es) ∧ Same S H4 ∧ All2 (fun x t => kr x S t) ks es ∧ R.is k S y ∧ es.length < sizeLine ∧ D.nx σ (upd H4 a (ob a (kput rv (nt k y z) ks es k z))))
  nw : ∀ {X : Cx}, CtxE G X → ∀ {pos : Pos}, PE X (.Dict [] [] pos) (fun _ H Q => ∀ p, H p = none → Q (.ref p) (upd H p (ob p [])))
  it : Addr → Obj → List T → It
  pi : ∀ {X : Cx}, CtxE G X → ∀ {tg e : Expr} {td : TE}, MonoE td → PE X e td → PI X tg e (fun σ H Q => td σ H fun x H1 => ∃ d o es, x = .ref d ∧ H1 d = some (.frz o (ob d es)) ∧ Q (it d o es) H1)
  src : ∀ {P : Hp → Hp → Prop} {d : Addr} {o : Obj} {es : List T} {ks : List κ}, Src P (it d o es) ks R (fun S => S d = some (.frz o (ob d es)) ∧ All2 (fun x t => kr x S t) ks es)

/-! ### keys that are whole numbers or texts -/
structure KyF {κ : Type} (R : Rel κ) (f : κ → Key) : Prop where
  at_ : ∀ {x : κ} {S : Hp} {v : V}, R.is x S v ↔ v = kV (f x)
  inj : ∀ {x y : κ}, f x = f y → x = y
theorem kyfS : KyF rStr Sum.inr := ⟨Iff.rfl, fun h => Sum.inr.inj h⟩
section
variable {κ : Type} [DecidableEq κ] {R : Rel κ} {f : κ → Key}
theorem flat_look (F : KyF R f) (k : κ) : ∀ {ks : List κ} {es : List (Key × V)}, All2 (fun x t => t.1 = f x) ks es → valV es (f k) = klook (·.2) ks es k
  | [], [], _ => by rw [klook_nil]; rfl
  | x :: ks, t :: es, ⟨h, q⟩ => by
    rw [klook_cons]
    by_cases e : x = k
    · rw [if_pos e, valV_pos (by rw [h, e])]
    · rw [if_neg e, valV_neg (by rw [h]; exact fun z => e (F.inj z)), flat_look F k q]
  | [], _ :: _, h => h.elim
  | _ :: _, [], h => h.elim
theorem flat_any (F : KyF R f) (k : κ) : ∀ {ks : List κ} {es : List (Key × V)}, All2 (fun x t => t.1 = f x) ks es → (es.any fun kv => decide (kv.1 = f k)) = ks.any fun x => decide (x = k)
  | [], [], _ => rfl
  | x :: ks, t :: es, ⟨h, q⟩ => by
    rw [List.any_cons, List.any_cons, flat_any F k q, h]
    congr 1
    by_cases e : x = k
    · simp [e]
    · rw [decide_eq_false e, decide_eq_false fun z => e (F.inj z)]
  | [], _ :: _, h => h.elim
  | _ :: _, [], h => h.elim
theorem flat_map (F : KyF R f) (k : κ) (v : V) : ∀ {ks : List κ} {es : List (Key × V)}, All2 (fun x t => t.1 = f x) ks es → (es.map fun kv => if kv.1 = f k then (kv.1, v) else kv) = (ks.zip es).map fun p => if p.1 = k then (p.2.1, v) else p.2
  | [], [], _ => rfl
  | x :: ks, t :: es, ⟨h, q⟩ => by
    rw [List.map_cons, List.zip_cons_cons, List.map_cons, flat_map F k v q]
    congr 1
    by_cases e : x = k
    · rw [if_pos (by rw [h, e]), if_pos e]
    · rw [if_neg (by rw [h]; exact fun z => e (F.inj z)), if_neg e]
  | [], _ :: _, h => h.elim
  | _ :: _, [], h => h.elim
theorem flat_put (F : KyF R f) {k : κ} {v : V} {ks : List κ} {es : List (Key × V)} (h : All2 (fun x t => t.1 = f x) ks es) : putK es (f k) v = kput (fun t v => (t.1, v)) (f k, v) ks es k v := by
  unfold putK kput
  rw [flat_any F k h, flat_map F k v h]
def kyF (G : Gx) (F : KyF R f) : Ky G κ where
  R := R
  T := Key × V
  val := (·.2)
  kr x _ t := t.1 = f x
  krm := fun _ h => h
  ob := fun _ es => .dK es
  mu := fun _ _ => trivial
  nt k _ v := (f k, v)
  mkv := fun _ _ _ => rfl
  mkr := fun _ => rfl
  rv t v := (t.1, v)
  rvv := fun _ _ => rfl
  rvr := fun h => h
  get := fun {X} C {o i pos td ty} md my ho hi hs => pe_wk (pe_dget (by have := C.hu; omega) ho hi hs) fun σ H Q _ q => md.h (fun x H1 q => my.h (fun y H2 ⟨a, es, ks, k, S, v, e1, e2, e3, e4, e5, e6, q⟩ =>
    ⟨a, v, e1, .inl ⟨es, f k, e2, F.at_.mp e5, by rw [← e6]; exact (flat_look F k e4).symm⟩, q⟩) q) q
  has := fun {X} C neg {o i td ty} md my hi ho => by
    cases neg with
    | false => exact pc_wk (pc_din (by have := C.hu; omega) hi ho) fun σ H Q _ q => my.h (fun y H1 q => md.h (fun x H2 ⟨a, es, ks, k, S, e1, e2, e3, e4, e5, q⟩ =>
        ⟨a, _, e1, .inl ⟨es, f k, e2, F.at_.mp e5, rfl⟩, by rw [flat_look F k e4]; simpa using q⟩) q) q
    | true => exact pc_wk (pc_dnotin (by have := C.hu; omega) hi ho) fun σ H Q _ q => my.h (fun y H1 q => md.h (fun x H2 ⟨a, es, ks, k, S, e1, e2, e3, e4, e5, q⟩ =>
        ⟨a, _, e1, .inl ⟨es, f k, e2, F.at_.mp e5, rfl⟩, by rw [flat_look F k e4]; simpa using q⟩) q) q
  get2 := fun {X} C {o e f' apos cpos td ty tx} md my mx ho he hf m => pe_wk (pe_dget2 (by have := C.hu; omega) ho he hf m) fun σ H Q _ q => md.h (fun x H1 ⟨a, es0, ks0, S0, e1, e2, _, _, q⟩ =>
    ⟨a, e1, .inl ⟨es0, e2⟩, my.h (fun y H2 q => mx.h (fun z H3 ⟨es, ks, k, S, f1, f2, f3, f4, q⟩ => ⟨_, .inl ⟨es, f k, f1, F.at_.mp f4, rfl⟩, by rw [flat_look F k f3]; exact q⟩) q) q⟩) q
  put := fun {X} C {o i value pos pos' td ty tv} md my mv ho hi hv hs => ps_wk (ps_dput (by have := C.hu; omega) ho hi hv hs) fun D σ H _ q => mv.h (fun v H1 q => md.h (fun x H2 q => my.h (fun y H3 ⟨a, es, ks, k, S, e1, e2, e3, e4, e5, e6, q⟩ =>
    ⟨a, _, e1, .inl ⟨es, f k, e2, F.at_.mp e5, e6, rfl⟩, by rw [flat_put F e4]; exact q⟩) q) q) q
  aug := fun {X} C {o i value op rd pos pos' td ty tv} md my mv mr ho hi hv hop ha => ps_wk (ps_daug (by have := C.hu; omega) ho hi hv hop ha) fun D σ H _ q => md.h (fun x H1 q => my.h (fun y H2 ⟨a, es, ks, k, S, v, e1, e2, e3, e4, e5, e6, q⟩ =>
    ⟨a, v, e1, .inl ⟨es, f k, .inl e2, F.at_.mp e5, by rw [← e6]; exact (flat_look F k e4).symm⟩, mv.h (fun y2 H3 q => mr _ _ _ (fun z H4 ⟨es, ks, S, f1, f2, f3, f4, f5, q⟩ =>
      ⟨_, .inl ⟨es, f k, f1, F.at_.mp f4, f5, rfl⟩, by rw [flat_put F f3]; exact q⟩) q) q⟩) q) q
  nw := fun C {pos} => pe_dnewK
  it := Itk
  pi := fun {X} C {tg e td} md he => pi_wk (pi_keys he) fun σ H Q q => md.h (fun x H1 ⟨d, o, es, e1, e2, q⟩ => ⟨d, o, e1, .inl ⟨es, e2, q⟩⟩) q
  src := {
    mono := fun s ⟨e, q⟩ => ⟨s _ _ e, q⟩
    go := fun {i S H} s _ ⟨e, q⟩ hi => ⟨s _ _ e, by rw [← q.length]; exact hi⟩
    yl := fun {i S H H' x y} s _ ⟨e, q⟩ hy ⟨e1, k, v, e2, e3⟩ => .inl ⟨e1, by
      obtain ⟨t, h1, h2⟩ := q.get hy
      rw [e2] at h1; cases h1
      exact F.at_.mpr (by rw [e3]; exact congrArg kV h2)⟩
    st := fun s _ ⟨e, q⟩ => ⟨s _ _ e, by rw [q.length]; exact Nat.le_refl _⟩ }
end

/-! ### keys that are tuples -/
section
open PySem.Spec PyProof.Rows
variable {X : Cx} {o i e value : Expr} {pos pos' tpos : Pos} {td ty tv : TE}
end
section
variable {κ : Type} [DecidableEq κ] {R : Rel κ} {D : DatR R}
end
end Zk

namespace Zk
open PySem L2

section
variable {τ α β γ δ κ ρ ι θ υ : Type} {G : Gx} {c : Sc} {E : Eff τ} {W : WX} {Γ Γ' : Env} {B : Bs} {σ : St} {S S1 S' H H' : Hp} {b b' : τ} {L : Ls κ ρ}
theorem CtxOk.e {X : Cx} (C : CtxOk G c W X) : CtxE G X := ⟨C.prog, C.w, C.K, C.room.units, C.calm⟩
/-! ### what a dict tells -/
section
variable [DecidableEq ι]
def DRel (K : Ky G ι) (R2 : Rel α) (S : Hp) (xs : List (ι × α)) (es : List K.T) : Prop := All2 (fun x t => K.kr x.1 S t ∧ R2.is x.2 S (K.val t)) xs es
variable {K : Ky G ι} {R2 : Rel α}
theorem DRel.mono (s : Same S S') {xs : List (ι × α)} {es : List K.T} (h : DRel K R2 S xs es) : DRel K R2 S' xs es := h.imp fun x t ⟨h1, h2⟩ => ⟨K.krm s h1, R2.mono s h2⟩
theorem DRel.keys : ∀ {xs : List (ι × α)} {es : List K.T}, DRel K R2 S xs es → All2 (fun x t => K.kr x S t) (xs.map (·.1)) es
  | [], [], _ => trivial
  | _ :: _, _ :: _, ⟨h, q⟩ => ⟨h.1, DRel.keys q⟩
  | [], _ :: _, h => h.elim
  | _ :: _, [], h => h.elim
theorem dlook_cons {x : ι × α} {xs : List (ι × α)} {k : ι} : dlook (x :: xs) k = if x.1 = k then some x.2 else dlook xs k := by
  unfold dlook
  rw [List.find?_cons]
  by_cases h : x.1 = k
  · simp [h]
  · simp [h]
theorem DRel.look {k : ι} : ∀ {xs : List (ι × α)} {es : List K.T}, DRel K R2 S xs es → match dlook xs k with | some y => ∃ v, klook K.val (xs.map (·.1)) es k = some v ∧ R2.is y S v | none => klook K.val (xs.map (·.1)) es k = none
  | [], [], _ => klook_nil
  | x :: xs, t :: es, ⟨h, q⟩ => by
    have ih := DRel.look (k := k) q
    rw [dlook_cons, List.map_cons, klook_cons]
    by_cases e : x.1 = k
    · rw [if_pos e, if_pos e]; exact ⟨_, rfl, h.2⟩
    · rw [if_neg e, if_neg e]; exact ih
  | [], _ :: _, h => h.elim
  | _ :: _, [], h => h.elim
theorem DRel.isSome {k : ι} {xs : List (ι × α)} {es : List K.T} (h : DRel K R2 S xs es) : (klook K.val (xs.map (·.1)) es k).isSome = (dlook xs k).isSome := by
  have := h.look (k := k)
  cases e : dlook xs k with
  | none => rw [e] at this; rw [this]; rfl
  | some y => rw [e] at this; obtain ⟨v, h1, _⟩ := this; rw [h1]; rfl
theorem DRel.repl {k : ι} {y : α} {v : V} (r : R2.is y S v) : ∀ {xs : List (ι × α)} {es : List K.T}, DRel K R2 S xs es → DRel K R2 S (xs.map fun p => if p.1 = k then (p.1, y) else p) (((xs.map (·.1)).zip es).map fun p => if p.1 = k then K.rv p.2 v else p.2)
  | [], [], _ => trivial
  | x :: xs, t :: es, ⟨h, q⟩ => by
    rw [List.map_cons, List.map_cons, List.zip_cons_cons, List.map_cons]
    refine ⟨?_, DRel.repl r q⟩
    by_cases e : x.1 = k
    · rw [if_pos e, if_pos e]; exact ⟨K.rvr h.1, by rw [K.rvv]; exact r⟩
    · rw [if_neg e, if_neg e]; exact h
  | [], _ :: _, h => h.elim
  | _ :: _, [], h => h.elim
theorem DRel.put {k : ι} {y : α} {v kv : V} {xs : List (ι × α)} {es : List K.T} (h : DRel K R2 S xs es) (hk : K.R.is k S kv) (r : R2.is y S v) : DRel K R2 S (dput xs k y) (kput K.rv (K.nt k kv v) (xs.map (·.1)) es k v) := by
  unfold dput kput
  have e : ((xs.map (·.1)).any fun x => decide (x = k)) = xs.any fun p => decide (p.1 = k) := by rw [List.any_map]; rfl
  rw [e]
  split
  · exact h.repl r
  · exact All2.append h ⟨⟨K.mkr hk, by rw [K.mkv]; exact r⟩, trivial⟩
/-- a dict that stays as it is -/
def rDct (K : Ky G ι) (R2 : Rel α) : Rel (List (ι × α)) := ⟨fun xs S v => ∃ a o es, v = .ref a ∧ S a = some (.frz o (K.ob a es)) ∧ DRel K R2 S xs es, fun s ⟨a, o, es, e, h, q⟩ => ⟨a, o, es, e, s _ _ h, q.mono s⟩⟩
def ownD (K : Ky G ι) (R2 : Rel α) (xs : List (ι × α)) : PrO := ⟨fun S H v F => ∃ l es, v = .ref l ∧ (∀ a, F a ↔ a = l) ∧ H l = some (K.ob l es) ∧ DRel K R2 S xs es, fun s k ⟨l, es, e, f, h, q⟩ => ⟨l, es, e, f, k _ _ ((f l).mpr rfl) h, q.mono s⟩⟩
/-! ### reading -/
variable {eo ei ed : Expr} {pos : Pos}
/-! ### new ones -/
theorem zf_dnew : ZF G c E W Γ (.Dict [] [] pos) (ret ([] : List (ι × α))) (ownD K R2) := fun X C => pe_wk (K.nw C.e) fun σ H Q _ ⟨B, S, b, hh, q⟩ p hp =>
  aftF_new hh q hp ⟨p, [], rfl, fun _ => Iff.rfl, upd_same, trivial⟩
/-! ### what is in ghost slots -/
theorem Hold.gh {g : Nat} {p : PrO} (h : Hold E B Γ b σ S H) (hg : Γ[g]? = some (.gh p)) : ∃ F, p.p S H .non F ∧ ∀ a, F a → S a = none ∧ ∃ o, H a = some o := by
  obtain ⟨Fs, hF, hs⟩ := h.sl
  exact ⟨Fs g, hs g _ hg, fun a ha => ⟨(hF.at_ g a ha).1, (hF.at_ g a ha).2.2.2⟩⟩
variable {g : Nat} {l : Addr} {xs : List (ι × α)}
end
end
end Zk

namespace Zk
open PySem L2

section
variable {τ α β γ δ κ ρ ι θ υ : Type} {G : Gx} {c : Sc} {E : Eff τ} {W : WX} {Γ Γ' : Env} {B : Bs} {σ : St} {S S1 S' H H' : Hp} {b b' : τ} {L : Ls κ ρ}
/-! ### room for ghosts -/
/-! ### a dict becomes stable -/
theorem pe_frz {X : Cx} {e : Expr} {t : TE} (h : PE X e t) : PE X e (fun σ H Q => t σ H fun v H1 => ∃ d u, H1 d = some u ∧ Mut (some u) ∧ ∀ od, Q v (upd H1 d (.frz od u))) :=
  ⟨fun pins s σ H Q I h1 => thn (h.run pins s σ H _ I h1) fun u s1 ⟨x, H1, I1, r, d, o, hd, mu, q⟩ => by
    obtain ⟨od, I2⟩ := I1.lock hd mu
    exact ⟨x, _, I2, r, q od⟩⟩
section
variable [DecidableEq ι] {K : Ky G ι} {R2 : Rel α} {l : Addr} {xs : List (ι × α)}
/-- a new dict, stable at once -/
theorem z_dict {e : Expr} {m : M τ (List (ι × α))} (h : ZF G c E W Γ e m (ownD K R2)) : ZE G c E W Γ e m (rDct K R2) := fun X C => pe_wk (pe_frz (h X C)) fun σ H Q _ ⟨B, S, b, hh, q⟩ => by
  refine ⟨B, S, b, hh, ?_⟩
  cases e : m b with
  | stuck => rw [e] at q; exact q
  | exc x b1 => rw [e] at q; exact q
  | ok xs b1 =>
    rw [e] at q
    intro v S' H1 H' F s' h1 hF hk ⟨l, es, e1, f, e2, e3⟩
    subst e1
    refine ⟨l, _, e2, K.mu _ _, fun od => ?_⟩
    have hl := hF l ((f l).mpr rfl)
    have he : upd H' l (.frz od (K.ob l es)) = upd H1 l (.frz od (K.ob l es)) := by
      funext a
      by_cases ha : a = l
      · subst ha; rw [upd_same, upd_same]
      · rw [upd_ne ha, upd_ne ha, hk a fun z => ha ((f a).mp z)]
    rw [he]
    have hS : S' l = none := h1.same.free hl.1
    exact q _ (upd S' l (.frz od (K.ob l es))) _ (s'.trans (same_new hS)) (h1.new hl.1) ⟨l, od, es, rfl, upd_same, e3.mono (same_new hS)⟩
/-! ### d[k] += e -/
variable {g : Nat} {eo ei : Expr} {pos : Pos}
structure AugOp (op : Operator) (f : Int → Int → Int) (rd : V → V → Hp → VK → Prop) : Prop where
  ip : ∀ X : Cx, InOp X op rd
  mono : ∀ x y H, ∀ {Q Q' : VK}, (∀ v H, Q v H → Q' v H) → rd x y H Q → rd x y H Q'
  go : ∀ x y H (Q : VK), Q (.int (f x y)) H → rd (.int x) (.int y) H Q
end
end
end Zk

namespace Zk
open PySem L2

theorem nodup_map {T U : Type} {g : T → U} (h : ∀ a b, g a = g b → a = b) : ∀ {l : List T}, l.Nodup → (l.map g).Nodup
  | [], _ => List.nodup_nil
  | a :: l, n => by
    rw [List.nodup_cons] at n
    rw [List.map_cons, List.nodup_cons]
    exact ⟨fun z => by obtain ⟨b, hb, e⟩ := List.mem_map.mp z; exact n.1 (h _ _ e ▸ hb), nodup_map h n.2⟩
section
variable {τ α β γ δ κ ρ ι θ υ : Type} {G : Gx} {c : Sc} {E : Eff τ} {W : WX} {Γ Γ' : Env} {B : Bs} {σ : St} {S S1 S' H H' : Hp} {b b' : τ} {L : Ls κ ρ}
section
variable [DecidableEq ι] {R : Rel ι} {f : ι → Key} {R2 : Rel α} {e : Expr} {x : Str} {p pos : Pos}
theorem dct_flat {F : KyF R f} {xs : List (ι × α)} {v : V} (h : (rDct (kyF G F) R2).is xs S v) : ∃ (a : Addr) (o : Obj) (es : List (Key × V)), v = .ref a ∧ S a = some (.frz o (.dK es)) ∧ DRel (kyF G F) R2 S xs es := h
/-! ### dicts compared, whose keys stand alike -/
variable {ea eb : Expr}
end
/-! ### records: dicts with names as keys -/
def rRec (ks : List Str) (A : α → List Pr) : Rel α := ⟨fun x S v => ∃ a o es, v = .ref a ∧ S a = some (.frz o (.dK es)) ∧ es.map (·.1) = ks.map Sum.inr ∧ All2 (fun (p : Pr) (t : Key × V) => p.p S t.2) (A x) es,
  fun s ⟨a, o, es, e, h, k, q⟩ => ⟨a, o, es, e, s _ _ h, k, q.imp fun p t h => p.mono s h⟩⟩
def zkGo (E : Eff τ) (B : Bs) (Γ : Env) (σ : St) (S : Hp) (D : Addr) (o : HO) (A : α → List Pr) (Q : List V → Hp → Prop) : Out τ α → Prop
  | .ok x b' => ∀ S' H' us, Same S S' → Hold E (Bd B D o) Γ b' σ S' H' → All2 (fun (p : Pr) v => p.p S' v) (A x) us → Q us H'
  | _ => False
theorem zkGo.same {D : Addr} {o : HO} {A : α → List Pr} {Q : List V → Hp → Prop} (s : Same S S1) : ∀ {t : Out τ α}, zkGo E B Γ σ S D o A Q t → zkGo E B Γ σ S1 D o A Q t
  | .ok _ _, h => fun S' H' us s2 => h S' H' us (s.trans s2)
  | .exc _ _, h => h
  | .stuck, h => h
def ZK (G : Gx) (c : Sc) (E : Eff τ) (W : WX) (Γ : Env) (pos : Pos) (ks : List Str) (keys : List (Option Expr)) (vs : List Expr) (m : M τ α) (A : α → List Pr) : Prop := ∀ X, CtxOk G c W X → ∃ trs, PPs X pos keys vs trs ∧ ∀ σ H B D o S b Q Q', Hold E (Bd B D o) Γ b σ S H → zkGo E B Γ σ S D o A Q (m b) → (∀ us H', us.length = ks.length → Q us H' → Q' ((ks.map V.str).zip us) H') → tPairs trs σ H Q'
theorem zk_one {k : Str} {jj : Nat} {pk pos : Pos} {e : Expr} {m : M τ α} {R : Rel α} (h : ZE G c E W Γ e m R) : ZK G c E W Γ pos [k] [some (.Constant (.str k) jj pk)] [e] (nox m) (fun x => [R.pr x]) := fun X C => ⟨_, pps_cons pe_str (h X C) pps_nil, fun σ H B D o S b Q Q' hh q w => by
  refine ⟨Bd B D o, S, b, hh, ?_⟩
  unfold nox at q
  cases e : m b with
  | stuck => rw [e] at q; exact q.elim
  | exc x b1 => rw [e] at q; exact q.elim
  | ok x b1 => rw [e] at q; exact fun v S' H' s' h' r => w [v] H' rfl (q S' H' [v] s' h' ⟨r, trivial⟩)⟩
theorem mergeK_nodup : ∀ {more acc : List (Key × V)}, ((acc ++ more).map (·.1)).Nodup → mergeK acc more = acc ++ more
  | [], acc, _ => by simp [mergeK]
  | t :: more, acc, h => by
    have hn : ¬ (acc.any fun kv => decide (kv.1 = t.1)) = true := fun z => by
      obtain ⟨p, hp, e⟩ := List.any_eq_true.mp z
      rw [List.map_append, List.nodup_append] at h
      exact h.2.2 p.1 (List.mem_map.mpr ⟨p, hp, rfl⟩) t.1 (by simp) (of_decide_eq_true e)
    have e : putK acc t.1 t.2 = acc ++ [t] := by unfold putK; rw [if_neg hn]
    show mergeK (putK acc t.1 t.2) more = _
    rw [e, mergeK_nodup (by rw [List.append_assoc]; exact h), List.append_assoc]; rfl
theorem zip_keys : ∀ {ks : List Str} {us : List V}, us.length = ks.length → ((ks.map (Sum.inr : Str → Key)).zip us).map (·.1) = ks.map Sum.inr ∧ ((ks.map (Sum.inr : Str → Key)).zip us).map (fun kv => (kV kv.1, kv.2)) = (ks.map V.str).zip us ∧ ((ks.map (Sum.inr : Str → Key)).zip us).map (·.2) = us
  | [], [], _ => ⟨rfl, rfl, rfl⟩
  | k :: ks, u :: us, h => by
    obtain ⟨h1, h2, h3⟩ := zip_keys (ks := ks) (us := us) (by simpa using h)
    refine ⟨?_, ?_, ?_⟩
    · rw [List.map_cons, List.zip_cons_cons, List.map_cons, h1]
    · rw [List.map_cons, List.zip_cons_cons, List.map_cons, h2]; rfl
    · rw [List.map_cons, List.zip_cons_cons, List.map_cons, h3]
  | [], _ :: _, h => by simp at h
  | _ :: _, [], h => by simp at h
theorem all2_snd {A : List Pr} {S : Hp} : ∀ {es : List (Key × V)}, All2 (fun (p : Pr) v => p.p S v) A (es.map (·.2)) → All2 (fun (p : Pr) (t : Key × V) => p.p S t.2) A es := by
  induction A with
  | nil => intro es h; cases es with
    | nil => trivial
    | cons t es => exact h.elim
  | cons p A ih => intro es h; cases es with
    | nil => exact h.elim
    | cons t es => exact ⟨h.1, ih h.2⟩
def NoX (m : M τ α) : Prop := ∀ b x b', m b ≠ .exc x b'
theorem nx_nox {m : M τ α} : NoX (nox m) := fun b x b' h => by
  unfold nox at h
  cases e : m b with
  | ok a b1 => rw [e] at h; cases h
  | exc y b1 => rw [e] at h; cases h
  | stuck => rw [e] at h; cases h
theorem z_rec {pos : Pos} {ks : List Str} {keys : List (Option Expr)} {vs : List Expr} {m : M τ α} {A : α → List Pr} (h : ZK G c E W Γ pos ks keys vs m A) (nx : NoX m) (hall : keys.all (·.isSome) = true) (hl : keys.length = vs.length) (h0 : keys ≠ []) (h15 : keys.length ≤ 15) (hk : ks.length ≤ 15) (nd : ks.Nodup) : ZE G c E W Γ (.Dict keys vs pos) m (rRec ks A) := fun X C => by
  obtain ⟨trs, p, go⟩ := h X C
  refine pe_wk (pe_frz (pe_disp p hall hl h0 h15)) fun σ H Q _ ⟨B, S, b, hh, q⟩ D hD => ?_
  have hE := hh.fr hD
  have hS : S D = none := hh.same.free hD
  have hBS : B.S D = none := hh.kp.up.free hS
  have hBH : B.H D = none := by
    cases z : B.H D with
    | none => rfl
    | some o => have := (hh.kp.kp D o hBS z hE).2; rw [hD] at this; cases this
  refine go σ _ B D (.dK []) S b (fun us H' => H' D = some (.dK []) ∧ (us.length = ks.length → ∀ od, Q (.ref D) (upd (upd H' D (.dK (mergeK [] ((ks.map Sum.inr).zip us)))) D (.frz od (.dK ((ks.map Sum.inr).zip us)))))) _ (hh.cell0 hD) ?_ fun us H' hlen ⟨h1, h2⟩ => ?_
  · cases e : m b with
    | stuck => rw [e] at q; exact q.elim
    | exc x b1 => exact absurd e (nx _ _ _)
    | ok x b1 =>
      rw [e] at q
      intro S' H' us s' h' r
      obtain ⟨k1, k2⟩ := h'.cellAt hBS hE
      refine ⟨k2, fun hlen od => ?_⟩
      have h2 := (h'.cellOff hBS hBH hE).new (o := .frz od (.dK ((ks.map Sum.inr).zip us))) (p := D) del_same
      have e2 : upd (del H' D) D (.frz od (.dK ((ks.map Sum.inr).zip us))) = upd (upd H' D (.dK (mergeK [] ((ks.map Sum.inr).zip us)))) D (.frz od (.dK ((ks.map Sum.inr).zip us))) := by
        funext a
        by_cases ha : a = D
        · subst ha; rw [upd_same, upd_same]
        · rw [upd_ne ha, upd_ne ha, upd_ne ha, del_ne ha]
      rw [e2] at h2
      obtain ⟨z1, z2, z3⟩ := zip_keys hlen
      exact q _ _ _ (s'.trans (same_new k1)) h2 ⟨D, od, _, rfl, upd_same, z1, all2_snd (by rw [z3]; exact r.imp fun p v h => p.mono (same_new k1) h)⟩
  · obtain ⟨z1, z2, z3⟩ := zip_keys hlen
    have nd' : ((([] : List (Key × V)) ++ (ks.map (Sum.inr : Str → Key)).zip us).map (fun t : Key × V => t.1)).Nodup := by rw [List.nil_append, z1]; exact nodup_map (fun _ _ z => Sum.inr.inj z) nd
    refine ⟨h1, (ks.map (Sum.inr : Str → Key)).zip us, z2.symm, by rw [List.length_zip]; have := Nat.min_le_left (ks.map (Sum.inr : Str → Key)).length us.length; rw [List.length_map] at this; rw [List.length_map]; omega, D, .dK ((ks.map Sum.inr).zip us), by rw [upd_same, mergeK_nodup nd', List.nil_append], trivial, fun od => h2 hlen od⟩
end
end Zk

namespace Zk
open PySem L2

section
variable {τ α β γ δ κ ρ ι θ υ : Type} {G : Gx} {c : Sc} {E : Eff τ} {W : WX} {Γ Γ' : Env} {B : Bs} {σ : St} {S S1 S' H H' : Hp} {b b' : τ} {L : Ls κ ρ}
/-! ### dict comprehensions -/
section
variable [DecidableEq ι] {Rk : Rel ι} {fk : ι → Key} {F : KyF Rk fk}
def dcEnd (F : KyF Rk fk) (G : Gx) (E : Eff τ) (B : Bs) (Γ : Env) (σ : St) (S : Hp) (R' : Rel γ) (Q : VK) : Out τ (List (ι × γ)) → Prop
  | .ok ys b' => ∀ D S' H' us, Same S S' → Hold E (Bd B D (.dK us)) Γ b' σ S' H' → B.S D = none → B.H D = none → ¬ E.own D → DRel (kyF G F) R' S' ys us → Q (.ref D) H'
  | _ => False
theorem dcEnd.same {R' : Rel γ} {Q : VK} (s : Same S S1) : ∀ {o : Out τ (List (ι × γ))}, dcEnd F G E B Γ σ S R' Q o → dcEnd F G E B Γ σ S1 R' Q o
  | .ok _ _, h => fun D S' H' us s2 => h D S' H' us (s.trans s2)
  | .exc _ _, h => h
  | .stuck, h => h
/-- a dict comprehension's parts -/
structure Dcm (F : KyF Rk fk) (G : Gx) (c : Sc) (E : Eff τ) (W : WX) (Γ : Env) (kx elt tg iter : Expr) (ifs : List Expr) (scope : Scope) (own : List (Str × Nat)) (m : M τ (List β)) (t : β → M τ Bool) (kf : β → M τ ι) (f : β → M τ γ) (R : Rel β) (R' : Rel γ) (Γ1 : β → Env) : Prop where
  ok : BlkOk c.N c.sc scope own
  hi : ZI G c E W Γ tg iter m R
  hg : ZG G (c.blk scope) E Wf (wipeE Γ (own.map (·.2))) (own.map (·.2)) tg Γ1 R
  ht : ∀ x, ZTs G (c.blk scope) E Wf (Γ1 x) ifs (t x)
  hk : ∀ x, ZE G (c.blk scope) E Wf (Γ1 x) kx (kf x) Rk
  he : ∀ x, ZE G (c.blk scope) E Wf (Γ1 x) elt (f x) R'
  no : ∀ (i : Nat) s, Γ[i]? = some s → s = .no ∨ i ∉ own.map (·.2)
  fs : ∀ (env : PySem.Env) x, foldedSetIterable iter env x = pure x
end
end
end Zk

namespace Zk
open PySem L2

section
variable {τ α β γ δ κ ρ ρ' ι θ υ : Type} {G : Gx} {c : Sc} {E : Eff τ} {W : WX} {Γ Γ' : Env} {B : Bs} {σ σ' : St} {S S1 S' H H' : Hp} {b b' : τ} {L : Ls κ ρ}
/-! ### defs that change what is in ghost slots -/
abbrev ghs (gs : List PrO) : Env := gs.map Sl.gh
theorem ghs_get {gs : List PrO} {i : Nat} {s : Sl} (h : (ghs gs)[i]? = some s) : ∃ p, gs[i]? = some p ∧ s = .gh p := by
  rw [List.getElem?_map] at h
  obtain ⟨p, h1, h2⟩ := Option.map_eq_some_iff.mp h
  exact ⟨p, h1, h2.symm⟩
theorem Hold.front {front : Env} {gs : List PrO} (h : Hold E B (ghs gs) b σ' S H) (hf : ∀ (i : Nat) s, front[i]? = some s → slOk S H (σ[i]?.join) (fun _ => False) s) : Hold E B (front ++ ghs gs) b σ S H := by
  obtain ⟨Fs, hF, hs⟩ := h.sl
  refine ⟨h.kp, h.ef, fun i a => front.length ≤ i ∧ Fs (i - front.length) a, ⟨fun i a e => hF.at_ _ a e.2, fun i j a e1 e2 => ?_⟩, fun i s e => ?_⟩
  · have := hF.ds _ _ a e1.2 e2.2
    have h1 := e1.1; have h2 := e2.1; omega
  · by_cases hi : i < front.length
    · rw [List.getElem?_append_left hi] at e
      have ef : (fun a => front.length ≤ i ∧ Fs (i - front.length) a) = fun _ => False := funext fun a => propext ⟨fun z => by have := z.1; omega, fun z => z.elim⟩
      show slOk S H (σ[i]?.join) (fun a => front.length ≤ i ∧ Fs (i - front.length) a) s
      rw [ef]; exact hf i s e
    · rw [List.getElem?_append_right (by omega)] at e
      obtain ⟨p, e1, rfl⟩ := ghs_get e
      have ef : (fun a => front.length ≤ i ∧ Fs (i - front.length) a) = Fs (i - front.length) := funext fun a => propext ⟨fun z => z.2, fun z => ⟨by omega, z⟩⟩
      show p.p S H .non (fun a => front.length ≤ i ∧ Fs (i - front.length) a)
      rw [ef]; exact hs _ _ e
theorem Hold.back {front : Env} {gs : List PrO} (h : Hold E B (front ++ ghs gs) b σ S H) (σ' : St) : Hold E B (ghs gs) b σ' S H := by
  obtain ⟨Fs, hF, hs⟩ := h.sl
  refine ⟨h.kp, h.ef, fun i a => Fs (front.length + i) a, ⟨fun i a e => hF.at_ _ a e, fun i j a e1 e2 => by have := hF.ds _ _ a e1 e2; omega⟩, fun i s e => ?_⟩
  obtain ⟨p, e1, rfl⟩ := ghs_get e
  have := hs (front.length + i) (.gh p) (by rw [List.getElem?_append_right (by omega), Nat.add_sub_cancel_left]; exact e)
  exact this
open Classical in
end
end Zk

namespace Zk
open PySem L2

section
variable {τ α β γ δ κ ρ ρ' ι θ υ : Type} {G : Gx} {c : Sc} {E : Eff τ} {W : WX} {Γ Γ' : Env} {B : Bs} {σ σ' : St} {S S1 S' H H' : Hp} {b b' : τ} {L : Ls κ ρ}
/-! ### a field that is a new dict -/
/-! ### an instance that is stable at the end of its __init__ -/
/-! ### None or a thing -/
structure NN (R : Rel α) : Prop where
  h : ∀ {x : α} {S : Hp} {v : V}, R.is x S v → v ≠ .non
section
variable {e : Expr} {m : M τ (Option α)} {R : Rel α} {pos : Pos} {j : Nat} {pp : Pos}
end
/-! ### how many a tuple of unlike things has -/
end
end Zk

namespace Zk
open PySem L2
open PySem.Spec

section
variable {τ α β γ δ κ ρ ρ' ι θ υ : Type} {G : Gx} {c : Sc} {E : Eff τ} {W : WX} {Γ Γ' : Env} {B : Bs} {σ σ' : St} {S S1 S' H H' : Hp} {b b' : τ} {L : Ls κ ρ}
variable [DecidableEq ι] {K : Ky G ι} {R2 : Rel α} {l : Addr} {xs : List (ι × α)}
end
end Zk

namespace Zk
open PySem L2

section
variable {τ α β γ δ κ ρ ρ' ι θ υ : Type} {G : Gx} {c : Sc} {E : Eff τ} {W : WX} {Γ Γ' : Env} {B : Bs} {σ σ' : St} {S S1 S' H H' : Hp} {b b' : τ} {L : Ls κ ρ}
theorem sw_cell {elt : Expr} {gs : List Comprehension} {scope : Scope} {pos py : Pos} {y : Str} {l : Nat} {env : PySem.Env} (hy : env.scope.names.lookup y = some .cell) : swapsWith (.ListComp elt gs scope pos) (some (.Name y py)) l env = pure false := by
  have ky : env.kindOf y = some .cell := hy
  unfold swapsWith
  simp only [ky]
  have : (some NameKind.cell == some NameKind.local) = false := rfl
  simp only [this, Bool.and_false, Bool.false_and]
/-- y = [..], y read by a comprehension -/
theorem zs_setLcC {i : Nat} {y : Str} {py spos : Pos} {elt tg iter : Expr} {ifs : List Expr} {scope : Scope} {own : List (Str × Nat)} {pos : Pos} {m : M τ (List β)} {t : β → M τ Bool} {f : β → M τ γ} {R : Rel β} {R' : Rel γ} {Γ1 : β → Env} (l : Lc G c E W Γ elt tg iter ifs scope own m t f R R' Γ1) (n : Ns c i y) (hy : c.sc.names.lookup y = some .cell) (sx : Sub E Γ L.x) :
    ZS G c E W L Γ (.Assign [.Name y py] (.ListComp elt [⟨tg, iter, ifs, 0⟩] scope pos) spos) (zset (zlc t f m)) (fun v => Γ.set i (.st ((rLst R').pr v))) := fun X C =>
  ps_wk (ps_set C.set_hN (C.hi n.n) (by rw [C.sc]; exact n.l) (z_lc l X C) (sw_cell (by rw [C.sc]; exact hy)) (C.hf n)) fun D σ H hl ⟨B, S, b, hh, q⟩ => by
    refine tzS_bnd (R := rLst R') sx hh q fun x b1 v S1 H1 s1 h1 r1 q1 => ?_
    exact q1 _ S1 H1 (Same.refl _) (h1.set (C.lt n.n hl) r1)
section
variable {e : Expr} {m : M τ (Option α)} {R : Rel α} {pos : Pos} {j : Nat} {pp : Pos}
end
end
end Zk

namespace Zk
open PySem L2

section
variable {τ α β γ δ κ ρ ρ' ι θ υ : Type} {G : Gx} {c : Sc} {E : Eff τ} {W : WX} {Γ Γ' : Env} {B : Bs} {σ σ' : St} {S S1 S' H H' : Hp} {b b' : τ} {L : Ls κ ρ}
section
variable {ea eb e : Expr} {x : Str} {p pos : Pos}
/-! ### truths told apart by is; shown -/
/-! ### texts compared -/
/-! ### parts of rows: row[:2] + (e,) -/
/-! ### sorted of a dict's keys -/
end
/-! ### xs.insert(i, e) -/
def finsert (xs : List α) (m : M τ (Int × α)) : M τ (Fl (List α) κ ρ) := bnd m fun p => chk (xs.length < sizeLine ∧ 0 ≤ p.1 ∧ p.1 < 2 ^ 63) (ret (.nx (xs.take p.1.toNat ++ [p.2] ++ xs.drop p.1.toNat)))
theorem zs_ins {i : Nat} {x : Str} {e1 e2 : Expr} {p1 apos cpos pos : Pos} {R : Rel α} {xs : List α} {m : M τ (Int × α)} (n : Nm c i x) (hi : Γ[i]? = some (.ow (ownL R xs))) (h : ZA G c E W Γ [e1, e2] m (fun p => [rInt.pr p.1, R.pr p.2])) (sx : Sub E Γ L.x)
    (hb : BmEnv (.Name x p1) "insert" [e1, e2] apos cpos := by exact ⟨fun _ => rfl, fun _ => rfl, rfl, fun _ _ _ h => by cases h; exact ⟨rfl, rfl⟩⟩) :
    ZS G c E W L Γ (.Expr (.Call (.Attribute (.Name x p1) "insert" apos) [e1, e2] [] cpos) pos) (finsert xs m) (fun ys => Γ.set i (.ow (ownL R ys))) := fun X C =>
  ps_wk (ps_expr (pe_bm PySem.F.plainAttrs_list PySem.F.slot_list_insert PySem.F.type_list_insert mt_insert (pe_var (C.hi n.n) (by rw [C.sc]; exact n.v) n.d n.cd) (h X C) (hb.base _) (hb.few _) hb.line (hb.star _ _ _ rfl).1 (hb.star _ _ _ rfl).2) rfl) fun D σ H hl ⟨B, S, b, hh, q⟩ => by
    obtain ⟨l, vs, e1, e2, e3⟩ := own_at hh hi
    refine ⟨.ref l, e1, .inl ⟨rfl, vs, .of e2⟩, ?_⟩
    refine tzS_bndA (A := fun p : Int × α => [rInt.pr p.1, R.pr p.2]) sx hh q fun y b1 us S1 H1 s1 h1 r1 q1 => ?_
    match us, r1 with
    | [u, w], ⟨r, r', _⟩ =>
      obtain ⟨l', vs', e1', e2', e3'⟩ := own_at h1 hi
      rw [e1] at e1'; cases e1'
      unfold chk at q1
      by_cases hz : xs.length < sizeLine ∧ 0 ≤ y.1 ∧ y.1 < 2 ^ 63
      · rw [if_pos hz] at q1
        have r : u = .int y.1 := r
        subst r
        exact ⟨l, vs', y.1, w, rfl, rfl, e2', by rw [← e3'.length]; exact hz.1, hz.2.1, hz.2.2, q1 σ S1 _ (Same.refl _) (h1.chg hi ownL_feet e1 ⟨l, _, rfl, fun _ => Iff.rfl, upd_same, All2.append (All2.append (e3'.take _) (show All2 (fun x v => R.is x S1 v) [y.2] [w] from ⟨r', trivial⟩)) (e3'.drop _)⟩)⟩
      · rw [if_neg hz] at q1; exact q1.elim
end
end Zk

namespace Zk
open PySem L2 PyProof.Rows

section
variable {τ α β γ δ κ ρ ρ' ι θ υ : Type} {G : Gx} {c : Sc} {E : Eff τ} {W : WX} {Γ Γ' : Env} {B : Bs} {σ σ' : L2.St} {S S1 S' H H' : Hp} {b b' : τ} {L : Ls κ ρ}
end
end Zk

namespace Zk
open PySem L2

section
variable {τ α β γ δ κ ρ ρ' ι θ υ : Type} {G : Gx} {c : Sc} {E : Eff τ} {W : WX} {Γ Γ' : Env} {B : Bs} {σ σ' : St} {S S1 S' H H1 H' : Hp} {b b' : τ} {L : Ls κ ρ}
/-! ### what is fresh, kept by a ghost slot behind all others -/
/-! ### defs that change what is in ghost slots: with an effect, and what they hand back -/
/-! ### calls of them -/
section
variable {g : Bool} {x : Str} {k : Nat} {ps : List Str} {A : θ → α → List Pr} {gs : θ → γ → List PrO} {R : Rel ρ'} {e : Expr} {es : List Expr} {m : M τ α} {p cpos pos : Pos} {q : θ} {idx : List Nat} {y : γ}
end
/-- what is known, written out -/
theorem zb_eq {Γ' : Env} {st : List Stmt} {m : M τ (Fl α κ ρ)} {Γn : α → Env} (h : Γ = Γ') (h1 : ZB G c E W L Γ' st m Γn) : ZB G c E W L Γ st m Γn := h ▸ h1
end
end Zk

namespace L2
open PySem PySem.Spec PyProof.Rows
section
variable {X : Cx}
end
end L2
namespace Zk
open PySem L2

section
variable {τ α β γ δ κ ρ ρ' ι θ υ : Type} {G : Gx} {c : Sc} {E : Eff τ} {W : WX} {Γ Γ' : Env} {B : Bs} {σ σ' : St} {S S1 S' H H1 H' : Hp} {b b' : τ} {L : Ls κ ρ}
/-! ### None or a thing: the thing -/
/-! ### zip -/
section
variable {e e2 : Expr} {elts : List Expr} {kk : Nat} {tpos p pos : Pos} {m : M τ (List α × List β)} {R : Rel α} {R2 : Rel β}
end
/-! ### how many a pair has -/
/-! ### if f(..) is None, where f changes own dicts -/
section
variable {Γ' : γ → Env} {R : Rel ρ'} {e : Expr} {a d : List Stmt} {m : M τ (Option ρ' × γ)} {n o : γ → M τ (Fl α κ ρ)} {Γn : α → Env} {pos pp pq : Pos} {j : Nat}
end
/-! ### sorted(d, reverse=True) -/
end
end Zk

namespace Zk
open PySem L2
/-! ### more keys -/
section
variable {τ α β γ δ κ ρ ι θ : Type} {G : Gx} {c : Sc} {E : Eff τ} {W : WX} {Γ Γ' : Env} {B : Bs} {σ : St} {S S1 S' H H' : Hp} {b b' : τ} {L : Ls κ ρ}
/-! ### xs.index(y) -/
/-! ### try, where nothing is raised -/
theorem CtxOk.nox {X : Cx} (C : CtxOk G c W X) : CtxOk G c Wf X.nox where
  prog := C.prog
  w := C.w
  K := C.K
  mg := C.mg
  base := C.base
  N := C.N
  nd := C.nd
  sc := C.sc
  calm := C.calm
  room := C.room
  gds := C.gds
  takes := takes0
  owns := PassesOwn.never
  fx := C.fx
  isfn := C.isfn
end
end Zk

namespace Zk
open PySem L2
/-! ### {k: v}, the key a tuple -/
section
variable {X : Cx} {k v : Expr} {pos : Pos} {tk tv : TE}
end
section
variable {τ α β γ δ κ ρ ι θ : Type} {G : Gx} {c : Sc} {E : Eff τ} {W : WX} {Γ Γ' : Env} {B : Bs} {σ : St} {S S1 S' H H' : Hp} {b b' : τ} {L : Ls κ ρ}
variable [DecidableEq ι] {R : Rel ι} {D : DatR R} {R2 : Rel α}
end
/-! ### more keys: standings -/
end Zk

namespace Zk
open PySem L2

section
variable {τ α β γ δ κ ρ ρ' ι θ υ β1 β2 : Type} {G : Gx} {c : Sc} {E : Eff τ} {W : WX} {Γ Γ' : Env} {B : Bs} {σ σ' : L2.St} {S S1 S' H H1 H' : Hp} {b b' : τ} {L : Ls κ ρ}
/-! ### less told of a thing -/
/-! ### a thing that two things of its own hang on -/
variable {Rr : Addr → Addr → Rel α} {P1 : Addr → β1 → PrO} {P2 : Addr → β2 → PrO}
/-! ### defs that hand back what is new -/
/-! ### calls of them -/
end
end Zk

namespace Zk
open PySem L2

section
variable {τ α β γ δ κ ρ ι θ : Type} {G : Gx} {c : Sc} {E : Eff τ} {W : WX} {Γ Γ' : Env} {B : Bs} {σ : St} {S S1 S' H H' : Hp} {b b' : τ} {L : Ls κ ρ}
/-! ### xs.pop(), alone in its row -/
/-! ### xs or ys -/
end
end Zk

namespace Zk
open PySem L2 PySem.Spec PyProof.Rows
/-! ### sorted(d), d's keys tuples -/
section
variable {X : Cx} {β : Type}
/-! ### len(d) -/
end
section
variable {τ α β γ δ κ ρ ι θ : Type} {G : Gx} {c : Sc} {E : Eff τ} {W : WX} {Γ Γ' : Env} {B : Bs} {σ : L2.St} {S S1 S' H H' : Hp} {b b' : τ} {L : Ls κ ρ}
variable [DecidableEq ι] {R : Rel ι} {D : DatR R} {R2 : Rel α}
end
end Zk

namespace Zk
open PySem L2
/-! ### own __len__ -/
section
variable {prog : Program} {w : World} {A : Around} {Ex : Value → Shared → Prop} {s : Shared} {K : PySem.W.Frag} {x C f : Addr} {ox : Obj} {od : Option Obj}
end
variable {τ α β γ δ κ ρ ι θ : Type} {G : Gx} {c : Sc} {E : Eff τ} {W : WX} {Γ Γ' : Env} {B : Bs} {σ : L2.St} {S S1 S' H H' : Hp} {b b' : τ} {L : Ls κ ρ}
structure LnAt (g : Bool) (G : Gx) (C : Addr) (k : Nat) (ps : List Str) (sp : Sp) : Prop where
  ex : ∃ f fd, PySem.W.findIn G.K (.ref C) "__len__" = some (some (.ref f)) ∧ PySem.W.isFn G.K (.ref f) = true ∧ Binds G.K fd ps [] ∧ FnG g G.P G.w G.K G.mg G.base k f fd ps sp
/-! ### what hangs on a record becomes stable -/
end Zk

namespace Zk
open PySem L2 PyProof.Rows
/-! ### zip of any two things that are drawn from -/
/-- an iterator at it over l: what is known of a heap where i things are drawn; what is drawn -/
structure Drw (it l : Addr) (P : Heap → Nat → Prop) (get : Nat → Option Value) : Prop where
  item : ∀ {prog : Program} {w : World} {A : Around} {E : Value → Shared → Prop} {s : Shared} {i : Nat} {x : Value} {Q : Value → Shared → Prop}, P s.heap i → get i = some x → (∀ h', P h' (i + 1) → Heap.SameBut it s.heap h' → Q x { s with heap := h' }) → wpAny (model prog w) A (Builtin.SmallTypes.nextOf (.ref it)) Q E s
  stop : ∀ {prog : Program} {w : World} {A : Around} {E : Value → Shared → Prop} {s : Shared} {i : Nat} {Q : Value → Shared → Prop}, A.handled = none → P s.heap i → get i = none → (∀ h' e, Heap.ExtBut it s.heap h' → (∃ o, h'.get? e = some o ∧ o.cls = .type "StopIteration") → E (.ref e) { s with heap := h' }) → wpAny (model prog w) A (Builtin.SmallTypes.nextOf (.ref it)) Q E s
  keep : ∀ {h h' : Heap} {i : Nat}, P h i → (∀ o, h.get? it = some o → h'.get? it = some o) → (∀ o, h.get? l = some o → h'.get? l = some o) → P h' i
  lt : ∀ {h : Heap} {i : Nat}, P h i → it < h.objs.size
section
variable {prog : Program} {w : World} {A : Around} {E : Value → Shared → Prop} {s : Shared} {z TI TO i1 i2 l1 l2 : Addr} {k1 k2 : Nat} {P1 P2 : Heap → Nat → Prop} {g1 g2 : Nat → Option Value} {x y a b : Value}
end
/-! ### zip of a list and a tuple -/
/-! ### in a walk -/
section
variable {τ α β γ δ κ ρ ι θ : Type} {G : Gx} {c : Sc} {E : Eff τ} {W : WX} {Γ : Env}
variable {e e2 : Expr} {m : M τ (List α × List β)} {R : Rel α} {R2 : Rel β} {p pos tpos : Pos} {elts : List Expr} {kk : Nat}
end
end Zk

/-! ### a set of the names of a list: how many are apart -/
namespace Zk
open PySem L2 PySem.Spec PyProof.Rows
def stepS (σ : List Str) (v : Str) : List Str := if σ.any (· == v) then σ else σ ++ [v]
def metS (xs : List Str) : List Str := xs.foldl stepS []
theorem metS_snoc {xs : List Str} {x : Str} : metS (xs ++ [x]) = stepS (metS xs) x := by unfold metS; rw [List.foldl_append]; rfl
theorem stepS_any (σ : List Str) (v k : Str) : (stepS σ v).any (· == k) = (σ.any (· == k) || decide (k = v)) := by
  unfold stepS
  split
  · rename_i h
    by_cases e : k = v
    · subst e; rw [h]; simp
    · simp [e]
  · rw [List.any_append]
    by_cases e : k = v
    · subst e; simp
    · have hb : (v == k) = false := by simpa [beq_iff_eq] using fun h' : v = k => e h'.symm
      simp [hb, e]
theorem stepS_length (σ : List Str) (v : Str) : (stepS σ v).length = if σ.any (· == v) then σ.length else σ.length + 1 := by unfold stepS; split <;> simp
theorem take_snoc {xs : List Str} {i : Nat} (h : i < xs.length) : xs.take (i + 1) = xs.take i ++ [xs.getD i Str.empty] := by
  rw [List.take_succ, List.getElem?_eq_getElem h, List.getD_eq_getElem?_getD, List.getElem?_eq_getElem h]; rfl
theorem metS_le : ∀ (n : Nat) {xs : List Str}, xs.length = n → (metS xs).length ≤ n
  | 0, xs, h => by rw [List.length_eq_zero_iff.mp h]; exact Nat.le_refl _
  | n + 1, xs, h => by
    obtain ⟨ys, y, rfl⟩ : ∃ ys y, xs = ys ++ [y] := ⟨xs.dropLast, xs.getLast (by intro z; rw [z] at h; cases h), (List.dropLast_concat_getLast _).symm⟩
    have hl : ys.length = n := by rw [List.length_append] at h; simpa using h
    have := metS_le n hl
    rw [metS_snoc, stepS_length]
    split <;> omega
section
variable {prog : Program} {w : World} {A : Around} {R : Result → Shared → Prop} {I : Addr} {fp wr : List Addr} {G : Array GenState → Array GenState → Prop} {n : Nat} {P : Nat → Value → Prop} {St : Nat → Shared → Prop}
end
section
variable {prog : Program} {w : World} {A : Around} {E : Value → Shared → Prop} {s : Shared}
set_option maxHeartbeats 3200000 in
end
section
variable {τ : Type} {G : Gx} {c : Sc} {E : Eff τ} {W : WX} {Γ : Env}
end
end Zk

namespace Zk
open PySem L2
/-! ### try .. except X: return a constant -/
section
variable {τ α β γ δ κ ρ ι θ : Type} {G : Gx} {c : Sc} {E : Eff τ} {W : WX} {Γ Γ' : Env} {B : Bs} {σ : L2.St} {S S1 S' H H' : Hp} {b b' : τ} {L : Ls κ ρ}
end
end Zk

namespace Zk
open PySem L2
/-! ### defs with an argument that only a keyword tells -/
structure FnAtK (g : Bool) (G : Gx) (x : Str) (k n : Nat) (ps ks : List Str) (sp : Sp) (gV : List V → List V → List V) : Prop where
  ex : ∃ f fd gg, G.mg x = some (.ref f) ∧ PySem.W.keepIn G.K (.ref f) = true ∧ KBn G.K fd ps n ks gg gV ∧ FnG g G.P G.w G.K G.mg G.base k f fd ps sp
section
variable {X : Cx} {k n : Nat} {f : Addr} {fd : FuncData} {ps ks : List Str} {sp : Sp} {Ex : St → XK} {x : Str} {p pos : Pos} {e : Expr} {es : List Expr} {kws : List Keyword} {t tk : TA} {gg : List Value → List Value → List Value} {gV : List V → List V → List V} {g : Bool}
end
section
variable {τ α β γ δ κ ρ ι θ : Type} {G : Gx} {c : Sc} {E : Eff τ} {W : WX} {Γ Γ' : Env} {B : Bs} {σ : L2.St} {S S1 S' H H' : Hp} {b b' : τ} {L : Ls κ ρ}
end
end Zk

namespace Zk
open PySem L2
/-! ### x in xs, lists in lists -/
section
variable {τ α β γ δ κ ρ ι θ : Type} {G : Gx} {c : Sc} {E : Eff τ} {W : WX} {Γ Γ' : Env} {B : Bs} {σ : L2.St} {S S1 S' H H' : Hp} {b b' : τ} {L : Ls κ ρ}
variable {ea eb : Expr} {pos : Pos}
end
end Zk

namespace Zk
open PySem L2
section
variable {τ α β γ δ κ ρ ι θ : Type} {G : Gx} {c : Sc} {E : Eff τ} {W : WX} {Γ Γ' : Env} {B : Bs} {σ : L2.St} {S S1 S' H H' : Hp} {b b' : τ} {L : Ls κ ρ}
end
end Zk

namespace Zk
open PySem L2
/-! ### a thing of one of two kinds -/
section
variable {τ α β γ δ κ ρ ι θ : Type} {G : Gx} {c : Sc} {E : Eff τ} {W : WX} {Γ Γ' : Env} {B : Bs} {σ : St} {S S1 S' H H' : Hp} {b b' : τ} {L : Ls κ ρ}
/-! places of tuples, if there are such -/
structure TupAtP (R : Rel α) (k : Int) (f : α → Option β) (R2 : Rel β) : Prop where
  h : ∀ {x : α} {y : β} {S : Hp} {v : V}, R.is x S v → f x = some y → ∃ a vs u, v = .ref a ∧ S a = some (.tup vs) ∧ atI vs k = some u ∧ R2.is y S u
def mopt : Option α → M τ α
  | some x => ret x
  | none => stk
def zgetP (f : α → Option β) (m : M τ α) : M τ β := bnd m fun x => mopt (f x)
/-! as data -/
structure DatW (R : Rel α) where
  d : α → PyData
  n : Nat
  dep : ∀ x, (d x).depth ≤ n
  dp : ∀ {K : PySem.W.Frag} {x : α} {S H : Hp} {v : V}, Same S H → R.is x S v → Dp K H v (d x)
def DatR.w {R : Rel α} (D : DatR R) : DatW R := ⟨D.d, D.n, D.dep, D.dp⟩
section
variable {ea eb : Expr} {pos : Pos} {R1 : Rel α} {R2 : Rel β}
end
end
end Zk

namespace Zk
open PySem L2
/-! ### try .. except X as e, suites that read e and tell a thing -/
section
variable {τ α β γ δ κ ρ ι θ : Type} {G : Gx} {c : Sc} {E : Eff τ} {W : WX} {Γ Γ' : Env} {B : Bs} {σ : L2.St} {S S1 S' H H' : Hp} {b b' : τ} {L : Ls κ ρ}
/-- what stands at a suite's beginning: e (the name i) is the exception x -/
structure Su (G : Gx) (E : Eff τ) (Γ : Env) (i : Nat) (a : Addr) (cls : Value) (d : Option Addr) (x : Exc) (B : Bs) (S : Hp) (b : τ) (σ : L2.St) (H : Hp) : Prop where
  hh : Hold E B Γ b σ S H
  xa : XAt G x H cls d
  nm : i = 999999 ∨ σ[i]? = some (some (.ref a))
structure SuC (G : Gx) (c : Sc) (W : WX) (X X' : Cx) (a : Addr) (oe : Obj) (cls : Value) (d : Option Addr) : Prop where
  C : CtxOk G c W X
  zc : Zc cls d oe
  fl : ∃ vs, oe.data = .fields vs
  pn : ∃ pn, X' = X.suite a ((a, oe) :: pn)
/-- a test -/
def HT (G : Gx) (c : Sc) (E : Eff τ) (W : WX) (Γ : Env) (i : Nat) (e : Expr) (f : Exc → Option Bool) : Prop :=
  ∀ X X' a oe cls d, SuC G c W X X' a oe cls d → PT X' e (fun σ H Q => ∃ B S b x y, Su G E Γ i a cls d x B S b σ H ∧ f x = some y ∧ ∀ S1 H1, Same S S1 → Su G E Γ i a cls d x B S1 b σ H1 → Q y H1)
section
variable {i : Nat} {f : Exc → Option β} {v : β → V} {e : Expr}
/-- e.f -/
structure FldC (G : Gx) (n fld : Str) : Prop where
  h : ∃ C, G.mg n = some (.ref C) ∧ XfC G.K C ∧ PySem.W.findIn G.K (.ref C) fld = some none
/-! things -/
/-! tests -/
/-- what an own class of exceptions says of itself: isinstance -/
structure IsC (G : Gx) (n : Str) : Prop where
  h : ∃ C, G.mg n = some (.ref C) ∧ L2.ExcC G.K C
/-- classes written one behind another -/
structure Ys (G : Gx) (c : Sc) (W : WX) (ys : List Expr) (vs : List V) (us : List Value) : Prop where
  p : ∀ X, CtxOk G c W X → ∀ a pn, PA (X.suite a pn) ys fun σ H Q => Q vs H
  k : Paired ClsV vs us
/-! suites -/
/-! ### the statement -/
/-- what the name e is behind a suite: unknown -/
structure Unk (i : Nat) (Γ : Env) : Prop where
  h : ∀ s, Γ[i]? = some s → s = .no
end
end
end Zk

namespace Zk
open PySem L2
/-! ### xs.pop(..) as a value; things of one of two kinds: places, isinstance; data of such -/
section
variable {τ α β γ δ κ ρ ρ' ι θ : Type} {G : Gx} {c : Sc} {E : Eff τ} {W : WX} {Γ Γ' : Env} {B : Bs} {σ : St} {S S1 S' H H' : Hp} {b b' : τ} {L : Ls κ ρ}
end
end Zk

namespace Zk
open PySem L2
section
variable {τ α β γ δ κ ρ ρ' ι θ : Type} {G : Gx} {c : Sc} {E : Eff τ} {W : WX} {Γ Γ' : Env} {B : Bs} {σ : L2.St} {S S1 S' H H' : Hp} {b b' : τ} {L : Ls κ ρ}
/-! ### try, the names kept; suites that go on -/
abbrev Ls.keep (L : Ls κ ρ) (Γx : Env) : Ls κ ρ := { L with x := Γx }
/-! ### places of things of one of two kinds -/
/-! ### data with such within -/
/-- isinstance of one of two kinds, and a built-in class -/
structure IsTU (G : Gx) (R : Rel α) (y : String) (f : α → Bool) : Prop where
  h : ∀ {x : α} {S H : Hp} {v : V}, Same S H → R.is x S v → ∃ t, TyX G.K H v t ∧ PySem.W.kitOne G.K t (.type y) = some (f x)
end
end Zk

namespace Zk
open PySem L2
/-! ### min of names; one or none by a test -/
section
variable {τ α β γ δ κ ρ ρ' ι θ : Type} {G : Gx} {c : Sc} {E : Eff τ} {W : WX} {Γ Γ' : Env} {B : Bs} {σ : L2.St} {S S1 S' H H' : Hp} {b b' : τ} {L : Ls κ ρ}
end
end Zk

namespace Zk
open PySem L2
/-! ### d.update(e); a record copied, two of its items new dicts of its own -/
section
variable {τ α β γ δ κ ρ ρ' ι θ : Type} {G : Gx} {c : Sc} {E : Eff τ} {W : WX} {Γ Γ' : Env} {B : Bs} {σ : L2.St} {S S1 S' H H' : Hp} {b b' : τ} {L : Ls κ ρ}
theorem Hold.fresh {D : Addr} (h : Hold E B Γ b σ S H) (hD : H D = none) : S D = none ∧ B.S D = none ∧ B.H D = none ∧ ¬ E.own D := by
  have hE := h.fr hD
  have hS := h.same.free hD
  have hBS := h.kp.up.free hS
  refine ⟨hS, hBS, ?_, hE⟩
  cases z : B.H D with
  | none => rfl
  | some o => have := (h.kp.kp D o hBS z hE).2; rw [hD] at this; cases this
end
end Zk

namespace Zk
open PySem L2 PySem.Spec PyProof.Rows

/-! ### a table of code objects that may grow -/
/-- what the table ps tells bears the name q, for ever -/
def CodZ (S : Hp) (ps : Array Value) (q : Str) : Prop := TriplesOk ps.toList ∧ ∀ (pos : Pos) (cv : Value), codeAmong pos ps.toList = some cv → ∃ c, cv = .ref c ∧ S c = some (LamX.CodeO c q)
theorem CodZ.mono {S S' : Hp} {ps : Array Value} {q : Str} (h : CodZ S ps q) (s : Same S S') : CodZ S' ps q := ⟨h.1, fun pos cv e => let ⟨c, e1, e2⟩ := h.2 pos cv e; ⟨c, e1, s _ _ e2⟩⟩
section
variable {X : Cx} {pins : List (Addr × Obj)} {σ : L2.St} {H : Hp} {s : Shared}
end

/-! ### the key row[:2], over the heap alone -/
section
variable {prog : Program} {w : World} {A : Around} {s : Shared}
end

section
variable {τ α β γ δ κ ρ ι θ : Type} {G : Gx} {c : Sc} {E : Eff τ} {W : WX} {Γ Γ' : Env} {B : Bs} {σ : L2.St} {S S1 S' H H' : Hp} {b b' : τ} {L : Ls κ ρ} {t : Addr × Str}
end
end Zk

namespace Zk
open PySem L2 PySem.Spec PyProof.Rows

section
variable {τ α β γ δ κ ρ ι θ : Type} {G : Gx} {c : Sc} {E : Eff τ} {W : WX} {Γ Γ' : Env} {B : Bs} {σ : L2.St} {S S1 S' H H' : Hp} {b b' : τ} {L : Ls κ ρ} {t : Addr × Str}
/-! ### statements of a def that makes lambdas -/
/-! ### calls where a table may grow -/
/-! ### a def that makes lambdas, by its body -/
/-! ### the law's start -/
end
end Zk

namespace Zk
open PySem L2 PySem.Spec PyProof.Rows
/-! ### the end: a law whose defs make lambdas in one table -/
section
variable {P : Program} {w : World} {K : PySem.W.Frag} {mg mb : Str → Option Value} {k : Nat} {fa a cc T : Addr} {fd : FuncData} {x : Str} {sp : Sp} {s : Shared} {vs : List Value} {ns : List Int} {H : Hp}
open Classical in
end
end Zk

namespace Zk
open PySem L2
section
variable {τ α β γ δ κ ρ ι θ : Type} {G : Gx} {c : Sc} {E : Eff τ} {W : WX} {Γ Γ' : Env} {B : Bs} {σ : L2.St} {S S1 S' H H' : Hp} {b b' : τ} {L : Ls κ ρ}
/-! ### a written place of a list of things of several kinds -/
structure LstAt (R : Rel α) (k : Int) (f : α → β) (R2 : Rel β) : Prop where
  h : ∀ {x : α} {S : Hp} {v : V}, R.is x S v → ∃ a vs u, v = .ref a ∧ S a = some (.lst vs) ∧ atI vs k = some u ∧ R2.is (f x) S u
/-! ### xs.extend(ys), xs a list of one's own -/
end
end Zk

namespace Zk
open PySem L2
/-! ### dict(xs) of pairs, the keys tuples -/
section
variable {X : Cx} {pins : List (Addr × Obj)} {σ : L2.St} {H : Hp} {s : Shared}
end
section
variable {τ α β γ δ κ ρ ι θ : Type} {G : Gx} {c : Sc} {E : Eff τ} {W : WX} {Γ Γ' : Env} {B : Bs} {σ : L2.St} {S S1 S' H H' : Hp} {b b' : τ} {L : Ls κ ρ}
variable [DecidableEq ι] {R : Rel ι} {D : DatR R} {R2 : Rel α}
end
end Zk

namespace Zk
open PySem L2
section
variable {τ α β γ γ' δ κ ρ ι θ : Type} {G : Gx} {c : Sc} {E : Eff τ} {W : WX} {Γ : Env} {B : Bs} {σ : L2.St} {S S1 S' H H' : Hp} {b b' : τ}
/-! ### return of a call that has own dicts handed -/
end
end Zk

namespace Zk
open PySem L2
/-! ### None or a scalar, as data -/
end Zk
namespace Zk
open PySem L2
section
variable {τ α β γ κ ρ ρ' : Type} {G : Gx} {c : Sc} {E : Eff τ} {W : WX} {Γ : Env}
/-! ### a call that has own dicts handed and leaves them, within an expression -/
end
end Zk
namespace Zk
end Zk

namespace Zk
open PySem L2
/-! ### more keys: tuples of ints -/
section
variable {τ α α' β γ κ ρ ι ι' δ δ' : Type} {G : Gx} {c : Sc} {E : Eff τ} {W : WX} {Γ Δ : Env} {B : Bs} {b : τ} {σ : L2.St} {S H : Hp}
/-! ### an own record made within an expression, stable at once -/
/-! ### d[xs.pop(..)] -/
end
/-! ### list(d), d a dict of one's own whose keys are tuples -/
section
variable {X : Cx}
end
section
variable {τ κ δ : Type} {G : Gx} {c : Sc} {E : Eff τ} {W : WX} {Γ : Env} {R : Rel κ} {D : DatR R} {F : KyT D} {R2 : Rel δ} [DecidableEq κ]
end
section
variable {τ α γ κ ρ ρ' : Type} {G : Gx} {c : Sc} {E : Eff τ} {W : WX} {Γ : Env} {L : Ls κ ρ} {Γ' : γ → Env} {R : Rel ρ'} {e : Expr} {a d : List Stmt} {m : M τ (Option ρ' × γ)} {n o : γ → M τ (Fl α κ ρ)} {Γn : α → Env} {pos pp pq : Pos} {j : Nat}
/-! ### if f(..) is None, where f changes own dicts -/
end
end Zk

namespace Zk
open PySem L2 PySem.Spec PyProof.Rows
/-! ### xs[:] = ys -/
section
variable {prog : Program} {w : World} {A : Around} {E : Value → Shared → Prop} {s : Shared}
end
section
variable {X : Cx}
end
section
variable {τ α β γ κ ρ ι θ υ : Type} {G : Gx} {c : Sc} {E : Eff τ} {W : WX} {Γ Γ' : Env} {B : Bs} {σ σ' : L2.St} {S S1 S' H H1 H' : Hp} {b b' : τ} {L : Ls κ ρ}
end
end Zk

namespace Zk
open PySem L2 PyProof.Rows PySem.Spec
/-! ### zip, the pair that was given out still there -/
section
variable {prog : Program} {w : World} {A : Around} {E : Value → Shared → Prop} {s : Shared} {z TI TO T i1 i2 l1 l2 : Addr} {k1 k2 : Nat} {P1 P2 : Heap → Nat → Prop} {g1 g2 : Nat → Option Value} {x y : Value} {f : Bool} {oT : Obj}
/-! ### list(zip(..)) -/
end
end Zk

namespace Zk
open PySem L2 PyProof.Rows PySem.Spec
/-! ### several new pairs, and a list of them -/
section
variable {X : Cx} {pins : List (Addr × Obj)} {σ : L2.St} {H H' : Hp} {s : Shared} {h' : Heap}
end
section
variable {τ α β γ κ ρ ι θ υ : Type} {G : Gx} {c : Sc} {E : Eff τ} {W : WX} {Γ Γ' : Env} {B : Bs} {σ σ' : L2.St} {S S1 S' H H1 H' : Hp} {b b' : τ} {L : Ls κ ρ}
variable {e e2 : Expr} {m : M τ (List α × List β)} {R : Rel α} {R2 : Rel β} {p p2 pos pos2 : Pos}
end
end Zk

namespace Zk
open PySem L2
/-! ### lists that are new since a def was begun, wherever they stand in what it hands back -/
structure HasN {τ : Type} (E : Eff τ) (N : Hp) : Prop where
  h : ∀ {b : τ} {S H : Hp}, E.is b S H → Same N S
/-- a kind that looks at nothing but what is no list, and at lists at addresses that P tells -/
structure TagR {α : Type} (R : (Addr → Prop) → Rel α) : Prop where
  go : ∀ {P Q : Addr → Prop} {x : α} {S T : Hp} {v : V}, (R P).is x S v → (∀ a vs, P a → S a = some (.lst vs) → Q a) → (∀ a o, S a = some o → (P a ∨ ∀ vs, o ≠ .lst vs) → T a = some o) → (R Q).is x T v
section
variable {α β γ δ : Type} {R : (Addr → Prop) → Rel α} {R2 : (Addr → Prop) → Rel β} {R3 : (Addr → Prop) → Rel γ} {R4 : (Addr → Prop) → Rel δ}
end
/-- what may change hangs on no stable list -/
structure FreeL {τ : Type} (E : Eff τ) : Prop where
  h : ∀ {b b0 : τ} {S S' H S0 H0 : Hp}, E.is b0 S0 H0 → Same S0 S' → (∀ a o, S' a = some o → S a = some o) → (∀ a o, S a = some o → (∀ vs, o ≠ .lst vs) → S' a = some o) → E.is b S H → E.is b S' H
/-- what one owns, lists all, is seen as if stable -/
structure SeenL (P : PrO) (p : Pr) : Prop where
  lst : ∀ {S H : Hp} {v : V} {F : Addr → Prop}, P.p S H v F → ∀ a, F a → ∃ vs, H a = some (.lst vs)
  see : ∀ {S H T : Hp} {v : V} {F : Addr → Prop}, P.p S H v F → Same S T → (∀ a o, F a → H a = some o → T a = some o) → p.p T v
theorem seen_L {α : Type} {R : Rel α} {xs : List α} : SeenL (ownL R xs) ((rLst R).pr xs) :=
  ⟨fun ⟨l, vs, _, f, hl, _⟩ a e => ⟨vs, by rw [(f a).mp e]; exact hl⟩, fun ⟨l, vs, e, f, hl, hq⟩ sm k => ⟨l, vs, e, k _ _ ((f l).mpr rfl) hl, All2.rel sm hq⟩⟩
/-- own lists are seen as if stable, all else that is one's own is hidden -/
inductive FrzL : Env → Env → Prop
  | nil : FrzL [] []
  | no {l l' : Env} : FrzL l l' → FrzL (.no :: l) (.no :: l')
  | st {p : Pr} {l l' : Env} : FrzL l l' → FrzL (.st p :: l) (.st p :: l')
  | see {P : PrO} {p : Pr} {l l' : Env} : SeenL P p → FrzL l l' → FrzL (.ow P :: l) (.st p :: l')
  | hid {p : PrO} {l l' : Env} : FrzL l l' → FrzL (.ow p :: l) (.no :: l')
  | gh {p : PrO} {l l' : Env} : FrzL l l' → FrzL (.gh p :: l) (.no :: l')
theorem FrzL.ow {α : Type} {R : Rel α} {xs : List α} {l l' : Env} (h : FrzL l l') : FrzL (.ow (ownL R xs) :: l) (.st ((rLst R).pr xs) :: l') := .see seen_L h
theorem FrzL.get : ∀ {l l' : Env}, FrzL l l' → ∀ {i : Nat} {s : Sl}, l'[i]? = some s → s = .no ∨ (∃ p, s = .st p ∧ l[i]? = some (.st p)) ∨ ∃ (P : PrO) (p : Pr), s = .st p ∧ l[i]? = some (.ow P) ∧ SeenL P p
  | _, _, .nil, i, s, h => by simp at h
  | _, _, .no f, 0, s, h => by simp at h; exact .inl h.symm
  | _, _, .st f, 0, s, h => by simp at h; exact .inr (.inl ⟨_, h.symm, rfl⟩)
  | _, _, .see sn f, 0, s, h => by simp at h; exact .inr (.inr ⟨_, _, h.symm, rfl, sn⟩)
  | _, _, .hid f, 0, s, h => by simp at h; exact .inl h.symm
  | _, _, .gh f, 0, s, h => by simp at h; exact .inl h.symm
  | _, _, .no f, i + 1, s, h => by simpa using f.get (i := i) (by simpa using h)
  | _, _, .st f, i + 1, s, h => by simpa using f.get (i := i) (by simpa using h)
  | _, _, .see sn f, i + 1, s, h => by simpa using f.get (i := i) (by simpa using h)
  | _, _, .hid f, i + 1, s, h => by simpa using f.get (i := i) (by simpa using h)
  | _, _, .gh f, i + 1, s, h => by simpa using f.get (i := i) (by simpa using h)
section
variable {τ α α' β β1 β2 γ κ ρ ρ' ι θ υ δ : Type} {G : Gx} {c : Sc} {E : Eff τ} {W : WX} {Γ Γ' : Env} {B : Bs} {σ σ' : L2.St} {S S1 S' H H1 H' N : Hp} {b b' : τ}
open Classical in
/-! ### in a def whose new lists are told apart -/
/-! ### what is read of such a thing; what is changed of it, and never read again -/
structure WkR {α : Type} (R : (Addr → Prop) → Rel α) (R' : Rel α) : Prop where
  h : ∀ P x S v, (R P).is x S v → R'.is x S v
structure JAt {α : Type} (R : (Addr → Prop) → Rel α) (f : α → Option Nat) (ks : List Nat) : Prop where
  h : ∀ {P : Addr → Prop} {T : Hp} {x : α} {v : V} {n : Nat}, (R P).is x T v → f x = some n → ∃ a us, v = .ref a ∧ T a = some (.tup us) ∧ ∀ k ∈ ks, ∃ c vs, us[k]? = some (.ref c) ∧ P c ∧ T c = some (.lst vs) ∧ vs.length ≤ n
end
end Zk

namespace Zk
open PySem L2
section
variable {τ α β γ κ ρ ι θ υ : Type} {G : Gx} {c : Sc} {E : Eff τ} {W : WX} {Γ Γ' : Env}
/-! ### list(range(a, b)) -/
instance {a b : Int} : Decidable (RgOk a b) := by unfold RgOk; infer_instance
/-! ### None, or things of several kinds: ==, repr -/
structure RefB {α : Type} (R : Rel α) (f : α → Bool) : Prop where
  h : ∀ {x : α} {S : Hp} {v : V}, f x = true → R.is x S v → ∃ a, v = .ref a
end
end Zk

namespace Zk
open PySem L2 PySem.Spec PyProof.Rows
section
variable {τ α β γ δ κ ρ ι θ : Type} {G : Gx} {c : Sc} {E : Eff τ} {W : WX} {Γ Γ' : Env} {B : Bs} {σ : L2.St} {S S1 S' H H' : Hp} {b b' : τ} {L : Ls κ ρ} {t : Addr × Str} {N : Hp}
/-! ### new lists told by defs that make lambdas -/
/-! ### what is told as a tree is seen -/
/-! ### a list of two new lists -/
structure JLt {α : Type} (R : (Addr → Prop) → Rel α) (f : α → Option Nat) (ks : List Nat) : Prop where
  h : ∀ {P : Addr → Prop} {T : Hp} {x : α} {v : V} {n : Nat}, (R P).is x T v → f x = some n → ∃ a us, v = .ref a ∧ P a ∧ T a = some (.lst us) ∧ ∀ k ∈ ks, ∃ c vs, us[k]? = some (.ref c) ∧ P c ∧ c ≠ a ∧ T c = some (.lst vs) ∧ vs.length ≤ n
end
end Zk

namespace Zk
open PySem L2 PySem.Spec
section
variable {τ α β γ δ1 δ2 κ ρ ι ι2 θ : Type} {G : Gx} {c : Sc} {E : Eff τ} {W : WX} {Γ Γ' Γ1 : Env} {B : Bs} {σ : L2.St} {S S1 S' H H' : Hp} {b b' : τ} {L : Ls κ ρ} {N : Hp}
/-! ### own dicts lent: seen as stable by an expression -/
/-- a kind that looks at nothing that is frozen (no dict, no record) -/
structure NoFrz {α : Type} (R : Rel α) : Prop where
  h : ∀ {x : α} {S T : Hp} {v : V}, R.is x S v → (∀ a o, S a = some o → (∀ od u, o ≠ .frz od u) → T a = some o) → R.is x T v
/-- what is one's own is hidden -/
inductive HidL : Env → Env → Prop
  | nil : HidL [] []
  | st {p : Pr} {l l' : Env} : HidL l l' → HidL (.st p :: l) (.st p :: l')
  | hid {s : Sl} {l l' : Env} : HidL l l' → HidL (s :: l) (.no :: l')
theorem HidL.get : ∀ {l l' : Env}, HidL l l' → ∀ {i : Nat} {s : Sl}, l'[i]? = some s → s = .no ∨ ∃ p, s = .st p ∧ l[i]? = some (.st p)
  | _, _, .nil, i, s, h => by simp at h
  | _, _, .st f, 0, s, h => by simp at h; exact .inr ⟨_, h.symm, rfl⟩
  | _, _, .hid f, 0, s, h => by simp at h; exact .inl h.symm
  | _, _, .st f, i + 1, s, h => by simpa using f.get (i := i) (by simpa using h)
  | _, _, .hid f, i + 1, s, h => by simpa using f.get (i := i) (by simpa using h)
open Classical in
end
end Zk

namespace Zk
open PySem L2 PySem.Spec
section
variable {τ α β γ κ ρ ι θ : Type} {G : Gx} {c : Sc} {E : Eff τ} {W : WX} {Γ Γ' Γ1 : Env} {B : Bs} {σ : L2.St} {S S1 S' H H' : Hp} {b b' : τ} {L : Ls κ ρ}
/-! ### own lists in ghost slots: handed to defs that change them -/
/-! ### if not f(..) or ..: where f changes what is one's own -/
end
end Zk

namespace Zk
open PySem L2 PySem.Spec
section
variable {τ α β γ κ ρ ι θ : Type} {G : Gx} {c : Sc} {E : Eff τ} {W : WX} {Γ Γ' : Env}
/-! ### defs with a keyword whose told lists are new -/
end
end Zk

namespace Zk
open PySem L2 PySem.Spec
section
variable {τ α β γ κ ρ ι θ : Type} {G : Gx} {c : Sc} {E : Eff τ} {W : WX} {Γ Γ' : Env} {B : Bs} {σ : L2.St} {S S1 S' H H' N : Hp} {b b' : τ}
/-! ### sorted of tuples that are not empty -/
end
end Zk

namespace Zk
open PySem L2 PySem.Spec
section
variable {τ α β γ κ ρ ι θ : Type} {G : Gx} {c : Sc} {E : Eff τ} {W : WX} {Γ Γ' : Env} {B : Bs} {σ : L2.St} {S S1 S' H H' N : Hp} {b b' : τ}
/-! ### a told list itself changed, never read again -/
structure JRt {α : Type} (R : (Addr → Prop) → Rel α) (f : α → Option Nat) : Prop where
  h : ∀ {P : Addr → Prop} {T : Hp} {x : α} {v : V} {n : Nat}, (R P).is x T v → f x = some n → ∃ a vs, v = .ref a ∧ P a ∧ T a = some (.lst vs) ∧ vs.length ≤ n
end
end Zk

namespace Zk
open PySem L2 PySem.Spec
section
variable {X : Cx}
end
section
variable {τ α β γ κ ρ ρ' ι : Type} [DecidableEq ι] {G : Gx} {c : Sc} {E : Eff τ} {W : WX} {Γ Γ' : Env} {B : Bs} {L : Ls κ ρ} {Rk : Rel ι} {fk : ι → Key} {F : KyF Rk fk}
end
end Zk

namespace Zk
open PySem L2 PySem.Spec
/-! ### isinstance of refusals -/
/-! ### xs[::k], k 1 or -1 -/
section
variable {X : Cx} {e es : Expr} {te ts : TE} {p3 pos : Pos}
end
section
variable {τ α β γ κ ρ ι θ : Type} {G : Gx} {c : Sc} {E : Eff τ} {W : WX} {Γ Γ' : Env} {B : Bs} {σ : L2.St} {S S1 S' H H' N : Hp} {b b' : τ}
/-! ### a told list itself changed, never read again: its length is told -/
structure JEt {α : Type} (R : (Addr → Prop) → Rel α) (f : α → Option Nat) : Prop where
  h : ∀ {P : Addr → Prop} {T : Hp} {x : α} {v : V} {n : Nat}, (R P).is x T v → f x = some n → ∃ a vs, v = .ref a ∧ P a ∧ T a = some (.lst vs) ∧ vs.length = n
end
end Zk

namespace Zk
open PySem L2
/-! ### a record of one's own: a dict by texts of things of any kind -/
section
variable {τ α β γ δ κ ρ ι θ υ : Type} {G : Gx} {c : Sc} {E : Eff τ} {W : WX} {Γ Γ' : Env} {B : Bs} {σ σ' : L2.St} {S S1 S' H H1 H' : Hp} {b b' : τ} {L : Ls κ ρ}
end
end Zk

namespace Zk
open PySem L2
/-! ### min, max of two texts -/
section
variable {prog : Program} {w : World} {A : Around} {E : Value → Shared → Prop} {s : Shared} {a b : Str} {t u : Tok} {Q : Value → Shared → Prop}
end
/-! ### dict(zip(xs, ys)), texts as keys -/
section
variable {τ α β γ δ κ ρ ι θ υ : Type} {G : Gx} {c : Sc} {E : Eff τ} {W : WX} {Γ Γ' : Env} {B : Bs} {σ σ' : L2.St} {S S1 S' H H1 H' : Hp} {b b' : τ} {L : Ls κ ρ} {e e2 : Expr} {x : Str} {p pos : Pos}
/-! ### what is never come to, as a value (a def that calls itself no deeper) -/
/-! ### dict(zip(..)) -/
end
end Zk

namespace Zk
open PySem L2 PyProof.Rows
/-! ### enumerate of a tuple -/
section
variable {τ α β γ δ κ ρ ι θ : Type} {G : Gx} {c : Sc} {E : Eff τ} {W : WX} {Γ : Env}
end
end Zk

namespace Zk
open PySem L2 PySem.Spec PyProof.Rows
/-! ### things of several kinds in tuples -/
section
variable {τ α β γ δ κ ρ ι θ : Type} {G : Gx} {c : Sc} {E : Eff τ} {W : WX} {Γ Γ' : Env} {B : Bs} {σ : L2.St} {S S1 S' H H' : Hp} {b b' : τ} {L : Ls κ ρ}
variable {ea eb : Expr} {pos : Pos} {R : Rel α} {R2 : Rel β}
/-! ### a name of several kinds is one of them by then -/
structure PrjOk (f : α → Option β) (R : Rel α) (R1 : Rel β) : Prop where
  h : ∀ {x y S v}, f x = some y → R.is x S v → R1.is y S v
/-! ### repr of things of several kinds, texts among them -/
theorem cr_reprS {X : Cx} : CallR X (.builtin "repr") (fun xs H Q => ∃ i : Str, xs = [.str i] ∧ (reprText i).length ≤ sizeLine ∧ Q (.str (reprText i)) H) := by
  intro pins s σ H xs us Q I r h
  obtain ⟨i, rfl, hz, q⟩ := h
  obtain ⟨u, rfl, rx⟩ := vals1 r
  obtain ⟨t, rfl⟩ := (show ∃ t, u = Value.str i t from rx)
  exact PySem.P.repr_of_str ⟨.str _, H, I.tok _, ⟨_, rfl⟩, q⟩ hz
structure RefS (R : Rel α) (D : DatW R) : Prop where
  h : ∀ {x : α} {S : Hp} {v : V}, R.is x S v → (∃ a, v = .ref a) ∨ ∃ s, v = .str s ∧ D.d x = .str s
end
end Zk

namespace Zk
open PySem L2 PySem.Spec PyProof.Rows
/-! ### keys: pairs of standings -/
instance decRR : DecidableEq (List (Str × Int × Int) × List (Str × Int × Int)) := inferInstance
section
variable {τ α β γ δ κ ρ ι θ : Type} {G : Gx} {c : Sc} {E : Eff τ} {W : WX} {Γ Γ' : Env} {B : Bs} {σ : L2.St} {S S1 S' H H' : Hp} {b b' : τ} {L : Ls κ ρ}
/-! ### x in a pair of things -/
section
variable {ea eb : Expr} {pos : Pos} {R : Rel α} {R1 : Rel β} {R2 : Rel γ}
/-! ### a pair of None-or-things taken as the pair of things -/
end
/-! ### a dict whose values are of another kind for a while -/
section
variable [DecidableEq ι] {K : Ky G ι} {R3 : Rel β} {R2 : Rel α}
end
/-! ### a row of three and one more -/
end
end Zk

namespace Zk
open PySem L2
/-! ### dict(zip(xs, ys)), tuples as keys -/
section
variable {τ α β γ δ κ ρ ι θ υ : Type} {G : Gx} {c : Sc} {E : Eff τ} {W : WX} {Γ Γ' : Env} {B : Bs} {σ σ' : L2.St} {S S1 S' H H1 H' : Hp} {b b' : τ} {L : Ls κ ρ} {e e2 : Expr} {x : Str} {p pos : Pos}
variable [DecidableEq ι] {R : Rel ι} {D : DatR R}
end
/-! ### a thing that three things of its own hang on -/
section
variable {τ α β γ δ κ ρ ι θ υ β1 β2 β3 : Type} {G : Gx} {c : Sc} {E : Eff τ} {W : WX} {Γ Γ' : Env} {B : Bs} {σ σ' : L2.St} {S S1 S' H H1 H' : Hp} {b b' : τ} {L : Ls κ ρ}
end

/-! ### sorted of an own dict with tuples as keys -/
section
variable {τ α β γ κ ρ ι θ : Type} {G : Gx} {c : Sc} {E : Eff τ} {W : WX} {Γ Γ' : Env} {B : Bs} {σ : L2.St} {S S1 S' H H' : Hp} {b b' : τ} {L : Ls κ ρ}
variable [DecidableEq ι] {R : Rel ι} {D : DatR R} {R2 : Rel α}
end

/-! ### dicts of ints: != -/
section
variable {τ α β γ κ ρ ι θ : Type} {G : Gx} {c : Sc} {E : Eff τ} {W : WX} {Γ Γ' : Env} {B : Bs} {σ : L2.St} {S S1 S' H H' : Hp} {b b' : τ} {L : Ls κ ρ} [DecidableEq ι] {R : Rel ι} {f : ι → Key} {pos : Pos}
variable {ea eb : Expr}
end
end Zk

namespace Zk
open PySem L2 PySem.Spec
section
variable {τ α β γ δ κ ρ ρ' ι θ υ : Type} {G : Gx} {c : Sc} {E : Eff τ} {W : WX} {Γ Γ' Γ1 : Env} {B : Bs} {σ : L2.St} {S S1 S' H H' : Hp} {b b' : τ} {L : Ls κ ρ'}
/-! ### an own record lent to an expression, out of which something new comes -/
/-- a kind that looks at no frozen dict with plain keys -/
structure NoDk {α : Type} (R : Rel α) : Prop where
  h : ∀ {x : α} {S T : Hp} {v : V}, R.is x S v → (∀ a o, S a = some o → (∀ od es, o ≠ .frz od (.dK es)) → T a = some o) → R.is x T v
structure NoDkP (P : PrO) : Prop where
  h : ∀ {S T H H' : Hp} {v : V} {F : Addr → Prop}, P.p S H v F → (∀ a o, S a = some o → (∀ od es, o ≠ .frz od (.dK es)) → T a = some o) → (∀ a o, F a → H a = some o → H' a = some o) → P.p T H' v F
theorem HidL.len : ∀ {l l' : Env}, HidL l l' → l.length = l'.length
  | _, _, .nil => rfl
  | _, _, .st f => by rw [List.length_cons, List.length_cons, f.len]
  | _, _, .hid f => by rw [List.length_cons, List.length_cons, f.len]
open Classical in
end
section
variable {τ α β γ δ κ ρ ρ' ι θ υ : Type} {G : Gx} {c : Sc} {E : Eff τ} {W : WX} {Γ Γ' Γ1 : Env} {B : Bs} {σ : L2.St} {S S1 S' H H' : Hp} {b b' : τ} {L : Ls κ ρ'}
/-! ### two own dicts lent, by their names -/
/-! ### lists of things, and None behind -/
/-! ### x["k"], y["k"] = a, b: new keys of own records -/
end
end Zk

namespace Zk
open PySem L2 PySem.Spec
/-! ### new dicts handed to a def that changes them -/
section
variable {τ α β γ δ κ ρ ρ' ι θ υ η : Type} {G : Gx} {c : Sc} {E : Eff τ} {W : WX} {Γ Γ' Γ1 : Env} {B : Bs} {σ : L2.St} {S S1 S' H H' : Hp} {b b' : τ}
variable {g : Bool} {x : Str} {k : Nat} {ps : List Str} {A' : θ → α → List Pr} {gs' : θ → γ → List PrO} {R : Rel ρ'} {e : Expr} {es : List Expr} {p cpos pos : Pos}
end
section
variable {τ α β γ κ ρ ι θ : Type} {G : Gx} {c : Sc} {E : Eff τ} {W : WX} {Γ Γ' : Env} {B : Bs} {σ : L2.St} {S S1 S' H H' : Hp} {b b' : τ} [DecidableEq ι] {R : Rel ι} {f : ι → Key} {R2 : Rel α} {e : Expr} {x : Str} {p pos : Pos}
end
end Zk

namespace Zk
open PySem L2 PySem.Spec
section
variable {τ α β γ δ κ ρ ρ' ι θ υ : Type} {G : Gx} {c : Sc} {E : Eff τ} {W : WX} {Γ Γ' Γ1 : Env} {B : Bs} {σ : L2.St} {S S1 S' H H' : Hp} {b b' : τ} {L : Ls κ ρ}
/-! ### x, y, z = a new thing, a new thing, something -/
end
/-! ### if a and f(..) is not None, where f changes own dicts -/
section
variable {τ α γ κ ρ ρ' : Type} {G : Gx} {c : Sc} {E : Eff τ} {W : WX} {Γ : Env} {L : Ls κ ρ} {Γ' : γ → Env} {R : Rel ρ'} {e ea : Expr} {a d : List Stmt} {m1 : M τ Bool} {m : M τ (Option ρ' × γ)} {n o : γ → M τ (Fl α κ ρ)} {Γn : α → Env} {pos pp pq pb : Pos} {j : Nat}
end
end Zk

namespace Zk
open PySem L2 PySem.Spec
section
variable {τ α β γ δ κ ρ ρ' ι θ υ η ε : Type} {G : Gx} {c : Sc} {E : Eff τ} {W : WX} {L : Ls κ ρ} {Γ Γ' Γ1 : Env} {B : Bs} {σ : L2.St} {S S1 S' H H' : Hp} {b b' : τ}
/-! ### a def as a thing: a name of one's own that holds it -/
end
end Zk

namespace Zk
open PySem L2 PySem.Spec PyProof.Rows
/-! ### iteration over what is a tuple or a list -/
section
variable {τ α β γ δ κ ρ ι θ : Type} {G : Gx} {c : Sc} {E : Eff τ} {W : WX} {Γ Γ' : Env} {B : Bs} {σ : L2.St} {S S1 S' H H' : Hp} {b b' : τ} {L : Ls κ ρ}
/-! ### x in a list of things of several kinds -/
section
variable {ea eb : Expr} {pos : Pos} {R : Rel α} {R2 : Rel β}
end
/-! ### d.update(e) -/
section
variable [DecidableEq ι] {R : Rel ι} {f : ι → Key} {R2 : Rel α}
end
/-! ### a dict whose values are told otherwise -/
section
variable [DecidableEq ι] {K : Ky G ι} {R1 : Rel α} {R2 : Rel β} {f : α → β}
end
/-! ### dicts compared, whose values are plain, whatever the order of keys -/
structure FlR (R : Rel α) [DecidableEq α] where
  d : α → PyData
  fl : ∀ {x : α} {S : Hp} {v : V} {u : Value}, R.is x S v → RelV v u → PyProof.V.Flat u (d x)
  ev : ∀ x y : α, PyData.eqv (d x) (d y) = decide (x = y)
section
variable [DecidableEq ι] {R : Rel ι} {f : ι → Key} {R2 : Rel α} [DecidableEq α]
variable {ea eb : Expr} {pos : Pos}
end
/-! ### a == b in a suite of except -/
/-! ### a name that holds a def that makes lambdas -/
/-! ### own dicts of a record lent, where there is a table -/
structure FreeK {τ : Type} (E : Eff τ) : Prop where
  h : ∀ {b b0 : τ} {S S' H S0 H0 : Hp}, E.is b0 S0 H0 → Same S0 S' → (∀ a o, S' a = some o → S a = some o) → (∀ a o, S a = some o → (∀ od u, o ≠ .frz od u) → S' a = some o) → E.is b S H → E.is b S' H
section
variable {τ α β γ δ1 δ2 κ ρ ι ι2 θ : Type} {G : Gx} {c : Sc} {E : Eff τ} {W : WX} {Γ Γ' Γ1 : Env} {B : Bs} {σ : L2.St} {S S1 S' H H' : Hp} {b b' : τ} {L : Ls κ ρ} {N : Hp}
open Classical in
end
end
end Zk

namespace Zk
open PySem L2 PySem.Spec PyProof.Rows
/-! ### an exception that leaves a list comprehension -/
section
variable {M : Model} {A : Around} {Ex : Value → Shared → Prop} {s : Shared} {Bg : Heap} {en : PySem.Env} {ou : List PySem.Env} {x L : Addr} {Zx : Obj → Prop} {fw : Value}
end
section
variable {X : Cx} {pins : List (Addr × Obj)} {σ : L2.St} {H : Hp} {s : Shared} {W : WX} {scope : Scope} {ce : PySem.Env} {fp : List Addr}
end
section
variable {X : Cx} {W : WX}
end
section
variable {τ α β γ δ κ ρ ι θ : Type} {G : Gx} {c : Sc} {E : Eff τ} {W : WX} {Γ Γ' : Env} {B : Bs} {σ : L2.St} {S S1 S' H H' : Hp} {b b' : τ} {L : Ls κ ρ}
def lcEndX (G : Gx) (E : Eff τ) (W : Value → Option Addr → Hp → Prop) (B : Bs) (Γ : Env) (σ : L2.St) (S : Hp) (R' : Rel γ) (Q : VK) : Out τ (List γ) → Prop
  | .ok ys b' => ∀ D S' H' us, Same S S' → Hold E (Bd B D (.lst us)) Γ b' σ S' H' → B.S D = none → B.H D = none → ¬ E.own D → All2 (fun x v => R'.is x S' v) ys us → Q (.ref D) H'
  | .exc x b' => ∀ c d S' H', Same S S' → Hold E B Γ b' σ S' H' → XAt G x H' c d → W c d H'
  | .stuck => False
theorem lcEndX.same {Wo : Value → Option Addr → Hp → Prop} {R' : Rel γ} {Q : VK} (s : Same S S1) : ∀ {o : Out τ (List γ)}, lcEndX G E Wo B Γ σ S R' Q o → lcEndX G E Wo B Γ σ S1 R' Q o
  | .ok _ _, h => fun D S' H' us s2 => h D S' H' us (s.trans s2)
  | .exc _ _, h => fun c d S' H' s2 => h c d S' H' (s.trans s2)
  | .stuck, h => h
structure LcX (G : Gx) (c : Sc) (E : Eff τ) (W : WX) (Γ : Env) (elt tg iter : Expr) (ifs : List Expr) (scope : Scope) (own : List (Str × Nat)) (m : M τ (List β)) (t : β → M τ Bool) (f : β → M τ γ) (R : Rel β) (R' : Rel γ) (Γ1 : β → Env) : Prop where
  ok : BlkOk c.N c.sc scope own
  hi : ZI G c E W Γ tg iter m R
  hg : ZG G (c.blk scope) E Wf (wipeE Γ (own.map (·.2))) (own.map (·.2)) tg Γ1 R
  ht : ∀ x, ZTs G (c.blk scope) E Wf (Γ1 x) ifs (t x)
  he : ∀ (W' : WX) x, ZE G (c.blk scope) E W' (Γ1 x) elt (f x) R'
  no : ∀ (i : Nat) s, Γ[i]? = some s → s = .no ∨ i ∉ own.map (·.2)
  fs : ∀ (env : PySem.Env) x, foldedSetIterable iter env x = pure x
end
end Zk

namespace Zk
open PySem L2
/-! ### an own record: an item that is an own dict; an item put anew; items read -/
section
variable {τ α β γ δ κ ρ ι θ υ : Type} {G : Gx} {c : Sc} {E : Eff τ} {W : WX} {Γ Γ' : Env} {B : Bs} {σ σ' : L2.St} {S S1 S' H H1 H' : Hp} {b b' : τ} {L : Ls κ ρ}
/-- two ghosts are one -/
theorem Hold.join {g : Nat} {p1 p2 p : PrO} (h : Hold E B (Γ ++ [.gh p2]) b σ S H) (hg : Γ[g]? = some (.gh p1)) (hp : ∀ {F F2 : Addr → Prop}, p1.p S H .non F → p2.p S H .non F2 → (∀ a, ¬ (F a ∧ F2 a)) → p.p S H .non (fun a => F a ∨ F2 a)) : Hold E B (Γ.set g (.gh p)) b σ S H := by
  obtain ⟨Fs, hFe, hs⟩ := id h.sl
  have hlt := (List.getElem?_eq_some_iff.mp hg).1
  have hn : g ≠ Γ.length := by omega
  have h1 : p1.p S H .non (Fs g) := hs g (.gh p1) (by rw [List.getElem?_append_left hlt]; exact hg)
  have h2 : p2.p S H .non (Fs Γ.length) := hs Γ.length (.gh p2) (by simp)
  have h3 := hp h1 h2 fun a z => hn (hFe.ds g Γ.length a z.1 z.2)
  refine ⟨h.kp, h.ef, fun j a => (j ≠ g ∧ j < Γ.length ∧ Fs j a) ∨ (j = g ∧ (Fs g a ∨ Fs Γ.length a)), ⟨fun j a e => ?_, fun j k a z1 z2 => ?_⟩, fun j s e => ?_⟩
  · rcases e with ⟨_, _, e⟩ | ⟨_, e | e⟩
    · exact hFe.at_ j a e
    · exact hFe.at_ g a e
    · exact hFe.at_ Γ.length a e
  · rcases z1 with ⟨n1, n1', e1⟩ | ⟨n1, e1⟩ <;> rcases z2 with ⟨n2, n2', e2⟩ | ⟨n2, e2⟩
    · exact hFe.ds j k a e1 e2
    · rcases e2 with e2 | e2
      · exact absurd (hFe.ds j g a e1 e2) n1
      · exact absurd (hFe.ds j Γ.length a e1 e2) (by omega)
    · rcases e1 with e1 | e1
      · exact absurd (hFe.ds k g a e2 e1) n2
      · exact absurd (hFe.ds k Γ.length a e2 e1) (by omega)
    · rw [n1, n2]
  · rcases set_get e with ⟨rfl, rfl⟩ | ⟨n, e⟩
    · have : (fun a => (j ≠ j ∧ j < Γ.length ∧ Fs j a) ∨ (j = j ∧ (Fs j a ∨ Fs Γ.length a))) = fun a => Fs j a ∨ Fs Γ.length a := funext fun a => propext ⟨fun z => z.elim (fun z => absurd rfl z.1) (·.2), fun z => .inr ⟨rfl, z⟩⟩
      show p.p S H .non (fun a => (j ≠ j ∧ j < Γ.length ∧ Fs j a) ∨ (j = j ∧ (Fs j a ∨ Fs Γ.length a)))
      rw [this]; exact h3
    · have hj := (List.getElem?_eq_some_iff.mp e).1
      have : (fun a => (j ≠ g ∧ j < Γ.length ∧ Fs j a) ∨ (j = g ∧ (Fs g a ∨ Fs Γ.length a))) = Fs j := funext fun a => propext ⟨fun z => z.elim (·.2.2) fun z => absurd z.1 n, fun z => .inl ⟨n, hj, z⟩⟩
      have q := hs j s (by rw [List.getElem?_append_left hj]; exact e)
      cases s with
      | no => trivial
      | st p => exact q
      | ow p => obtain ⟨x, e1, e2⟩ := q; exact ⟨x, e1, by show p.p S H x (fun a => (j ≠ g ∧ j < Γ.length ∧ Fs j a) ∨ (j = g ∧ (Fs g a ∨ Fs Γ.length a))); rw [this]; exact e2⟩
      | gh p => show p.p S H .non (fun a => (j ≠ g ∧ j < Γ.length ∧ Fs j a) ∨ (j = g ∧ (Fs g a ∨ Fs Γ.length a))); rw [this]; exact q
end
end Zk

namespace Zk
open PySem L2
/-! ### things of any kind: what they are is looked at as the law runs -/
mutual
inductive Dq (S : Hp) : V → PyData → Prop
  | non : Dq S .non .none
  | bl (b : Bool) : Dq S (.bl b) (.bool b)
  | int (i : Int) : Dq S (.int i) (.int i)
  | str (x : Str) : Dq S (.str x) (.str x)
  | lst {a : Addr} {xs : List V} {ds : List PyData} : S a = some (.lst xs) → DqAll S xs ds → Dq S (.ref a) (.list ds)
  | tup {a : Addr} {xs : List V} {ds : List PyData} : S a = some (.tup xs) → DqAll S xs ds → Dq S (.ref a) (.tuple ds)
inductive DqAll (S : Hp) : List V → List PyData → Prop
  | nil : DqAll S [] []
  | cons {v : V} {vs : List V} {d : PyData} {ds : List PyData} : Dq S v d → DqAll S vs ds → DqAll S (v :: vs) (d :: ds)
end
section
variable {S S' : Hp}
mutual
theorem dq_sm (s : Same S S') : ∀ {v : V} {d : PyData}, Dq S v d → Dq S' v d
  | _, _, .non => .non
  | _, _, .bl b => .bl b
  | _, _, .int i => .int i
  | _, _, .str x => .str x
  | _, _, .lst h q => .lst (s _ _ h) (dqa_sm s q)
  | _, _, .tup h q => .tup (s _ _ h) (dqa_sm s q)
theorem dqa_sm (s : Same S S') : ∀ {v : List V} {d : List PyData}, DqAll S v d → DqAll S' v d
  | _, _, .nil => .nil
  | _, _, .cons h q => .cons (dq_sm s h) (dqa_sm s q)
end
mutual
theorem Dq.dp {K : PySem.W.Frag} : ∀ {v : V} {d : PyData}, Dq S v d → Dp K S v d
  | _, _, .non => .non
  | _, _, .bl b => .bl b
  | _, _, .int i => .int i
  | _, _, .str x => .str x
  | _, _, .lst h q => .lst (.of h) (DqAll.dp q)
  | _, _, .tup h q => .tup (.of h) (DqAll.dp q)
theorem DqAll.dp {K : PySem.W.Frag} : ∀ {v : List V} {d : List PyData}, DqAll S v d → DpAll K S v d
  | _, _, .nil => .nil
  | _, _, .cons h q => .cons (Dq.dp h) (DqAll.dp q)
end
end
def rQ : Rel PyData := ⟨fun d S v => Dq S v d, fun s h => dq_sm s h⟩
theorem dqAll_all2 {S : Hp} : ∀ {ds : List PyData} {vs : List V}, DqAll S vs ds → All2 (fun d v => rQ.is d S v) ds vs
  | [], [], _ => trivial
  | _ :: _, _ :: _, .cons h q => ⟨h, dqAll_all2 q⟩
  | [], _ :: _, h => nomatch h
  | _ :: _, [], h => nomatch h
/-- what is a thing -/
structure DaQ {α : Type} (R : Rel α) where
  d : α → PyData
  q : ∀ {x : α} {S : Hp} {v : V}, R.is x S v → Dq S v (d x)
section
variable {α β γ : Type}
def qI : DaQ rInt := ⟨fun x => .int x, fun h => by cases h; exact .int _⟩
def qS : DaQ rStr := ⟨fun x => .str x, fun h => by cases h; exact .str _⟩
def qB : DaQ rBl := ⟨fun x => .bool x, fun h => by cases h; exact .bl _⟩
def qN : DaQ rNon := ⟨fun _ => .none, fun h => by cases h; exact .non⟩
def qQ : DaQ rQ := ⟨id, fun h => h⟩
theorem daq_all {R : Rel α} (D : DaQ R) {S : Hp} : ∀ {xs : List α} {vs : List V}, All2 (fun x v => R.is x S v) xs vs → DqAll S vs (xs.map D.d)
  | [], [], _ => .nil
  | _ :: _, _ :: _, ⟨h, q⟩ => .cons (D.q h) (daq_all D q)
  | [], _ :: _, h => h.elim
  | _ :: _, [], h => h.elim
def qL {R : Rel α} (D : DaQ R) : DaQ (rLst R) := ⟨fun xs => .list (xs.map D.d), fun ⟨a, vs, e, h, q⟩ => by cases e; exact .lst h (daq_all D q)⟩
def qV {R : Rel α} (D : DaQ R) : DaQ (rVT R) := ⟨fun xs => .tuple (xs.map D.d), fun ⟨a, vs, e, h, q⟩ => by cases e; exact .tup h (daq_all D q)⟩
def q2 {R : Rel α} {R2 : Rel β} (D : DaQ R) (F : DaQ R2) : DaQ (rT2 R R2) := ⟨fun x => .tuple [D.d x.1, F.d x.2], fun ⟨a, u, w, e, h, q, r⟩ => by cases e; exact .tup h (.cons (D.q q) (.cons (F.q r) .nil))⟩
def q3 {R : Rel α} {R2 : Rel β} {R3 : Rel γ} (D : DaQ R) (F : DaQ R2) (J : DaQ R3) : DaQ (rT3 R R2 R3) := ⟨fun x => .tuple [D.d x.1, F.d x.2.1, J.d x.2.2], fun ⟨a, u, w, z, e, h, q, r, t⟩ => by cases e; exact .tup h (.cons (D.q q) (.cons (F.q r) (.cons (J.q t) .nil)))⟩
end
/-- .. or a dict of texts and numbers -/
def FlD (S : Hp) (v : V) (d : PyData) : Prop := ∃ (a : Addr) (o : Obj) (es : List (Key × V)) (xs : List (Str × Int)), v = .ref a ∧ S a = some (.frz o (.dK es)) ∧ d = .dict (xs.map fun t => (.str t.1, .int t.2)) ∧ All2 (fun (x : Str × Int) t => t.1 = Sum.inr x.1 ∧ t.2 = V.int x.2) xs es
def rX : Rel PyData := ⟨fun d S v => Dq S v d ∨ FlD S v d, fun s h => h.imp (dq_sm s) fun ⟨a, o, es, xs, e1, e2, e3, q⟩ => ⟨a, o, es, xs, e1, s _ _ e2, e3, q⟩⟩
def asI : PyData → Option Int | .int i => some i | _ => none
def asS : PyData → Option Str | .str x => some x | _ => none
def asL : PyData → Option (List PyData) | .list ds => some ds | _ => none
def asQ : PyData → Option PyData | .dict _ => none | d => some d
def strsOf : List PyData → Option (List Str)
  | [] => some []
  | d :: ds => (asS d).bind fun x => (strsOf ds).map fun xs => x :: xs
def asLS (d : PyData) : Option (List Str) := (asL d).bind strsOf
section
variable {τ α β γ δ κ ρ ι θ υ : Type} {G : Gx} {c : Sc} {E : Eff τ} {W : WX} {Γ Γ' : Env} {B : Bs} {σ σ' : L2.St} {S S1 S' H H1 H' : Hp} {b b' : τ} {L : Ls κ ρ} {e : Expr} {p pos : Pos} {x : Str}
theorem fld_not {v : V} {d : PyData} (h : FlD S v d) : ∃ xs : List (Str × Int), d = .dict (xs.map fun t => (.str t.1, .int t.2)) := let ⟨_, _, _, xs, _, _, e, _⟩ := h; ⟨xs, e⟩
/-- a thing of some kind is a thing -/
theorem z_q {R : Rel α} (D : DaQ R) {m : M τ α} (h : ZE G c E W Γ e m R) : ZE G c E W Γ e (zget D.d m) rQ := fun X C => pe_wk (h X C) fun σ H Q _ ⟨B, S, b, hh, q⟩ => by
  refine tz_bnd hh q fun x b1 v S1 H1 s1 h1 r1 q1 => ?_
  exact aft_ret h1 q1 (D.q r1)
theorem z_x {R : Rel α} (D : DaQ R) {m : M τ α} (h : ZE G c E W Γ e m R) : ZE G c E W Γ e (zget D.d m) rX := fun X C => pe_wk (h X C) fun σ H Q _ ⟨B, S, b, hh, q⟩ => by
  refine tz_bnd hh q fun x b1 v S1 H1 s1 h1 r1 q1 => ?_
  exact aft_ret h1 q1 (.inl (D.q r1))
theorem drel_fl : ∀ {xs : List (Str × Int)} {es : List (Key × V)}, DRel (kyF G kyfS) rInt S xs es → All2 (fun (x : Str × Int) t => t.1 = Sum.inr x.1 ∧ t.2 = V.int x.2) xs es
  | [], [], _ => trivial
  | _ :: _, _ :: _, ⟨h, q⟩ => ⟨⟨h.1, h.2⟩, drel_fl q⟩
  | [], _ :: _, h => h.elim
  | _ :: _, [], h => h.elim
theorem z_xD {m : M τ (List (Str × Int))} (h : ZE G c E W Γ e m (rDct (kyF G kyfS) rInt)) : ZE G c E W Γ e (zget (fun xs => .dict (xs.map fun t => (.str t.1, .int t.2))) m) rX := fun X C => pe_wk (h X C) fun σ H Q _ ⟨B, S, b, hh, q⟩ => by
  refine tz_bnd hh q fun x b1 v S1 H1 s1 h1 r1 q1 => ?_
  obtain ⟨a, o, es, e1, e2, q2⟩ := dct_flat r1
  exact aft_ret h1 q1 (.inr ⟨a, o, es, x, e1, e2, rfl, drel_fl q2⟩)
/-- what a thing is taken as -/
theorem z_as {R : Rel α} {R1 : Rel β} {f : α → Option β} (hf : ∀ {x y S v}, f x = some y → R.is x S v → R1.is y S v) {m : M τ α} (h : ZE G c E W Γ e m R) : ZE G c E W Γ e (zgetP f m) R1 := fun X C => pe_wk (h X C) fun σ H Q _ ⟨B, S, b, hh, q⟩ => by
  refine tz_bnd hh q fun x b1 v S1 H1 s1 h1 r1 q1 => ?_
  cases e1 : f x with
  | none => rw [e1] at q1; exact q1.elim
  | some y => rw [e1] at q1; exact aft_ret h1 q1 (hf e1 r1)
theorem as_X {f : PyData → Option β} {R1 : Rel β} (hd : ∀ ks, f (.dict ks) = none) (hf : ∀ {x y S v}, f x = some y → rQ.is x S v → R1.is y S v) : ∀ {x y S v}, f x = some y → rX.is x S v → R1.is y S v := fun {x y S v} e r => r.elim (hf e) fun z => by
  obtain ⟨xs, rfl⟩ := fld_not z
  rw [hd] at e; cases e
theorem as_I : ∀ {x y S v}, asI x = some y → rQ.is x S v → rInt.is y S v := fun {x y S v} e r => by
  cases x <;> cases e
  have r : Dq S v (.int y) := r
  cases r; rfl
theorem as_S : ∀ {x y S v}, asS x = some y → rQ.is x S v → rStr.is y S v := fun {x y S v} e r => by
  cases x <;> cases e
  have r : Dq S v (.str y) := r
  cases r; rfl
theorem as_L : ∀ {x y S v}, asL x = some y → rQ.is x S v → (rLst rQ).is y S v := fun {x y S v} e r => by
  cases x <;> cases e
  have r : Dq S v (.list y) := r
  cases r with
  | lst h q => exact ⟨_, _, rfl, h, dqAll_all2 q⟩
theorem as_Q : ∀ {x y S v}, asQ x = some y → rQ.is x S v → rQ.is y S v := fun {x y S v} e r => by
  cases x <;> cases e <;> exact r
theorem strs_of : ∀ {ds : List PyData} {xs : List Str} {vs : List V}, strsOf ds = some xs → All2 (fun d v => rQ.is d S v) ds vs → All2 (fun d v => rStr.is d S v) xs vs
  | [], xs, [], e, _ => by cases e; trivial
  | d :: ds, xs, v :: vs, e, ⟨h, q⟩ => by
    unfold strsOf at e
    cases e1 : asS d with
    | none => rw [e1] at e; cases e
    | some y =>
      rw [e1] at e
      cases e2 : strsOf ds with
      | none => rw [e2] at e; cases e
      | some ys => rw [e2] at e; cases e; exact ⟨as_S e1 h, strs_of e2 q⟩
  | [], _, _ :: _, _, h => h.elim
  | _ :: _, _, [], _, h => h.elim
theorem as_LS : ∀ {x y S v}, asLS x = some y → rQ.is x S v → (rLst rStr).is y S v := fun {x y S v} e r => by
  unfold asLS at e
  cases e1 : asL x with
  | none => rw [e1] at e; cases e
  | some ds =>
    rw [e1] at e
    obtain ⟨a, vs, e2, h, q⟩ := as_L e1 r
    exact ⟨a, vs, e2, h, strs_of e q⟩
theorem z_lsOf {m : M τ (List PyData)} (h : ZE G c E W Γ e m (rLst rQ)) : ZE G c E W Γ e (zgetP strsOf m) (rLst rStr) := z_as (R := rLst rQ) (R1 := rLst rStr) (fun {x y S v} e ⟨a, vs, e2, h, q⟩ => ⟨a, vs, e2, h, strs_of e q⟩) h
/-- isinstance of a thing -/
theorem tyx_X {K : PySem.W.Frag} {v : V} {d : PyData} (h : rX.is d S v) : TyX K S v (.type (tyD d)) := h.elim (fun h => tyx_of h.dp) fun ⟨a, o, es, xs, e1, e2, e3, q⟩ => by
  subst e1 e3
  exact .fDict e2
theorem z_isiX {y : Str} {p2 : Pos} {n : String} {m : M τ PyData} (bl : Blt G c x (.builtin "isinstance")) (b2 : Blt G c y (.type n)) (hk : ∀ d : PyData, PySem.W.kitOne G.K (.type (tyD d)) (.type n) = some (isD n d)) (ha : ZE G c E W Γ e m rX) (hs : Star e [.Name y p2] := by intro _; rfl) :
    ZE G c E W Γ (.Call (.Name x p) [e, .Name y p2] [] pos) (zget (isD n) m) rBl := fun X C =>
  pe_wk (pe_callB (call_isi) (C.gl bl.g) (by rw [C.mg]; exact bl.m) bl.v (pa_cons (ha X C) (pa_cons (pe_bltn (v := .ty n) (C.gl b2.g) (by rw [C.mg]; exact b2.m) b2.v rfl b2.n b2.d) pa_nil (by rfl)) (hs X.env)) bl.n bl.d (hs X.env) (by rfl)) fun σ H Q _ ⟨B, S, b, hh, q⟩ => by
    refine tz_bnd hh q fun x b1 v S1 H1 s1 h1 r1 q1 => ?_
    exact ⟨v, .ty n, .type (tyD x), .type n, isD n x, rfl, .ty n, by rw [C.K]; exact tyx_X (rX.mono h1.same r1), by rw [C.K]; exact hk x, aft_ret h1 q1 rfl⟩
/-! == and in of things -/
def deqP (x y : PyData) : M τ Bool := chk (SeqAt.shaped x = true ∧ SeqAt.shaped y = true) (ret (PyData.eqv x y))
def dneP (x y : PyData) : M τ Bool := chk (SeqAt.shaped x = true ∧ SeqAt.shaped y = true) (ret (!PyData.eqv x y))
theorem op_deqP : Op2 G E W Γ (rEqD G.K) rQ rQ deqP rBl := fun B σ S H b x y v w Q hh hx hy q => by
  obtain ⟨⟨h1, h2⟩, q⟩ := aft_chk q
  exact ⟨_, _, (rQ.mono hh.same hx : Dq H v x).dp, (rQ.mono hh.same hy : Dq H w y).dp, h1, h2, aft_ret hh q rfl⟩
theorem op_dneP : Op2 G E W Γ (rNeD G.K) rQ rQ dneP rBl := fun B σ S H b x y v w Q hh hx hy q => by
  obtain ⟨⟨h1, h2⟩, q⟩ := aft_chk q
  exact ⟨_, _, (rQ.mono hh.same hx : Dq H v x).dp, (rQ.mono hh.same hy : Dq H w y).dp, h1, h2, aft_ret hh q rfl⟩
section
variable {ea eb : Expr} {ma mb : M τ PyData}
theorem zt_deqP (ha : ZE G c E W Γ ea ma rQ) (hb : ZE G c E W Γ eb mb rQ) : ZT G c E W Γ (.Compare ea [.Eq] [eb] pos) (zop2 deqP ma mb) := zt_cmp (fun X C => by rw [← C.K]; exact op_eqD C.room.units) op_deqP ha hb (nomark _)
theorem zt_dneP (ha : ZE G c E W Γ ea ma rQ) (hb : ZE G c E W Γ eb mb rQ) : ZT G c E W Γ (.Compare ea [.NotEq] [eb] pos) (zop2 dneP ma mb) := zt_cmp (fun X C => by rw [← C.K]; exact op_neD C.room.units) op_dneP ha hb (nomark _)
end
/-! repr of a thing -/
def encK : Key → PyData | .inl i => .int i | .inr x => .str x
theorem fl_pairs {h : Heap} : ∀ {ys : List (Str × Int)} {es : List (Key × V)} {vs : List (Key × Value)}, All2 (fun (x : Str × Int) t => t.1 = Sum.inr x.1 ∧ t.2 = V.int x.2) ys es → KV es vs → PyProof.V.PairsRead h encK vs (ys.map fun t => (.str t.1, .int t.2)) []
  | [], [], _, _, r => by cases r; exact .nil
  | y :: ys, t :: es, vs, ⟨⟨h1, h2⟩, q⟩, r => by
    cases r with
    | @cons _ w _ ws k rr =>
      obtain ⟨k1, k2⟩ := k
      obtain ⟨wk, wv⟩ := w
      have k1 : t.1 = wk := k1
      have k2 : RelV t.2 wv := k2
      rw [h2] at k2
      obtain ⟨tk, rfl⟩ := (show ∃ t, wv = Value.int y.2 t from k2)
      have e : encK wk = .str y.1 := by
        have z : t.1 = wk := k1
        rw [← z, h1]; rfl
      have := PyProof.V.PairsRead.cons (enc := encK) (k := wk) (Reads.int y.2 tk : Reads h (Value.int y.2 tk) (.int y.2) []) (fl_pairs q rr)
      rw [e] at this
      exact this
  | [], _ :: _, _, h, _ => h.elim
  | _ :: _, [], _, h, _ => h.elim
def rReprX : List V → Hp → VK → Prop := fun xs H Q => ∃ v d, xs = [v] ∧ ((Dq H v d ∧ d.hasDict = false) ∨ FlD H v d) ∧ d.showable = true ∧ d.depth ≤ 60 ∧ d.shown.length ≤ sizeLine ∧ Q (.str d.shown) H
theorem cr_reprX {X : Cx} (hg : X.A.guards = some []) (hu : X.A.units + 64 < cLine) : CallR X (.builtin "repr") rReprX := by
  intro pins s σ H xs us Q I r h
  obtain ⟨v, d, rfl, hd, h1, h3, h4, q⟩ := h
  rcases hd with ⟨hd, h2⟩ | ⟨a, o, es, ys, rfl, ea, rfl, hq⟩
  · cases hd with
    | non =>
      obtain ⟨u, rfl, rx⟩ := vals1 r
      obtain rfl : u = Value.none := rx
      simp only [PyData.shown] at q
      exact PySem.P.repr_of_none ⟨.str _, H, I.tok _, ⟨_, rfl⟩, q⟩
    | bl b =>
      obtain ⟨u, rfl, rx⟩ := vals1 r
      obtain rfl : u = Value.bool b := rx
      simp only [PyData.shown] at q
      exact PySem.P.repr_of_bool ⟨.str _, H, I.tok _, ⟨_, rfl⟩, q⟩
    | int i => exact SkE.call_repr_int pins s σ H _ us Q I r ⟨i, rfl, by simpa [PyData.showable] using h1, by simpa only [PyData.shown] using q⟩
    | str x => exact cr_reprS pins s σ H _ us Q I r ⟨x, rfl, by simpa only [PyData.shown] using h4, by simpa only [PyData.shown] using q⟩
    | lst h q' =>
      rw [Vals.ref1 r]
      obtain ⟨as, rd⟩ := Dp.reads I _ _ (.ref _) (Dq.dp (.lst h q')) rfl
      exact repr_of_reads' rd h1 (PyData.noDict_hsm h2) hg (by omega) (fun _ _ z => z) (fun h' u tk k => ⟨.str _, H, I.kept (t' := tk) k, ⟨_, rfl⟩, q⟩) h4
    | tup h q' =>
      rw [Vals.ref1 r]
      obtain ⟨as, rd⟩ := Dp.reads I _ _ (.ref _) (Dq.dp (.tup h q')) rfl
      exact repr_of_reads' rd h1 (PyData.noDict_hsm h2) hg (by omega) (fun _ _ z => z) (fun h' u tk k => ⟨.str _, H, I.kept (t' := tk) k, ⟨_, rfl⟩, q⟩) h4
  · rw [Vals.ref1 r]
    obtain ⟨_, lo, vs, ra, da⟩ := dk_rd I.hok (.inr ⟨o, ea⟩)
    have rd := PyProof.V.reads_dictOf (enc := encK) (fun k key hk => by
      rcases keyIs_shape hk with ⟨i, t, rfl, rfl⟩ | ⟨x, t, rfl, rfl⟩
      · exact .int i t
      · exact .str x t) da (fl_pairs hq ra)
    refine repr_of_reads' rd h1 (fun _ z => ?_) hg (by omega) (fun _ _ z => z) (fun h' u tk k => ⟨.str _, H, I.kept (t' := tk) k, ⟨_, rfl⟩, q⟩) h4
    have : sysModules = a := by simpa using z
    rw [this] at lo
    simp at lo
def isDct : PyData → Bool | .dict _ => true | _ => false
def freprQ (d : PyData) : M τ Str := chk (d.showable = true ∧ (d.hasDict = false ∨ isDct d = true) ∧ d.depth ≤ 60 ∧ d.shown.length ≤ sizeLine) (ret d.shown)
theorem z_reprQ {m : M τ PyData} (hgd : c.gd = true) (bl : Blt G c x (.builtin "repr")) (ha : ZE G c E W Γ e m rX) (hs : Star e [] := by intro _; rfl) : ZE G c E W Γ (.Call (.Name x p) [e] [] pos) (zapp freprQ m) rStr :=
  z_b1 bl (R := rX) (r := rReprX) (fun X C => cr_reprX (C.gds hgd) C.room.units) (fun B σ S H b x v Q hh hx q => by
    obtain ⟨⟨h1, h2, h3, h4⟩, q⟩ := aft_chk q
    refine ⟨v, x, rfl, ?_, h1, h3, h4, aft_ret hh q rfl⟩
    rcases hx with hx | hx
    · refine .inl ⟨dq_sm hh.same hx, h2.elim id fun e => ?_⟩
      cases hx <;> cases e
    · exact .inr ((rX.mono hh.same (.inr hx)).elim (fun z => by
        obtain ⟨xs, e⟩ := fld_not hx
        subst e; cases z) id)) ha hs
/-! ### texts, and a dict of one text and number -/
def fupper (x : Str) : M τ Str := chk (x.length ≤ 5592405) (ret (Txt.upper x))
theorem z_upper {apos : Pos} {m : M τ Str} (h : ZE G c E W Γ e m rStr) (hbase : ∀ env : PySem.Env, attributeBase e "upper" env (eval e env) = eval e env := by intro _; rfl) (hline : (apos.endLine == pos.line) = true := by rfl) : ZE G c E W Γ (.Call (.Attribute e "upper" apos) [] [] pos) (zapp fupper m) rStr := fun X C =>
  pe_wk (pe_upper (h X C) (hbase _) hline) fun σ H Q _ ⟨B, S, b, hh, q⟩ => by
    refine tz_bnd hh q fun x b1 v S1 H1 s1 h1 r1 q1 => ?_
    obtain ⟨hl, q1⟩ := aft_chk q1
    have r1 : v = .str x := r1
    exact ⟨⟨x, r1⟩, x, r1, rfl, hl, aft_ret h1 q1 rfl⟩
def fjoin (x : Str) (ys : List Str) : M τ Str := chk ((ys.map (·.length)).sum + ys.length * x.length ≤ 16777216) (ret (Txt.join x ys))
theorem strs_vals {S : Hp} : ∀ {ys : List Str} {vs : List V}, All2 (fun y v => rStr.is y S v) ys vs → vs = ys.map V.str
  | [], [], _ => rfl
  | y :: ys, v :: vs, ⟨h, q⟩ => by
    have h : v = .str y := h
    rw [h, strs_vals q]; rfl
  | [], _ :: _, h => h.elim
  | _ :: _, [], h => h.elim
theorem z_join {apos : Pos} {ea : Expr} {m : M τ Str} {n : M τ (List Str)} (h : ZE G c E W Γ e m rStr) (ha : ZE G c E W Γ ea n (rLst rStr)) (hs : ∀ env : PySem.Env, starEach [ea] env = [(false, eval ea env)] := by intro _; rfl) (hbase : ∀ env : PySem.Env, attributeBase e "join" env (eval e env) = eval e env := by intro _; rfl) (hline : (apos.endLine == pos.line) = true := by rfl) : ZE G c E W Γ (.Call (.Attribute e "join" apos) [ea] [] pos) (zop2 fjoin m n) rStr := fun X C =>
  pe_wk (pe_join (h X C) (ha X C) (hs _) (hbase _) hline) fun σ H Q _ ⟨B, S, b, hh, q⟩ => by
    refine tz_bnd hh q fun x b1 v S1 H1 s1 h1 r1 q1 => ?_
    have r1 : v = .str x := r1
    refine ⟨⟨x, r1⟩, ?_⟩
    refine tz_bnd h1 q1 fun ys b2 w S2 H2 s2 h2 r2 q2 => ?_
    obtain ⟨hl, q2⟩ := aft_chk q2
    obtain ⟨a, vs, e1, e2, q3⟩ := r2
    rw [strs_vals q3] at e2
    exact ⟨x, a, ys, r1, by rw [e1], .inl (.of (h2.same _ _ e2)), hl, aft_ret h2 q2 rfl⟩
theorem z_relX {R1 : Rel α} {R2 : Rel β} {f : α → β} (hf : ∀ {x S v}, R1.is x S v → R2.is (f x) S v) {m : M τ α} (h : ZE G c E W Γ e m R1) : ZE G c E W Γ e (zget f m) R2 := fun X C => pe_wk (h X C) fun σ H Q _ ⟨B, S, b, hh, q⟩ => by
  refine tz_bnd hh q fun x b1 v S1 H1 s1 h1 r1 q1 => ?_
  exact aft_ret h1 q1 (hf r1)
theorem rec1_dct {k : Str} {x : Int} {v : V} (h : (rRec [k] (fun x : Int => [rInt.pr x])).is x S v) : (rDct (kyF G kyfS) rInt).is [(k, x)] S v := by
  obtain ⟨a, o, es, e1, e2, e3, q⟩ := h
  match es, e3, q with
  | [t], e3, ⟨h, _⟩ =>
    have e3 : t.1 = Sum.inr k := by simpa using e3
    exact ⟨a, o, [t], e1, e2, ⟨⟨e3, h⟩, trivial⟩⟩
def nsin_ (x y : Str) : M τ Bool := match x.cps.toList with | [c] => ret (!decide (c ∈ y.cps.toList)) | _ => stk
theorem nsin_op : Op2 G E W Γ (fun x y H Q => ∃ (c : Nat) (z : Str), x = .str ⟨#[c]⟩ ∧ y = .str z ∧ Q (.bl (!decide (c ∈ z.cps.toList))) H) rStr rStr nsin_ rBl := fun B σ S H b x y v w Q hh hx hy q => by
  unfold nsin_ at q
  match e : x.cps.toList with
  | [c] =>
    rw [e] at q
    have ex : x = ⟨#[c]⟩ := by
      cases x with
      | mk cps => simp only [Str.mk.injEq]; exact Array.toList_inj.mp e
    exact ⟨c, y, by rw [hx, ex], hy, aft_ret hh q rfl⟩
  | [] => rw [e] at q; exact q.elim
  | _ :: _ :: _ => rw [e] at q; exact q.elim
theorem zt_ninS {ea eb : Expr} {ma mb : M τ Str} (ha : ZE G c E W Γ ea ma rStr) (hb : ZE G c E W Γ eb mb rStr) (hm : behindInMarks .NotIn eb = false := by rfl) : ZT G c E W Γ (.Compare ea [.NotIn] [eb] pos) (zop2 nsin_ ma mb) := zt_cmp (fun _ _ => op_notIn_sign) nsin_op ha hb hm
end
end Zk

/-! ### how many are apart in a long list of few texts -/
namespace Zk
open PySem L2 PySem.Spec PyProof.Rows
theorem steps_grow : ∀ (ys σ : List Str), σ.length ≤ (ys.foldl stepS σ).length
  | [], σ => Nat.le_refl _
  | y :: ys, σ => by
    rw [List.foldl_cons]
    have h1 := steps_grow ys (stepS σ y)
    have h2 := stepS_length σ y
    split at h2 <;> omega
theorem metS_take {xs : List Str} (i : Nat) : (metS (xs.take i)).length ≤ (metS xs).length := by
  have e : metS xs = (xs.drop i).foldl stepS (metS (xs.take i)) := by
    unfold metS
    rw [← List.foldl_append, List.take_append_drop]
  rw [e]; exact steps_grow _ _
section
variable {prog : Program} {w : World} {A : Around} {R : Result → Shared → Prop} {I : Addr} {fp wr : List Addr} {G : Array GenState → Array GenState → Prop} {n : Nat} {P : Nat → Value → Prop} {St : Nat → Shared → Prop}
theorem loopStrsW (W : WalksS prog w A.in1 I fp wr G n P St) (S : Addr) (hSf : S ∉ fp) (xs : List Str) (hsz : xs.length = n) (hb : (metS xs).length + 1 < scanBound) (hval : ∀ i v, P i v → ∃ t, v = .str (xs.getD i Str.empty) t) :
    ∀ (k i : Nat) (s : Shared), n - i = k → i ≤ n → St i s → s.heap.SetOf (PySem.strKind prog w) S (fun k' => (metS (xs.take i)).any (· == k')) (metS (xs.take i)).length →
      (∀ s', Moved (S :: wr) G s s' → s'.heap.SetOf (PySem.strKind prog w) S (fun k' => (metS xs).any (· == k')) (metS xs).length → R (.ok (.ret .none)) s') → codeAny (model prog w) A (.builtin "set.update.loop" ⟨[.ref S, .ref I], []⟩) R s := by
  have hSw : S ∉ wr := fun h => hSf (W.sub _ h)
  have hsub : ∀ b ∈ wr, b ∈ S :: wr := fun b hb => List.mem_cons_of_mem _ hb
  have moved : ∀ {s s' : Shared} {f : Str → Bool} {m : Nat}, Moved wr G s s' → s.heap.SetOf (PySem.strKind prog w) S f m → s'.heap.SetOf (PySem.strKind prog w) S f m := fun hm ⟨o, es, ep, t, ho, rest⟩ => ⟨o, es, ep, t, hm.heap S _ hSw ho, rest⟩
  intro k
  induction k with
  | zero =>
    intro i s hk hi hst hS hR
    obtain rfl : i = n := by omega
    refine codeAny_builtin PyProof.Rows.F.entry_set_update_loop ?_
    rw [Around.under_plainId PyProof.Rows.F.plain_set_update_loop _]
    show wpAny _ A.in1 (pyNext (.ref I) >>= _) _ _ s
    refine wpAny_bind (W.done s _ _ hst fun s' hm => ?_)
    show wpAny _ A.in1 (PySem.ret Value.none) _ _ s'
    rw [List.take_of_length_le (by omega)] at hS
    exact wpAny_pure (hR s' (hm.mono hsub) (moved hm hS))
  | succ k ih =>
    intro i s hk hi hst hS hR
    have hlt : i < n := by omega
    refine codeAny_builtin PyProof.Rows.F.entry_set_update_loop ?_
    rw [Around.under_plainId PyProof.Rows.F.plain_set_update_loop _]
    show wpAny _ A.in1 (pyNext (.ref I) >>= _) _ _ s
    refine wpAny_bind (W.item i s _ _ hlt hst fun v s' hP hst' hm => ?_)
    obtain ⟨t, rfl⟩ := hval i v hP
    have hS' := moved hm hS
    show wpAny _ A.in1 (holding [Value.str (xs.getD i Str.empty) t] (setAdd S (.str (xs.getD i Str.empty) t)) >>= _) _ _ s'
    refine wpAny_bind (wpAny_holding ?_)
    unfold setAdd
    refine wpAny_holding ?_
    refine wpAny_bind ((PySem.strKind prog w).pyHash (k := xs.getD i Str.empty) (strKind_is _ _ _ _) ?_)
    have hroom : (metS (xs.take i)).length + 1 < scanBound := by have := metS_take (xs := xs) i; omega
    refine wpAny_setAddHashed_of (knd := PySem.strKind prog w) (s := { s' with toks := s'.toks + 1 }) (strKind_is _ _ _ _) rfl hS' hroom fun h' hsb hS2 => ?_
    have hSi : h'.SetOf (PySem.strKind prog w) S (fun k' => (metS (xs.take (i + 1))).any (· == k')) (metS (xs.take (i + 1))).length :=
      SetOf_congr hS2 (fun k' => by rw [take_snoc (by omega), metS_snoc, stepS_any]) (by rw [take_snoc (by omega), metS_snoc, stepS_length])
    refine wpAny_pure ⟨plainId_quiet PyProof.Rows.F.plain_set_update_loop _, ih (i + 1) _ (by omega) hlt (W.frame _ s' _ _ hst' (Nat.le_succ _) fun b hb o e => ?_) hSi fun s'' hm'' hS'' => ?_⟩
    · rw [hsb.2 b (fun h : b = S => hSf (by rw [← h]; exact hb))]; exact e
    · refine hR s'' (Moved.trans W.gtrans ((hm.mono hsub).then_heap (Nat.le_succ _) fun b o hb e => ?_) hm'') hS''
      rw [hsb.2 b (fun h : b = S => hb (by rw [h]; exact List.mem_cons_self))]; exact e
end
section
variable {prog : Program} {w : World} {A : Around} {E : Value → Shared → Prop} {s : Shared}
set_option maxHeartbeats 3200000 in
theorem call_set_strsW {l : Addr} {items : Array Value} {xs : List Str} {Q : Value → Shared → Prop} (hh : A.handled = none) (hl : s.heap.IsList l items) (hi : PyProof.Rows.StrsAre items.toList xs) (hb : (metS xs).length + 1 < scanBound)
    (h : ∀ (h' : Heap) (tk : Nat), h'.SetOf (PySem.strKind prog w) s.heap.objs.size (fun k' => (metS xs).any (· == k')) (metS xs).length → (∀ b o, b < s.heap.objs.size → s.heap.get? b = some o → h'.get? b = some o) → Q (.ref s.heap.objs.size) { s with heap := h', toks := tk }) :
    wpAny (model prog w) A (call (.type "set") [.ref l]) Q E s := by
  obtain ⟨c, tl, hmro⟩ := PySem.F.called_set.mro
  have hmade := PySem.F.called_set.made
  have hsub := PySem.F.called_set.sub
  refine wpAny_call (codeAny_of_tree ?_)
  show wpAny _ _ (callAny (.type "set") _) _ _ _
  refine wpAny_pure ⟨Code.quiet_builtin _ (by decide +kernel), codeAny_builtin PySem.F.entry_type_call ?_⟩
  rw [Around.under_plain (weight_type_call_type "set" [.ref l] []) rfl]
  have h1 := PySem.F.called_set.notType
  have h2 := PySem.F.called_set.canCreate
  have hct := PySem.F.typeCall_set_1 (.ref l)
  repeat (any_goals (first | assumption | wp_step))
  refine codeAny_mono (code_set_new_1 (.ref l) (E := E) (Q₁ := fun obj s₁ => ∃ led : Bool, obj = .ref s.heap.objs.size ∧ s₁ = { s with heap := s.heap.push { cls := .type "set", dict := none, data := .set #[] 0 (.fresh 0 0 led) } }) fun led => ⟨led, rfl, rfl⟩) fun r s₁ hr => ?_
  match r, hr with
  | .error e, hr => exact hr
  | .ok (.ret obj), hr =>
    obtain ⟨led, rfl, rfl⟩ := hr
    have hS : (s.heap.push { cls := .type "set", dict := none, data := .set #[] 0 (.fresh 0 0 led) }).get? s.heap.objs.size = some { cls := .type "set", dict := none, data := .set #[] 0 (.fresh 0 0 led) } := Heap.get?_push_size _ rfl
    have hT : Shared.TypeIs { s with heap := s.heap.push { cls := .type "set", dict := none, data := .set #[] 0 (.fresh 0 0 led) } } (.ref s.heap.objs.size) "set" := ⟨_, hS, rfl⟩
    have hli := PySem.F.called_set.init.lookup
    have hbi := PySem.F.called_set.init.bind (.ref s.heap.objs.size)
    repeat (any_goals (first | assumption | wp_step))
    refine codeAny_mono (codeAny_call_builtin (R := wants (fun r s₂ => r = .none ∧ ∃ h' tk, s₂ = { s with heap := h', toks := tk } ∧ h'.SetOf (PySem.strKind prog w) s.heap.objs.size (fun k' => (metS xs).any (· == k')) (metS xs).length ∧ (∀ b o, b < s.heap.objs.size → s.heap.get? b = some o → h'.get? b = some o)) E) PySem.F.called_set.init.plain PySem.F.entry_set_init (check_set_init_1 hT ?_)) fun r₂ s₂ hr₂ => ?_
    · obtain ⟨ol, hol, hcl, nl, hdl⟩ := hl
      obtain ⟨ocls, odict, odata, oslots⟩ := ol
      simp only at hcl hdl
      subst hcl; subst hdl
      have hol' : (s.heap.push { cls := .type "set", dict := none, data := .set #[] 0 (.fresh 0 0 led) }).get? l = some { cls := .type "list", dict := odict, data := .seq items nl, slots := oslots } := Heap.get?_push_of_some _ hol
      have hsls := PySem.F.sub_list_set
      have hslf := PySem.F.sub_list_frozenset
      have hne : (Value.type "list" == Value.type "dict") = false := by decide
      have hl1 : (s.heap.push { cls := .type "set", dict := none, data := .set #[] 0 (.fresh 0 0 led) }).IsList l items := ⟨_, hol', rfl, nl, rfl⟩
      unfold Builtin.«set.__init__» noKeywords Builtin.Frozenset.updateFrom
      generalize hPI : pyIter = PI
      wp_walk
      subst hPI
      refine wpAny_pyIter_list hl1 ?_
      refine wpAny_bind (wpAny_runValue ?_)
      have hlS : l < s.heap.objs.size := Heap.lt_size hol
      have hh3 : A.in1.in1.in1.handled = none := by simp [hh]
      have sz1 : (s.heap.push { cls := .type "set", dict := none, data := .set #[] 0 (.fresh 0 0 led) }).objs.size = s.heap.objs.size + 1 := Heap.size_push ..
      have hneI : l ≠ (s.heap.push { cls := .type "set", dict := none, data := .set #[] 0 (.fresh 0 0 led) }).objs.size := by rw [sz1]; exact Nat.ne_of_lt (Nat.lt_succ_of_lt hlS)
      have hSf : s.heap.objs.size ∉ [(s.heap.push { cls := .type "set", dict := none, data := .set #[] 0 (.fresh 0 0 led) }).objs.size, l] := by
        rw [sz1]; simp only [List.mem_cons, List.mem_singleton, List.not_mem_nil, or_false, not_or]
        exact ⟨Nat.ne_of_lt (Nat.lt_succ_self _), Nat.ne_of_gt hlS⟩
      have hsz : xs.length = items.size := by rw [← StrsAre.len_eq hi, Array.length_toList]
      refine loopStrsW ((Walks.list hh3 _ l hneI items).toS) s.heap.objs.size hSf xs hsz hb (fun i v hv => SS.strs_at hi i v (by rw [Array.getElem?_toList]; exact hv)) (items.size - 0) 0 _ (by omega) (Nat.zero_le _) ⟨⟨_, Heap.get?_push_size _ rfl, rfl, rfl⟩, (hl1.push _)⟩ ?hS0 ?hR
      case hS0 =>
        exact PyProof.Rows.SetOf_congr ((PyProof.Rows.setObjOf_fresh (knd := PySem.strKind prog w) led).setOf (Heap.get?_push_of_some _ hS) (by unfold scanBound; omega)) (fun _ => rfl) rfl
      case hR =>
        intro s' hm hS'
        obtain ⟨h', g', d', tk', os'⟩ := s'
        obtain rfl : g' = s.gens := hm.gens
        obtain rfl : d' = s.drawn := hm.drawn
        obtain rfl : os' = s.os := hm.os
        show wpAny _ _ _ _ _ _
        refine wpAny_pure ?_
        show wpAny _ _ (PySem.ret Value.none) _ _ _
        refine wpAny_pure ⟨rfl, h', tk', rfl, hS', fun b o hb e => ?_⟩
        exact hm.heap b o (by rw [sz1]; simp only [List.mem_cons, List.mem_singleton, List.not_mem_nil, or_false, not_or]; exact ⟨Nat.ne_of_lt hb, Nat.ne_of_lt (Nat.lt_succ_of_lt hb)⟩) (Heap.get?_push_of_some _ (Heap.get?_push_of_some _ e))
    · match r₂, hr₂ with
      | .error e, hr₂ => exact hr₂
      | .ok (.ret r), hr₂ =>
        obtain ⟨rfl, h', tk, rfl, hS', hk'⟩ := hr₂
        repeat (any_goals (first | assumption | wp_step))
        exact h _ _ hS' hk'
      | .ok .next, hr₂ => exact hr₂.elim
      | .ok .brk, hr₂ => exact hr₂.elim
      | .ok .cont, hr₂ => exact hr₂.elim
  | .ok .next, hr => exact hr.elim
  | .ok .brk, hr => exact hr.elim
  | .ok .cont, hr => exact hr.elim
end
def tLenSetW (K : PySem.W.Frag) (ta : TE) : TE := fun σ H Q => ta σ H fun x H1 => ∃ (l : Addr) (ns : List Str), x = V.ref l ∧ SqL K H1 l (ns.map V.str) ∧ (metS ns).length ≤ 1000 ∧ Q (.int (metS ns).length) H1
theorem pe_lenSetW {X : Cx} {a : Expr} {ta : TE} {p p2 q pos : Pos} (hg : Gl X "len") (hm : X.mg "len" = none) (hg2 : Gl X "set") (hm2 : X.mg "set" = none) (ha : PE X a ta) (hc : X.calm = true)
    (na : starEach [a] X.env = (false, eval a X.env) :: starEach [] X.env) : PE X (.Call (.Name "len" p) [.Call (.Name "set" p2) [a] [] q] [] pos) (tLenSetW X.K ta) := by
  refine ⟨fun pins s σ H Q I h => ?_⟩
  refine Call_ (ld_blt I hg hm PySem.boot_len (PyProof.Rows.callWith_builtin1 (PyProof.Rows.args_cons ?_ rfl) rfl rfl))
  refine Call_ (ld_blt I hg2 hm2 PyProof.Rows.boot_set (PyProof.Rows.callWith_type1 (PyProof.Rows.args_cons (thn (ha.run pins s σ H _ I h) fun v s1 ⟨x, H1, I1, r1, l, ns, ex, hq, hl, q1⟩ => PyProof.Rows.args_nil ?_) na) na rfl))
  subst ex
  cases r1
  obtain ⟨its, rv, pt, hz⟩ := I1.list hq
  refine call_set_strsW (I1.ok.hd hc) pt.isList (Vals.strs rv) (by unfold scanBound; omega) fun h' tk R1 k => ?_
  refine PyProof.Rows.args_nil ?_
  obtain ⟨o, es, ep, t, ho, hex, hdt, g, hmm, hb, hf, hn⟩ := R1
  have I2 : Inv X pins σ H1 { s1 with heap := h', toks := tk } := I1.kept fun b o e => k b o (Heap.lt_size e) e
  have hsz := metS_le ns.length rfl
  exact PySem.call_len_set ho hex hdt hf (by rw [hn]; omega) ⟨.int (metS ns).length, H1, I2.tok _, ⟨_, by rw [hn]⟩, q1⟩
section
variable {τ : Type} {G : Gx} {c : Sc} {E : Eff τ} {W : WX} {Γ : Env}
def fnsetW (xs : List Str) : M τ Int := chk ((metS xs).length ≤ 1000) (ret ((metS xs).length : Int))
theorem z_lenSetW {e : Expr} {m : M τ (List Str)} {p p2 q pos : Pos} (g1 : Gb c "len") (m1 : G.mg "len" = none) (g2 : Gb c "set") (m2 : G.mg "set" = none) (h : ZE G c E W Γ e m (rLst rStr)) (hs : Star e [] := by intro _; rfl) : ZE G c E W Γ (.Call (.Name "len" p) [.Call (.Name "set" p2) [e] [] q] [] pos) (zapp fnsetW m) rInt := fun X C =>
  pe_wk (pe_lenSetW (C.gl g1) (by rw [C.mg]; exact m1) (C.gl g2) (by rw [C.mg]; exact m2) (h X C) C.calm (hs _)) fun σ H Q _ ⟨B, S, b, hh, q⟩ => by
    refine tz_bnd hh q fun x b1 v S1 H1 s1 h1 r1 q1 => ?_
    obtain ⟨a, vs, e1, e2, e3⟩ := r1
    obtain ⟨hz, q2⟩ := aft_chk q1
    refine ⟨a, x, e1, ?_, hz, aft_ret h1 q2 rfl⟩
    have := All2.strs e3
    rw [← this]
    exact .of (h1.same _ _ e2)
end
end Zk

namespace Zk
open PySem L2

def top (i : Nat) : Stmt := PySem.Challenge.pw_aheadpays_k11_kinds_known.main.body.getD i (.Pass ⟨0, 0, 0, 0⟩)
abbrev t_w_take : Stmt := top 18
abbrev t_w_names : Stmt := top 19
abbrev t_w_number : Stmt := top 23
abbrev t_w_text : Stmt := top 24
abbrev t_w_some : Stmt := top 25
abbrev t_w_thing : Stmt := top 26
abbrev t_w_within : Stmt := top 20
abbrev t_w_is_name : Stmt := top 21
abbrev t_w_is_group : Stmt := top 22
abbrev t_w_due : Stmt := top 28
abbrev t_is_whole : Stmt := top 7
abbrev t_is_name : Stmt := top 9
abbrev t_is_between : Stmt := top 8
abbrev t_is_price : Stmt := top 10
abbrev t_are_coins : Stmt := top 11
abbrev t_is_place : Stmt := top 12
abbrev t_are_beats : Stmt := top 13
abbrev t_are_unlike : Stmt := top 14
abbrev t_is_group : Stmt := top 15
abbrev t_w_asked : Stmt := top 27
abbrev t_law : Stmt := top 29
def c_LETTERS : Str := "abcdefghijklmnopqrstuvwxyz"
def c_MOST_BEATS : Int := 2000
def c_MOST_COINS : Int := 1000000000000000000
def c_MOST_PLACE : Int := 1000000000000
def c_MOST_PRICE : Int := 100000000000000000000
def c_MOST_SIGNS : Int := 8
structure Cl where
abbrev t_w_bag : Stmt := top 17
structure Txt (G : Gx) (D : Cl) : Prop where
  b_abs : G.mg "abs" = none
  b_all : G.mg "all" = none
  b_bool : G.mg "bool" = none
  b_int : G.mg "int" = none
  b_isinstance : G.mg "isinstance" = none
  b_len : G.mg "len" = none
  b_list : G.mg "list" = none
  b_range : G.mg "range" = none
  b_repr : G.mg "repr" = none
  b_set : G.mg "set" = none
  b_str : G.mg "str" = none
  b_tuple : G.mg "tuple" = none
  c_LETTERS : ∃ u, G.mg "LETTERS" = some u ∧ RelV (.str c_LETTERS) u
  c_MOST_BEATS : ∃ u, G.mg "MOST_BEATS" = some u ∧ RelV (.int c_MOST_BEATS) u
  c_MOST_COINS : ∃ u, G.mg "MOST_COINS" = some u ∧ RelV (.int c_MOST_COINS) u
  c_MOST_PLACE : ∃ u, G.mg "MOST_PLACE" = some u ∧ RelV (.int c_MOST_PLACE) u
  c_MOST_PRICE : ∃ u, G.mg "MOST_PRICE" = some u ∧ RelV (.int c_MOST_PRICE) u
  c_MOST_SIGNS : ∃ u, G.mg "MOST_SIGNS" = some u ∧ RelV (.int c_MOST_SIGNS) u
  d_w_bag : ∃ f fd, G.mg "_law_bag" = some (.ref f) ∧ PySem.W.keepIn G.K (.ref f) = true ∧ Binds G.K fd ["_law_script"] [] ∧ Fun G.K "_law_bag" "_law_bag" t_w_bag f fd
  d_w_take : ∃ f fd, G.mg "_law_take" = some (.ref f) ∧ PySem.W.keepIn G.K (.ref f) = true ∧ Binds G.K fd ["_law_bag_here", "_law_many"] [] ∧ Fun G.K "_law_take" "_law_take" t_w_take f fd
  d_w_names : ∃ f fd, G.mg "_law_names" = some (.ref f) ∧ PySem.W.keepIn G.K (.ref f) = true ∧ Binds G.K fd ["_law_bag_here", "_law_many"] [] ∧ Fun G.K "_law_names" "_law_names" t_w_names f fd
  d_w_number : ∃ f fd, G.mg "_law_number" = some (.ref f) ∧ PySem.W.keepIn G.K (.ref f) = true ∧ Binds G.K fd ["_law_bag_here"] [] ∧ Fun G.K "_law_number" "_law_number" t_w_number f fd
  d_w_text : ∃ f fd, G.mg "_law_text" = some (.ref f) ∧ PySem.W.keepIn G.K (.ref f) = true ∧ Binds G.K fd ["_law_bag_here"] [] ∧ Fun G.K "_law_text" "_law_text" t_w_text f fd
  d_w_some : ∃ f fd, G.mg "_law_some" = some (.ref f) ∧ PySem.W.keepIn G.K (.ref f) = true ∧ Binds G.K fd ["_law_bag_here", "_law_names_here"] [] ∧ Fun G.K "_law_some" "_law_some" t_w_some f fd
  d_w_thing : ∃ f fd, G.mg "_law_thing" = some (.ref f) ∧ PySem.W.keepIn G.K (.ref f) = true ∧ Binds G.K fd ["_law_bag_here", "_law_names_here"] [] ∧ Fun G.K "_law_thing" "_law_thing" t_w_thing f fd
  d_w_within : ∃ f fd, G.mg "_law_within" = some (.ref f) ∧ PySem.W.keepIn G.K (.ref f) = true ∧ Binds G.K fd ["_law_thing_here", "_law_low", "_law_high"] [] ∧ Fun G.K "_law_within" "_law_within" t_w_within f fd
  d_w_is_name : ∃ f fd, G.mg "_law_is_name" = some (.ref f) ∧ PySem.W.keepIn G.K (.ref f) = true ∧ Binds G.K fd ["_law_thing_here"] [] ∧ Fun G.K "_law_is_name" "_law_is_name" t_w_is_name f fd
  d_w_is_group : ∃ f fd, G.mg "_law_is_group" = some (.ref f) ∧ PySem.W.keepIn G.K (.ref f) = true ∧ Binds G.K fd ["_law_names_here", "_law_thing_here"] [] ∧ Fun G.K "_law_is_group" "_law_is_group" t_w_is_group f fd
  d_w_due : ∃ f fd, G.mg "_law_due" = some (.ref f) ∧ PySem.W.keepIn G.K (.ref f) = true ∧ Binds G.K fd ["_law_names_here", "_law_thing_here"] [] ∧ Fun G.K "_law_due" "_law_due" t_w_due f fd
  d_is_whole : ∃ f fd, G.mg "is_whole" = some (.ref f) ∧ PySem.W.keepIn G.K (.ref f) = true ∧ Binds G.K fd ["thing"] [] ∧ Fun G.K "is_whole" "is_whole" t_is_whole f fd
  d_is_name : ∃ f fd, G.mg "is_name" = some (.ref f) ∧ PySem.W.keepIn G.K (.ref f) = true ∧ Binds G.K fd ["thing"] [] ∧ Fun G.K "is_name" "is_name" t_is_name f fd
  d_is_between : ∃ f fd, G.mg "is_between" = some (.ref f) ∧ PySem.W.keepIn G.K (.ref f) = true ∧ Binds G.K fd ["thing", "low", "high"] [] ∧ Fun G.K "is_between" "is_between" t_is_between f fd
  d_is_price : ∃ f fd, G.mg "is_price" = some (.ref f) ∧ PySem.W.keepIn G.K (.ref f) = true ∧ Binds G.K fd ["thing"] [] ∧ Fun G.K "is_price" "is_price" t_is_price f fd
  d_are_coins : ∃ f fd, G.mg "are_coins" = some (.ref f) ∧ PySem.W.keepIn G.K (.ref f) = true ∧ Binds G.K fd ["thing"] [] ∧ Fun G.K "are_coins" "are_coins" t_are_coins f fd
  d_is_place : ∃ f fd, G.mg "is_place" = some (.ref f) ∧ PySem.W.keepIn G.K (.ref f) = true ∧ Binds G.K fd ["thing"] [] ∧ Fun G.K "is_place" "is_place" t_is_place f fd
  d_are_beats : ∃ f fd, G.mg "are_beats" = some (.ref f) ∧ PySem.W.keepIn G.K (.ref f) = true ∧ Binds G.K fd ["thing"] [] ∧ Fun G.K "are_beats" "are_beats" t_are_beats f fd
  d_are_unlike : ∃ f fd, G.mg "are_unlike" = some (.ref f) ∧ PySem.W.keepIn G.K (.ref f) = true ∧ Binds G.K fd ["names"] [] ∧ Fun G.K "are_unlike" "are_unlike" t_are_unlike f fd
  d_is_group : ∃ f fd, G.mg "is_group" = some (.ref f) ∧ PySem.W.keepIn G.K (.ref f) = true ∧ Binds G.K fd ["names", "thing"] [] ∧ Fun G.K "is_group" "is_group" t_is_group f fd
  d_w_asked : ∃ f fd, G.mg "_law_asked" = some (.ref f) ∧ PySem.W.keepIn G.K (.ref f) = true ∧ Binds G.K fd ["_law_names_here", "_law_thing_here"] [] ∧ Fun G.K "_law_asked" "_law_asked" t_w_asked f fd
def k_w_bag : Sc := ⟨["_law_script", "_law_cell"], defScope t_w_bag, 0, true, fun _ => true, false⟩
theorem sc_w_bag : FnScope ["_law_script", "_law_cell"] ["_law_script"] (defScope t_w_bag) := ⟨rfl, rfl, rfl, by decide +kernel, rfl, by decide +kernel, by decide +kernel⟩
theorem n_w_bag_0 : Nm k_w_bag 0 "_law_script" := nm_of (by decide +kernel)
noncomputable def w_cells (p : List Int) : M Unit (List Int) := (zlc (fun e1 => (ret true)) (fun e1 => (zapp fabs (ret e1))) (zsl (ret p) (ret none) (zsome (ret (63 : Int)))))
theorem f_w_bag {G : Gx} {D : Cl} (T : Txt G D) {f : Addr} {fd : FuncData} (F : Fun G.K "_law_bag" "_law_bag" t_w_bag f fd) : FnG false G.P G.w G.K G.mg G.base 1 f fd ["_law_script"] (spBag G.K w_cells) :=
  bag_ok F sc_w_bag rfl (fun p W => show ZF G k_w_bag _ W [.st ((rSc G.K rInt).pr p), .no] _ (w_cells p) _ from (zf_lc (Lc.mk (own := [("_law_cell", 1)]) (blk_of rfl (by decide +kernel)) (zi_list (z_slSc (z_var n_w_bag_0) zp_no (zp_so z_int))) (zg_name (ns_of (i := 1) (by decide +kernel)) (by decide)) (fun e1 => zts_nil) (fun e1 => (z_abs (blt_of (u := .builtin "abs") T.b_abs (by decide +kernel)) (z_var (nm_of (i := 1) (by decide +kernel))))) (lc_no ⟨rfl, trivial⟩) (fun _ _ => rfl))))
theorem at_w_bag {G : Gx} {D : Cl} (T : Txt G D) : FnAt false G "_law_bag" 1 ["_law_script"] (spBag G.K w_cells) :=
  let ⟨f, fd, h1, h2, h3, h4⟩ := T.d_w_bag; ⟨f, fd, h1, h2, h3, f_w_bag T h4⟩

def k_w_take : Sc := ⟨["_law_bag_here", "_law_many", "_law_first", "_law_second", "_law_cell", "_law_value"], defScope t_w_take, 0, true, fun _ => true, false⟩
theorem sc_w_take : FnScope ["_law_bag_here", "_law_many", "_law_first", "_law_second", "_law_cell", "_law_value"] ["_law_bag_here", "_law_many"] (defScope t_w_take) := ⟨rfl, rfl, rfl, by decide +kernel, rfl, by decide +kernel, by decide +kernel⟩
theorem n_w_take_0 : Nm k_w_take 0 "_law_bag_here" := nm_of (by decide +kernel)
theorem n_w_take_1 : Nm k_w_take 1 "_law_many" := nm_of (by decide +kernel)
theorem n_w_take_2 : Nm k_w_take 2 "_law_first" := nm_of (by decide +kernel)
theorem s_w_take_2 : Ns k_w_take 2 "_law_first" := ns_of (by decide +kernel)
theorem n_w_take_3 : Nm k_w_take 3 "_law_second" := nm_of (by decide +kernel)
theorem s_w_take_3 : Ns k_w_take 3 "_law_second" := ns_of (by decide +kernel)
theorem n_w_take_4 : Nm k_w_take 4 "_law_cell" := nm_of (by decide +kernel)
theorem s_w_take_4 : Ns k_w_take 4 "_law_cell" := ns_of (by decide +kernel)
theorem n_w_take_5 : Nm k_w_take 5 "_law_value" := nm_of (by decide +kernel)
theorem s_w_take_5 : Ns k_w_take 5 "_law_value" := ns_of (by decide +kernel)
noncomputable def b_w_take (p : (Unit × Int)) : M Bag (Fl Unit Empty Int) :=
  (zseq (zifS (zop2 feq (bget Bag.big) (ret (0 : Int)))
    (zseq (zset (ret (0 : Int))) fun cell1 =>
    (zseq (zifS (zop2 ilt (bget Bag.pos) (zapp blen (ret ())))
      (zseq (zset (bcell (ret ()) (bget Bag.pos))) fun cell3 =>
      (znx cell3))
      (znx cell1)) fun j2 =>
    (zseq (bput (fun s v => { s with pos := v }) (zop2 iadd (bget Bag.pos) (ret (1 : Int)))) fun _ =>
    (zseq (zifS (zop2 ige (ret j2) (ret (1000000000000000000 : Int)))
      (zseq (bput (fun s v => { s with big := v }) (ret j2)) fun _ =>
      (znx ()))
      (znx ())) fun _ =>
    (zseq (bput (fun s v => { s with mix := v }) (zop2 imod (zop2 iadd (zop2 iadd (zop2 imul (bget Bag.mix) (ret (48271 : Int))) (zop2 imod (ret j2) (ret (2147483647 : Int)))) (zop2 imul (ret (7919 : Int)) (bget Bag.pos))) (ret (2147483647 : Int)))) fun _ =>
    (znx ()))))))
    (znx ())) fun _ =>
  (zseq (zifS (zop2 igt (bget Bag.big) (ret (0 : Int)))
    (zseq (zset (zop2 imod (bget Bag.big) (ret p.2))) fun value4 =>
    (zseq (bput (fun s v => { s with big := v }) (zop2 idiv (bget Bag.big) (ret p.2))) fun _ =>
    (zrt (ret value4))))
    (znx ())) fun _ =>
  (zseq (zset (zop2 imod (zop2 imul (zop2 iadd (bget Bag.mix) (ret (1 : Int))) (ret (39373 : Int))) (ret (1000000007 : Int)))) fun first5 =>
  (zseq (zset (zop2 imod (zop2 imul (zop2 imod (zop2 imul (ret first5) (ret first5)) (ret (998244353 : Int))) (ret (30011 : Int))) (ret (998244353 : Int)))) fun second6 =>
  (zseq (zifS (zop2 igt (ret p.2) (ret (1000000 : Int)))
    (zrt (zop2 imod (zop2 iadd (zop2 imul (ret second6) (ret (1000000007 : Int))) (ret first5)) (ret p.2)))
    (znx ())) fun _ =>
  (zrt (zop2 imod (zop2 idiv (ret second6) (ret (7 : Int))) (ret p.2))))))))
noncomputable def m_w_take (p : (Unit × Int)) : M Bag Int := zbody (b_w_take p)
theorem f_w_take {G : Gx} {D : Cl} (T : Txt G D) {f : Addr} {fd : FuncData} (F : Fun G.K "_law_take" "_law_take" t_w_take f fd) : FnG false G.P G.w G.K G.mg G.base 1 f fd ["_law_bag_here", "_law_many"] (spZ G (fun q : Addr × Addr => bagE q.1 q.2) (fun (q : Addr × Addr) (p : (Unit × Int)) => [(rRef q.1).pr p.1, rInt.pr p.2]) m_w_take rInt) :=
  fn_ok (g := false) (k := 0) (mb := b_w_take) (n := fun _ _ => stk) (Γn := fun _ _ _ => []) F sc_w_take (fun _ _ => rfl) (fun _ => rfl) (.inl fun _ _ => rfl) fun q p W =>
  show ZB G k_w_take _ W _ [.st ((rRef q.1).pr p.1), .st (rInt.pr p.2), .no, .no, .no, .no] _ (b_w_take p) _ from
  (zb_cons (zs_if (Γn := fun _ : Unit => [.st ((rRef q.1).pr p.1), .st (rInt.pr p.2), .no, .no, .no, .no]) (zt_eq scI (z_bag n_w_take_0 rfl fun _ => rfl) z_int)
    (zb_cons (zs_set s_w_take_4 z_int sub_nil) fun cell1 =>
    (zb_cons (zs_if (Γn := fun j2 : Int => [.st ((rRef q.1).pr p.1), .st (rInt.pr p.2), .no, .no, .st (rInt.pr j2), .no]) (zt_lt (z_bag n_w_take_0 rfl fun _ => rfl) (z_blen (blt_of (u := .builtin "len") T.b_len (by decide +kernel)) (z_bag3 n_w_take_0 rfl)))
      (zb_cons (zs_set s_w_take_4 (z_bcell (z_bag3 n_w_take_0 rfl) (z_bag n_w_take_0 rfl fun _ => rfl)) sub_nil) fun cell3 =>
      (zb_nil (SubL.sub (.keep (.keep (.keep (.keep (.keep (.keep SubL.nil)))))))))
      (zb_nil (SubL.sub (.keep (.keep (.keep (.keep (.keep (.keep SubL.nil)))))))) sub_nil) fun j2 =>
    (zb_cons (zs_binc n_w_take_0 rfl (fun _ => rfl) rfl (fun _ _ => rfl) (fun _ _ => rfl) z_int sub_nil) fun _ =>
    (zb_cons (zs_if (Γn := fun _ : Unit => [.st ((rRef q.1).pr p.1), .st (rInt.pr p.2), .no, .no, .st (rInt.pr j2), .no]) (zt_ge (z_var n_w_take_4) z_int)
      (zb_cons (zs_bput n_w_take_0 rfl rfl (fun _ _ => rfl) (fun _ _ => rfl) (z_var n_w_take_4) sub_nil) fun _ =>
      (zb_nil (SubL.sub (.keep (.keep (.keep (.keep (.keep (.keep SubL.nil)))))))))
      (zb_nil (SubL.sub (.keep (.keep (.keep (.keep (.keep (.keep SubL.nil)))))))) sub_nil) fun _ =>
    (zb_cons (zs_bput n_w_take_0 rfl rfl (fun _ _ => rfl) (fun _ _ => rfl) (z_mod (z_add (z_add (z_mul (z_bag n_w_take_0 rfl fun _ => rfl) z_int) (z_mod (z_var n_w_take_4) z_int)) (z_mul z_int (z_bag n_w_take_0 rfl fun _ => rfl))) z_int) sub_nil) fun _ =>
    (zb_nil (SubL.sub (.keep (.keep (.keep (.keep (.drop (.keep SubL.nil)))))))))))))
    (zb_nil (SubL.sub (.keep (.keep (.keep (.keep (.keep (.keep SubL.nil)))))))) sub_nil) fun _ =>
  (zb_cons (zs_if (Γn := fun _ : Unit => [.st ((rRef q.1).pr p.1), .st (rInt.pr p.2), .no, .no, .no, .no]) (zt_gt (z_bag n_w_take_0 rfl fun _ => rfl) z_int)
    (zb_cons (zs_set s_w_take_5 (z_mod (z_bag n_w_take_0 rfl fun _ => rfl) (z_var n_w_take_1)) sub_nil) fun value4 =>
    (zb_cons (zs_bput n_w_take_0 rfl rfl (fun _ _ => rfl) (fun _ _ => rfl) (z_div (z_bag n_w_take_0 rfl fun _ => rfl) (z_var n_w_take_1)) sub_nil) fun _ =>
    (zb_one (zs_ret (z_var n_w_take_5) sub_nil))))
    (zb_nil (SubL.sub (.keep (.keep (.keep (.keep (.keep (.keep SubL.nil)))))))) sub_nil) fun _ =>
  (zb_cons (zs_set s_w_take_2 (z_mod (z_mul (z_add (z_bag n_w_take_0 rfl fun _ => rfl) z_int) z_int) z_int) sub_nil) fun first5 =>
  (zb_cons (zs_set s_w_take_3 (z_mod (z_mul (z_mod (z_mul (z_var n_w_take_2) (z_var n_w_take_2)) z_int) z_int) z_int) sub_nil) fun second6 =>
  (zb_cons (zs_if (Γn := fun _ : Unit => [.st ((rRef q.1).pr p.1), .st (rInt.pr p.2), .st (rInt.pr first5), .st (rInt.pr second6), .no, .no]) (zt_gt (z_var n_w_take_1) z_int)
    (zb_one (zs_ret (z_mod (z_add (z_mul (z_var n_w_take_3) z_int) (z_var n_w_take_2)) (z_var n_w_take_1)) sub_nil))
    (zb_nil (SubL.sub (.keep (.keep (.keep (.keep (.keep (.keep SubL.nil)))))))) sub_nil) fun _ =>
  (zb_one (zs_ret (z_mod (z_div (z_var n_w_take_3) z_int) (z_var n_w_take_1)) sub_nil)))))))
theorem at_w_take {G : Gx} {D : Cl} (T : Txt G D) : FnAt false G "_law_take" 1 ["_law_bag_here", "_law_many"] (spZ G (fun q : Addr × Addr => bagE q.1 q.2) (fun (q : Addr × Addr) (p : (Unit × Int)) => [(rRef q.1).pr p.1, rInt.pr p.2]) m_w_take rInt) :=
  let ⟨f, fd, h1, h2, h3, h4⟩ := T.d_w_take; ⟨f, fd, h1, h2, h3, f_w_take T h4⟩

def k_w_names : Sc := ⟨["_law_bag_here", "_law_many", "_law_letters", "_law_base", "_law_spot", "_law_turn", "_law_way", "_law_found", "_law_k"], defScope t_w_names, 1, true, fun _ => true, false⟩
theorem sc_w_names : FnScope ["_law_bag_here", "_law_many", "_law_letters", "_law_base", "_law_spot", "_law_turn", "_law_way", "_law_found", "_law_k"] ["_law_bag_here", "_law_many"] (defScope t_w_names) := ⟨rfl, rfl, rfl, by decide +kernel, rfl, by decide +kernel, by decide +kernel⟩
theorem n_w_names_0 : Nm k_w_names 0 "_law_bag_here" := nm_of (by decide +kernel)
theorem n_w_names_1 : Nm k_w_names 1 "_law_many" := nm_of (by decide +kernel)
theorem n_w_names_2 : Nm k_w_names 2 "_law_letters" := nm_of (by decide +kernel)
theorem s_w_names_2 : Ns k_w_names 2 "_law_letters" := ns_of (by decide +kernel)
theorem n_w_names_3 : Nm k_w_names 3 "_law_base" := nm_of (by decide +kernel)
theorem s_w_names_3 : Ns k_w_names 3 "_law_base" := ns_of (by decide +kernel)
theorem s_w_names_4 : Ns k_w_names 4 "_law_spot" := ns_of (by decide +kernel)
theorem s_w_names_5 : Ns k_w_names 5 "_law_turn" := ns_of (by decide +kernel)
theorem n_w_names_6 : Nm k_w_names 6 "_law_way" := nm_of (by decide +kernel)
theorem s_w_names_6 : Ns k_w_names 6 "_law_way" := ns_of (by decide +kernel)
theorem n_w_names_7 : Nm k_w_names 7 "_law_found" := nm_of (by decide +kernel)
theorem s_w_names_7 : Ns k_w_names 7 "_law_found" := ns_of (by decide +kernel)
noncomputable def b_w_names (p : (Unit × Int)) : M Bag (Fl Unit Empty (List Str)) :=
  (zseq (zset (ret ("abcdefghijklmnopqrstuvwxyz" : Str))) fun letters1 =>
  (zseq (zset (zop2 smul (zop2 sixat (ret letters1) (zapp m_w_take (zpair (ret p.1) (ret (26 : Int))))) (zop2 iadd (ret (1 : Int)) (zapp m_w_take (zpair (ret p.1) (ret (8 : Int))))))) fun base2 =>
  (zseq (zset (zapp m_w_take (zpair (ret p.1) (zapp flenS (ret base2))))) fun spot3 =>
  (zseq (zset (zapp m_w_take (zpair (ret p.1) (ret (26 : Int))))) fun turn4 =>
  (zseq (zset (zapp m_w_take (zpair (ret p.1) (ret (4 : Int))))) fun way5 =>
  (zseq (zifS (zand (zop2 feq (ret way5) (ret (0 : Int))) (zop2 ilt (ret p.2) (ret (9 : Int))))
    (zrt (zlc (fun e6 => (ret true)) (fun e6 => (zslS (zop2 smul (zop2 sixat (ret letters1) (ret turn4)) (ret (8 : Int))) (ret none) (zsome (zop2 iadd (ret e6) (ret (1 : Int)))))) (zapp frA1 (ret p.2))))
    (znx ())) fun _ =>
  (zseq (zset (zlc (fun e8 => (ret true)) (fun e8 => (zop2 scat (zop2 scat (zslS (ret base2) (ret none) (zsome (ret spot3))) (zop2 sixat (ret letters1) (zop2 imod (zop2 iadd (ret turn4) (ret e8)) (ret (26 : Int))))) (zslS (ret base2) (zsome (zop2 iadd (ret spot3) (ret (1 : Int)))) (ret none)))) (zapp frA1 (ret p.2)))) fun found7 =>
  (zseq (zifS (zand (zop2 feq (ret way5) (ret (1 : Int))) (zop2 ilt (zapp flenS (ret base2)) (ret (8 : Int))))
    (zseq (zset (zlc (fun e11 => (ret true)) (fun e11 => (zop2 scat (zop2 ixat (ret found7) (ret e11)) (zop2 smul (ret ("a" : Str)) (zop2 imod (ret e11) (ret (2 : Int)))))) (zapp frA1 (ret p.2)))) fun found10 =>
    (znx found10))
    (znx found7)) fun j9 =>
  (zrt (ret j9))))))))))
noncomputable def m_w_names (p : (Unit × Int)) : M Bag (List Str) := zbody (b_w_names p)
theorem f_w_names {G : Gx} {D : Cl} (T : Txt G D) {f : Addr} {fd : FuncData} (F : Fun G.K "_law_names" "_law_names" t_w_names f fd) : FnG false G.P G.w G.K G.mg G.base 2 f fd ["_law_bag_here", "_law_many"] (spZ G (fun q : Addr × Addr => bagE q.1 q.2) (fun (q : Addr × Addr) (p : (Unit × Int)) => [(rRef q.1).pr p.1, rInt.pr p.2]) m_w_names (rLst rStr)) :=
  fn_ok (g := false) (k := 1) (mb := b_w_names) (n := fun _ _ => stk) (Γn := fun _ _ _ => []) F sc_w_names (fun _ _ => rfl) (fun _ => rfl) (.inl fun _ _ => rfl) fun q p W =>
  show ZB G k_w_names _ W _ [.st ((rRef q.1).pr p.1), .st (rInt.pr p.2), .no, .no, .no, .no, .no, .no, .no] _ (b_w_names p) _ from
  (zb_cons (zs_set s_w_names_2 z_str sub_nil) fun letters1 =>
  (zb_cons (zs_set s_w_names_3 (z_mulS (z_ixS (z_var n_w_names_2) (z_call (q := q) (at_w_take T) rfl (by decide) (by decide) (by exact rfl) (za_cons (z_var n_w_names_0) (za_one z_int)))) (z_add z_int (z_call (q := q) (at_w_take T) rfl (by decide) (by decide) (by exact rfl) (za_cons (z_var n_w_names_0) (za_one z_int))))) sub_nil) fun base2 =>
  (zb_cons (zs_set s_w_names_4 (z_call (q := q) (at_w_take T) rfl (by decide) (by decide) (by exact rfl) (za_cons (z_var n_w_names_0) (za_one (z_lenS (blt_of (u := .builtin "len") T.b_len (by decide +kernel)) (z_var n_w_names_3))))) sub_nil) fun spot3 =>
  (zb_cons (zs_set s_w_names_5 (z_call (q := q) (at_w_take T) rfl (by decide) (by decide) (by exact rfl) (za_cons (z_var n_w_names_0) (za_one z_int))) sub_nil) fun turn4 =>
  (zb_cons (zs_set s_w_names_6 (z_call (q := q) (at_w_take T) rfl (by decide) (by decide) (by exact rfl) (za_cons (z_var n_w_names_0) (za_one z_int))) sub_nil) fun way5 =>
  (zb_cons (zs_if (Γn := fun _ : Unit => [.st ((rRef q.1).pr p.1), .st (rInt.pr p.2), .st (rStr.pr letters1), .st (rStr.pr base2), .st (rInt.pr spot3), .st (rInt.pr turn4), .st (rInt.pr way5), .no, .no]) (zw_t (zw_and (zt_eq scI (z_var n_w_names_6) z_int) (zw_and1 (zt_lt (z_var n_w_names_1) z_int))))
    (zb_one (zs_ret (z_lc (Lc.mk (own := [("_law_k", 8)]) (blk_of rfl (by decide +kernel)) (zi_r1 (blt_of (u := .type "range") T.b_range (by decide +kernel)) (z_var n_w_names_1)) (zg_name (ns_of (i := 8) (by decide +kernel)) (by decide)) (fun e6 => zts_nil) (fun e6 => (z_slS (z_mulS (z_ixS (z_var (nm_of (i := 2) (by decide +kernel))) (z_var (nm_of (i := 5) (by decide +kernel)))) z_int) zp_no (zp_so (z_add (z_var (nm_of (i := 8) (by decide +kernel))) z_int)))) (lc_no ⟨rfl, trivial⟩) (fun _ _ => rfl))) sub_nil))
    (zb_nil (SubL.sub (.keep (.keep (.keep (.keep (.keep (.keep (.keep (.keep (.keep SubL.nil))))))))))) sub_nil) fun _ =>
  (zb_cons (zs_setLcC (i := 7) (Lc.mk (own := [("_law_k", 8)]) (blk_of rfl (by decide +kernel)) (zi_r1 (blt_of (u := .type "range") T.b_range (by decide +kernel)) (z_var n_w_names_1)) (zg_name (ns_of (i := 8) (by decide +kernel)) (by decide)) (fun e8 => zts_nil) (fun e8 => (z_catS (z_catS (z_slS (z_var (nm_of (i := 3) (by decide +kernel))) zp_no (zp_so (z_var (nm_of (i := 4) (by decide +kernel))))) (z_ixS (z_var (nm_of (i := 2) (by decide +kernel))) (z_mod (z_add (z_var (nm_of (i := 5) (by decide +kernel))) (z_var (nm_of (i := 8) (by decide +kernel)))) z_int))) (z_slS (z_var (nm_of (i := 3) (by decide +kernel))) (zp_so (z_add (z_var (nm_of (i := 4) (by decide +kernel))) z_int)) zp_no))) (lc_no ⟨rfl, trivial⟩) (fun _ _ => rfl)) s_w_names_7 (by decide +kernel) sub_nil) fun found7 =>
  (zb_cons (zs_if (Γn := fun j9 : (List Str) => [.st ((rRef q.1).pr p.1), .st (rInt.pr p.2), .st (rStr.pr letters1), .st (rStr.pr base2), .st (rInt.pr spot3), .st (rInt.pr turn4), .st (rInt.pr way5), .st ((rLst rStr).pr j9), .no]) (zw_t (zw_and (zt_eq scI (z_var n_w_names_6) z_int) (zw_and1 (zt_lt (z_lenS (blt_of (u := .builtin "len") T.b_len (by decide +kernel)) (z_var n_w_names_3)) z_int))))
    (zb_cons (zs_setLcC (i := 7) (Lc.mk (own := [("_law_k", 8)]) (blk_of rfl (by decide +kernel)) (zi_r1 (blt_of (u := .type "range") T.b_range (by decide +kernel)) (z_var n_w_names_1)) (zg_name (ns_of (i := 8) (by decide +kernel)) (by decide)) (fun e11 => zts_nil) (fun e11 => (z_catS (z_ixL (z_var (nm_of (i := 7) (by decide +kernel))) (z_var (nm_of (i := 8) (by decide +kernel)))) (z_mulS z_str (z_mod (z_var (nm_of (i := 8) (by decide +kernel))) z_int)))) (lc_no ⟨rfl, trivial⟩) (fun _ _ => rfl)) s_w_names_7 (by decide +kernel) sub_nil) fun found10 =>
    (zb_nil (SubL.sub (.keep (.keep (.keep (.keep (.keep (.keep (.keep (.keep (.keep SubL.nil))))))))))))
    (zb_nil (SubL.sub (.keep (.keep (.keep (.keep (.keep (.keep (.keep (.keep (.keep SubL.nil))))))))))) sub_nil) fun j9 =>
  (zb_one (zs_ret (z_var n_w_names_7) sub_nil))))))))))
theorem at_w_names {G : Gx} {D : Cl} (T : Txt G D) : FnAt false G "_law_names" 2 ["_law_bag_here", "_law_many"] (spZ G (fun q : Addr × Addr => bagE q.1 q.2) (fun (q : Addr × Addr) (p : (Unit × Int)) => [(rRef q.1).pr p.1, rInt.pr p.2]) m_w_names (rLst rStr)) :=
  let ⟨f, fd, h1, h2, h3, h4⟩ := T.d_w_names; ⟨f, fd, h1, h2, h3, f_w_names T h4⟩

def k_w_number : Sc := ⟨["_law_bag_here", "_law_some_here"], defScope t_w_number, 1, true, fun _ => true, false⟩
theorem sc_w_number : FnScope ["_law_bag_here", "_law_some_here"] ["_law_bag_here"] (defScope t_w_number) := ⟨rfl, rfl, rfl, by decide +kernel, rfl, by decide +kernel, by decide +kernel⟩
theorem n_w_number_0 : Nm k_w_number 0 "_law_bag_here" := nm_of (by decide +kernel)
theorem n_w_number_1 : Nm k_w_number 1 "_law_some_here" := nm_of (by decide +kernel)
theorem s_w_number_1 : Ns k_w_number 1 "_law_some_here" := ns_of (by decide +kernel)
noncomputable def b_w_number (p : Unit) : M Bag (Fl Unit Empty Int) :=
  (zseq (zset (zlist (zcons (ret (0 : Int)) (zcons (ret (2000 : Int)) (zcons (zop2 ipow (ret (10 : Int)) (ret (12 : Int))) (zcons (zop1 ineg (zop2 ipow (ret (10 : Int)) (ret (12 : Int)))) (zcons (zop2 ipow (ret (10 : Int)) (ret (18 : Int))) (zcons (zop2 ipow (ret (10 : Int)) (ret (20 : Int))) (zcons (zapp m_w_take (zpair (ret p) (zop2 ipow (ret (10 : Int)) (ret (21 : Int))))) (zcons (zop2 isub (ret (0 : Int)) (zapp m_w_take (zpair (ret p) (zop2 ipow (ret (10 : Int)) (ret (21 : Int)))))) (ret []))))))))))) fun somehere1 =>
  (zrt (zop2 isub (zop2 iadd (zop2 ixat (ret somehere1) (zapp m_w_take (zpair (ret p) (ret (8 : Int))))) (zapp m_w_take (zpair (ret p) (ret (5 : Int))))) (ret (2 : Int)))))
noncomputable def m_w_number (p : Unit) : M Bag Int := zbody (b_w_number p)
theorem f_w_number {G : Gx} {D : Cl} (T : Txt G D) {f : Addr} {fd : FuncData} (F : Fun G.K "_law_number" "_law_number" t_w_number f fd) : FnG false G.P G.w G.K G.mg G.base 2 f fd ["_law_bag_here"] (spZ G (fun q : Addr × Addr => bagE q.1 q.2) (fun (q : Addr × Addr) (p : Unit) => [(rRef q.1).pr p]) m_w_number rInt) :=
  fn_ok (g := false) (k := 1) (mb := b_w_number) (n := fun _ _ => stk) (Γn := fun _ _ _ => []) F sc_w_number (fun _ _ => rfl) (fun _ => rfl) (.inl fun _ _ => rfl) fun q p W =>
  show ZB G k_w_number _ W _ [.st ((rRef q.1).pr p), .no] _ (b_w_number p) _ from
  (zb_cons (zs_set s_w_number_1 (z_list (zl_cons z_int (zl_cons z_int (zl_cons (z_pow z_int z_int) (zl_cons (z_neg (z_pow z_int z_int)) (zl_cons (z_pow z_int z_int) (zl_cons (z_pow z_int z_int) (zl_cons (z_call (q := q) (at_w_take T) rfl (by decide) (by decide) (by exact rfl) (za_cons (z_var n_w_number_0) (za_one (z_pow z_int z_int)))) (zl_cons (z_sub z_int (z_call (q := q) (at_w_take T) rfl (by decide) (by decide) (by exact rfl) (za_cons (z_var n_w_number_0) (za_one (z_pow z_int z_int))))) zl_nil))))))))) sub_nil) fun somehere1 =>
  (zb_one (zs_ret (z_sub (z_add (z_ixL (z_var n_w_number_1) (z_call (q := q) (at_w_take T) rfl (by decide) (by decide) (by exact rfl) (za_cons (z_var n_w_number_0) (za_one z_int)))) (z_call (q := q) (at_w_take T) rfl (by decide) (by decide) (by exact rfl) (za_cons (z_var n_w_number_0) (za_one z_int)))) z_int) sub_nil)))
theorem at_w_number {G : Gx} {D : Cl} (T : Txt G D) : FnAt false G "_law_number" 2 ["_law_bag_here"] (spZ G (fun q : Addr × Addr => bagE q.1 q.2) (fun (q : Addr × Addr) (p : Unit) => [(rRef q.1).pr p]) m_w_number rInt) :=
  let ⟨f, fd, h1, h2, h3, h4⟩ := T.d_w_number; ⟨f, fd, h1, h2, h3, f_w_number T h4⟩

def k_w_text : Sc := ⟨["_law_bag_here", "_law_letters", "_law_others", "_law_many", "_law_text_here", "_law_spot", "_law_k"], defScope t_w_text, 1, true, fun _ => true, false⟩
theorem sc_w_text : FnScope ["_law_bag_here", "_law_letters", "_law_others", "_law_many", "_law_text_here", "_law_spot", "_law_k"] ["_law_bag_here"] (defScope t_w_text) := ⟨rfl, rfl, rfl, by decide +kernel, rfl, by decide +kernel, by decide +kernel⟩
theorem n_w_text_0 : Nm k_w_text 0 "_law_bag_here" := nm_of (by decide +kernel)
theorem n_w_text_1 : Nm k_w_text 1 "_law_letters" := nm_of (by decide +kernel)
theorem s_w_text_1 : Ns k_w_text 1 "_law_letters" := ns_of (by decide +kernel)
theorem n_w_text_2 : Nm k_w_text 2 "_law_others" := nm_of (by decide +kernel)
theorem s_w_text_2 : Ns k_w_text 2 "_law_others" := ns_of (by decide +kernel)
theorem n_w_text_3 : Nm k_w_text 3 "_law_many" := nm_of (by decide +kernel)
theorem s_w_text_3 : Ns k_w_text 3 "_law_many" := ns_of (by decide +kernel)
theorem n_w_text_4 : Nm k_w_text 4 "_law_text_here" := nm_of (by decide +kernel)
theorem s_w_text_4 : Ns k_w_text 4 "_law_text_here" := ns_of (by decide +kernel)
theorem n_w_text_5 : Nm k_w_text 5 "_law_spot" := nm_of (by decide +kernel)
theorem s_w_text_5 : Ns k_w_text 5 "_law_spot" := ns_of (by decide +kernel)
noncomputable def b_w_text (p : Unit) : M Bag (Fl Unit Empty Str) :=
  (zseq (zset (ret ("abcdefghijklmnopqrstuvwxyz" : Str))) fun letters1 =>
  (zseq (zset (zop2 scat (ret ("\n !\"#$&'()*+,-./0123456789:;<=>?\x40[\\]^_`{|}~" : Str)) (zapp fupper (ret letters1)))) fun others2 =>
  (zseq (zset (zop2 ixat (zlist (zcons (zapp m_w_take (zpair (ret p) (ret (11 : Int)))) (zcons (ret (7 : Int)) (zcons (ret (8 : Int)) (zcons (ret (9 : Int)) (ret [])))))) (zapp m_w_take (zpair (ret p) (ret (4 : Int)))))) fun many3 =>
  (zseq (zset (zop2 fjoin (ret ("" : Str)) (zlc (fun e5 => (ret true)) (fun e5 => (zop2 sixat (ret letters1) (zapp m_w_take (zpair (ret p) (ret (26 : Int)))))) (zapp frA1 (ret many3))))) fun texthere4 =>
  (zseq (zifS (zor (zop2 feq (ret texthere4) (ret ("" : Str))) (zop2 feq (zapp m_w_take (zpair (ret p) (ret (2 : Int)))) (ret (0 : Int))))
    (zrt (ret texthere4))
    (znx ())) fun _ =>
  (zseq (zset (zapp m_w_take (zpair (ret p) (ret many3)))) fun spot6 =>
  (zrt (zop2 scat (zop2 scat (zslS (ret texthere4) (ret none) (zsome (ret spot6))) (zop2 sixat (ret others2) (zapp m_w_take (zpair (ret p) (zapp flenS (ret others2)))))) (zslS (ret texthere4) (zsome (zop2 iadd (ret spot6) (ret (1 : Int)))) (ret none))))))))))
noncomputable def m_w_text (p : Unit) : M Bag Str := zbody (b_w_text p)
theorem f_w_text {G : Gx} {D : Cl} (T : Txt G D) {f : Addr} {fd : FuncData} (F : Fun G.K "_law_text" "_law_text" t_w_text f fd) : FnG false G.P G.w G.K G.mg G.base 2 f fd ["_law_bag_here"] (spZ G (fun q : Addr × Addr => bagE q.1 q.2) (fun (q : Addr × Addr) (p : Unit) => [(rRef q.1).pr p]) m_w_text rStr) :=
  fn_ok (g := false) (k := 1) (mb := b_w_text) (n := fun _ _ => stk) (Γn := fun _ _ _ => []) F sc_w_text (fun _ _ => rfl) (fun _ => rfl) (.inl fun _ _ => rfl) fun q p W =>
  show ZB G k_w_text _ W _ [.st ((rRef q.1).pr p), .no, .no, .no, .no, .no, .no] _ (b_w_text p) _ from
  (zb_cons (zs_set s_w_text_1 z_str sub_nil) fun letters1 =>
  (zb_cons (zs_set s_w_text_2 (z_catS z_str (z_upper (z_var n_w_text_1))) sub_nil) fun others2 =>
  (zb_cons (zs_set s_w_text_3 (z_ixL (z_list (zl_cons (z_call (q := q) (at_w_take T) rfl (by decide) (by decide) (by exact rfl) (za_cons (z_var n_w_text_0) (za_one z_int))) (zl_cons z_int (zl_cons z_int (zl_cons z_int zl_nil))))) (z_call (q := q) (at_w_take T) rfl (by decide) (by decide) (by exact rfl) (za_cons (z_var n_w_text_0) (za_one z_int)))) sub_nil) fun many3 =>
  (zb_cons (zs_set s_w_text_4 (z_join z_str (z_lc (Lc.mk (own := [("_law_k", 6)]) (blk_of rfl (by decide +kernel)) (zi_r1 (blt_of (u := .type "range") T.b_range (by decide +kernel)) (z_var n_w_text_3)) (zg_name (ns_of (i := 6) (by decide +kernel)) (by decide)) (fun e5 => zts_nil) (fun e5 => (z_ixS (z_var (nm_of (i := 1) (by decide +kernel))) (z_call (q := q) (at_w_take T) rfl (by decide) (by decide) (by exact rfl) (za_cons (z_var (nm_of (i := 0) (by decide +kernel))) (za_one z_int))))) (lc_no ⟨rfl, trivial⟩) (fun _ _ => rfl)))) sub_nil) fun texthere4 =>
  (zb_cons (zs_if (Γn := fun _ : Unit => [.st ((rRef q.1).pr p), .st (rStr.pr letters1), .st (rStr.pr others2), .st (rInt.pr many3), .st (rStr.pr texthere4), .no, .no]) (zw_t (zw_or (zt_eq scS (z_var n_w_text_4) z_str) (zw_or1 (zt_eq scI (z_call (q := q) (at_w_take T) rfl (by decide) (by decide) (by exact rfl) (za_cons (z_var n_w_text_0) (za_one z_int))) z_int))))
    (zb_one (zs_ret (z_var n_w_text_4) sub_nil))
    (zb_nil (SubL.sub (.keep (.keep (.keep (.keep (.keep (.keep (.keep SubL.nil))))))))) sub_nil) fun _ =>
  (zb_cons (zs_set s_w_text_5 (z_call (q := q) (at_w_take T) rfl (by decide) (by decide) (by exact rfl) (za_cons (z_var n_w_text_0) (za_one (z_var n_w_text_3)))) sub_nil) fun spot6 =>
  (zb_one (zs_ret (z_catS (z_catS (z_slS (z_var n_w_text_4) zp_no (zp_so (z_var n_w_text_5))) (z_ixS (z_var n_w_text_2) (z_call (q := q) (at_w_take T) rfl (by decide) (by decide) (by exact rfl) (za_cons (z_var n_w_text_0) (za_one (z_lenS (blt_of (u := .builtin "len") T.b_len (by decide +kernel)) (z_var n_w_text_2))))))) (z_slS (z_var n_w_text_4) (zp_so (z_add (z_var n_w_text_5) z_int)) zp_no)) sub_nil))))))))
theorem at_w_text {G : Gx} {D : Cl} (T : Txt G D) : FnAt false G "_law_text" 2 ["_law_bag_here"] (spZ G (fun q : Addr × Addr => bagE q.1 q.2) (fun (q : Addr × Addr) (p : Unit) => [(rRef q.1).pr p]) m_w_text rStr) :=
  let ⟨f, fd, h1, h2, h3, h4⟩ := T.d_w_text; ⟨f, fd, h1, h2, h3, f_w_text T h4⟩

def k_w_some : Sc := ⟨["_law_bag_here", "_law_names_here", "_law_found", "_law_name", "_law_spot", "_law_more"], defScope t_w_some, 1, true, fun _ => true, false⟩
theorem sc_w_some : FnScope ["_law_bag_here", "_law_names_here", "_law_found", "_law_name", "_law_spot", "_law_more"] ["_law_bag_here", "_law_names_here"] (defScope t_w_some) := ⟨rfl, rfl, rfl, by decide +kernel, rfl, by decide +kernel, by decide +kernel⟩
theorem n_w_some_0 : Nm k_w_some 0 "_law_bag_here" := nm_of (by decide +kernel)
theorem n_w_some_1 : Nm k_w_some 1 "_law_names_here" := nm_of (by decide +kernel)
theorem n_w_some_2 : Nm k_w_some 2 "_law_found" := nm_of (by decide +kernel)
theorem s_w_some_2 : Ns k_w_some 2 "_law_found" := ns_of (by decide +kernel)
theorem n_w_some_3 : Nm k_w_some 3 "_law_name" := nm_of (by decide +kernel)
theorem s_w_some_3 : Ns k_w_some 3 "_law_name" := ns_of (by decide +kernel)
theorem n_w_some_4 : Nm k_w_some 4 "_law_spot" := nm_of (by decide +kernel)
theorem s_w_some_4 : Ns k_w_some 4 "_law_spot" := ns_of (by decide +kernel)
theorem n_w_some_5 : Nm k_w_some 5 "_law_more" := nm_of (by decide +kernel)
theorem s_w_some_5 : Ns k_w_some 5 "_law_more" := ns_of (by decide +kernel)
noncomputable def b_w_some (p : (Unit × (List Str))) : M Bag (Fl Unit Empty PyData) :=
  (zseq (zset (zlist ((ret []) : M _ (List PyData)))) fun found1 =>
  (zseq (zforI (ret p.2) found1 fun c2 x3 =>
    (zseq (zifS (zop2 igt (zapp m_w_take (zpair (ret p.1) (ret (3 : Int)))) (ret (0 : Int)))
      (zseq (finsert c2 (zpair (zapp m_w_take (zpair (ret p.1) (zop2 iadd (zapp flen (ret c2)) (ret (1 : Int))))) (zget (qS : DaQ rStr).d (ret x3)))) fun a6 =>
      (znx a6))
      (znx c2)) fun j4 =>
    (znx j4))) fun c2 =>
  (zseq (zset (zapp m_w_take (zpair (ret p.1) (zop2 iadd (zapp flen (ret c2)) (ret (1 : Int)))))) fun spot7 =>
  (zseq (zset (zlist (zcons (zget (qS : DaQ rStr).d (zop2 ixat (ret p.2) (ret (0 : Int)))) (zcons (zget (qS : DaQ rStr).d (zop2 ixat (ret p.2) (zop1 ineg (ret (1 : Int))))) (zcons (zget (qS : DaQ rStr).d (ret ("zzzzzzzzz" : Str))) (zcons (zget (qS : DaQ rStr).d (ret ("stranger" : Str))) (zcons (zget (qS : DaQ rStr).d (ret ("" : Str))) (zcons (zget (qI : DaQ rInt).d (ret (5 : Int))) (zcons (zget (qN : DaQ rNon).d (ret ())) (zcons (zget ((qL qS) : DaQ (rLst rStr)).d (zlist (zcons (zop2 ixat (ret p.2) (ret (0 : Int))) (ret [])))) (zcons (zget ((qV qS) : DaQ (rVT rStr)).d (zlist (zcons (zop2 ixat (ret p.2) (ret (0 : Int))) (ret [])))) (zcons (zget (qB : DaQ rBl).d (ret true)) (ret []))))))))))))) fun more8 =>
  (zseq (zifS (zop2 feq (zapp m_w_take (zpair (ret p.1) (ret (2 : Int)))) (ret (0 : Int)))
    (zseq (finsert c2 (zpair (ret spot7) (zop2 ixat (ret more8) (zapp m_w_take (zpair (ret p.1) (ret (10 : Int))))))) fun a10 =>
    (znx a10))
    (znx c2)) fun j9 =>
  (zrt (zop2 ixat (zlist (zcons (zget ((qL qQ) : DaQ (rLst rQ)).d (ret j9)) (zcons (zget ((qL qQ) : DaQ (rLst rQ)).d (ret j9)) (zcons (zget ((qL qQ) : DaQ (rLst rQ)).d (ret j9)) (zcons (zget ((qV qQ) : DaQ (rVT rQ)).d (zapp ret (ret j9))) (zcons (zget ((qL qS) : DaQ (rLst rStr)).d (zapp ret (ret p.2))) (zcons (zget (fun xs => PyData.dict (xs.map fun t => (PyData.str t.1, PyData.int t.2))) (ret ([] : List (Str × Int)))) (ret [])))))))) (zapp m_w_take (zpair (ret p.1) (ret (6 : Int)))))))))))
noncomputable def m_w_some (p : (Unit × (List Str))) : M Bag PyData := zbody (b_w_some p)
theorem f_w_some {G : Gx} {D : Cl} (T : Txt G D) {f : Addr} {fd : FuncData} (F : Fun G.K "_law_some" "_law_some" t_w_some f fd) : FnG false G.P G.w G.K G.mg G.base 2 f fd ["_law_bag_here", "_law_names_here"] (spZ G (fun q : Addr × Addr => bagE q.1 q.2) (fun (q : Addr × Addr) (p : (Unit × (List Str))) => [(rRef q.1).pr p.1, (rLst rStr).pr p.2]) m_w_some rX) :=
  fn_ok (g := false) (k := 1) (mb := b_w_some) (n := fun _ _ => stk) (Γn := fun _ _ _ => []) F sc_w_some (fun _ _ => rfl) (fun _ => rfl) (.inl fun _ _ => rfl) fun q p W =>
  show ZB G k_w_some _ W _ [.st ((rRef q.1).pr p.1), .st ((rLst rStr).pr p.2), .no, .no, .no, .no] _ (b_w_some p) _ from
  (zb_cons (zs_setF s_w_some_2 (zf_list zl_nil) sub_nil) fun found1 =>
  (zb_cons (zs_for (vs := [3]) (Γh := fun c2 : (List PyData) => [.st ((rRef q.1).pr p.1), .st ((rLst rStr).pr p.2), .ow (ownL rQ c2), .no, .no, .no]) (zi_list (z_var n_w_some_1)) (SubL.sub (.keep (.keep (.keep (.keep (.keep (.keep SubL.nil))))))) (fun c2 => (zg_name s_w_some_3 (by decide))) (fun c2 x3 =>
    (zb_cons (zs_if (Γn := fun j4 : (List PyData) => [.st ((rRef q.1).pr p.1), .st ((rLst rStr).pr p.2), .ow (ownL rQ j4), .st (rStr.pr x3), .no, .no]) (zt_gt (z_call (q := q) (at_w_take T) rfl (by decide) (by decide) (by exact rfl) (za_cons (z_var n_w_some_0) (za_one z_int))) z_int)
      (zb_cons (zs_ins n_w_some_2 rfl (za_cons (z_lendX (.st (.st (.ow view_L (.st (.no (.no .nil)))))) fun L5 => (z_callU (q := q) (at_w_take T) rfl (by decide) (by decide) (by exact rfl) (za_cons (z_var n_w_some_0) (za_one (z_add (z_lenF hasL (blt_of (u := .builtin "len") T.b_len (by decide +kernel)) (z_var n_w_some_2)) z_int))))) (za_one (z_q qS (z_var n_w_some_3)))) sub_nil) fun a6 =>
      (zb_nil (SubL.sub (.keep (.keep (.keep (.keep (.keep (.keep SubL.nil)))))))))
      (zb_nil (SubL.sub (.keep (.keep (.keep (.keep (.keep (.keep SubL.nil)))))))) sub_nil) fun j4 =>
    (zb_nil (SubL.sub (.keep (.keep (.keep (.drop (.keep (.keep SubL.nil)))))))))) sub_nil) fun c2 =>
  (zb_cons (zs_set s_w_some_4 (z_lend (.st (.st (.ow one_L (.no (.no (.no .nil)))))) free_bag fl_int (z_call (q := q) (at_w_take T) rfl (by decide) (by decide) (by exact rfl) (za_cons (z_var n_w_some_0) (za_one (z_add (z_lenL (blt_of (u := .builtin "len") T.b_len (by decide +kernel)) (z_var n_w_some_2)) z_int))))) sub_nil) fun spot7 =>
  (zb_cons (zs_set s_w_some_5 (z_list (zl_cons (z_q qS (z_ixL (z_var n_w_some_1) z_int)) (zl_cons (z_q qS (z_ixL (z_var n_w_some_1) (z_neg z_int))) (zl_cons (z_q qS z_str) (zl_cons (z_q qS z_str) (zl_cons (z_q qS z_str) (zl_cons (z_q qI z_int) (zl_cons (z_q qN z_non) (zl_cons (z_q (qL qS) (z_list (zl_cons (z_ixL (z_var n_w_some_1) z_int) zl_nil))) (zl_cons (z_q (qV qS) (z_vtup (zl_cons (z_ixL (z_var n_w_some_1) z_int) zl_nil))) (zl_cons (z_q qB z_bl) zl_nil))))))))))) sub_nil) fun more8 =>
  (zb_cons (zs_if (Γn := fun j9 : (List PyData) => [.st ((rRef q.1).pr p.1), .st ((rLst rStr).pr p.2), .ow (ownL rQ j9), .no, .st (rInt.pr spot7), .st ((rLst rQ).pr more8)]) (zt_eq scI (z_call (q := q) (at_w_take T) rfl (by decide) (by decide) (by exact rfl) (za_cons (z_var n_w_some_0) (za_one z_int))) z_int)
    (zb_cons (zs_ins n_w_some_2 rfl (za_cons (z_var n_w_some_4) (za_one (z_ixL (z_var n_w_some_5) (z_call (q := q) (at_w_take T) rfl (by decide) (by decide) (by exact rfl) (za_cons (z_var n_w_some_0) (za_one z_int)))))) sub_nil) fun a10 =>
    (zb_nil (SubL.sub (.keep (.keep (.keep (.keep (.keep (.keep SubL.nil)))))))))
    (zb_nil (SubL.sub (.keep (.keep (.keep (.keep (.keep (.keep SubL.nil)))))))) sub_nil) fun j9 =>
  (zb_wk (sub_frz (i := 2) one_L) <| zb_one (zs_ret (z_ixL (z_list (zl_cons (z_x (qL qQ) (z_var n_w_some_2)) (zl_cons (z_x (qL qQ) (z_var n_w_some_2)) (zl_cons (z_x (qL qQ) (z_var n_w_some_2)) (zl_cons (z_x (qV qQ) (z_tupL (blt_of (u := .type "tuple") T.b_tuple (by decide +kernel)) (z_var n_w_some_2))) (zl_cons (z_x (qL qS) (z_listL (blt_of (u := .type "list") T.b_list (by decide +kernel)) (z_var n_w_some_1))) (zl_cons (z_xD (z_dict (zf_dnew (K := (kyF G kyfS)) (R2 := rInt)))) zl_nil))))))) (z_call (q := q) (at_w_take T) rfl (by decide) (by decide) (by exact rfl) (za_cons (z_var n_w_some_0) (za_one z_int)))) sub_nil)))))))
theorem at_w_some {G : Gx} {D : Cl} (T : Txt G D) : FnAt false G "_law_some" 2 ["_law_bag_here", "_law_names_here"] (spZ G (fun q : Addr × Addr => bagE q.1 q.2) (fun (q : Addr × Addr) (p : (Unit × (List Str))) => [(rRef q.1).pr p.1, (rLst rStr).pr p.2]) m_w_some rX) :=
  let ⟨f, fd, h1, h2, h3, h4⟩ := T.d_w_some; ⟨f, fd, h1, h2, h3, f_w_some T h4⟩

def k_w_thing : Sc := ⟨["_law_bag_here", "_law_names_here", "_law_way", "_law_odd"], defScope t_w_thing, 2, true, fun _ => true, false⟩
theorem sc_w_thing : FnScope ["_law_bag_here", "_law_names_here", "_law_way", "_law_odd"] ["_law_bag_here", "_law_names_here"] (defScope t_w_thing) := ⟨rfl, rfl, rfl, by decide +kernel, rfl, by decide +kernel, by decide +kernel⟩
theorem n_w_thing_0 : Nm k_w_thing 0 "_law_bag_here" := nm_of (by decide +kernel)
theorem n_w_thing_1 : Nm k_w_thing 1 "_law_names_here" := nm_of (by decide +kernel)
theorem n_w_thing_2 : Nm k_w_thing 2 "_law_way" := nm_of (by decide +kernel)
theorem s_w_thing_2 : Ns k_w_thing 2 "_law_way" := ns_of (by decide +kernel)
theorem n_w_thing_3 : Nm k_w_thing 3 "_law_odd" := nm_of (by decide +kernel)
theorem s_w_thing_3 : Ns k_w_thing 3 "_law_odd" := ns_of (by decide +kernel)
noncomputable def b_w_thing (p : (Unit × (List Str))) : M Bag (Fl Unit Empty PyData) :=
  (zseq (zset (zapp m_w_take (zpair (ret p.1) (ret (8 : Int))))) fun way1 =>
  (zseq (zifS (zop2 ilt (ret way1) (ret (2 : Int)))
    (zrt (zget (qI : DaQ rInt).d (zapp m_w_number (ret p.1))))
    (znx ())) fun _ =>
  (zseq (zifS (zop2 ilt (ret way1) (ret (4 : Int)))
    (zrt (zget (qS : DaQ rStr).d (zapp m_w_text (ret p.1))))
    (znx ())) fun _ =>
  (zseq (zifS (zop2 ilt (ret way1) (ret (7 : Int)))
    (zrt (zapp m_w_some (zpair (ret p.1) (ret p.2))))
    (znx ())) fun _ =>
  (zseq (zset (zlist (zcons (zget (qN : DaQ rNon).d (ret ())) (zcons (zget (qB : DaQ rBl).d (ret true)) (zcons (zget (qB : DaQ rBl).d (ret false)) (zcons (zget (qS : DaQ rStr).d (ret ("12" : Str))) (zcons (zget ((qL qI) : DaQ (rLst rInt)).d (zlist ((ret []) : M _ (List Int)))) (zcons (zget ((qV qI) : DaQ (rVT rInt)).d (zlist ((ret []) : M _ (List Int)))) (zcons (zget (fun xs => PyData.dict (xs.map fun t => (PyData.str t.1, PyData.int t.2))) (ret ([] : List (Str × Int)))) (zcons (zget ((qL (qL qI)) : DaQ (rLst (rLst rInt))).d (zlist (zcons (zlist ((ret []) : M _ (List Int))) (ret [])))) (zcons (zget ((qV qI) : DaQ (rVT rInt)).d (zlist (zcons (ret (1 : Int)) (ret [])))) (zcons (zget (fun xs => PyData.dict (xs.map fun t => (PyData.str t.1, PyData.int t.2))) (zget (fun x => [(("a" : Str), x)]) (nox (ret (1 : Int))))) (zcons (zget (qS : DaQ rStr).d (zop2 ixat (ret p.2) (ret (0 : Int)))) (zcons (zget (qS : DaQ rStr).d (zop2 smul (ret ("a" : Str)) (ret (4000 : Int)))) (ret []))))))))))))))) fun odd2 =>
  (zrt (zop2 ixat (zop2 lcat (ret odd2) (zlist (zcons (zget (qI : DaQ rInt).d (zop2 ipow (ret (10 : Int)) (ret (40 : Int)))) (zcons (zget ((qL qS) : DaQ (rLst rStr)).d (zop2 lrep (ret p.2) (ret (4000 : Int)))) (ret []))))) (zapp m_w_take (zpair (ret p.1) (ret (14 : Int)))))))))))
noncomputable def m_w_thing (p : (Unit × (List Str))) : M Bag PyData := zbody (b_w_thing p)
theorem f_w_thing {G : Gx} {D : Cl} (T : Txt G D) {f : Addr} {fd : FuncData} (F : Fun G.K "_law_thing" "_law_thing" t_w_thing f fd) : FnG false G.P G.w G.K G.mg G.base 3 f fd ["_law_bag_here", "_law_names_here"] (spZ G (fun q : Addr × Addr => bagE q.1 q.2) (fun (q : Addr × Addr) (p : (Unit × (List Str))) => [(rRef q.1).pr p.1, (rLst rStr).pr p.2]) m_w_thing rX) :=
  fn_ok (g := false) (k := 2) (mb := b_w_thing) (n := fun _ _ => stk) (Γn := fun _ _ _ => []) F sc_w_thing (fun _ _ => rfl) (fun _ => rfl) (.inl fun _ _ => rfl) fun q p W =>
  show ZB G k_w_thing _ W _ [.st ((rRef q.1).pr p.1), .st ((rLst rStr).pr p.2), .no, .no] _ (b_w_thing p) _ from
  (zb_cons (zs_set s_w_thing_2 (z_call (q := q) (at_w_take T) rfl (by decide) (by decide) (by exact rfl) (za_cons (z_var n_w_thing_0) (za_one z_int))) sub_nil) fun way1 =>
  (zb_cons (zs_if (Γn := fun _ : Unit => [.st ((rRef q.1).pr p.1), .st ((rLst rStr).pr p.2), .st (rInt.pr way1), .no]) (zt_lt (z_var n_w_thing_2) z_int)
    (zb_one (zs_ret (z_x qI (z_call (q := q) (at_w_number T) rfl (by decide) (by decide) (by exact rfl) (za_one (z_var n_w_thing_0)))) sub_nil))
    (zb_nil (SubL.sub (.keep (.keep (.keep (.keep SubL.nil)))))) sub_nil) fun _ =>
  (zb_cons (zs_if (Γn := fun _ : Unit => [.st ((rRef q.1).pr p.1), .st ((rLst rStr).pr p.2), .st (rInt.pr way1), .no]) (zt_lt (z_var n_w_thing_2) z_int)
    (zb_one (zs_ret (z_x qS (z_call (q := q) (at_w_text T) rfl (by decide) (by decide) (by exact rfl) (za_one (z_var n_w_thing_0)))) sub_nil))
    (zb_nil (SubL.sub (.keep (.keep (.keep (.keep SubL.nil)))))) sub_nil) fun _ =>
  (zb_cons (zs_if (Γn := fun _ : Unit => [.st ((rRef q.1).pr p.1), .st ((rLst rStr).pr p.2), .st (rInt.pr way1), .no]) (zt_lt (z_var n_w_thing_2) z_int)
    (zb_one (zs_ret (z_call (q := q) (at_w_some T) rfl (by decide) (by decide) (by exact rfl) (za_cons (z_var n_w_thing_0) (za_one (z_var n_w_thing_1)))) sub_nil))
    (zb_nil (SubL.sub (.keep (.keep (.keep (.keep SubL.nil)))))) sub_nil) fun _ =>
  (zb_cons (zs_set s_w_thing_3 (z_list (zl_cons (z_x qN z_non) (zl_cons (z_x qB z_bl) (zl_cons (z_x qB z_bl) (zl_cons (z_x qS z_str) (zl_cons (z_x (qL qI) (z_list zl_nil)) (zl_cons (z_x (qV qI) (z_vtup zl_nil)) (zl_cons (z_xD (z_dict (zf_dnew (K := (kyF G kyfS)) (R2 := rInt)))) (zl_cons (z_x (qL (qL qI)) (z_list (zl_cons (z_list zl_nil) zl_nil))) (zl_cons (z_x (qV qI) (z_vtup (zl_cons z_int zl_nil))) (zl_cons (z_xD (z_relX (R1 := rRec ["a"] (fun x : Int => [rInt.pr x])) rec1_dct (z_rec (zk_one z_int) nx_nox rfl rfl (by simp) (by decide) (by decide) (by decide)))) (zl_cons (z_x qS (z_ixL (z_var n_w_thing_1) z_int)) (zl_cons (z_x qS (z_mulS z_str z_int)) zl_nil))))))))))))) sub_nil) fun odd2 =>
  (zb_one (zs_ret (z_ixL (z_catL (z_var n_w_thing_3) (z_list (zl_cons (z_x qI (z_pow z_int z_int)) (zl_cons (z_x (qL qS) (z_repL (z_var n_w_thing_1) z_int)) zl_nil)))) (z_call (q := q) (at_w_take T) rfl (by decide) (by decide) (by exact rfl) (za_cons (z_var n_w_thing_0) (za_one z_int)))) sub_nil)))))))
theorem at_w_thing {G : Gx} {D : Cl} (T : Txt G D) : FnAt false G "_law_thing" 3 ["_law_bag_here", "_law_names_here"] (spZ G (fun q : Addr × Addr => bagE q.1 q.2) (fun (q : Addr × Addr) (p : (Unit × (List Str))) => [(rRef q.1).pr p.1, (rLst rStr).pr p.2]) m_w_thing rX) :=
  let ⟨f, fd, h1, h2, h3, h4⟩ := T.d_w_thing; ⟨f, fd, h1, h2, h3, f_w_thing T h4⟩

def k_w_within : Sc := ⟨["_law_thing_here", "_law_low", "_law_high"], defScope t_w_within, 0, true, fun _ => true, false⟩
theorem sc_w_within : FnScope ["_law_thing_here", "_law_low", "_law_high"] ["_law_thing_here", "_law_low", "_law_high"] (defScope t_w_within) := ⟨rfl, rfl, rfl, by decide +kernel, rfl, by decide +kernel, by decide +kernel⟩
theorem n_w_within_0 : Nm k_w_within 0 "_law_thing_here" := nm_of (by decide +kernel)
theorem n_w_within_1 : Nm k_w_within 1 "_law_low" := nm_of (by decide +kernel)
theorem n_w_within_2 : Nm k_w_within 2 "_law_high" := nm_of (by decide +kernel)
noncomputable def b_w_within (p : (PyData × Int × Int)) : M Unit (Fl Unit Empty Bool) :=
  (zrt (zand (zget (isD "int") (ret p.1)) (zand (znot (zget (isD "bool") (ret p.1))) (zchain ile ile (ret p.2.1) (zgetP asI (ret p.1)) (ret p.2.2)))))
noncomputable def m_w_within (p : (PyData × Int × Int)) : M Unit Bool := zbody (b_w_within p)
theorem f_w_within {G : Gx} {D : Cl} (T : Txt G D) {f : Addr} {fd : FuncData} (F : Fun G.K "_law_within" "_law_within" t_w_within f fd) : FnG false G.P G.w G.K G.mg G.base 1 f fd ["_law_thing_here", "_law_low", "_law_high"] (spZ G (fun _ : Unit => noE) (fun (q : Unit) (p : (PyData × Int × Int)) => [rX.pr p.1, rInt.pr p.2.1, rInt.pr p.2.2]) m_w_within rBl) :=
  fn_ok (g := false) (k := 0) (mb := b_w_within) (n := fun _ _ => stk) (Γn := fun _ _ _ => []) F sc_w_within (fun _ _ => rfl) (fun _ => rfl) (.inl fun _ _ => rfl) fun q p W =>
  show ZB G k_w_within _ W _ [.st (rX.pr p.1), .st (rInt.pr p.2.1), .st (rInt.pr p.2.2)] _ (b_w_within p) _ from
  (zb_one (zs_ret (z_and (z_isiX (blt_of (u := .builtin "isinstance") T.b_isinstance (by decide +kernel)) (blt_of (u := .type "int") T.b_int (by decide +kernel)) (fun d => by cases d <;> rfl) (z_var n_w_within_0)) (z_and (z_not (z_isiX (blt_of (u := .builtin "isinstance") T.b_isinstance (by decide +kernel)) (blt_of (u := .type "bool") T.b_bool (by decide +kernel)) (fun d => by cases d <;> rfl) (z_var n_w_within_0))) (z_one (z_chI ci_le ci_le (z_var n_w_within_1) (z_as (as_X (fun _ => rfl) as_I) (z_var n_w_within_0)) (z_var n_w_within_2))))) sub_nil))
theorem at_w_within {G : Gx} {D : Cl} (T : Txt G D) : FnAt false G "_law_within" 1 ["_law_thing_here", "_law_low", "_law_high"] (spZ G (fun _ : Unit => noE) (fun (q : Unit) (p : (PyData × Int × Int)) => [rX.pr p.1, rInt.pr p.2.1, rInt.pr p.2.2]) m_w_within rBl) :=
  let ⟨f, fd, h1, h2, h3, h4⟩ := T.d_w_within; ⟨f, fd, h1, h2, h3, f_w_within T h4⟩

def k_w_is_name : Sc := ⟨["_law_thing_here", "_law_sign"], defScope t_w_is_name, 0, true, fun _ => true, false⟩
theorem sc_w_is_name : FnScope ["_law_thing_here", "_law_sign"] ["_law_thing_here"] (defScope t_w_is_name) := ⟨rfl, rfl, rfl, by decide +kernel, rfl, by decide +kernel, by decide +kernel⟩
theorem n_w_is_name_0 : Nm k_w_is_name 0 "_law_thing_here" := nm_of (by decide +kernel)
noncomputable def b_w_is_name (p : PyData) : M Unit (Fl Unit Empty Bool) :=
  (zseq (zifS (zor (znot (zget (isD "str") (ret p))) (znot (zchain ile ile (ret (1 : Int)) (zapp flenS (zgetP asS (ret p))) (ret (8 : Int)))))
    (zrt (ret false))
    (znx ())) fun _ =>
  (zrt (zop2 (deq (datL datS)) (zlc (fun e1 => (zop2 nsin_ (ret e1) (ret ("abcdefghijklmnopqrstuvwxyz" : Str)))) (fun e1 => (ret e1)) (zapp fsigns (zgetP asS (ret p)))) (zlist ((ret []) : M _ (List Str))))))
noncomputable def m_w_is_name (p : PyData) : M Unit Bool := zbody (b_w_is_name p)
theorem f_w_is_name {G : Gx} {D : Cl} (T : Txt G D) {f : Addr} {fd : FuncData} (F : Fun G.K "_law_is_name" "_law_is_name" t_w_is_name f fd) : FnG false G.P G.w G.K G.mg G.base 1 f fd ["_law_thing_here"] (spZ G (fun _ : Unit => noE) (fun (q : Unit) (p : PyData) => [rX.pr p]) m_w_is_name rBl) :=
  fn_ok (g := false) (k := 0) (mb := b_w_is_name) (n := fun _ _ => stk) (Γn := fun _ _ _ => []) F sc_w_is_name (fun _ _ => rfl) (fun _ => rfl) (.inl fun _ _ => rfl) fun q p W =>
  show ZB G k_w_is_name _ W _ [.st (rX.pr p), .no] _ (b_w_is_name p) _ from
  (zb_cons (zs_if (Γn := fun _ : Unit => [.st (rX.pr p), .no]) (zw_t (zw_or (zt_not (zt_val (z_isiX (blt_of (u := .builtin "isinstance") T.b_isinstance (by decide +kernel)) (blt_of (u := .type "str") T.b_str (by decide +kernel)) (fun d => by cases d <;> rfl) (z_var n_w_is_name_0)))) (zw_or1 (zt_not (zt_chI ci_le ci_le z_int (z_lenS (blt_of (u := .builtin "len") T.b_len (by decide +kernel)) (z_as (as_X (fun _ => rfl) as_S) (z_var n_w_is_name_0))) z_int)))))
    (zb_one (zs_ret z_bl sub_nil))
    (zb_nil (SubL.sub (.keep (.keep SubL.nil)))) sub_nil) fun _ =>
  (zb_one (zs_ret (z_deq (datL datS) (z_lc (Lc.mk (own := [("_law_sign", 1)]) (blk_of rfl (by decide +kernel)) (zi_str (z_as (as_X (fun _ => rfl) as_S) (z_var n_w_is_name_0))) (zg_name (ns_of (i := 1) (by decide +kernel)) (by decide)) (fun e1 => (zts_one (zt_ninS (z_var (nm_of (i := 1) (by decide +kernel))) z_str))) (fun e1 => (z_var (nm_of (i := 1) (by decide +kernel)))) (lc_no ⟨rfl, trivial⟩) (fun _ _ => rfl))) (z_list zl_nil)) sub_nil)))
theorem at_w_is_name {G : Gx} {D : Cl} (T : Txt G D) : FnAt false G "_law_is_name" 1 ["_law_thing_here"] (spZ G (fun _ : Unit => noE) (fun (q : Unit) (p : PyData) => [rX.pr p]) m_w_is_name rBl) :=
  let ⟨f, fd, h1, h2, h3, h4⟩ := T.d_w_is_name; ⟨f, fd, h1, h2, h3, f_w_is_name T h4⟩

def k_w_is_group : Sc := ⟨["_law_names_here", "_law_thing_here", "_law_one"], defScope t_w_is_group, 1, true, fun _ => true, false⟩
theorem sc_w_is_group : FnScope ["_law_names_here", "_law_thing_here", "_law_one"] ["_law_names_here", "_law_thing_here"] (defScope t_w_is_group) := ⟨rfl, rfl, rfl, by decide +kernel, rfl, by decide +kernel, by decide +kernel⟩
theorem n_w_is_group_0 : Nm k_w_is_group 0 "_law_names_here" := nm_of (by decide +kernel)
theorem n_w_is_group_1 : Nm k_w_is_group 1 "_law_thing_here" := nm_of (by decide +kernel)
noncomputable def b_w_is_group (p : ((List Str) × PyData)) : M Unit (Fl Unit Empty Bool) :=
  (zseq (zifS (zor (znot (zget (isD "list") (ret p.2))) (zor (zop2 deqP (zgetP asQ (ret p.2)) (zget ((qL qI) : DaQ (rLst rInt)).d (zlist ((ret []) : M _ (List Int))))) (zop2 dneP (zget ((qL qQ) : DaQ (rLst rQ)).d (zlc (fun e1 => (znot (zapp (fun x => lft (m_w_is_name x)) (zget (qQ : DaQ rQ).d (ret e1))))) (fun e1 => (ret e1)) (zgetP asL (ret p.2)))) (zget ((qL qI) : DaQ (rLst rInt)).d (zlist ((ret []) : M _ (List Int)))))))
    (zrt (ret false))
    (znx ())) fun _ =>
  (zseq (zifS (zop2 dneP (zget ((qL qQ) : DaQ (rLst rQ)).d (zlc (fun e2 => (zop2 fnin (zgetP asS (ret e2)) (ret p.1))) (fun e2 => (ret e2)) (zgetP asL (ret p.2)))) (zget ((qL qI) : DaQ (rLst rInt)).d (zlist ((ret []) : M _ (List Int)))))
    (zrt (ret false))
    (znx ())) fun _ =>
  (zrt (zand (zop2 feq (zapp fnsetW (zgetP asLS (ret p.2))) (zapp flen (zgetP asL (ret p.2)))) (zop2 ilt (zapp flen (zgetP asL (ret p.2))) (zapp flen (ret p.1)))))))
noncomputable def m_w_is_group (p : ((List Str) × PyData)) : M Unit Bool := zbody (b_w_is_group p)
theorem f_w_is_group {G : Gx} {D : Cl} (T : Txt G D) {f : Addr} {fd : FuncData} (F : Fun G.K "_law_is_group" "_law_is_group" t_w_is_group f fd) : FnG false G.P G.w G.K G.mg G.base 2 f fd ["_law_names_here", "_law_thing_here"] (spZ G (fun _ : Unit => noE) (fun (q : Unit) (p : ((List Str) × PyData)) => [(rLst rStr).pr p.1, rX.pr p.2]) m_w_is_group rBl) :=
  fn_ok (g := false) (k := 1) (mb := b_w_is_group) (n := fun _ _ => stk) (Γn := fun _ _ _ => []) F sc_w_is_group (fun _ _ => rfl) (fun _ => rfl) (.inl fun _ _ => rfl) fun q p W =>
  show ZB G k_w_is_group _ W _ [.st ((rLst rStr).pr p.1), .st (rX.pr p.2), .no] _ (b_w_is_group p) _ from
  (zb_cons (zs_if (Γn := fun _ : Unit => [.st ((rLst rStr).pr p.1), .st (rX.pr p.2), .no]) (zw_t (zw_or (zt_not (zt_val (z_isiX (blt_of (u := .builtin "isinstance") T.b_isinstance (by decide +kernel)) (blt_of (u := .type "list") T.b_list (by decide +kernel)) (fun d => by cases d <;> rfl) (z_var n_w_is_group_1)))) (zw_or (zt_deqP (z_as (as_X (fun _ => rfl) as_Q) (z_var n_w_is_group_1)) (z_q (qL qI) (z_list zl_nil))) (zw_or1 (zt_dneP (z_q (qL qQ) (z_lc (Lc.mk (own := [("_law_one", 2)]) (blk_of rfl (by decide +kernel)) (zi_list (z_as (as_X (fun _ => rfl) as_L) (z_var n_w_is_group_1))) (zg_name (ns_of (i := 2) (by decide +kernel)) (by decide)) (fun e1 => (zts_one (zt_not (zt_val (z_callP (q := ()) (at_w_is_name T) (by decide) (by decide) (by exact rfl) (za_one (z_x qQ (z_var (nm_of (i := 2) (by decide +kernel)))))))))) (fun e1 => (z_var (nm_of (i := 2) (by decide +kernel)))) (lc_no ⟨rfl, trivial⟩) (fun _ _ => rfl)))) (z_q (qL qI) (z_list zl_nil)))))))
    (zb_one (zs_ret z_bl sub_nil))
    (zb_nil (SubL.sub (.keep (.keep (.keep SubL.nil))))) sub_nil) fun _ =>
  (zb_cons (zs_if (Γn := fun _ : Unit => [.st ((rLst rStr).pr p.1), .st (rX.pr p.2), .no]) (zt_dneP (z_q (qL qQ) (z_lc (Lc.mk (own := [("_law_one", 2)]) (blk_of rfl (by decide +kernel)) (zi_list (z_as (as_X (fun _ => rfl) as_L) (z_var n_w_is_group_1))) (zg_name (ns_of (i := 2) (by decide +kernel)) (by decide)) (fun e2 => (zts_one (zt_ninL inS (z_as as_S (z_var (nm_of (i := 2) (by decide +kernel)))) (z_var (nm_of (i := 0) (by decide +kernel)))))) (fun e2 => (z_var (nm_of (i := 2) (by decide +kernel)))) (lc_no ⟨rfl, trivial⟩) (fun _ _ => rfl)))) (z_q (qL qI) (z_list zl_nil)))
    (zb_one (zs_ret z_bl sub_nil))
    (zb_nil (SubL.sub (.keep (.keep (.keep SubL.nil))))) sub_nil) fun _ =>
  (zb_one (zs_ret (z_and (z_eq scI (z_lenSetW (by exact rfl) T.b_len (by exact rfl) T.b_set (z_as (as_X (fun _ => rfl) as_LS) (z_var n_w_is_group_1))) (z_lenL (blt_of (u := .builtin "len") T.b_len (by decide +kernel)) (z_as (as_X (fun _ => rfl) as_L) (z_var n_w_is_group_1)))) (z_one (z_lt (z_lenL (blt_of (u := .builtin "len") T.b_len (by decide +kernel)) (z_as (as_X (fun _ => rfl) as_L) (z_var n_w_is_group_1))) (z_lenL (blt_of (u := .builtin "len") T.b_len (by decide +kernel)) (z_var n_w_is_group_0))))) sub_nil))))
theorem at_w_is_group {G : Gx} {D : Cl} (T : Txt G D) : FnAt false G "_law_is_group" 2 ["_law_names_here", "_law_thing_here"] (spZ G (fun _ : Unit => noE) (fun (q : Unit) (p : ((List Str) × PyData)) => [(rLst rStr).pr p.1, rX.pr p.2]) m_w_is_group rBl) :=
  let ⟨f, fd, h1, h2, h3, h4⟩ := T.d_w_is_group; ⟨f, fd, h1, h2, h3, f_w_is_group T h4⟩

def k_w_due : Sc := ⟨["_law_names_here", "_law_thing_here", "_law_found"], defScope t_w_due, 2, true, fun _ => true, false⟩
theorem sc_w_due : FnScope ["_law_names_here", "_law_thing_here", "_law_found"] ["_law_names_here", "_law_thing_here"] (defScope t_w_due) := ⟨rfl, rfl, rfl, by decide +kernel, rfl, by decide +kernel, by decide +kernel⟩
theorem n_w_due_0 : Nm k_w_due 0 "_law_names_here" := nm_of (by decide +kernel)
theorem n_w_due_1 : Nm k_w_due 1 "_law_thing_here" := nm_of (by decide +kernel)
theorem n_w_due_2 : Nm k_w_due 2 "_law_found" := nm_of (by decide +kernel)
theorem s_w_due_2 : Ns k_w_due 2 "_law_found" := ns_of (by decide +kernel)
noncomputable def b_w_due (p : ((List Str) × PyData)) : M Unit (Fl Unit Empty (List Bool)) :=
  (zseq (zset (zlist (zcons (zapp (fun x => lft (m_w_within x)) (zpair (ret p.2) (zpair (zop1 ineg (zop2 ipow (ret (10 : Int)) (ret (60 : Int)))) (zop2 ipow (ret (10 : Int)) (ret (60 : Int)))))) (zcons (zapp (fun x => lft (m_w_is_name x)) (ret p.2)) (zcons (zapp (fun x => lft (m_w_within x)) (zpair (ret p.2) (zpair (ret (0 : Int)) (zop2 ipow (ret (10 : Int)) (ret (20 : Int)))))) (ret [])))))) fun found1 =>
  (zseq (zset (zop2 lcat (ret found1) (zlist (zcons (zapp (fun x => lft (m_w_within x)) (zpair (ret p.2) (zpair (ret (0 : Int)) (zop2 ipow (ret (10 : Int)) (ret (18 : Int)))))) (zcons (zapp (fun x => lft (m_w_within x)) (zpair (ret p.2) (zpair (zop1 ineg (zop2 ipow (ret (10 : Int)) (ret (12 : Int)))) (zop2 ipow (ret (10 : Int)) (ret (12 : Int)))))) (ret [])))))) fun found2 =>
  (zrt (zop2 lcat (ret found2) (zlist (zcons (zapp (fun x => lft (m_w_within x)) (zpair (ret p.2) (zpair (ret (0 : Int)) (ret (2000 : Int))))) (zcons (zapp (fun x => lft (m_w_is_group x)) (zpair (ret p.1) (ret p.2))) (ret []))))))))
noncomputable def m_w_due (p : ((List Str) × PyData)) : M Unit (List Bool) := zbody (b_w_due p)
theorem f_w_due {G : Gx} {D : Cl} (T : Txt G D) {f : Addr} {fd : FuncData} (F : Fun G.K "_law_due" "_law_due" t_w_due f fd) : FnG false G.P G.w G.K G.mg G.base 3 f fd ["_law_names_here", "_law_thing_here"] (spZ G (fun _ : Unit => noE) (fun (q : Unit) (p : ((List Str) × PyData)) => [(rLst rStr).pr p.1, rX.pr p.2]) m_w_due (rLst rBl)) :=
  fn_ok (g := false) (k := 2) (mb := b_w_due) (n := fun _ _ => stk) (Γn := fun _ _ _ => []) F sc_w_due (fun _ _ => rfl) (fun _ => rfl) (.inl fun _ _ => rfl) fun q p W =>
  show ZB G k_w_due _ W _ [.st ((rLst rStr).pr p.1), .st (rX.pr p.2), .no] _ (b_w_due p) _ from
  (zb_cons (zs_set s_w_due_2 (z_list (zl_cons (z_callP (q := ()) (at_w_within T) (by decide) (by decide) (by exact rfl) (za_cons (z_var n_w_due_1) (za_cons (z_neg (z_pow z_int z_int)) (za_one (z_pow z_int z_int))))) (zl_cons (z_callP (q := ()) (at_w_is_name T) (by decide) (by decide) (by exact rfl) (za_one (z_var n_w_due_1))) (zl_cons (z_callP (q := ()) (at_w_within T) (by decide) (by decide) (by exact rfl) (za_cons (z_var n_w_due_1) (za_cons z_int (za_one (z_pow z_int z_int))))) zl_nil)))) sub_nil) fun found1 =>
  (zb_cons (zs_set s_w_due_2 (z_catL (z_var n_w_due_2) (z_list (zl_cons (z_callP (q := ()) (at_w_within T) (by decide) (by decide) (by exact rfl) (za_cons (z_var n_w_due_1) (za_cons z_int (za_one (z_pow z_int z_int))))) (zl_cons (z_callP (q := ()) (at_w_within T) (by decide) (by decide) (by exact rfl) (za_cons (z_var n_w_due_1) (za_cons (z_neg (z_pow z_int z_int)) (za_one (z_pow z_int z_int))))) zl_nil)))) sub_nil) fun found2 =>
  (zb_one (zs_ret (z_catL (z_var n_w_due_2) (z_list (zl_cons (z_callP (q := ()) (at_w_within T) (by decide) (by decide) (by exact rfl) (za_cons (z_var n_w_due_1) (za_cons z_int (za_one z_int)))) (zl_cons (z_callP (q := ()) (at_w_is_group T) (by decide) (by decide) (by exact rfl) (za_cons (z_var n_w_due_0) (za_one (z_var n_w_due_1)))) zl_nil)))) sub_nil))))
theorem at_w_due {G : Gx} {D : Cl} (T : Txt G D) : FnAt false G "_law_due" 3 ["_law_names_here", "_law_thing_here"] (spZ G (fun _ : Unit => noE) (fun (q : Unit) (p : ((List Str) × PyData)) => [(rLst rStr).pr p.1, rX.pr p.2]) m_w_due (rLst rBl)) :=
  let ⟨f, fd, h1, h2, h3, h4⟩ := T.d_w_due; ⟨f, fd, h1, h2, h3, f_w_due T h4⟩

def k_is_whole : Sc := ⟨["thing"], defScope t_is_whole, 0, true, fun _ => true, false⟩
theorem sc_is_whole : FnScope ["thing"] ["thing"] (defScope t_is_whole) := ⟨rfl, rfl, rfl, by decide +kernel, rfl, by decide +kernel, by decide +kernel⟩
theorem n_is_whole_0 : Nm k_is_whole 0 "thing" := nm_of (by decide +kernel)
noncomputable def b_is_whole (p : PyData) : M Unit (Fl Unit Empty Bool) :=
  (zrt (zand (zget (isD "int") (ret p)) (znot (zget (isD "bool") (ret p)))))
noncomputable def m_is_whole (p : PyData) : M Unit Bool := zbody (b_is_whole p)
theorem f_is_whole {G : Gx} {D : Cl} (T : Txt G D) {f : Addr} {fd : FuncData} (F : Fun G.K "is_whole" "is_whole" t_is_whole f fd) : FnG false G.P G.w G.K G.mg G.base 1 f fd ["thing"] (spZ G (fun _ : Unit => noE) (fun (q : Unit) (p : PyData) => [rX.pr p]) m_is_whole rBl) :=
  fn_ok (g := false) (k := 0) (mb := b_is_whole) (n := fun _ _ => stk) (Γn := fun _ _ _ => []) F sc_is_whole (fun _ _ => rfl) (fun _ => rfl) (.inl fun _ _ => rfl) fun q p W =>
  show ZB G k_is_whole _ W _ [.st (rX.pr p)] _ (b_is_whole p) _ from
  (zb_one (zs_ret (z_and (z_isiX (blt_of (u := .builtin "isinstance") T.b_isinstance (by decide +kernel)) (blt_of (u := .type "int") T.b_int (by decide +kernel)) (fun d => by cases d <;> rfl) (z_var n_is_whole_0)) (z_one (z_not (z_isiX (blt_of (u := .builtin "isinstance") T.b_isinstance (by decide +kernel)) (blt_of (u := .type "bool") T.b_bool (by decide +kernel)) (fun d => by cases d <;> rfl) (z_var n_is_whole_0))))) sub_nil))
theorem at_is_whole {G : Gx} {D : Cl} (T : Txt G D) : FnAt false G "is_whole" 1 ["thing"] (spZ G (fun _ : Unit => noE) (fun (q : Unit) (p : PyData) => [rX.pr p]) m_is_whole rBl) :=
  let ⟨f, fd, h1, h2, h3, h4⟩ := T.d_is_whole; ⟨f, fd, h1, h2, h3, f_is_whole T h4⟩

def k_is_name : Sc := ⟨["thing", "sign"], defScope t_is_name, 0, true, fun _ => true, false⟩
theorem sc_is_name : FnScope ["thing", "sign"] ["thing"] (defScope t_is_name) := ⟨rfl, rfl, rfl, by decide +kernel, rfl, by decide +kernel, by decide +kernel⟩
theorem n_is_name_0 : Nm k_is_name 0 "thing" := nm_of (by decide +kernel)
noncomputable def b_is_name (p : PyData) : M Unit (Fl Unit Empty Bool) :=
  (zseq (zifS (zor (znot (zget (isD "str") (ret p))) (znot (zchain ile ile (ret (1 : Int)) (zapp flenS (zgetP asS (ret p))) (ret c_MOST_SIGNS))))
    (zrt (ret false))
    (znx ())) fun _ =>
  (zrt (zapp fall (zlc (fun e1 => (ret true)) (fun e1 => (zop2 sin_ (ret e1) (ret c_LETTERS))) (zapp fsigns (zgetP asS (ret p)))))))
noncomputable def m_is_name (p : PyData) : M Unit Bool := zbody (b_is_name p)
theorem f_is_name {G : Gx} {D : Cl} (T : Txt G D) {f : Addr} {fd : FuncData} (F : Fun G.K "is_name" "is_name" t_is_name f fd) : FnG false G.P G.w G.K G.mg G.base 1 f fd ["thing"] (spZ G (fun _ : Unit => noE) (fun (q : Unit) (p : PyData) => [rX.pr p]) m_is_name rBl) :=
  fn_ok (g := false) (k := 0) (mb := b_is_name) (n := fun _ _ => stk) (Γn := fun _ _ _ => []) F sc_is_name (fun _ _ => rfl) (fun _ => rfl) (.inl fun _ _ => rfl) fun q p W =>
  show ZB G k_is_name _ W _ [.st (rX.pr p), .no] _ (b_is_name p) _ from
  (zb_cons (zs_if (Γn := fun _ : Unit => [.st (rX.pr p), .no]) (zw_t (zw_or (zt_not (zt_val (z_isiX (blt_of (u := .builtin "isinstance") T.b_isinstance (by decide +kernel)) (blt_of (u := .type "str") T.b_str (by decide +kernel)) (fun d => by cases d <;> rfl) (z_var n_is_name_0)))) (zw_or1 (zt_not (zt_chI ci_le ci_le z_int (z_lenS (blt_of (u := .builtin "len") T.b_len (by decide +kernel)) (z_as (as_X (fun _ => rfl) as_S) (z_var n_is_name_0))) (z_gintE (by exact rfl) T.c_MOST_SIGNS))))))
    (zb_one (zs_ret z_bl sub_nil))
    (zb_nil (SubL.sub (.keep (.keep SubL.nil)))) sub_nil) fun _ =>
  (zb_one (zs_ret (z_all (blt_of (u := .builtin "all") T.b_all (by decide +kernel)) (z_lc (Lc.mk (own := [("sign", 1)]) (blk_of rfl (by decide +kernel)) (zi_str (z_as (as_X (fun _ => rfl) as_S) (z_var n_is_name_0))) (zg_name (ns_of (i := 1) (by decide +kernel)) (by decide)) (fun e1 => zts_nil) (fun e1 => (z_inS (z_var (nm_of (i := 1) (by decide +kernel))) (z_gstrE (by exact rfl) T.c_LETTERS))) (lc_no ⟨rfl, trivial⟩) (fun _ _ => rfl)))) sub_nil)))
theorem at_is_name {G : Gx} {D : Cl} (T : Txt G D) : FnAt false G "is_name" 1 ["thing"] (spZ G (fun _ : Unit => noE) (fun (q : Unit) (p : PyData) => [rX.pr p]) m_is_name rBl) :=
  let ⟨f, fd, h1, h2, h3, h4⟩ := T.d_is_name; ⟨f, fd, h1, h2, h3, f_is_name T h4⟩

def k_is_between : Sc := ⟨["thing", "low", "high"], defScope t_is_between, 1, true, fun _ => true, false⟩
theorem sc_is_between : FnScope ["thing", "low", "high"] ["thing", "low", "high"] (defScope t_is_between) := ⟨rfl, rfl, rfl, by decide +kernel, rfl, by decide +kernel, by decide +kernel⟩
theorem n_is_between_0 : Nm k_is_between 0 "thing" := nm_of (by decide +kernel)
theorem n_is_between_1 : Nm k_is_between 1 "low" := nm_of (by decide +kernel)
theorem n_is_between_2 : Nm k_is_between 2 "high" := nm_of (by decide +kernel)
noncomputable def b_is_between (p : (PyData × Int × Int)) : M Unit (Fl Unit Empty Bool) :=
  (zrt (zand (zapp (fun x => lft (m_is_whole x)) (ret p.1)) (zchain ile ile (ret p.2.1) (zgetP asI (ret p.1)) (ret p.2.2))))
noncomputable def m_is_between (p : (PyData × Int × Int)) : M Unit Bool := zbody (b_is_between p)
theorem f_is_between {G : Gx} {D : Cl} (T : Txt G D) {f : Addr} {fd : FuncData} (F : Fun G.K "is_between" "is_between" t_is_between f fd) : FnG false G.P G.w G.K G.mg G.base 2 f fd ["thing", "low", "high"] (spZ G (fun _ : Unit => noE) (fun (q : Unit) (p : (PyData × Int × Int)) => [rX.pr p.1, rInt.pr p.2.1, rInt.pr p.2.2]) m_is_between rBl) :=
  fn_ok (g := false) (k := 1) (mb := b_is_between) (n := fun _ _ => stk) (Γn := fun _ _ _ => []) F sc_is_between (fun _ _ => rfl) (fun _ => rfl) (.inl fun _ _ => rfl) fun q p W =>
  show ZB G k_is_between _ W _ [.st (rX.pr p.1), .st (rInt.pr p.2.1), .st (rInt.pr p.2.2)] _ (b_is_between p) _ from
  (zb_one (zs_ret (z_and (z_callP (q := ()) (at_is_whole T) (by decide) (by decide) (by exact rfl) (za_one (z_var n_is_between_0))) (z_one (z_chI ci_le ci_le (z_var n_is_between_1) (z_as (as_X (fun _ => rfl) as_I) (z_var n_is_between_0)) (z_var n_is_between_2)))) sub_nil))
theorem at_is_between {G : Gx} {D : Cl} (T : Txt G D) : FnAt false G "is_between" 2 ["thing", "low", "high"] (spZ G (fun _ : Unit => noE) (fun (q : Unit) (p : (PyData × Int × Int)) => [rX.pr p.1, rInt.pr p.2.1, rInt.pr p.2.2]) m_is_between rBl) :=
  let ⟨f, fd, h1, h2, h3, h4⟩ := T.d_is_between; ⟨f, fd, h1, h2, h3, f_is_between T h4⟩

def k_is_price : Sc := ⟨["thing"], defScope t_is_price, 2, true, fun _ => true, false⟩
theorem sc_is_price : FnScope ["thing"] ["thing"] (defScope t_is_price) := ⟨rfl, rfl, rfl, by decide +kernel, rfl, by decide +kernel, by decide +kernel⟩
theorem n_is_price_0 : Nm k_is_price 0 "thing" := nm_of (by decide +kernel)
noncomputable def b_is_price (p : PyData) : M Unit (Fl Unit Empty Bool) :=
  (zrt (zapp (fun x => lft (m_is_between x)) (zpair (ret p) (zpair (ret (0 : Int)) (ret c_MOST_PRICE)))))
noncomputable def m_is_price (p : PyData) : M Unit Bool := zbody (b_is_price p)
theorem f_is_price {G : Gx} {D : Cl} (T : Txt G D) {f : Addr} {fd : FuncData} (F : Fun G.K "is_price" "is_price" t_is_price f fd) : FnG false G.P G.w G.K G.mg G.base 3 f fd ["thing"] (spZ G (fun _ : Unit => noE) (fun (q : Unit) (p : PyData) => [rX.pr p]) m_is_price rBl) :=
  fn_ok (g := false) (k := 2) (mb := b_is_price) (n := fun _ _ => stk) (Γn := fun _ _ _ => []) F sc_is_price (fun _ _ => rfl) (fun _ => rfl) (.inl fun _ _ => rfl) fun q p W =>
  show ZB G k_is_price _ W _ [.st (rX.pr p)] _ (b_is_price p) _ from
  (zb_one (zs_ret (z_callP (q := ()) (at_is_between T) (by decide) (by decide) (by exact rfl) (za_cons (z_var n_is_price_0) (za_cons z_int (za_one (z_gintE (by exact rfl) T.c_MOST_PRICE))))) sub_nil))
theorem at_is_price {G : Gx} {D : Cl} (T : Txt G D) : FnAt false G "is_price" 3 ["thing"] (spZ G (fun _ : Unit => noE) (fun (q : Unit) (p : PyData) => [rX.pr p]) m_is_price rBl) :=
  let ⟨f, fd, h1, h2, h3, h4⟩ := T.d_is_price; ⟨f, fd, h1, h2, h3, f_is_price T h4⟩

def k_are_coins : Sc := ⟨["thing"], defScope t_are_coins, 2, true, fun _ => true, false⟩
theorem sc_are_coins : FnScope ["thing"] ["thing"] (defScope t_are_coins) := ⟨rfl, rfl, rfl, by decide +kernel, rfl, by decide +kernel, by decide +kernel⟩
theorem n_are_coins_0 : Nm k_are_coins 0 "thing" := nm_of (by decide +kernel)
noncomputable def b_are_coins (p : PyData) : M Unit (Fl Unit Empty Bool) :=
  (zrt (zapp (fun x => lft (m_is_between x)) (zpair (ret p) (zpair (ret (0 : Int)) (ret c_MOST_COINS)))))
noncomputable def m_are_coins (p : PyData) : M Unit Bool := zbody (b_are_coins p)
theorem f_are_coins {G : Gx} {D : Cl} (T : Txt G D) {f : Addr} {fd : FuncData} (F : Fun G.K "are_coins" "are_coins" t_are_coins f fd) : FnG false G.P G.w G.K G.mg G.base 3 f fd ["thing"] (spZ G (fun _ : Unit => noE) (fun (q : Unit) (p : PyData) => [rX.pr p]) m_are_coins rBl) :=
  fn_ok (g := false) (k := 2) (mb := b_are_coins) (n := fun _ _ => stk) (Γn := fun _ _ _ => []) F sc_are_coins (fun _ _ => rfl) (fun _ => rfl) (.inl fun _ _ => rfl) fun q p W =>
  show ZB G k_are_coins _ W _ [.st (rX.pr p)] _ (b_are_coins p) _ from
  (zb_one (zs_ret (z_callP (q := ()) (at_is_between T) (by decide) (by decide) (by exact rfl) (za_cons (z_var n_are_coins_0) (za_cons z_int (za_one (z_gintE (by exact rfl) T.c_MOST_COINS))))) sub_nil))
theorem at_are_coins {G : Gx} {D : Cl} (T : Txt G D) : FnAt false G "are_coins" 3 ["thing"] (spZ G (fun _ : Unit => noE) (fun (q : Unit) (p : PyData) => [rX.pr p]) m_are_coins rBl) :=
  let ⟨f, fd, h1, h2, h3, h4⟩ := T.d_are_coins; ⟨f, fd, h1, h2, h3, f_are_coins T h4⟩

def k_is_place : Sc := ⟨["thing"], defScope t_is_place, 2, true, fun _ => true, false⟩
theorem sc_is_place : FnScope ["thing"] ["thing"] (defScope t_is_place) := ⟨rfl, rfl, rfl, by decide +kernel, rfl, by decide +kernel, by decide +kernel⟩
theorem n_is_place_0 : Nm k_is_place 0 "thing" := nm_of (by decide +kernel)
noncomputable def b_is_place (p : PyData) : M Unit (Fl Unit Empty Bool) :=
  (zrt (zapp (fun x => lft (m_is_between x)) (zpair (ret p) (zpair (zop2 isub (ret (0 : Int)) (ret c_MOST_PLACE)) (ret c_MOST_PLACE)))))
noncomputable def m_is_place (p : PyData) : M Unit Bool := zbody (b_is_place p)
theorem f_is_place {G : Gx} {D : Cl} (T : Txt G D) {f : Addr} {fd : FuncData} (F : Fun G.K "is_place" "is_place" t_is_place f fd) : FnG false G.P G.w G.K G.mg G.base 3 f fd ["thing"] (spZ G (fun _ : Unit => noE) (fun (q : Unit) (p : PyData) => [rX.pr p]) m_is_place rBl) :=
  fn_ok (g := false) (k := 2) (mb := b_is_place) (n := fun _ _ => stk) (Γn := fun _ _ _ => []) F sc_is_place (fun _ _ => rfl) (fun _ => rfl) (.inl fun _ _ => rfl) fun q p W =>
  show ZB G k_is_place _ W _ [.st (rX.pr p)] _ (b_is_place p) _ from
  (zb_one (zs_ret (z_callP (q := ()) (at_is_between T) (by decide) (by decide) (by exact rfl) (za_cons (z_var n_is_place_0) (za_cons (z_sub z_int (z_gintE (by exact rfl) T.c_MOST_PLACE)) (za_one (z_gintE (by exact rfl) T.c_MOST_PLACE))))) sub_nil))
theorem at_is_place {G : Gx} {D : Cl} (T : Txt G D) : FnAt false G "is_place" 3 ["thing"] (spZ G (fun _ : Unit => noE) (fun (q : Unit) (p : PyData) => [rX.pr p]) m_is_place rBl) :=
  let ⟨f, fd, h1, h2, h3, h4⟩ := T.d_is_place; ⟨f, fd, h1, h2, h3, f_is_place T h4⟩

def k_are_beats : Sc := ⟨["thing"], defScope t_are_beats, 2, true, fun _ => true, false⟩
theorem sc_are_beats : FnScope ["thing"] ["thing"] (defScope t_are_beats) := ⟨rfl, rfl, rfl, by decide +kernel, rfl, by decide +kernel, by decide +kernel⟩
theorem n_are_beats_0 : Nm k_are_beats 0 "thing" := nm_of (by decide +kernel)
noncomputable def b_are_beats (p : PyData) : M Unit (Fl Unit Empty Bool) :=
  (zrt (zapp (fun x => lft (m_is_between x)) (zpair (ret p) (zpair (ret (0 : Int)) (ret c_MOST_BEATS)))))
noncomputable def m_are_beats (p : PyData) : M Unit Bool := zbody (b_are_beats p)
theorem f_are_beats {G : Gx} {D : Cl} (T : Txt G D) {f : Addr} {fd : FuncData} (F : Fun G.K "are_beats" "are_beats" t_are_beats f fd) : FnG false G.P G.w G.K G.mg G.base 3 f fd ["thing"] (spZ G (fun _ : Unit => noE) (fun (q : Unit) (p : PyData) => [rX.pr p]) m_are_beats rBl) :=
  fn_ok (g := false) (k := 2) (mb := b_are_beats) (n := fun _ _ => stk) (Γn := fun _ _ _ => []) F sc_are_beats (fun _ _ => rfl) (fun _ => rfl) (.inl fun _ _ => rfl) fun q p W =>
  show ZB G k_are_beats _ W _ [.st (rX.pr p)] _ (b_are_beats p) _ from
  (zb_one (zs_ret (z_callP (q := ()) (at_is_between T) (by decide) (by decide) (by exact rfl) (za_cons (z_var n_are_beats_0) (za_cons z_int (za_one (z_gintE (by exact rfl) T.c_MOST_BEATS))))) sub_nil))
theorem at_are_beats {G : Gx} {D : Cl} (T : Txt G D) : FnAt false G "are_beats" 3 ["thing"] (spZ G (fun _ : Unit => noE) (fun (q : Unit) (p : PyData) => [rX.pr p]) m_are_beats rBl) :=
  let ⟨f, fd, h1, h2, h3, h4⟩ := T.d_are_beats; ⟨f, fd, h1, h2, h3, f_are_beats T h4⟩

def k_are_unlike : Sc := ⟨["names"], defScope t_are_unlike, 0, true, fun _ => true, false⟩
theorem sc_are_unlike : FnScope ["names"] ["names"] (defScope t_are_unlike) := ⟨rfl, rfl, rfl, by decide +kernel, rfl, by decide +kernel, by decide +kernel⟩
theorem n_are_unlike_0 : Nm k_are_unlike 0 "names" := nm_of (by decide +kernel)
noncomputable def b_are_unlike (p : (List PyData)) : M Unit (Fl Unit Empty Bool) :=
  (zrt (zop2 feq (zapp fnsetW (zgetP strsOf (ret p))) (zapp flen (ret p))))
noncomputable def m_are_unlike (p : (List PyData)) : M Unit Bool := zbody (b_are_unlike p)
theorem f_are_unlike {G : Gx} {D : Cl} (T : Txt G D) {f : Addr} {fd : FuncData} (F : Fun G.K "are_unlike" "are_unlike" t_are_unlike f fd) : FnG false G.P G.w G.K G.mg G.base 1 f fd ["names"] (spZ G (fun _ : Unit => noE) (fun (q : Unit) (p : (List PyData)) => [(rLst rQ).pr p]) m_are_unlike rBl) :=
  fn_ok (g := false) (k := 0) (mb := b_are_unlike) (n := fun _ _ => stk) (Γn := fun _ _ _ => []) F sc_are_unlike (fun _ _ => rfl) (fun _ => rfl) (.inl fun _ _ => rfl) fun q p W =>
  show ZB G k_are_unlike _ W _ [.st ((rLst rQ).pr p)] _ (b_are_unlike p) _ from
  (zb_one (zs_ret (z_eq scI (z_lenSetW (by exact rfl) T.b_len (by exact rfl) T.b_set (z_lsOf (z_var n_are_unlike_0))) (z_lenL (blt_of (u := .builtin "len") T.b_len (by decide +kernel)) (z_var n_are_unlike_0))) sub_nil))
theorem at_are_unlike {G : Gx} {D : Cl} (T : Txt G D) : FnAt false G "are_unlike" 1 ["names"] (spZ G (fun _ : Unit => noE) (fun (q : Unit) (p : (List PyData)) => [(rLst rQ).pr p]) m_are_unlike rBl) :=
  let ⟨f, fd, h1, h2, h3, h4⟩ := T.d_are_unlike; ⟨f, fd, h1, h2, h3, f_are_unlike T h4⟩

def k_is_group : Sc := ⟨["names", "thing", "one"], defScope t_is_group, 1, true, fun _ => true, false⟩
theorem sc_is_group : FnScope ["names", "thing", "one"] ["names", "thing"] (defScope t_is_group) := ⟨rfl, rfl, rfl, by decide +kernel, rfl, by decide +kernel, by decide +kernel⟩
theorem n_is_group_0 : Nm k_is_group 0 "names" := nm_of (by decide +kernel)
theorem n_is_group_1 : Nm k_is_group 1 "thing" := nm_of (by decide +kernel)
noncomputable def b_is_group (p : ((List Str) × PyData)) : M Unit (Fl Unit Empty Bool) :=
  (zseq (zifS (zor (znot (zget (isD "list") (ret p.2))) (znot (zchain ile ilt (ret (1 : Int)) (zapp flen (zgetP asL (ret p.2))) (zapp flen (ret p.1)))))
    (zrt (ret false))
    (znx ())) fun _ =>
  (zrt (zand (zapp fall (zlc (fun e1 => (ret true)) (fun e1 => (zand (zapp (fun x => lft (m_is_name x)) (zget (qQ : DaQ rQ).d (ret e1))) (zop2 fin_ (zgetP asS (ret e1)) (ret p.1)))) (zgetP asL (ret p.2)))) (zapp (fun x => lft (m_are_unlike x)) (zgetP asL (ret p.2))))))
noncomputable def m_is_group (p : ((List Str) × PyData)) : M Unit Bool := zbody (b_is_group p)
theorem f_is_group {G : Gx} {D : Cl} (T : Txt G D) {f : Addr} {fd : FuncData} (F : Fun G.K "is_group" "is_group" t_is_group f fd) : FnG false G.P G.w G.K G.mg G.base 2 f fd ["names", "thing"] (spZ G (fun _ : Unit => noE) (fun (q : Unit) (p : ((List Str) × PyData)) => [(rLst rStr).pr p.1, rX.pr p.2]) m_is_group rBl) :=
  fn_ok (g := false) (k := 1) (mb := b_is_group) (n := fun _ _ => stk) (Γn := fun _ _ _ => []) F sc_is_group (fun _ _ => rfl) (fun _ => rfl) (.inl fun _ _ => rfl) fun q p W =>
  show ZB G k_is_group _ W _ [.st ((rLst rStr).pr p.1), .st (rX.pr p.2), .no] _ (b_is_group p) _ from
  (zb_cons (zs_if (Γn := fun _ : Unit => [.st ((rLst rStr).pr p.1), .st (rX.pr p.2), .no]) (zw_t (zw_or (zt_not (zt_val (z_isiX (blt_of (u := .builtin "isinstance") T.b_isinstance (by decide +kernel)) (blt_of (u := .type "list") T.b_list (by decide +kernel)) (fun d => by cases d <;> rfl) (z_var n_is_group_1)))) (zw_or1 (zt_not (zt_chI ci_le ci_lt z_int (z_lenL (blt_of (u := .builtin "len") T.b_len (by decide +kernel)) (z_as (as_X (fun _ => rfl) as_L) (z_var n_is_group_1))) (z_lenL (blt_of (u := .builtin "len") T.b_len (by decide +kernel)) (z_var n_is_group_0)))))))
    (zb_one (zs_ret z_bl sub_nil))
    (zb_nil (SubL.sub (.keep (.keep (.keep SubL.nil))))) sub_nil) fun _ =>
  (zb_one (zs_ret (z_and (z_all (blt_of (u := .builtin "all") T.b_all (by decide +kernel)) (z_lc (Lc.mk (own := [("one", 2)]) (blk_of rfl (by decide +kernel)) (zi_list (z_as (as_X (fun _ => rfl) as_L) (z_var n_is_group_1))) (zg_name (ns_of (i := 2) (by decide +kernel)) (by decide)) (fun e1 => zts_nil) (fun e1 => (z_and (z_callP (q := ()) (at_is_name T) (by decide) (by decide) (by exact rfl) (za_one (z_x qQ (z_var (nm_of (i := 2) (by decide +kernel)))))) (z_one (z_inL inS (z_as as_S (z_var (nm_of (i := 2) (by decide +kernel)))) (z_var (nm_of (i := 0) (by decide +kernel))))))) (lc_no ⟨rfl, trivial⟩) (fun _ _ => rfl)))) (z_one (z_callP (q := ()) (at_are_unlike T) (by decide) (by decide) (by exact rfl) (za_one (z_as (as_X (fun _ => rfl) as_L) (z_var n_is_group_1)))))) sub_nil)))
theorem at_is_group {G : Gx} {D : Cl} (T : Txt G D) : FnAt false G "is_group" 2 ["names", "thing"] (spZ G (fun _ : Unit => noE) (fun (q : Unit) (p : ((List Str) × PyData)) => [(rLst rStr).pr p.1, rX.pr p.2]) m_is_group rBl) :=
  let ⟨f, fd, h1, h2, h3, h4⟩ := T.d_is_group; ⟨f, fd, h1, h2, h3, f_is_group T h4⟩

def k_w_asked : Sc := ⟨["_law_names_here", "_law_thing_here", "_law_found"], defScope t_w_asked, 3, true, fun _ => true, false⟩
theorem sc_w_asked : FnScope ["_law_names_here", "_law_thing_here", "_law_found"] ["_law_names_here", "_law_thing_here"] (defScope t_w_asked) := ⟨rfl, rfl, rfl, by decide +kernel, rfl, by decide +kernel, by decide +kernel⟩
theorem n_w_asked_0 : Nm k_w_asked 0 "_law_names_here" := nm_of (by decide +kernel)
theorem n_w_asked_1 : Nm k_w_asked 1 "_law_thing_here" := nm_of (by decide +kernel)
theorem n_w_asked_2 : Nm k_w_asked 2 "_law_found" := nm_of (by decide +kernel)
theorem s_w_asked_2 : Ns k_w_asked 2 "_law_found" := ns_of (by decide +kernel)
noncomputable def b_w_asked (p : ((List Str) × PyData)) : M Unit (Fl Unit Empty (List Bool)) :=
  (zseq (zset (zlist (zcons (zapp (fun x => lft (m_is_whole x)) (ret p.2)) (zcons (zapp (fun x => lft (m_is_name x)) (ret p.2)) (zcons (zapp (fun x => lft (m_is_price x)) (ret p.2)) (zcons (zapp (fun x => lft (m_are_coins x)) (ret p.2)) (zcons (zapp (fun x => lft (m_is_place x)) (ret p.2)) (zcons (zapp (fun x => lft (m_are_beats x)) (ret p.2)) (ret []))))))))) fun found1 =>
  (zrt (zop2 lcat (ret found1) (zlist (zcons (zapp (fun x => lft (m_is_group x)) (zpair (ret p.1) (ret p.2))) (ret []))))))
noncomputable def m_w_asked (p : ((List Str) × PyData)) : M Unit (List Bool) := zbody (b_w_asked p)
theorem f_w_asked {G : Gx} {D : Cl} (T : Txt G D) {f : Addr} {fd : FuncData} (F : Fun G.K "_law_asked" "_law_asked" t_w_asked f fd) : FnG false G.P G.w G.K G.mg G.base 4 f fd ["_law_names_here", "_law_thing_here"] (spZ G (fun _ : Unit => noE) (fun (q : Unit) (p : ((List Str) × PyData)) => [(rLst rStr).pr p.1, rX.pr p.2]) m_w_asked (rLst rBl)) :=
  fn_ok (g := false) (k := 3) (mb := b_w_asked) (n := fun _ _ => stk) (Γn := fun _ _ _ => []) F sc_w_asked (fun _ _ => rfl) (fun _ => rfl) (.inl fun _ _ => rfl) fun q p W =>
  show ZB G k_w_asked _ W _ [.st ((rLst rStr).pr p.1), .st (rX.pr p.2), .no] _ (b_w_asked p) _ from
  (zb_cons (zs_set s_w_asked_2 (z_list (zl_cons (z_callP (q := ()) (at_is_whole T) (by decide) (by decide) (by exact rfl) (za_one (z_var n_w_asked_1))) (zl_cons (z_callP (q := ()) (at_is_name T) (by decide) (by decide) (by exact rfl) (za_one (z_var n_w_asked_1))) (zl_cons (z_callP (q := ()) (at_is_price T) (by decide) (by decide) (by exact rfl) (za_one (z_var n_w_asked_1))) (zl_cons (z_callP (q := ()) (at_are_coins T) (by decide) (by decide) (by exact rfl) (za_one (z_var n_w_asked_1))) (zl_cons (z_callP (q := ()) (at_is_place T) (by decide) (by decide) (by exact rfl) (za_one (z_var n_w_asked_1))) (zl_cons (z_callP (q := ()) (at_are_beats T) (by decide) (by decide) (by exact rfl) (za_one (z_var n_w_asked_1))) zl_nil))))))) sub_nil) fun found1 =>
  (zb_one (zs_ret (z_catL (z_var n_w_asked_2) (z_list (zl_cons (z_callP (q := ()) (at_is_group T) (by decide) (by decide) (by exact rfl) (za_cons (z_var n_w_asked_0) (za_one (z_var n_w_asked_1)))) zl_nil))) sub_nil)))
theorem at_w_asked {G : Gx} {D : Cl} (T : Txt G D) : FnAt false G "_law_asked" 4 ["_law_names_here", "_law_thing_here"] (spZ G (fun _ : Unit => noE) (fun (q : Unit) (p : ((List Str) × PyData)) => [(rLst rStr).pr p.1, rX.pr p.2]) m_w_asked (rLst rBl)) :=
  let ⟨f, fd, h1, h2, h3, h4⟩ := T.d_w_asked; ⟨f, fd, h1, h2, h3, f_w_asked T h4⟩

def k_law : Sc := ⟨["_law_script", "_law_bag_here", "_law_k", "_law_names_here", "_law_thing_here", "_law_due_here", "_law_turn", "_law_handed", "_law_shown"], defScope t_law, 4, true, fun _ => true, true⟩
theorem sc_law : FnScope ["_law_script", "_law_bag_here", "_law_k", "_law_names_here", "_law_thing_here", "_law_due_here", "_law_turn", "_law_handed", "_law_shown"] ["_law_script"] (defScope t_law) := ⟨rfl, rfl, rfl, by decide +kernel, rfl, by decide +kernel, by decide +kernel⟩
theorem n_law_0 : Nm k_law 0 "_law_script" := nm_of (by decide +kernel)
theorem n_law_1 : Nm k_law 1 "_law_bag_here" := nm_of (by decide +kernel)
theorem s_law_1 : Ns k_law 1 "_law_bag_here" := ns_of (by decide +kernel)
theorem s_law_2 : Ns k_law 2 "_law_k" := ns_of (by decide +kernel)
theorem n_law_3 : Nm k_law 3 "_law_names_here" := nm_of (by decide +kernel)
theorem s_law_3 : Ns k_law 3 "_law_names_here" := ns_of (by decide +kernel)
theorem n_law_4 : Nm k_law 4 "_law_thing_here" := nm_of (by decide +kernel)
theorem s_law_4 : Ns k_law 4 "_law_thing_here" := ns_of (by decide +kernel)
theorem n_law_5 : Nm k_law 5 "_law_due_here" := nm_of (by decide +kernel)
theorem s_law_5 : Ns k_law 5 "_law_due_here" := ns_of (by decide +kernel)
theorem s_law_6 : Ns k_law 6 "_law_turn" := ns_of (by decide +kernel)
theorem n_law_7 : Nm k_law 7 "_law_handed" := nm_of (by decide +kernel)
theorem s_law_7 : Ns k_law 7 "_law_handed" := ns_of (by decide +kernel)
theorem n_law_8 : Nm k_law 8 "_law_shown" := nm_of (by decide +kernel)
theorem s_law_8 : Ns k_law 8 "_law_shown" := ns_of (by decide +kernel)
noncomputable def r_law (p : List Int) : M Bag (Fl Unit Empty Bool) :=
  (zseq (zforI (zapp frA1 (ret (24 : Int))) () fun _ x1 =>
    (zseq (zset (zapp m_w_names (zpair (ret ()) (zop2 iadd (ret (1 : Int)) (zapp m_w_take (zpair (ret ()) (ret (6 : Int)))))))) fun nameshere2 =>
    (zseq (zset (zapp m_w_thing (zpair (ret ()) (ret nameshere2)))) fun thinghere3 =>
    (zseq (zset (zpair (zapp ret (ret nameshere2)) (zapp freprQ (ret thinghere3)))) fun w4 =>
    (zseq (zset (zapp (fun x => lft (m_w_due x)) (zpair (ret nameshere2) (ret thinghere3)))) fun duehere5 =>
    (zseq (zforI (zapp frA1 (ret (2 : Int))) () fun _ x6 =>
      (zseq (zifS (zor (zop2 fne (zapp (frepr (datL datB)) (zapp (fun x => lft (m_w_asked x)) (zpair (ret w4.1) (ret thinghere3)))) (zapp (frepr (datL datB)) (ret duehere5))) (zor (zop2 (dne (datL datS)) (ret w4.1) (ret nameshere2)) (zop2 fne (zapp freprQ (ret thinghere3)) (ret w4.2))))
        (zrt (ret false))
        (znx ())) fun _ =>
      (znx ()))) fun _ =>
    (znx ()))))))) fun _ =>
  (zrt (ret true)))
noncomputable def m_law (p : List Int) : M Unit Bool := zbody (zbag w_cells p (r_law p))
theorem f_law {G : Gx} {D : Cl} (T : Txt G D) {f : Addr} {fd : FuncData} (F : Fun G.K "law" "law" t_law f fd) : FnG true G.P G.w G.K G.mg G.base 5 f fd ["_law_script"] (spZ G (fun _ : Unit => noE) (fun (q : Unit) (p : List Int) => [(rSc G.K rInt).pr p]) m_law rBl) :=
  fn_ok (g := true) (k := 4) (mb := fun p => zbag w_cells p (r_law p)) (Γn := fun _ _ _ => []) F sc_law (fun _ _ => rfl) (fun _ => rfl) (.inl fun _ _ => rfl) fun q p W =>
  zb_bag (c := k_law) (at_w_bag T) (by decide) (by decide) rfl n_law_0 rfl s_law_1 fun q1 q2 =>
  show ZB G k_law _ W _ [.st ((rSc G.K rInt).pr p), .st ((rRef q1).pr ()), .no, .no, .no, .no, .no, .no, .no] _ (r_law p) _ from
  (zb_cons (zs_for (vs := [2]) (Γh := fun _ : Unit => [.st ((rSc G.K rInt).pr p), .st ((rRef q1).pr ()), .no, .no, .no, .no, .no, .no, .no]) (zi_r1 (blt_of (u := .type "range") T.b_range (by decide +kernel)) z_int) (SubL.sub (.keep (.keep (.keep (.keep (.keep (.keep (.keep (.keep (.keep SubL.nil)))))))))) (fun _ => (zg_name s_law_2 (by decide))) (fun _ x1 =>
    (zb_cons (zs_set s_law_3 (z_call (q := (q1, q2)) (at_w_names T) rfl (by decide) (by decide) (by exact rfl) (za_cons (z_var n_law_1) (za_one (z_add z_int (z_call (q := (q1, q2)) (at_w_take T) rfl (by decide) (by decide) (by exact rfl) (za_cons (z_var n_law_1) (za_one z_int))))))) sub_nil) fun nameshere2 =>
    (zb_cons (zs_set s_law_4 (z_call (q := (q1, q2)) (at_w_thing T) rfl (by decide) (by decide) (by exact rfl) (za_cons (z_var n_law_1) (za_one (z_var n_law_3)))) sub_nil) fun thinghere3 =>
    (zb_cons (zs_par2 s_law_7.n s_law_8.n rfl rfl (by decide) (za_cons (z_listL (blt_of (u := .type "list") T.b_list (by decide +kernel)) (z_var n_law_3)) (za_one (z_reprQ rfl (blt_of (u := .builtin "repr") T.b_repr (by decide +kernel)) (z_var n_law_4)))) sub_nil) fun w4 =>
    (zb_eq (Γ' := [.st ((rSc G.K rInt).pr p), .st ((rRef q1).pr ()), .st (rInt.pr x1), .st ((rLst rStr).pr nameshere2), .st (rX.pr thinghere3), .no, .no, .st ((rLst rStr).pr w4.1), .st (rStr.pr w4.2)]) rfl (zb_cons (zs_set s_law_5 (z_callP (q := ()) (at_w_due T) (by decide) (by decide) (by exact rfl) (za_cons (z_var n_law_3) (za_one (z_var n_law_4)))) sub_nil) fun duehere5 =>
    (zb_cons (zs_for (vs := [6]) (Γh := fun _ : Unit => [.st ((rSc G.K rInt).pr p), .st ((rRef q1).pr ()), .st (rInt.pr x1), .st ((rLst rStr).pr nameshere2), .st (rX.pr thinghere3), .st ((rLst rBl).pr duehere5), .no, .st ((rLst rStr).pr w4.1), .st (rStr.pr w4.2)]) (zi_r1 (blt_of (u := .type "range") T.b_range (by decide +kernel)) z_int) (SubL.sub (.keep (.keep (.keep (.keep (.keep (.keep (.keep (.keep (.keep SubL.nil)))))))))) (fun _ => (zg_name s_law_6 (by decide))) (fun _ x6 =>
      (zb_cons (zs_if (Γn := fun _ : Unit => [.st ((rSc G.K rInt).pr p), .st ((rRef q1).pr ()), .st (rInt.pr x1), .st ((rLst rStr).pr nameshere2), .st (rX.pr thinghere3), .st ((rLst rBl).pr duehere5), .st (rInt.pr x6), .st ((rLst rStr).pr w4.1), .st (rStr.pr w4.2)]) (zw_t (zw_or (zt_ne scS (z_repr (datL datB) rfL rfl (blt_of (u := .builtin "repr") T.b_repr (by decide +kernel)) (z_callP (q := ()) (at_w_asked T) (by decide) (by decide) (by exact rfl) (za_cons (z_var n_law_7) (za_one (z_var n_law_4))))) (z_repr (datL datB) rfL rfl (blt_of (u := .builtin "repr") T.b_repr (by decide +kernel)) (z_var n_law_5))) (zw_or (zt_dne (datL datS) (z_var n_law_7) (z_var n_law_3)) (zw_or1 (zt_ne scS (z_reprQ rfl (blt_of (u := .builtin "repr") T.b_repr (by decide +kernel)) (z_var n_law_4)) (z_var n_law_8))))))
        (zb_one (zs_ret z_bl sub_nil))
        (zb_nil (SubL.sub (.keep (.keep (.keep (.keep (.keep (.keep (.keep (.keep (.keep SubL.nil))))))))))) sub_nil) fun _ =>
      (zb_nil (SubL.sub (.keep (.keep (.keep (.keep (.keep (.keep (.drop (.keep (.keep SubL.nil))))))))))))) sub_nil) fun _ =>
    (zb_nil (SubL.sub (.keep (.keep (.drop (.drop (.drop (.drop (.keep (.drop (.drop SubL.nil)))))))))))))))))) sub_nil) fun _ =>
  (zb_one (zs_ret z_bl sub_nil)))
end Zk

namespace Zk
open PySem L2
theorem ok_cellat {n : M Bag Int} : Ok Bok (zifS (zop2 ilt (bget Bag.pos) (zapp blen (ret ()))) (zseq (zset (bcell (ret ()) (bget Bag.pos))) fun c => znx c) (znx (0 : Int)) : M Bag (Fl Int Empty Int)) (fun o => match o with | .nx v => 0 ≤ v | _ => False) := fun s hs => by
  obtain ⟨h1, h2, h3, h4⟩ := id hs
  by_cases hp : s.pos < s.cells.length
  · have e : atI s.cells s.pos = some (s.cells[s.pos.toNat]'(by omega)) := atI_nat h3 (by omega)
    refine ⟨.nx _, s, ?_, hs, h4 _ (List.getElem_mem (by omega : s.pos.toNat < s.cells.length))⟩
    simp only [zifS, zop2, bnd, bget, zapp, ret, blen, ilt, hp, decide_true, if_true, zseq, zset, bcell, e, znx]
  · refine ⟨.nx 0, s, ?_, hs, Int.le_refl 0⟩
    simp only [zifS, zop2, bnd, bget, zapp, ret, blen, ilt, hp, decide_false, znx]
    rfl
theorem ok_take {n : Int} (h1 : 1 ≤ n) (h2 : n < 2 ^ 9000) : Ok Bok (m_w_take ((), n)) (fun v => 0 ≤ v ∧ v < n) := by
  unfold m_w_take b_w_take
  refine ok_body ?_
  refine oks_seq (N := fun _ => True) (oks_if (P := fun _ => True) (ok_op2 (P1 := fun _ => True) (P2 := fun _ => True) (ok_bget fun _ _ => trivial) (ok_ret trivial) fun a b _ _ => ok_ret trivial) (fun _ => ?_) (fun _ => oks_nx trivial)) fun _ _ => ?_
  · refine oks_seq (N := fun v => v = 0) (oks_set (ok_ret rfl)) fun c hc => ?_
    subst hc
    refine oks_seq (N := fun v => 0 ≤ v) (fun s hs => ?_) fun j hj => ?_
    · obtain ⟨o, s', e, i, p⟩ := ok_cellat (n := ret 0) s hs
      cases o with
      | nx a => exact ⟨_, _, e, i, p⟩
      | rt a => exact p.elim
      | bk a => exact p.elim
      | ct a => exact p.elim
    refine oks_seq (oks_bput (P := fun v => 0 ≤ v) (ok_op2 (P1 := fun v => 0 ≤ v) (P2 := fun v => v = 1) (ok_bget fun s hs => hs.2.2.1) (ok_ret rfl) fun a b ha hb => ok_ret (by omega)) fun s v hs hv => ⟨hs.1, hs.2.1, hv, hs.2.2.2⟩) fun _ _ => ?_
    refine oks_seq (N := fun _ => True) (oks_if (P := fun _ => True) (ok_ret trivial) (fun _ => ?_) (fun _ => oks_nx trivial)) fun _ _ => ?_
    · exact oks_seq (oks_bput (P := fun v => 0 ≤ v) (ok_ret hj) fun s v hs hv => ⟨hv, hs.2.1, hs.2.2.1, hs.2.2.2⟩) fun _ _ => oks_nx trivial
    refine oks_seq (oks_bput (P := fun v => 0 ≤ v) ?_ fun s v hs hv => ⟨hs.1, hv, hs.2.2.1, hs.2.2.2⟩) fun _ _ => oks_nx trivial
    refine ok_op2 (P1 := fun v => 0 ≤ v) (P2 := fun v => v = 2147483647) ?_ (ok_ret rfl) fun a b ha hb => ?_
    · refine ok_op2 (P1 := fun v => 0 ≤ v) (P2 := fun v => 0 ≤ v) (ok_op2 (P1 := fun v => 0 ≤ v) (P2 := fun v => 0 ≤ v) ?_ ?_ fun a b ha hb => ok_ret (by omega)) ?_ fun a b ha hb => ok_ret (by omega)
      · refine ok_op2 (P1 := fun v => 0 ≤ v) (P2 := fun v => v = 48271) (ok_bget fun s hs => hs.2.1) (ok_ret rfl) fun a b ha hb => ?_
        subst hb; rw [imul_eq (mul_small (by omega))]; exact ok_ret (by omega)
      · rw [zop2_ret, imod_eq (by omega)]; exact ok_ret (by omega)
      · refine ok_op2 (P1 := fun v => v = 7919) (P2 := fun v => 0 ≤ v) (ok_ret rfl) (ok_bget fun s hs => hs.2.2.1) fun a b ha hb => ?_
        subst ha; rw [imul_eq (mul_smallL (by omega))]; exact ok_ret (by omega)
    · subst hb; rw [imod_eq (by omega)]; exact ok_ret (by omega)
  refine oks_seq (N := fun _ => True) (oks_if (P := fun _ => True) (ok_op2 (P1 := fun _ => True) (P2 := fun _ => True) (ok_bget fun _ _ => trivial) (ok_ret trivial) fun a b _ _ => ok_ret trivial) (fun _ => ?_) (fun _ => oks_nx trivial)) fun _ _ => ?_
  · refine oks_seq (N := fun v => 0 ≤ v ∧ v < n) (oks_set (ok_op2 (P1 := fun v => 0 ≤ v) (P2 := fun v => v = n) (ok_bget fun s hs => hs.1) (ok_ret rfl) fun a b ha hb => ?_)) fun v hv => ?_
    · subst hb; rw [imod_eq (by omega)]; exact ok_ret ⟨Int.emod_nonneg _ (by omega), Int.emod_lt_of_pos _ (by omega)⟩
    · refine oks_seq (oks_bput (P := fun v => 0 ≤ v) (ok_op2 (P1 := fun v => 0 ≤ v) (P2 := fun v => v = n) (ok_bget fun s hs => hs.1) (ok_ret rfl) fun a b ha hb => ?_) fun s v hs hv => ⟨hv, hs.2.1, hs.2.2.1, hs.2.2.2⟩) fun _ _ => oks_rt (ok_ret hv)
      subst hb; rw [idiv_eq (div_ok (by omega) h2)]; exact ok_ret (Int.ediv_nonneg ha (by omega))
  refine oks_seq (N := fun v => 0 ≤ v ∧ v < 1000000007) (oks_set (ok_op2 (P1 := fun v => 0 ≤ v) (P2 := fun v => v = 1000000007) ?_ (ok_ret rfl) fun a b ha hb => ?_)) fun f hf => ?_
  · refine ok_op2 (P1 := fun v => 0 ≤ v) (P2 := fun v => v = 39373) (ok_op2 (P1 := fun v => 0 ≤ v) (P2 := fun v => v = 1) (ok_bget fun s hs => hs.2.1) (ok_ret rfl) fun a b ha hb => ok_ret (by omega)) (ok_ret rfl) fun a b ha hb => ?_
    subst hb; rw [imul_eq (mul_small (by omega))]; exact ok_ret (by omega)
  · subst hb; rw [imod_eq (by omega)]; exact ok_ret (by omega)
  have e1 : (zop2 imod (zop2 imul (zop2 imod (zop2 imul (ret f) (ret f)) (ret (998244353 : Int))) (ret (30011 : Int))) (ret (998244353 : Int)) : M Bag Int) = ret (f * f % 998244353 * 30011 % 998244353) := by
    rw [zop2_ret, imul_eq (mul_small (by omega)), zop2_ret, imod_eq (by omega), zop2_ret, imul_eq (mul_small (by omega)), zop2_ret, imod_eq (by omega)]
  rw [e1, zset_ret, zseq_nx]
  have hs : 0 ≤ f * f % 998244353 * 30011 % 998244353 ∧ f * f % 998244353 * 30011 % 998244353 < 998244353 := by omega
  generalize f * f % 998244353 * 30011 % 998244353 = g at hs
  rw [zop2_ret, igt_eq, zifS_ret]
  split
  · rw [zop2_ret, imul_eq (mul_small (by omega)), zop2_ret, iadd_eq, zop2_ret, imod_eq (by omega), zrt_ret, zseq_rt]
    exact oks_rt (ok_ret ⟨Int.emod_nonneg _ (by omega), Int.emod_lt_of_pos _ (by omega)⟩)
  · rw [znx_ret, zseq_nx, zop2_ret, idiv_eq (div_ok (by omega) (by omega)), zop2_ret, imod_eq (by omega), zrt_ret]
    exact oks_rt (ok_ret ⟨Int.emod_nonneg _ (by omega), Int.emod_lt_of_pos _ (by omega)⟩)
theorem ok_tk {u : Unit} {n : Int} (h1 : 1 ≤ n) (h2 : n < 2 ^ 9000) : Ok Bok (m_w_take (u, n)) (fun v => 0 ≤ v ∧ v < n) := ok_take h1 h2
end Zk

namespace Zk
open PySem L2
/-! ### texts by their signs -/
abbrev Ls_ (x : Str) : List Nat := x.cps.toList
theorem ls_inj {x y : Str} (h : Ls_ x = Ls_ y) : x = y := by
  cases x; cases y
  simp only [Ls_, Str.mk.injEq] at *
  exact Array.toList_inj.mp h
theorem ls_len (x : Str) : x.length = (Ls_ x).length := by show x.cps.size = _; simp
theorem ls_cat (x y : Str) : Ls_ (x ++ y) = Ls_ x ++ Ls_ y := by show (x.cps ++ y.cps).toList = _; simp
theorem ls_mk (l : List Nat) : Ls_ ⟨l.toArray⟩ = l := rfl
theorem slice_to {x : Str} {j : Int} (h : 0 ≤ j ∧ j ≤ (Ls_ x).length) : Ls_ (Txt.slice x none (some j)) = (Ls_ x).take j.toNat := by
  have e : Txt.slice x none (some j) = _ := StrLaws.sliceText_to (x := x) (j := j) h
  rw [e]; simp
theorem slice_from {x : Str} {i : Int} (h : 0 ≤ i ∧ i ≤ (Ls_ x).length) : Ls_ (Txt.slice x (some i) none) = (Ls_ x).drop i.toNat := by
  have e : Txt.slice x (some i) none = _ := StrLaws.sliceText_from (x := x) (i := i) h
  rw [e, ls_mk, List.take_of_length_le (by rw [List.length_drop]; omega)]
theorem foldl_reps (c : Array Nat) : ∀ (n : Nat) (acc : Array Nat), ((List.replicate n c).foldl (· ++ ·) acc).toList = acc.toList ++ (List.replicate n c.toList).flatten
  | 0, acc => by simp
  | n + 1, acc => by
    rw [List.replicate_succ, List.foldl_cons, foldl_reps c n (acc ++ c), List.replicate_succ, List.flatten_cons]
    simp
theorem ls_mul {x : Str} {k : Int} (h : 0 ≤ k) : Ls_ (Txt.mul x k) = (List.replicate k.toNat (Ls_ x)).flatten := by
  unfold Txt.mul
  by_cases h1 : k < 1
  · rw [if_pos h1, show k = 0 by omega]; rfl
  · rw [if_neg h1]
    by_cases h2 : (k == 1 || x.length == 0) = true
    · rw [if_pos h2]
      rcases (Bool.or_eq_true _ _).mp h2 with z | z
      · rw [show k = 1 from by simpa using z]; simp
      · have : Ls_ x = [] := by
          have : x.length = 0 := by simpa using z
          rw [ls_len] at this; exact List.length_eq_zero_iff.mp this
        rw [this]; simp
    · rw [if_neg h2]
      show ((List.replicate k.toNat x.cps).foldl (· ++ ·) #[]).toList = _
      rw [foldl_reps]; simp
section
variable {τ : Type}
theorem sixat_eq {x : Str} {i : Int} {c : Nat} (hl : x.length ≤ 1000) (h : atI (Ls_ x) i = some c) : (sixat x i : M τ Str) = ret ⟨#[c]⟩ := by
  unfold sixat; rw [chk_pos (Nat.le_trans hl (by decide)), h]
theorem smul_eq {x : Str} {k : Int} (h : 0 ≤ k ∧ k ≤ 1000) (hl : x.length ≤ 1000) : (smul x k : M τ Str) = ret (Txt.mul x k) := by
  unfold smul
  have : x.length * k.toNat ≤ 1000 * 1000 := Nat.mul_le_mul hl (by omega)
  rw [chk_pos ⟨by omega, by omega, Nat.le_trans this (by decide)⟩]
theorem scat_eq {x y : Str} (h : x.length + y.length ≤ 100000) : (scat x y : M τ Str) = ret (x ++ y) := by
  unfold scat; rw [chk_pos (Nat.le_trans h (by decide))]
theorem flenS_eq {x : Str} (h : x.length ≤ 100000) : (flenS x : M τ Int) = ret ((Ls_ x).length : Int) := by
  unfold flenS; rw [chk_pos (Nat.le_trans h (by decide)), ls_len]
theorem zslS_ret {x : Str} {l h : Option Int} (hl : x.length ≤ 100000) : zslS (ret x) (ret l) (ret h) = (ret (Txt.slice x l h) : M τ Str) := by
  unfold zslS; rw [bnd_ret, bnd_ret, bnd_ret, chk_pos (Nat.le_trans hl (by decide))]
end
/-! ### names -/
def abc : Str := "abcdefghijklmnopqrstuvwxyz"
theorem ls_abc : Ls_ abc = (List.range 26).map (97 + ·) := by decide
theorem abc_at {i : Int} (h : 0 ≤ i ∧ i < 26) : atI (Ls_ abc) i = some (97 + i.toNat) := by
  rw [atI_nat h.1 (by rw [ls_abc]; simp; omega)]
  simp only [ls_abc, List.getElem_map, List.getElem_range]
theorem abc_len : abc.length ≤ 1000 := by decide
structure NameOk (n : Str) : Prop where
  len : 1 ≤ (Ls_ n).length ∧ (Ls_ n).length ≤ 8
  abc : ∀ c ∈ Ls_ n, 97 ≤ c ∧ c ≤ 122
theorem nodup_on {T U : Type} {g : T → U} : ∀ {l : List T}, (∀ a ∈ l, ∀ b ∈ l, g a = g b → a = b) → l.Nodup → (l.map g).Nodup
  | [], _, _ => List.nodup_nil
  | a :: l, h, n => by
    rw [List.nodup_cons] at n
    rw [List.map_cons, List.nodup_cons]
    refine ⟨fun z => ?_, nodup_on (fun x hx y hy => h x (by simp [hx]) y (by simp [hy])) n.2⟩
    obtain ⟨b, hb, e⟩ := List.mem_map.mp z
    exact n.1 (h b (by simp [hb]) a (by simp) e ▸ hb)
theorem rng_nodup (lo : Int) (n : Nat) : (rng lo n).Nodup := nodup_map (fun a b h => by omega) List.nodup_range
def NamesOk (k : Int) (ns : List Str) : Prop := (ns.length : Int) = k ∧ ns.Nodup ∧ ∀ n ∈ ns, NameOk n
theorem names_map {k : Int} (hk : 0 ≤ k) {g : Int → Str} (h1 : ∀ e, 0 ≤ e → e < k → NameOk (g e)) (h2 : ∀ e e', 0 ≤ e → e < k → 0 ≤ e' → e' < k → g e = g e' → e = e') : NamesOk k ((rng 0 k.toNat).map g) :=
  ⟨by rw [List.length_map, rng_length]; omega, nodup_on (fun a ha b hb e => by
    have := mem_rng.mp ha; have := mem_rng.mp hb
    exact h2 a b (by omega) (by omega) (by omega) (by omega) e) (rng_nodup _ _), fun n hn => by
    obtain ⟨e, he, rfl⟩ := List.mem_map.mp hn
    have := mem_rng.mp he
    exact h1 e (by omega) (by omega)⟩
theorem rng_ix {τ : Type} {T : Type} {k : Nat} {g : Int → T} {e : Int} (h : 0 ≤ e ∧ e < k) : (ixat ((rng 0 k).map g) e : M τ T) = ret (g e) := by
  rw [ixat_nat h.1 (by rw [List.length_map, rng_length]; omega)]
  congr 1
  rw [List.getElem_map]
  congr 1
  unfold rng
  rw [List.getElem_map, List.getElem_range]; omega
theorem ok_names {u : Unit} {k : Int} (h : 1 ≤ k ∧ k ≤ 12) : Ok Bok (m_w_names (u, k)) (NamesOk k) := by
  have hs : sizeLine = 16777216 := by decide
  unfold m_w_names b_w_names
  refine ok_body ?_
  rw [show ("abcdefghijklmnopqrstuvwxyz" : Str) = abc from rfl, zset_ret, zseq_nx]
  refine oks_seq (N := fun base => ∃ c m, 97 ≤ c ∧ c ≤ 122 ∧ 1 ≤ m ∧ m ≤ 8 ∧ Ls_ base = List.replicate m c) (oks_set ?_) fun base hb => ?_
  · refine ok_op2 (P1 := fun x => ∃ c : Nat, 97 ≤ c ∧ c ≤ 122 ∧ x = ⟨#[c]⟩) (P2 := fun m => 1 ≤ m ∧ m ≤ 8) (ok_op2 (P1 := fun x => x = abc) (P2 := fun i => 0 ≤ i ∧ i < 26) (ok_ret rfl) (by rw [zpair_ret, zapp_ret]; exact ok_tk (by omega) (by omega)) fun x i hx hi => ?_) (ok_op2 (P1 := fun x => x = 1) (P2 := fun i => 0 ≤ i ∧ i < 8) (ok_ret rfl) (by rw [zpair_ret, zapp_ret]; exact ok_tk (by omega) (by omega)) fun x i hx hi => ok_ret (by omega)) fun x m hx hm => ?_
    · subst hx
      rw [sixat_eq abc_len (abc_at hi)]
      exact ok_ret ⟨97 + i.toNat, by omega, by omega, rfl⟩
    · obtain ⟨c, h1, h2, rfl⟩ := hx
      rw [smul_eq (by omega) (by show 1 ≤ 1000; omega)]
      refine ok_ret ⟨c, m.toNat, h1, h2, by omega, by omega, ?_⟩
      rw [ls_mul (by omega)]
      show (List.replicate m.toNat [c]).flatten = _
      rw [List.flatten_replicate_singleton]
  obtain ⟨c, m, hc1, hc2, hm1, hm2, eb⟩ := hb
  have hbl : base.length = m := by rw [ls_len, eb, List.length_replicate]
  have lb : (Ls_ base).length = m := by rw [eb, List.length_replicate]
  rw [zapp_ret, flenS_eq (by omega), zpair_ret, zapp_ret, lb]
  refine oks_seq (oks_set (ok_tk (by omega) (by omega))) fun spot hsp => ?_
  refine oks_seq (oks_set (by rw [zpair_ret, zapp_ret]; exact ok_tk (by omega) (by omega))) fun turn ht => ?_
  refine oks_seq (oks_set (by rw [zpair_ret, zapp_ret]; exact ok_tk (by omega) (by omega))) fun way hw => ?_
  rw [zop2_ret, feq_eq, zop2_ret, ilt_eq, zand_rr, zifS_ret]
  by_cases hway : (decide (way = 0) && decide (k < 9)) = true
  · rw [if_pos hway]
    have hk9 : k < 9 := by
      have := (Bool.and_eq_true _ _).mp hway
      simpa using this.2
    rw [zapp_ret, frA1_eq, zlc_map (g := fun e => (⟨(List.replicate (e + 1).toNat (97 + turn.toNat)).toArray⟩ : Str)) (fun e he => ?_) (by rw [rng_length, hs]; omega), zrt_ret, zseq_rt]
    · refine oks_rt (ok_ret (names_map (by omega) (fun e h0 h1 => ⟨?_, fun x hx => ?_⟩) fun e e' h0 h1 h0' h1' z => ?_))
      · rw [ls_mk, List.length_replicate]; omega
      · rw [ls_mk] at hx
        have := List.eq_of_mem_replicate hx
        omega
      · have := congrArg (fun x => (Ls_ x).length) z
        simp only [ls_mk, List.length_replicate] at this
        omega
    · have := mem_rng.mp he
      rw [zop2_ret, sixat_eq abc_len (abc_at ht), zop2_ret, smul_eq (by omega) (by show 1 ≤ 1000; omega), zop2_ret, iadd_eq, zsome_ret]
      have e8 : Ls_ (Txt.mul (⟨#[97 + turn.toNat]⟩ : Str) 8) = List.replicate 8 (97 + turn.toNat) := by
        rw [ls_mul (by omega)]
        show (List.replicate 8 [97 + turn.toNat]).flatten = _
        rw [List.flatten_replicate_singleton]
      rw [zslS_ret (by rw [ls_len, e8, List.length_replicate]; omega)]
      congr 1
      refine ls_inj ?_
      rw [slice_to (by rw [e8, List.length_replicate]; omega), e8, ls_mk, List.take_replicate]
      congr 1; omega
  rw [if_neg hway, znx_ret, zseq_nx]
  obtain ⟨g1, lg1⟩ : ∃ g1 : Int → Str, ∀ e, Ls_ (g1 e) = (Ls_ base).take spot.toNat ++ [97 + ((turn + e) % 26).toNat] ++ (Ls_ base).drop (spot.toNat + 1) := ⟨fun e => ⟨((Ls_ base).take spot.toNat ++ [97 + ((turn + e) % 26).toNat] ++ (Ls_ base).drop (spot.toNat + 1)).toArray⟩, fun e => rfl⟩
  have ln1 : ∀ e, (Ls_ (g1 e)).length = m := fun e => by
    rw [lg1]; simp only [List.length_append, List.length_take, List.length_drop, lb, List.length_singleton]; omega
  have abc1 : ∀ e, ∀ x ∈ Ls_ (g1 e), 97 ≤ x ∧ x ≤ 122 := fun e x hx => by
    rw [lg1] at hx
    rcases List.mem_append.mp hx with hx | hx
    · rcases List.mem_append.mp hx with hx | hx
      · have := List.mem_of_mem_take hx
        rw [eb] at this
        have := List.eq_of_mem_replicate this; omega
      · have := List.mem_singleton.mp hx; omega
    · have := List.mem_of_mem_drop hx
      rw [eb] at this
      have := List.eq_of_mem_replicate this; omega
  have at1 : ∀ e, (Ls_ (g1 e))[spot.toNat]? = some (97 + ((turn + e) % 26).toNat) := fun e => by
    rw [lg1, List.append_assoc, List.getElem?_append_right (by rw [List.length_take]; omega)]
    have : spot.toNat - (List.take spot.toNat (Ls_ base)).length = 0 := by rw [List.length_take]; omega
    rw [this]; rfl
  have ef : (zlc (fun e8 => (ret true)) (fun e8 => (zop2 scat (zop2 scat (zslS (ret base) (ret none) (zsome (ret spot))) (zop2 sixat (ret abc) (zop2 imod (zop2 iadd (ret turn) (ret e8)) (ret (26 : Int))))) (zslS (ret base) (zsome (zop2 iadd (ret spot) (ret (1 : Int)))) (ret none)))) (zapp frA1 (ret k)) : M Bag (List Str)) = ret ((rng 0 k.toNat).map g1) := by
    rw [zapp_ret, frA1_eq, zlc_map (g := g1) (fun e he => ?_) (by rw [rng_length, hs]; omega)]
    have := mem_rng.mp he
    have e1 : Ls_ (Txt.slice base none (some spot)) = (Ls_ base).take spot.toNat := slice_to (by omega)
    have e2 : Ls_ (Txt.slice base (some (spot + 1)) none) = (Ls_ base).drop (spot + 1).toNat := slice_from (by omega)
    rw [zsome_ret, zslS_ret (by omega), zop2_ret, iadd_eq, zop2_ret, imod_eq (by omega), zop2_ret, sixat_eq abc_len (abc_at ⟨Int.emod_nonneg _ (by omega), Int.emod_lt_of_pos _ (by omega)⟩), zop2_ret, scat_eq (by rw [ls_len, e1, List.length_take]; show _ + 1 ≤ _; omega), zop2_ret, iadd_eq, zsome_ret, zslS_ret (by omega), zop2_ret, scat_eq (by
      rw [ls_len, ls_len, ls_cat, e1, e2, List.length_append, List.length_take, List.length_drop]; show _ + 1 + _ ≤ _; omega)]
    congr 1
    refine ls_inj ?_
    rw [ls_cat, ls_cat, e1, e2, lg1]
    congr 2; omega
  rw [ef, zset_ret, zseq_nx]
  have inj : ∀ e e' : Int, 0 ≤ e → e < k → 0 ≤ e' → e' < k → 97 + ((turn + e) % 26).toNat = 97 + ((turn + e') % 26).toNat → e = e' := fun e e' h0 h1 h0' h1' z => by omega
  rw [zop2_ret, feq_eq, zop2_ret, ilt_eq, zand_rr, zifS_ret]
  refine oks_seq (N := NamesOk k) ?_ fun fs hf => oks_rt (ok_ret hf)
  by_cases hw1 : (decide (way = 1) && decide ((m : Int) < 8)) = true
  · rw [if_pos hw1]
    have hm7 : m < 8 := by
      have := (Bool.and_eq_true _ _).mp hw1
      have := this.2
      simp at this; omega
    let g2 : Int → Str := fun e => g1 e ++ Txt.mul ("a" : Str) (e % 2)
    have la : Ls_ ("a" : Str) = [97] := by decide
    have lm : ∀ e : Int, Ls_ (Txt.mul ("a" : Str) (e % 2)) = List.replicate (e % 2).toNat 97 := fun e => by
      rw [ls_mul (by omega), la, List.flatten_replicate_singleton]
    rw [zapp_ret, frA1_eq, zlc_map (g := g2) (fun e he => ?_) (by rw [rng_length, hs]; omega), zset_ret, zseq_nx]
    · refine oks_nx (names_map (by omega) (fun e h0 h1 => ⟨?_, fun x hx => ?_⟩) fun e e' h0 h1 h0' h1' z => ?_)
      · show 1 ≤ (Ls_ (g1 e ++ _)).length ∧ (Ls_ (g1 e ++ _)).length ≤ 8
        rw [ls_cat, List.length_append, ln1, lm, List.length_replicate]; omega
      · have hx : x ∈ Ls_ (g1 e ++ _) := hx
        rw [ls_cat] at hx
        rcases List.mem_append.mp hx with hx | hx
        · exact abc1 e x hx
        · rw [lm] at hx
          have := List.eq_of_mem_replicate hx; omega
      · have z := congrArg (fun x => (Ls_ x)[spot.toNat]?) z
        have z : (Ls_ (g1 e ++ _))[spot.toNat]? = (Ls_ (g1 e' ++ _))[spot.toNat]? := z
        rw [ls_cat, ls_cat, List.getElem?_append_left (by rw [ln1]; omega), List.getElem?_append_left (by rw [ln1]; omega), at1, at1] at z
        exact inj e e' h0 h1 h0' h1' (Option.some.inj z)
    · have := mem_rng.mp he
      rw [zop2_ret, rng_ix ⟨by omega, by omega⟩, zop2_ret, imod_eq (by omega), zop2_ret, smul_eq (by omega) (by decide), zop2_ret, scat_eq (by rw [ls_len, ls_len, ln1, lm, List.length_replicate]; omega)]
  · rw [if_neg hw1]
    refine oks_nx (names_map (by omega) (fun e h0 h1 => ⟨by rw [ln1]; omega, abc1 e⟩) fun e e' h0 h1 h0' h1' z => ?_)
    have z := congrArg (fun x => (Ls_ x)[spot.toNat]?) z
    simp only [at1] at z
    exact inj e e' h0 h1 h0' h1' (Option.some.inj z)
end Zk

namespace Zk
open PySem L2
/-! ### what the things are -/
abbrev az : Str := "abcdefghijklmnopqrstuvwxyz"
def wholeF : PyData → Bool | .int _ => true | _ => false
def betwF (lo hi : Int) : PyData → Bool | .int i => decide (lo ≤ i) && decide (i ≤ hi) | _ => false
def lettersF (x : Str) : Bool := (Ls_ x).all fun c => decide (c ∈ Ls_ az)
def nameF : PyData → Bool | .str x => (decide ((1 : Int) ≤ ((Ls_ x).length : Int)) && decide (((Ls_ x).length : Int) ≤ 8)) && lettersF x | _ => false
def inF (ns : List Str) : PyData → Bool | .str x => decide (x ∈ ns) | _ => false
def apartF (ds : List PyData) : Bool := match strsOf ds with | some xs => decide ((metS xs).length = ds.length) | none => false
def groupF (ns : List Str) : PyData → Bool
  | .list ds => (decide ((1 : Int) ≤ (ds.length : Int)) && decide ((ds.length : Int) < (ns.length : Int))) && (ds.all (fun e => nameF e && inF ns e) && apartF ds)
  | _ => false
structure SOk (x : Str) : Prop where
  l : x.length ≤ 100000
  o : PyData.strOk x = true
structure EOk (e : PyData) : Prop where
  c : e.canLay0 = true
  d : e.depth ≤ 10
  s : ∀ x, e = .str x → SOk x
structure GOk (d : PyData) : Prop where
  s : ∀ x, d = .str x → SOk x
  l : ∀ ds, d = .list ds → ds.length ≤ 100000 ∧ ∀ e ∈ ds, EOk e
section
variable {ns : List Str} {d : PyData} {lo hi : Int}
theorem zand_ff {τ : Type} {n : M τ Bool} : zand (ret false : M τ Bool) n = ret false := rfl
theorem zand_tt {τ : Type} {n : M τ Bool} : zand (ret true : M τ Bool) n = n := rfl
theorem zor_ff {τ : Type} {n : M τ Bool} : zor (ret false : M τ Bool) n = n := rfl
theorem whole_eq : m_is_whole d = ret (wholeF d) := by cases d <;> rfl
theorem within_eq : m_w_within (d, lo, hi) = ret (betwF lo hi d) := by
  unfold m_w_within b_w_within
  cases d with
  | int i =>
    show zbody (zrt (zchain ile ile (ret lo) (ret i) (ret hi))) = ret (betwF lo hi (.int i))
    rw [zchain_ll, zrt_ret, zbody_rt]; rfl
  | _ => rfl
theorem between_eq : m_is_between (d, lo, hi) = ret (betwF lo hi d) := by
  unfold m_is_between b_is_between
  rw [zapp_ret, whole_eq, lft_ret]
  cases d with
  | int i =>
    show zbody (zrt (zchain ile ile (ret lo) (ret i) (ret hi))) = ret (betwF lo hi (.int i))
    rw [zchain_ll, zrt_ret, zbody_rt]; rfl
  | _ => rfl
theorem sign_ok {x : Str} (h : PyData.strOk x = true) : ∀ s ∈ signs x, PyData.strOk s = true := fun s hs => by
  unfold signs at hs
  obtain ⟨c, hc, rfl⟩ := List.mem_map.mp hs
  unfold PyData.strOk at h ⊢
  rw [← Array.all_toList, List.all_eq_true] at h ⊢
  intro c' hc'
  have : c' = c := by simpa using hc'
  rw [this]; exact h c hc
theorem lay_strs : ∀ {xs : List Str}, (∀ s ∈ xs, PyData.strOk s = true) → PyData.canLayAll0 (xs.map PyData.str) = true
  | [], _ => by simp [PyData.canLayAll0]
  | x :: xs, h => by
    rw [List.map_cons, PyData.canLayAll0, PyData.canLay0, h x (by simp), lay_strs fun s hs => h s (by simp [hs])]; rfl
theorem letters_iff {x : Str} : lettersF x = true ↔ ((signs x).filter fun s => !decide ((Ls_ s).headD 0 ∈ Ls_ az)) = [] := by
  unfold lettersF
  rw [List.filter_eq_nil_iff, List.all_eq_true]
  constructor
  · intro h s hs
    unfold signs at hs
    obtain ⟨c, hc, rfl⟩ := List.mem_map.mp hs
    have := h c hc
    show ¬ (!decide (c ∈ Ls_ az)) = true
    rw [this]; decide
  · intro h c hc
    have this : ¬ (!decide (c ∈ Ls_ az)) = true := h ⟨#[c]⟩ (by unfold signs; exact List.mem_map.mpr ⟨c, hc, rfl⟩)
    cases e : decide (c ∈ Ls_ az) with
    | true => rfl
    | false => rw [e] at this; exact absurd rfl this
theorem name_own (h : ∀ x, d = .str x → SOk x) : m_w_is_name d = ret (nameF d) := by
  unfold m_w_is_name b_w_is_name
  cases d with
  | str x =>
    have hx := h x rfl
    have hl : x.length ≤ 100000 := hx.l
    rw [show (zget (isD "str") (ret (PyData.str x)) : M Unit Bool) = ret true from rfl, znot_ret, show (!true) = false from rfl, zor_ff, show (zgetP asS (ret (PyData.str x)) : M Unit Str) = ret x from rfl, zapp_ret, flenS_eq hl, zchain_ll, znot_ret, zifS_ret]
    have e0 : nameF (.str x) = ((decide ((1 : Int) ≤ ((Ls_ x).length : Int)) && decide (((Ls_ x).length : Int) ≤ 8)) && lettersF x) := rfl
    rw [e0]
    cases (decide ((1 : Int) ≤ ((Ls_ x).length : Int)) && decide (((Ls_ x).length : Int) ≤ 8)) with
    | false => rfl
    | true =>
      rw [show (!true) = false from rfl, if_neg (by decide), znx_ret, zseq_nx, zapp_ret, show (fsigns x : M Unit _) = ret (signs x) from rfl]
      have sl : (signs x).length ≤ 100000 := by
        unfold signs
        rw [List.length_map]
        have : x.length = (Ls_ x).length := ls_len x
        show (Ls_ x).length ≤ _
        omega
      rw [zlc_filter (p := fun s => !decide ((Ls_ s).headD 0 ∈ Ls_ az)) (g := fun s => s) (fun s hs => ?_) (fun _ _ => rfl) (Nat.le_trans sl (by decide)), List.map_id', zlist_eq (by simp), zop2_ret, deq_eq ⟨?_, rfl, by decide⟩, zrt_ret, zbody_rt, Bool.true_and]
      · refine congrArg ret (Bool.eq_iff_iff.mpr ?_)
        rw [decide_eq_true_iff, letters_iff]
      · show (PyData.list (((signs x).filter fun s => !decide ((Ls_ s).headD 0 ∈ Ls_ az)).map PyData.str)).canLay0 = true
        rw [PyData.canLay0]
        exact lay_strs fun s hs => sign_ok hx.o s (List.mem_filter.mp hs).1
      · unfold signs at hs
        obtain ⟨c, hc, rfl⟩ := List.mem_map.mp hs
        rw [zop2_ret]; rfl
  | _ => rfl
theorem name_prog (h : ∀ x, d = .str x → SOk x) : m_is_name d = ret (nameF d) := by
  unfold m_is_name b_is_name
  cases d with
  | str x =>
    have hx := h x rfl
    have hl : x.length ≤ 100000 := hx.l
    rw [show (zget (isD "str") (ret (PyData.str x)) : M Unit Bool) = ret true from rfl, znot_ret, show (!true) = false from rfl, zor_ff, show (zgetP asS (ret (PyData.str x)) : M Unit Str) = ret x from rfl, zapp_ret, flenS_eq hl, c_MOST_SIGNS, zchain_ll, znot_ret, zifS_ret]
    have e0 : nameF (.str x) = ((decide ((1 : Int) ≤ ((Ls_ x).length : Int)) && decide (((Ls_ x).length : Int) ≤ 8)) && lettersF x) := rfl
    rw [e0]
    cases (decide ((1 : Int) ≤ ((Ls_ x).length : Int)) && decide (((Ls_ x).length : Int) ≤ 8)) with
    | false => rfl
    | true =>
      rw [show (!true) = false from rfl, if_neg (by decide), znx_ret, zseq_nx, zapp_ret, show (fsigns x : M Unit _) = ret (signs x) from rfl]
      have sl : (signs x).length ≤ 100000 := by
        unfold signs
        rw [List.length_map]
        have : x.length = (Ls_ x).length := ls_len x
        show (Ls_ x).length ≤ _
        omega
      rw [zlc_map (g := fun s => decide ((Ls_ s).headD 0 ∈ Ls_ az)) (fun s hs => ?_) (Nat.le_trans sl (by decide)), zapp_ret, fall_eq, zrt_ret, zbody_rt, Bool.true_and]
      · refine congrArg ret (Bool.eq_iff_iff.mpr ?_)
        unfold lettersF signs
        rw [List.map_map, List.all_map]
        rfl
      · unfold signs at hs
        obtain ⟨c, hc, rfl⟩ := List.mem_map.mp hs
        rw [zop2_ret]; rfl
  | _ => rfl
/-! ### groups -/
theorem shaped_of {xs : List PyData} (h : ∀ e ∈ xs, EOk e) : SeqAt.shaped (.list xs) = true := by
  have key : ∀ {xs : List PyData}, (∀ e ∈ xs, EOk e) → PyData.canLayAll0 xs = true ∧ PyData.depthAll xs ≤ 10 := by
    intro xs
    induction xs with
    | nil => intro _; exact ⟨by simp [PyData.canLayAll0], by simp [PyData.depthAll]⟩
    | cons x xs ih =>
      intro h
      obtain ⟨h1, h2⟩ := ih fun e he => h e (by simp [he])
      have hx := h x (by simp)
      refine ⟨by rw [PyData.canLayAll0, hx.c, h1]; rfl, ?_⟩
      have := hx.d
      simp only [PyData.depthAll]
      omega
  obtain ⟨h1, h2⟩ := key h
  have h3 : (PyData.list xs).depth = PyData.depthAll xs + 1 := by rw [PyData.depth]
  unfold SeqAt.shaped
  simp only [PyData.canLay0, h1, Bool.true_and, decide_eq_true_eq]
  omega
theorem eqv_nil {xs : List PyData} : PyData.eqv (.list xs) (.list []) = decide (xs = []) := by
  cases xs <;> simp [PyData.eqv, PyData.eqvAll]
theorem deqP_nil {τ : Type} {xs : List PyData} (h : ∀ e ∈ xs, EOk e) : (deqP (.list xs) (.list []) : M τ Bool) = ret (decide (xs = [])) := by
  unfold deqP
  rw [chk_pos ⟨shaped_of h, shaped_of (by simp)⟩, eqv_nil]
theorem dneP_nil {τ : Type} {xs : List PyData} (h : ∀ e ∈ xs, EOk e) : (dneP (.list xs) (.list []) : M τ Bool) = ret (!decide (xs = [])) := by
  unfold dneP
  rw [chk_pos ⟨shaped_of h, shaped_of (by simp)⟩, eqv_nil]
theorem strs_all : ∀ {ds : List PyData}, (∀ e ∈ ds, nameF e = true) → ∃ xs, strsOf ds = some xs ∧ ds = xs.map PyData.str
  | [], _ => ⟨[], rfl, rfl⟩
  | d :: ds, h => by
    obtain ⟨xs, e1, e2⟩ := strs_all (ds := ds) fun e he => h e (by simp [he])
    have hd := h d (by simp)
    cases d with
    | str x => exact ⟨x :: xs, by unfold strsOf; rw [show asS (.str x) = some x from rfl, Option.bind_some, e1]; rfl, by rw [e2]; rfl⟩
    | _ => cases hd
theorem mets_in {S : List Str} : ∀ (ys σ : List Str), σ.Nodup → (∀ x ∈ σ, x ∈ S) → (∀ y ∈ ys, y ∈ S) → (ys.foldl stepS σ).Nodup ∧ ∀ x ∈ ys.foldl stepS σ, x ∈ S
  | [], σ, h1, h2, _ => ⟨h1, h2⟩
  | y :: ys, σ, h1, h2, h3 => by
    rw [List.foldl_cons]
    refine mets_in ys _ ?_ ?_ fun z hz => h3 z (by simp [hz])
    · unfold stepS
      split
      · exact h1
      · rename_i k
        rw [List.nodup_append]
        refine ⟨h1, by simp, fun a ha b hb e => k ?_⟩
        rw [List.mem_singleton.mp hb] at e
        rw [← e]
        exact List.any_eq_true.mpr ⟨a, ha, by simp⟩
    · unfold stepS
      split
      · exact h2
      · intro x hx
        rcases List.mem_append.mp hx with hx | hx
        · exact h2 x hx
        · rw [List.mem_singleton.mp hx]; exact h3 y (by simp)
section
variable {α : Type}
theorem nodup_le [DecidableEq α] : ∀ {xs ys : List α}, xs.Nodup → (∀ x ∈ xs, x ∈ ys) → xs.length ≤ ys.length
  | [], _, _, _ => Nat.zero_le _
  | x :: xs, ys, nd, h => by
    rw [List.nodup_cons] at nd
    have hx := h x (by simp)
    have := nodup_le (xs := xs) (ys := ys.erase x) nd.2 fun y hy => (List.mem_erase_of_ne (show y ≠ x from fun e => nd.1 (by rw [← e]; exact hy))).mpr (h y (by simp [hy]))
    rw [List.length_erase_of_mem hx] at this
    have := List.length_pos_of_mem hx
    simp only [List.length_cons]; omega
end
theorem mets_few {xs S : List Str} (h : ∀ x ∈ xs, x ∈ S) : (metS xs).length ≤ S.length := by
  obtain ⟨h1, h2⟩ := mets_in (S := S) xs [] List.nodup_nil (by simp) h
  exact nodup_le h1 h2
end
end Zk

namespace Zk
open PySem L2
section
variable {ns : List Str} {d : PyData} {ds : List PyData} {lo hi : Int}
theorem strs_len : ∀ {ds : List PyData} {xs : List Str}, strsOf ds = some xs → xs.length = ds.length
  | [], xs, e => by cases e; rfl
  | d :: ds, xs, e => by
    unfold strsOf at e
    cases e1 : asS d with
    | none => rw [e1] at e; cases e
    | some x =>
      rw [e1] at e
      cases e2 : strsOf ds with
      | none => rw [e2] at e; cases e
      | some ys => rw [e2] at e; cases e; simp [strs_len e2]
theorem in_strs : ∀ {ds : List PyData} {xs : List Str}, strsOf ds = some xs → (∀ e ∈ ds, inF ns e = true) → ∀ x ∈ xs, x ∈ ns
  | [], xs, e, _, x, hx => by cases e; cases hx
  | d :: ds, xs, e, h, x, hx => by
    unfold strsOf at e
    cases e1 : asS d with
    | none => rw [e1] at e; cases e
    | some y =>
      rw [e1] at e
      cases e2 : strsOf ds with
      | none => rw [e2] at e; cases e
      | some ys =>
        rw [e2] at e; cases e
        rcases List.mem_cons.mp hx with rfl | hx
        · have := h d (by simp)
          cases d <;> cases e1
          exact of_decide_eq_true this
        · exact in_strs e2 (fun e he => h e (by simp [he])) x hx
/-- one of a list, by the program -/
theorem each_prog {e : PyData} (he : EOk e) : (zand (zapp (fun x => lft (m_is_name x)) (zget (qQ : DaQ rQ).d (ret e))) (zop2 fin_ (zgetP asS (ret e)) (ret ns)) : M Unit Bool) = ret (nameF e && inF ns e) := by
  rw [show (zget (qQ : DaQ rQ).d (ret e) : M Unit PyData) = ret e from rfl, zapp_ret, name_prog he.s, lft_ret]
  cases k : nameF e with
  | false => rfl
  | true =>
    cases e with
    | str x => rfl
    | _ => cases k
theorem unlike_eq {xs : List Str} (h : strsOf ds = some xs) (hl : ds.length ≤ 1000) : m_are_unlike ds = ret (apartF ds) := by
  unfold m_are_unlike b_are_unlike apartF
  have hm : (metS xs).length ≤ 1000 := Nat.le_trans (metS_le xs.length rfl) (by rw [strs_len h]; exact hl)
  rw [show (zgetP strsOf (ret ds) : M Unit (List Str)) = mopt (strsOf ds) from rfl, h, show (mopt (some xs) : M Unit _) = ret xs from rfl, zapp_ret, show (fnsetW xs : M Unit Int) = ret ((metS xs).length : Int) from chk_pos hm, zapp_ret, flen_eq, zop2_ret, feq_eq, zrt_ret, zbody_rt]
  refine congrArg ret (Bool.eq_iff_iff.mpr ?_)
  simp only [decide_eq_true_iff]
  omega
theorem group_prog (hl : ns.length ≤ 100) (h : GOk d) : m_is_group (ns, d) = ret (groupF ns d) := by
  unfold m_is_group b_is_group
  cases d with
  | list ds =>
    obtain ⟨l1, l2⟩ := h.l ds rfl
    dsimp only
    rw [show (zget (isD "list") (ret (PyData.list ds)) : M Unit Bool) = ret true from rfl, znot_ret, show (!true) = false from rfl, zor_ff, show (zgetP asL (ret (PyData.list ds)) : M Unit (List PyData)) = ret ds from rfl, zapp_ret, flen_eq, zapp_ret, flen_eq, zchain_ret, ile_eq, ilt_eq]
    have e0 : groupF ns (.list ds) = ((decide ((1 : Int) ≤ (ds.length : Int)) && decide ((ds.length : Int) < (ns.length : Int))) && (ds.all (fun e => nameF e && inF ns e) && apartF ds)) := rfl
    rw [e0]
    by_cases k1 : (1 : Int) ≤ (ds.length : Int)
    · by_cases k2 : (ds.length : Int) < (ns.length : Int)
      · rw [decide_eq_true k1, decide_eq_true k2, zand_tt, znot_ret, zifS_ret, if_neg (by decide), znx_ret, zseq_nx]
        rw [zlc_map (g := fun e => nameF e && inF ns e) (fun e he => each_prog (l2 e he)) (Nat.le_trans l1 (by decide)), zapp_ret, fall_eq]
        have ea : (ds.map fun e => nameF e && inF ns e).all id = ds.all fun e => nameF e && inF ns e := by rw [List.all_map]; rfl
        rw [ea, Bool.true_and, Bool.true_and]
        cases k3 : ds.all fun e => nameF e && inF ns e with
        | false => rfl
        | true =>
          have hall : ∀ e ∈ ds, nameF e = true := fun e he => by
            have := List.all_eq_true.mp k3 e he
            rw [Bool.and_eq_true] at this
            exact this.1
          obtain ⟨xs, e1, _⟩ := strs_all hall
          rw [zand_tt, zapp_ret, unlike_eq e1 (by omega), lft_ret, zrt_ret, zbody_rt]; rfl
      · rw [decide_eq_true k1, decide_eq_false k2, zand_tt, znot_ret, zifS_ret, if_pos (by rfl)]
        rfl
    · rw [decide_eq_false k1, zand_ff, znot_ret, zifS_ret, if_pos (by rfl)]
      rfl
  | _ => rfl
theorem group_own (hl : ns.length ≤ 100) (h : GOk d) : m_w_is_group (ns, d) = ret (groupF ns d) := by
  unfold m_w_is_group b_w_is_group
  cases d with
  | list ds =>
    obtain ⟨l1, l2⟩ := h.l ds rfl
    have sl : ds.length ≤ sizeLine := Nat.le_trans l1 (by decide)
    dsimp only
    rw [show (zget (isD "list") (ret (PyData.list ds)) : M Unit Bool) = ret true from rfl, znot_ret, show (!true) = false from rfl, zor_ff, show (zgetP asL (ret (PyData.list ds)) : M Unit (List PyData)) = ret ds from rfl, show (zgetP asQ (ret (PyData.list ds)) : M Unit PyData) = ret (.list ds) from rfl]
    rw [zlist_eq (by simp), show (zget ((qL qI) : DaQ (rLst rInt)).d (ret []) : M Unit PyData) = ret (.list []) from rfl, zop2_ret (f := deqP), deqP_nil l2]
    rw [zlc_filter (p := fun e => !nameF e) (g := fun e => e) (fun e he => by
      rw [show (zget (qQ : DaQ rQ).d (ret e) : M Unit PyData) = ret e from rfl, zapp_ret, name_own (l2 e he).s, lft_ret, znot_ret]) (fun _ _ => rfl) sl, List.map_id']
    have em : ∀ xs : List PyData, (zget ((qL qQ) : DaQ (rLst rQ)).d (ret xs) : M Unit PyData) = ret (.list xs) := fun xs => by
      show ret (PyData.list (xs.map id)) = _
      rw [List.map_id]
    rw [em, zop2_ret (f := dneP), dneP_nil fun e he => l2 e (List.mem_filter.mp he).1]
    have e0 : groupF ns (.list ds) = ((decide ((1 : Int) ≤ (ds.length : Int)) && decide ((ds.length : Int) < (ns.length : Int))) && (ds.all (fun e => nameF e && inF ns e) && apartF ds)) := rfl
    by_cases k1 : ds = []
    · subst k1
      rfl
    · have n1 : (1 : Int) ≤ (ds.length : Int) := by
        have := List.length_pos_iff.mpr k1
        omega
      rw [decide_eq_false k1, zor_ff]
      by_cases k2 : ds.filter (fun e => !nameF e) = []
      · have hall : ∀ e ∈ ds, nameF e = true := fun e he => by
          have := List.filter_eq_nil_iff.mp k2 e he
          simpa using this
        obtain ⟨xs, e1, e2⟩ := strs_all hall
        rw [decide_eq_true k2, show (!true) = false from rfl, zifS_ret, if_neg (by decide), znx_ret, zseq_nx]
        rw [zlc_filter (p := fun e => !inF ns e) (g := fun e => e) (fun e he => by
          have := hall e he
          cases e with
          | str x =>
            rw [show (zgetP asS (ret (PyData.str x)) : M Unit Str) = ret x from rfl, zop2_ret]; rfl
          | _ => cases this) (fun _ _ => rfl) sl, List.map_id', em, zop2_ret (f := dneP), dneP_nil fun e he => l2 e (List.mem_filter.mp he).1]
        by_cases k3 : ds.filter (fun e => !inF ns e) = []
        · have hin : ∀ e ∈ ds, inF ns e = true := fun e he => by
            have := List.filter_eq_nil_iff.mp k3 e he
            simpa using this
          have ka : ds.all (fun e => nameF e && inF ns e) = true := List.all_eq_true.mpr fun e he => by rw [hall e he, hin e he]; rfl
          rw [decide_eq_true k3, show (!true) = false from rfl, zifS_ret, if_neg (by decide), zseq_nx]
          have ls : (zgetP asLS (ret (PyData.list ds)) : M Unit (List Str)) = ret xs := by
            show mopt (asLS (.list ds)) = _
            rw [show asLS (.list ds) = strsOf ds from rfl, e1]; rfl
          have hm : (metS xs).length ≤ 1000 := Nat.le_trans (mets_few (in_strs e1 hin)) (by omega)
          rw [ls, zapp_ret, show (fnsetW xs : M Unit Int) = ret ((metS xs).length : Int) from chk_pos hm, zapp_ret, flen_eq, zapp_ret, flen_eq, zop2_ret, feq_eq, zop2_ret, ilt_eq, e0, ka, decide_eq_true n1]
          have ea : apartF ds = decide ((metS xs).length = ds.length) := by unfold apartF; rw [e1]
          rw [ea, zand_rr, zrt_ret, zbody_rt]
          refine congrArg ret (Bool.eq_iff_iff.mpr ?_)
          simp only [Bool.and_eq_true, decide_eq_true_iff, Bool.true_and]
          omega
        · rw [decide_eq_false k3, show (!false) = true from rfl, zifS_ret, if_pos rfl]
          have ka : ds.all (fun e => nameF e && inF ns e) = false := by
            rw [Bool.eq_false_iff]
            intro z
            refine k3 (List.filter_eq_nil_iff.mpr fun e he => ?_)
            have := List.all_eq_true.mp z e he
            rw [Bool.and_eq_true] at this
            simp [this.2]
          rw [e0, ka, Bool.false_and, Bool.and_false]; rfl
      · rw [decide_eq_false k2, show (!false) = true from rfl, zifS_ret, if_pos rfl]
        have ka : ds.all (fun e => nameF e && inF ns e) = false := by
          rw [Bool.eq_false_iff]
          intro z
          refine k2 (List.filter_eq_nil_iff.mpr fun e he => ?_)
          have := List.all_eq_true.mp z e he
          rw [Bool.and_eq_true] at this
          simp [this.1]
        rw [e0, ka, Bool.false_and, Bool.and_false]; rfl
  | _ => rfl
end
end Zk

namespace Zk
open PySem L2
/-! ### things that can be shown -/
structure ROk (d : PyData) : Prop where
  s : d.showable = true
  h : d.hasDict = false ∨ isDct d = true
  dd : d.depth ≤ 60
  l : d.shown.length ≤ sizeLine
def Q11 (d : PyData) : Prop := GOk d ∧ ROk d
theorem size_line : sizeLine = 16777216 := by decide
theorem rok_of {d : PyData} (s : d.showable = true) (h : d.hasDict = false) (dd : d.depth ≤ 60) (B : Nat) (hB : 8 ≤ B) (t : d.leavesShort B = true) (b : (B + 2) * d.bulk + B ≤ 16777216) : ROk d :=
  ⟨s, .inl h, dd, by rw [size_line]; exact Nat.le_trans (PyData.shown_le_bulk B hB d t) b⟩
structure Le (e : PyData) : Prop where
  c : e.canLay0 = true
  d : e.depth ≤ 10
  s : ∀ x, e = .str x → SOk x
  w : e.showable = true
  n : e.hasDict = false
  t : e.leavesShort 8 = true
  b : e.bulk ≤ 20
def CS (x : Str) : Prop := ∀ c ∈ Ls_ x, c < 128
theorem cs_ok {x : Str} (h : CS x) : PyData.strOk x = true := by
  unfold PyData.strOk
  rw [← Array.all_toList, List.all_eq_true]
  exact fun c hc => decide_eq_true (by have := h c hc; omega)
theorem le_str {x : Str} (h : CS x) (hl : x.length ≤ 20) : Le (.str x) := by
  refine ⟨by simp [PyData.canLay0, cs_ok h], by simp [PyData.depth], fun y e => ?_, by simp [PyData.showable], rfl, ?_, ?_⟩
  · cases e; exact ⟨by omega, cs_ok h⟩
  · simp only [PyData.leavesShort]
    exact List.all_eq_true.mpr fun c hc => decide_eq_true (by have := h c hc; omega)
  · exact hl
theorem q_str {x : Str} (h : CS x) (hl : x.length ≤ 5000) : Q11 (.str x) := by
  refine ⟨⟨fun y e => ?_, (fun ds e => by cases e)⟩, rok_of (by simp [PyData.showable]) rfl (by simp [PyData.depth]) 8 (by omega) ?_ ?_⟩
  · cases e; exact ⟨by omega, cs_ok h⟩
  · simp only [PyData.leavesShort]
    exact List.all_eq_true.mpr fun c hc => decide_eq_true (by have := h c hc; omega)
  · have : (PyData.str x).bulk = x.length := rfl
    omega
theorem q_int {i : Int} (h : i.natAbs < 2 ^ 1900) : Q11 (.int i) := by
  have s1 := int_small h
  refine ⟨⟨(fun y e => by cases e), (fun ds e => by cases e)⟩, rok_of (by simp [PyData.showable, s1]) rfl (by simp [PyData.depth]) 1921 (by omega) ?_ (by simp [PyData.bulk])⟩
  simp only [PyData.leavesShort]
  exact decide_eq_true (show_int h)
theorem q_non : Q11 .none := ⟨⟨(fun y e => by cases e), (fun ds e => by cases e)⟩, rok_of (by simp [PyData.showable]) rfl (by simp [PyData.depth]) 8 (by omega) (by simp [PyData.leavesShort]) (by simp [PyData.bulk])⟩
theorem q_bl {b : Bool} : Q11 (.bool b) := ⟨⟨(fun y e => by cases e), (fun ds e => by cases e)⟩, rok_of (by simp [PyData.showable]) rfl (by simp [PyData.depth]) 8 (by omega) (by simp [PyData.leavesShort]) (by simp [PyData.bulk])⟩
theorem les {xs : List PyData} (h : ∀ e ∈ xs, Le e) : PyData.showableAll xs = true ∧ PyData.hasDictAll xs = false ∧ PyData.depthAll xs ≤ 10 ∧ PyData.leavesShortAll 8 xs = true ∧ PyData.bulkAll xs ≤ 21 * xs.length ∧ PyData.canLayAll0 xs = true := by
  induction xs with
  | nil => exact ⟨by simp [PyData.showableAll], rfl, by simp [PyData.depthAll], rfl, by simp [PyData.bulkAll], by simp [PyData.canLayAll0]⟩
  | cons x xs ih =>
    obtain ⟨h1, h2, h3, h4, h5, h6⟩ := ih fun e he => h e (by simp [he])
    have hx := h x (by simp)
    refine ⟨by rw [PyData.showableAll, hx.w, h1]; rfl, by rw [PyData.hasDictAll, hx.n, h2]; rfl, ?_, by rw [PyData.leavesShortAll, hx.t, h4]; rfl, ?_, by rw [PyData.canLayAll0, hx.c, h6]; rfl⟩
    · have := hx.d
      simp only [PyData.depthAll]; omega
    · have := hx.b
      rw [PyData.bulkAll, List.length_cons]; omega
theorem q_list {xs : List PyData} (h : ∀ e ∈ xs, Le e) (hl : xs.length ≤ 25000) : Q11 (.list xs) := by
  obtain ⟨h1, h2, h3, h4, h5, h6⟩ := les h
  refine ⟨⟨(fun y e => by cases e), fun ds e => ?_⟩, rok_of (by rw [PyData.showable]; exact h1) (by rw [PyData.hasDict]; exact h2) (by rw [PyData.depth]; omega) 8 (by omega) (by rw [PyData.leavesShort]; exact h4) (by rw [PyData.bulk]; omega)⟩
  cases e
  exact ⟨by omega, fun e he => ⟨(h e he).c, (h e he).d, (h e he).s⟩⟩
theorem q_tup {xs : List PyData} (h : ∀ e ∈ xs, Le e) (hl : xs.length ≤ 25000) : Q11 (.tuple xs) := by
  obtain ⟨h1, h2, h3, h4, h5, h6⟩ := les h
  exact ⟨⟨(fun y e => by cases e), (fun ds e => by cases e)⟩, rok_of (by rw [PyData.showable]; exact h1) (by rw [PyData.hasDict]; exact h2) (by rw [PyData.depth]; omega) 8 (by omega) (by rw [PyData.leavesShort]; exact h4) (by rw [PyData.bulk]; omega)⟩
theorem le_list {xs : List PyData} (h : ∀ e ∈ xs, Le e ∧ e.depth ≤ 2 ∧ e.bulk ≤ 10) (hl : xs.length ≤ 1) : Le (.list xs) ∧ Le (.tuple xs) := by
  obtain ⟨h1, h2, h3, h4, h5, h6⟩ := les fun e he => (h e he).1
  have hd : PyData.depthAll xs ≤ 2 ∧ PyData.bulkAll xs ≤ 11 := by
    match xs, hl with
    | [], _ => exact ⟨by simp [PyData.depthAll], by simp [PyData.bulkAll]⟩
    | [x], _ =>
      have := h x (by simp)
      exact ⟨by simp only [PyData.depthAll]; omega, by simp only [PyData.bulkAll]; omega⟩
  exact ⟨⟨by rw [PyData.canLay0]; exact h6, by rw [PyData.depth]; omega, (fun y e => by cases e), by rw [PyData.showable]; exact h1, by rw [PyData.hasDict]; exact h2, by rw [PyData.leavesShort]; exact h4, by rw [PyData.bulk]; omega⟩,
    ⟨by rw [PyData.canLay0]; exact h6, by rw [PyData.depth]; omega, (fun y e => by cases e), by rw [PyData.showable]; exact h1, by rw [PyData.hasDict]; exact h2, by rw [PyData.leavesShort]; exact h4, by rw [PyData.bulk]; omega⟩⟩
theorem le_int5 : Le (.int 5) := ⟨rfl, by simp [PyData.depth], (fun y e => by cases e), by decide +kernel, rfl, by decide +kernel, by simp [PyData.bulk]⟩
theorem le_int1 : Le (.int 1) := ⟨rfl, by simp [PyData.depth], (fun y e => by cases e), by decide +kernel, rfl, by decide +kernel, by simp [PyData.bulk]⟩
theorem le_non : Le .none := ⟨rfl, by simp [PyData.depth], (fun y e => by cases e), by simp [PyData.showable], rfl, rfl, by simp [PyData.bulk]⟩
theorem le_bl {b : Bool} : Le (.bool b) := ⟨rfl, by simp [PyData.depth], (fun y e => by cases e), by simp [PyData.showable], rfl, rfl, by simp [PyData.bulk]⟩
theorem cs_name {n : Str} (h : NameOk n) : CS n ∧ n.length ≤ 8 := ⟨fun c hc => by have := h.abc c hc; omega, by rw [ls_len]; exact h.len.2⟩
theorem le_name {n : Str} (h : NameOk n) : Le (.str n) := le_str (cs_name h).1 (by have := (cs_name h).2; omega)
theorem q_dict0 : Q11 (.dict []) := ⟨⟨(fun y e => by cases e), (fun ds e => by cases e)⟩, ⟨by decide +kernel, .inr rfl, by decide +kernel, by decide +kernel⟩⟩
theorem q_dict1 : Q11 (.dict [(.str ("a" : Str), .int 1)]) := ⟨⟨(fun y e => by cases e), (fun ds e => by cases e)⟩, ⟨by decide +kernel, .inr rfl, by decide +kernel, by decide +kernel⟩⟩
/-! ### numbers and texts drawn -/
theorem powB {a b : Int} (h : powOk a b) : (zop2 ipow (ret a) (ret b) : M Bag Int) = ret (a ^ b.toNat) := by rw [zop2_ret]; exact chk_pos h
theorem powU {a b : Int} (h : powOk a b) : (zop2 ipow (ret a) (ret b) : M Unit Int) = ret (a ^ b.toNat) := by rw [zop2_ret]; exact chk_pos h
theorem ok_number {u : Unit} : Ok Bok (m_w_number u) (fun i => i.natAbs < 2 ^ 100) := by
  unfold m_w_number b_w_number
  refine ok_body ?_
  have e12 : (zop2 ipow (ret (10 : Int)) (ret (12 : Int)) : M Bag Int) = ret (10 ^ 12) := powB (by unfold powOk CPow; decide)
  have e18 : (zop2 ipow (ret (10 : Int)) (ret (18 : Int)) : M Bag Int) = ret (10 ^ 18) := powB (by unfold powOk CPow; decide)
  have e20 : (zop2 ipow (ret (10 : Int)) (ret (20 : Int)) : M Bag Int) = ret (10 ^ 20) := powB (by unfold powOk CPow; decide)
  have e21 : (zop2 ipow (ret (10 : Int)) (ret (21 : Int)) : M Bag Int) = ret (10 ^ 21) := powB (by unfold powOk CPow; decide)
  rw [e12, e18, e20, e21, zop1_ret, ineg_eq]
  have tk : Ok Bok (zapp m_w_take (zpair (ret u) (ret ((10 : Int) ^ 21)))) (fun v => 0 ≤ v ∧ v < 10 ^ 21) := ok_take (by decide) (by decide +kernel)
  have big : (10 : Int) ^ 21 ≤ 2 ^ 90 := by decide
  refine oks_seq (N := LOf 8 fun i : Int => -(10 ^ 21) ≤ i ∧ i ≤ 10 ^ 21) (oks_set (ok_listN (ok_cons (ok_ret (by decide)) (ok_cons (ok_ret (by decide)) (ok_cons (ok_ret (by decide)) (ok_cons (ok_ret (by decide)) (ok_cons (ok_ret (by decide)) (ok_cons (ok_ret (by decide)) (ok_cons (tk.mono fun v hv => by omega) (ok_cons (ok_op2 (P1 := fun v => v = 0) (P2 := fun v => 0 ≤ v ∧ v < 10 ^ 21) (ok_ret rfl) tk fun a b ha hb => by rw [isub_eq]; exact ok_ret (by omega)) ok_nil)))))))) (by decide))) fun xs hxs => ?_
  refine oks_rt (ok_op2 (P1 := fun v => -(10 ^ 21 + 5) ≤ v ∧ v ≤ 10 ^ 21 + 5) (P2 := fun v => v = 2) (ok_op2 (P1 := fun v => -(10 ^ 21) ≤ v ∧ v ≤ 10 ^ 21) (P2 := fun v => 0 ≤ v ∧ v < 5) (ok_ix (k := 8) (ok_ret hxs) (ok_take (by omega) (by omega))) (ok_take (by omega) (by omega)) fun a b ha hb => by rw [iadd_eq]; exact ok_ret (by omega)) (ok_ret rfl) fun a b ha hb => by
    rw [isub_eq]
    refine ok_ret ?_
    have : (2 : Nat) ^ 100 = 1267650600228229401496703205376 := by decide
    omega)
theorem ls_join : ∀ ys : List Str, Ls_ (Txt.join "" ys) = (ys.map Ls_).flatten := fun ys => by
  have : ∀ ys : List Str, Ls_ (Str.join "" ys) = (ys.map Ls_).flatten := by
    intro ys
    induction ys with
    | nil => rfl
    | cons x r ih =>
      cases r with
      | nil => simp [Str.join]
      | cons y r =>
        show Ls_ (x ++ "" ++ Str.join "" (y :: r)) = _
        rw [ls_cat, ls_cat, ih]
        simp [show Ls_ ("" : Str) = [] from rfl]
  have e : Txt.join "" ys = Str.join "" ys := StrLaws.glued_eq_join "" ys
  rw [e, this]
end Zk

namespace Zk
open PySem L2
def Q12 (d : PyData) : Prop := Q11 d ∧ betwF (-(10 ^ 60)) (10 ^ 60) d = wholeF d
section
variable {τ α κ ρ : Type} {I : τ → Prop}
theorem oks_finsertQ {xs : List α} {m : M τ (Int × α)} {Qv : α → Prop} {N : List α → Prop} {R : ρ → Prop} {Kb Kc : κ → Prop} (hl : xs.length ≤ 100000) (hm : Ok I m fun p => (0 ≤ p.1 ∧ p.1 < 2 ^ 63) ∧ Qv p.2) (k : ∀ i v, Qv v → N (xs.take i ++ [v] ++ xs.drop i)) : OkS I (finsert xs m : M τ (Fl (List α) κ ρ)) N R Kb Kc := fun s hs => by
  obtain ⟨p, s', e, i, ⟨h1, h2⟩, h3⟩ := hm s hs
  refine ⟨.nx (xs.take p.1.toNat ++ [p.2] ++ xs.drop p.1.toNat), s', ?_, i, k _ _ h3⟩
  unfold finsert bnd
  rw [e]
  show chk _ _ s' = _
  rw [chk_pos ⟨by rw [size_line]; omega, h1, h2⟩]; rfl
theorem ok_getQ {α β : Type} {m : M τ α} {f : α → β} {P : α → Prop} {Q : β → Prop} (h : Ok I m P) (k : ∀ x, P x → Q (f x)) : Ok I (zget f m) Q := (ok_get h).mono fun y ⟨x, hx, e⟩ => by rw [e]; exact k x hx
theorem w_cells_ok (ns : List Int) (h : ns.length ≤ 63) : ∃ cs, w_cells ns = ret cs ∧ ∀ x ∈ cs, 0 ≤ x := by
  refine ⟨((ns.take 63).map fun x => if x < 0 then -x else x), ?_, fun x hx => ?_⟩
  · unfold w_cells
    rw [zsome_ret, zsl_ret, show cut ns none (some (63 : Int)) = ns.take 63 from cut_hi 63, zlc_map (g := fun x => if x < 0 then -x else x) (fun x _ => by rw [zapp_ret, fabs_eq]) (by rw [List.length_take, size_line]; omega)]
  · obtain ⟨y, _, rfl⟩ := List.mem_map.mp hx
    split <;> omega
end
theorem ok_tkU {u : Unit} {n : Int} (h1 : 1 ≤ n) (h2 : n < 2 ^ 9000) : Ok Bok (zapp m_w_take (zpair (ret u) (ret n))) (fun v => 0 ≤ v ∧ v < n) := ok_take h1 h2
/-! ### a text drawn -/
abbrev others : Str := "\n !\"#$&'()*+,-./0123456789:;<=>?\x40[\\]^_`{|}~"
theorem up_small : (Ls_ (others ++ Txt.upper abc)).all (fun c => decide (c < 128)) = true ∧ 1 ≤ (Ls_ (others ++ Txt.upper abc)).length ∧ (Ls_ (others ++ Txt.upper abc)).length ≤ 100 := by decide +kernel
theorem big (v : Int) (h : v ≤ 100) : v < 2 ^ 9000 := Int.lt_of_le_of_lt h (by decide +kernel)
theorem ok_text {u : Unit} : Ok Bok (m_w_text u) (fun x => CS x ∧ x.length ≤ 20) := by
  unfold m_w_text b_w_text
  refine ok_body ?_
  rw [show ("abcdefghijklmnopqrstuvwxyz" : Str) = abc from rfl, zset_ret, zseq_nx]
  obtain ⟨u1, u2, u3⟩ := up_small
  obtain ⟨O, hO⟩ : ∃ O, O = others ++ Txt.upper abc := ⟨_, rfl⟩
  rw [← hO] at u1 u2 u3
  have cO : CS O := fun c hc => of_decide_eq_true (List.all_eq_true.mp u1 c hc)
  have lO : O.length = (Ls_ O).length := ls_len O
  have eU : (zapp fupper (ret abc) : M Bag Str) = ret (Txt.upper abc) := by
    rw [zapp_ret]; exact chk_pos (by decide)
  have eO : (zop2 scat (ret others) (ret (Txt.upper abc)) : M Bag Str) = ret O := by
    rw [zop2_ret, hO]
    refine scat_eq ?_
    rw [ls_len, ls_len]
    have h := u3
    rw [hO, ls_cat, List.length_append] at h
    omega
  rw [eU, eO, zset_ret, zseq_nx]
  refine oks_seq (N := fun m : Int => 0 ≤ m ∧ m ≤ 10) (oks_set (ok_ix (k := 4) (ok_listN (ok_cons ((ok_tkU (by omega) (by omega)).mono fun v hv => by omega) (ok_cons (ok_ret (by omega)) (ok_cons (ok_ret (by omega)) (ok_cons (ok_ret (by omega)) ok_nil)))) (by decide)) (ok_tkU (u := u) (n := 4) (by omega) (by omega)))) fun m hm => ?_
  rw [zapp_ret (f := frA1), frA1_eq]
  refine oks_seq (N := fun x : Str => CS x ∧ ((Ls_ x).length : Int) = m) (oks_set (ok_op2 (f := fjoin) (P1 := fun x : Str => x = ("" : Str)) (P2 := LOf (rng 0 m.toNat).length fun s : Str => ∃ c : Nat, c < 128 ∧ s = ⟨#[c]⟩) (ok_ret rfl) (
    ok_lc (f := fun _ : Int => (zop2 sixat (ret abc) (zapp m_w_take (zpair (ret u) (ret (26 : Int)))) : M Bag Str)) (fun x _ => ok_op2 (f := sixat) (P1 := fun x => x = abc) (P2 := fun i => 0 ≤ i ∧ i < 26) (ok_ret rfl) (ok_tkU (by omega) (by omega)) fun x i hx hi => by
      subst hx
      rw [sixat_eq abc_len (abc_at hi)]
      exact ok_ret ⟨97 + i.toNat, by omega, rfl⟩) (by rw [rng_length, size_line]; omega)) fun x ys hx hy => ?_)) fun t ht => ?_
  · subst hx
    obtain ⟨h1, h2⟩ := hy
    rw [rng_length] at h1
    have key : ∀ ys : List Str, (∀ y ∈ ys, ∃ c : Nat, c < 128 ∧ y = ⟨#[c]⟩) → ((ys.map Ls_).flatten.length = ys.length ∧ (ys.map (·.length)).sum = ys.length ∧ ∀ c ∈ (ys.map Ls_).flatten, c < 128) := by
      intro ys
      induction ys with
      | nil => intro _; exact ⟨rfl, rfl, by simp⟩
      | cons y ys ih =>
        intro h
        obtain ⟨i1, i2, i3⟩ := ih fun z hz => h z (by simp [hz])
        obtain ⟨c, hc, rfl⟩ := h y (by simp)
        refine ⟨?_, ?_, ?_⟩
        · rw [List.map_cons, List.flatten_cons, List.length_append, i1]
          show 1 + ys.length = _
          rw [List.length_cons]; omega
        · rw [List.map_cons, List.sum_cons, i2]
          show 1 + ys.length = _
          rw [List.length_cons]; omega
        · intro d hd
          rw [List.map_cons, List.flatten_cons] at hd
          rcases List.mem_append.mp hd with hd | hd
          · have : d = c := by simpa using hd
            omega
          · exact i3 d hd
    obtain ⟨k1, k2, k3⟩ := key ys h2
    have e : (fjoin ("" : Str) ys : M Bag Str) = ret (Txt.join "" ys) := chk_pos (by
      rw [k2, show ("" : Str).length = 0 from rfl]; omega)
    rw [e]
    refine ok_ret ⟨fun c hc => ?_, ?_⟩
    · rw [ls_join] at hc; exact k3 c hc
    · rw [ls_join, k1, h1]; omega
  obtain ⟨ct, lt⟩ := ht
  have tl : t.length = (Ls_ t).length := ls_len t
  refine oks_seq (N := fun _ => t ≠ "") (oks_if (P := fun b => b = false → t ≠ "") (ok_or (P := fun b => b = decide (t = "")) (by rw [zop2_ret, feq_eq]; exact ok_ret rfl) (fun _ h => by cases h) fun h => (ok_eqk (ok_any (ok_tkU (u := u) (n := 2) (by omega) (by omega)))).mono fun _ _ _ z => by rw [decide_eq_true z] at h; cases h) (fun _ => oks_rt (ok_ret ⟨ct, by omega⟩)) fun h => oks_nx (h rfl)) fun _ hne => ?_
  have m1 : 1 ≤ m := by
    by_cases z : 1 ≤ m
    · exact z
    · exfalso
      exact hne (ls_inj (List.length_eq_zero_iff.mp (by omega) : Ls_ t = Ls_ ""))
  refine oks_seq (N := fun v : Int => 0 ≤ v ∧ v < m) (oks_set (ok_tkU m1 (big m (by omega)))) fun sp hsp => ?_
  have eS : (zslS (ret t) (ret none) (zsome (ret sp)) : M Bag Str) = ret (Txt.slice t none (some sp)) := by rw [zsome_ret]; exact zslS_ret (by omega)
  have eT : (zslS (ret t) (zsome (zop2 iadd (ret sp) (ret (1 : Int)))) (ret none) : M Bag Str) = ret (Txt.slice t (some (sp + 1)) none) := by rw [zop2_ret, iadd_eq, zsome_ret]; exact zslS_ret (by omega)
  have s1 := slice_to (x := t) (j := sp) (by omega)
  have s2 := slice_from (x := t) (i := sp + 1) (by omega)
  rw [eS, eT, zapp_ret, flenS_eq (by omega)]
  refine oks_rt (ok_op2 (P1 := fun x : Str => CS x ∧ (Ls_ x).length ≤ 11) (P2 := fun x : Str => CS x ∧ (Ls_ x).length ≤ 9) (ok_op2 (P1 := fun x : Str => CS x ∧ (Ls_ x).length ≤ 10) (P2 := fun x : Str => CS x ∧ (Ls_ x).length = 1) (ok_ret ⟨fun c hc => ?_, ?_⟩) (ok_op2 (P1 := fun x => x = O) (P2 := fun i => 0 ≤ i ∧ i < ((Ls_ O).length : Int)) (ok_ret rfl) (ok_tkU (by omega) (big _ (by omega))) fun x i hx hi => ?_) fun x y hx hy => ?_) (ok_ret ⟨fun c hc => ?_, ?_⟩) fun x y hx hy => ?_)
  · rw [s1] at hc; exact ct c (List.mem_of_mem_take hc)
  · rw [s1, List.length_take]; omega
  · subst hx
    rw [sixat_eq (c := (Ls_ x)[i.toNat]'(by omega)) (by omega) (atI_nat hi.1 (by omega))]
    exact ok_ret ⟨fun c hc => by
      have : c = (Ls_ x)[i.toNat]'(by omega) := by simpa using hc
      rw [this]; exact cO _ (List.getElem_mem _), rfl⟩
  · rw [scat_eq (by rw [ls_len, ls_len]; omega)]
    refine ok_ret ⟨fun c hc => ?_, ?_⟩
    · rw [ls_cat] at hc
      rcases List.mem_append.mp hc with hc | hc
      · exact hx.1 c hc
      · exact hy.1 c hc
    · rw [ls_cat, List.length_append]; omega
  · rw [s2] at hc; exact ct c (List.mem_of_mem_drop hc)
  · rw [s2, List.length_drop]; omega
  · rw [scat_eq (by rw [ls_len, ls_len]; omega)]
    refine ok_ret ⟨fun c hc => ?_, ?_⟩
    · rw [ls_cat] at hc
      rcases List.mem_append.mp hc with hc | hc
      · exact hx.1 c hc
      · exact hy.1 c hc
    · rw [ls_len, ls_cat, List.length_append]; omega
end Zk

namespace Zk
open PySem L2
theorem q12_of {d : PyData} (h : Q11 d) (hi : ∀ i, d ≠ .int i) : Q12 d := ⟨h, by
  cases d with
  | int i => exact absurd rfl (hi i)
  | _ => rfl⟩
theorem q12_int {i : Int} (h : -(10 ^ 60) ≤ i ∧ i ≤ 10 ^ 60) : Q12 (.int i) := ⟨q_int (by
  have : i.natAbs ≤ 10 ^ 60 := by omega
  exact Nat.lt_of_le_of_lt this (by decide)), by
  show (decide (-(10 ^ 60) ≤ i) && decide (i ≤ 10 ^ 60)) = true
  rw [decide_eq_true h.1, decide_eq_true h.2]; rfl⟩
section
variable {ns : List Str}
theorem first_ok {k : Int} (hk : 1 ≤ k) (h : NamesOk k ns) : (∃ a, (ixat ns (0 : Int) : M Bag Str) = ret a ∧ NameOk a) ∧ ∃ a, (ixat ns (-1) : M Bag Str) = ret a ∧ NameOk a := by
  have hl := h.1
  have h0 : 0 < ns.length := by omega
  have hne : ns ≠ [] := List.ne_nil_of_length_pos h0
  exact ⟨⟨ns[0]'h0, ixat_nat (i := (0 : Int)) (by decide) (show (0 : Int).toNat < ns.length from h0), h.2.2 _ (List.getElem_mem _)⟩, ⟨ns.getLast hne, ixat_last hne, h.2.2 _ (List.getLast_mem hne)⟩⟩
theorem ok_some {u : Unit} {k : Int} (hk : 1 ≤ k ∧ k ≤ 12) (h : NamesOk k ns) : Ok Bok (m_w_some (u, ns)) Q12 := by
  obtain ⟨⟨a, ea, na⟩, ⟨b, eb, nb⟩⟩ := first_ok hk.1 h
  have hl := h.1
  unfold m_w_some b_w_some
  refine ok_body ?_
  dsimp only
  rw [zlist_eq (by simp), zset_ret, zseq_nx]
  refine oks_seq (N := fun c : List PyData => (∀ e ∈ c, Le e) ∧ c.length ≤ 12) (oks_for (J := fun r (c : List PyData) => (∀ e ∈ c, Le e) ∧ c.length + r.length ≤ 12 ∧ ∀ x ∈ r, NameOk x) ⟨by simp, by simp; omega, h.2.2⟩ (fun x r c hc => ?_) fun c hc => ⟨hc.1, by have := hc.2.1; simpa using this⟩) fun c hc => ?_
  · obtain ⟨h1, h2, h3⟩ := hc
    rw [List.length_cons] at h2
    refine oks_seq (N := fun c : List PyData => (∀ e ∈ c, Le e) ∧ c.length + r.length ≤ 12) (oks_if (P := fun _ => True) (ok_any (ok_op2 (P1 := fun _ => True) (P2 := fun _ => True) (ok_any (ok_tkU (by omega) (by omega))) (ok_ret trivial) fun x y _ _ => by rw [igt_eq]; exact ok_ret (Q := fun _ => True) trivial)) (fun _ => ?_) fun _ => oks_nx ⟨h1, by omega⟩) fun c' hc' => oks_nx ⟨hc'.1, hc'.2, fun y hy => h3 y (by simp [hy])⟩
    refine oks_seq (N := fun c : List PyData => (∀ e ∈ c, Le e) ∧ c.length + r.length ≤ 12) (oks_finsertQ (Qv := Le) (by omega) ((ok_pair (P1 := fun v : Int => 0 ≤ v ∧ v < 2 ^ 63) (P2 := Le) (by
      rw [zapp_ret, flen_eq, zop2_ret, iadd_eq]
      exact (ok_tkU (by omega) (big _ (by omega))).mono fun v hv => by omega) (ok_getQ (P := fun y => y = x) (ok_ret rfl) fun y hy => by rw [hy]; exact le_name (h3 x (by simp)))).mono fun p hp => ⟨hp.1, hp.2⟩) fun i v hv => ⟨fun e he => ?_, ?_⟩) fun c' hc' => oks_nx hc'
    · rcases List.mem_append.mp he with he | he
      · rcases List.mem_append.mp he with he | he
        · exact h1 e (List.mem_of_mem_take he)
        · rw [List.mem_singleton.mp he]; exact hv
      · exact h1 e (List.mem_of_mem_drop he)
    · simp only [List.length_append, List.length_take, List.length_drop, List.length_singleton]; omega
  obtain ⟨h1, h2⟩ := hc
  rw [zapp_ret (f := flen), flen_eq, zop2_ret (f := iadd), iadd_eq]
  refine oks_seq (N := fun v : Int => 0 ≤ v ∧ v ≤ 12) (oks_set ((ok_tkU (by omega) (big _ (by omega))).mono fun v hv => by omega)) fun sp hsp => ?_
  rw [zop2_ret (f := ixat), ea, zop1_ret, ineg_eq, zop2_ret (f := ixat), eb]
  have lt : ∀ x : Str, CS x → x.length ≤ 20 → Ok Bok (zget (qS : DaQ rStr).d (ret x)) Le := fun x hx hl => ok_getQ (P := fun y => y = x) (ok_ret rfl) fun y hy => by rw [hy]; exact le_str hx hl
  have one : ∀ e ∈ [PyData.str a], Le e ∧ e.depth ≤ 2 ∧ e.bulk ≤ 10 := fun e he => by
    rw [List.mem_singleton.mp he]
    exact ⟨le_name na, by simp [PyData.depth], by have := (cs_name na).2; show a.cps.size ≤ 10; have : a.length = a.cps.size := rfl; omega⟩
  refine oks_seq (N := LOf 10 Le) (oks_set (ok_listN (ok_cons (lt a (cs_name na).1 (by have := (cs_name na).2; omega)) (ok_cons (lt b (cs_name nb).1 (by have := (cs_name nb).2; omega)) (ok_cons (lt _ (by unfold CS; decide) (by decide)) (ok_cons (lt _ (by unfold CS; decide) (by decide)) (ok_cons (lt _ (by unfold CS; decide) (by decide)) (ok_cons (ok_getQ (P := fun y => y = 5) (ok_ret rfl) fun y hy => by rw [hy]; exact le_int5) (ok_cons (ok_getQ (P := fun _ => True) (ok_ret trivial) fun y _ => le_non) (ok_cons (ok_getQ (P := fun y => y = [a]) (by rw [zcons_ret, zlist_eq (by simp)]; exact ok_ret rfl) fun y hy => by rw [hy]; exact (le_list one (by simp)).1) (ok_cons (ok_getQ (P := fun y => y = [a]) (by rw [zcons_ret, zlist_eq (by simp)]; exact ok_ret rfl) fun y hy => by rw [hy]; exact (le_list one (by simp)).2) (ok_cons (ok_getQ (P := fun y => y = true) (ok_ret rfl) fun y _ => le_bl) ok_nil)))))))))) (by decide))) fun more hmore => ?_
  refine oks_seq (N := fun c : List PyData => (∀ e ∈ c, Le e) ∧ c.length ≤ 13) (oks_if (P := fun _ => True) (ok_eqk (ok_any (ok_tkU (by omega) (by omega)))) (fun _ => ?_) fun _ => oks_nx ⟨h1, by omega⟩) fun c' hc' => ?_
  · refine oks_seq (N := fun c : List PyData => (∀ e ∈ c, Le e) ∧ c.length ≤ 13) (oks_finsertQ (Qv := Le) (by omega) ((ok_pair (P1 := fun v : Int => 0 ≤ v ∧ v < 2 ^ 63) (P2 := Le) (ok_ret (by omega)) (ok_ix (k := 10) (ok_ret hmore) (ok_tkU (by omega) (by omega)))).mono fun p hp => ⟨hp.1, hp.2⟩) fun i v hv => ⟨fun e he => ?_, ?_⟩) fun c' hc' => oks_nx hc'
    · rcases List.mem_append.mp he with he | he
      · rcases List.mem_append.mp he with he | he
        · exact h1 e (List.mem_of_mem_take he)
        · rw [List.mem_singleton.mp he]; exact hv
      · exact h1 e (List.mem_of_mem_drop he)
    · simp only [List.length_append, List.length_take, List.length_drop, List.length_singleton]; omega
  obtain ⟨g1, g2⟩ := hc'
  have qc : Q12 (.list (c'.map id)) := by rw [List.map_id]; exact q12_of (q_list g1 (by omega)) fun i e => by cases e
  have qt : Q12 (.tuple (c'.map id)) := by rw [List.map_id]; exact q12_of (q_tup g1 (by omega)) fun i e => by cases e
  have qn : Q12 (.list (ns.map PyData.str)) := q12_of (q_list (fun e he => by
    obtain ⟨n, hn, rfl⟩ := List.mem_map.mp he
    exact le_name (h.2.2 n hn)) (by rw [List.length_map]; omega)) fun i e => by cases e
  have same : Ok Bok (zget ((qL qQ) : DaQ (rLst rQ)).d (ret c')) Q12 := ok_getQ (P := fun y => y = c') (ok_ret rfl) fun y hy => by rw [hy]; exact qc
  refine oks_rt (ok_ix (k := 6) (ok_listN (ok_cons same (ok_cons same (ok_cons same (ok_cons (ok_getQ (P := fun y => y = c') (by rw [zapp_ret]; exact ok_ret rfl) fun y hy => by rw [hy]; exact qt) (ok_cons (ok_getQ (P := fun y => y = ns) (by rw [zapp_ret]; exact ok_ret rfl) fun y hy => by rw [hy]; exact qn) (ok_cons (ok_getQ (P := fun y => y = []) (ok_ret rfl) fun y hy => by rw [hy]; exact q12_of q_dict0 fun i e => by cases e) ok_nil)))))) (by decide)) (ok_tkU (by omega) (by omega)))
theorem ok_thing {u : Unit} {k : Int} (hk : 1 ≤ k ∧ k ≤ 6) (h : NamesOk k ns) : Ok Bok (m_w_thing (u, ns)) Q12 := by
  obtain ⟨⟨a, ea, na⟩, _⟩ := first_ok hk.1 h
  have hl := h.1
  unfold m_w_thing b_w_thing
  refine ok_body ?_
  dsimp only
  refine oks_seq (N := fun _ => True) (oks_set (ok_any (ok_tkU (by omega) (by omega)))) fun way _ => ?_
  have go : ∀ {α : Type} (c : Bool) (m : M Bag PyData) (f : Unit → M Bag (Fl α Empty PyData)) {N : α → Prop} {Kb Kc : Empty → Prop}, Ok Bok m Q12 → OkS Bok (f ()) N Q12 Kb Kc → OkS Bok (zseq (zifS (ret c) (zrt m) (znx ())) f) N Q12 Kb Kc := fun c m f N Kb Kc hm hf => oks_seq (N := fun _ => True) (oks_if (P := fun _ => True) (ok_ret trivial) (fun _ => oks_rt hm) fun _ => oks_nx trivial) fun _ _ => hf
  simp only [zop2_ret (f := ilt), ilt_eq]
  refine go _ _ _ (ok_getQ (P := fun i : Int => i.natAbs < 2 ^ 100) (ok_app (P := fun _ => True) (ok_ret trivial) fun _ _ => ok_number) fun i hi => q12_int (by
    have e1 : (2 : Nat) ^ 100 = 1267650600228229401496703205376 := by decide
    have e2 : (10 : Int) ^ 60 = 1000000000000000000000000000000000000000000000000000000000000 := by decide
    omega)) ?_
  refine go _ _ _ (ok_getQ (P := fun x : Str => CS x ∧ x.length ≤ 20) (ok_app (P := fun _ => True) (ok_ret trivial) fun _ _ => ok_text) fun x hx => q12_of (q_str hx.1 (by omega)) fun i e => by cases e) ?_
  refine go _ _ _ (by rw [zpair_ret, zapp_ret]; exact ok_some (by omega) h) ?_
  have st : ∀ x : Str, CS x → x.length ≤ 5000 → Ok Bok (zget (qS : DaQ rStr).d (ret x)) Q12 := fun x hx hl => ok_getQ (P := fun y => y = x) (ok_ret rfl) fun y hy => by rw [hy]; exact q12_of (q_str hx hl) fun i e => by cases e
  have l0 : Q12 (.list []) := q12_of (q_list (by simp) (by simp)) fun i e => by cases e
  have t0 : Q12 (.tuple []) := q12_of (q_tup (by simp) (by simp)) fun i e => by cases e
  have ll : Q12 (.list [.list []]) := q12_of (q_list (fun e he => by rw [List.mem_singleton.mp he]; exact (le_list (xs := []) (by simp) (by simp)).1) (by simp)) fun i e => by cases e
  have t1 : Q12 (.tuple [.int 1]) := q12_of (q_tup (fun e he => by rw [List.mem_singleton.mp he]; exact le_int1) (by simp)) fun i e => by cases e
  have em : (zop2 smul (ret ("a" : Str)) (ret (4000 : Int)) : M Bag Str) = ret (Txt.mul ("a" : Str) 4000) := by
    rw [zop2_ret]
    refine chk_pos ⟨by decide, by decide, ?_⟩
    rw [size_line]
    show 1 * (4000 : Int).toNat ≤ _
    decide
  have lm : Ls_ (Txt.mul ("a" : Str) 4000) = (List.replicate 4000 [97]).flatten := ls_mul (x := ("a" : Str)) (k := 4000) (by decide)
  rw [List.flatten_replicate_singleton] at lm
  have sm : Ok Bok (zget (qS : DaQ rStr).d (ret (Txt.mul ("a" : Str) 4000))) Q12 := st _ (fun c hc => by rw [lm] at hc; rw [(List.mem_replicate.mp hc).2]; omega) (by rw [ls_len, lm, List.length_replicate]; omega)
  rw [em, zop2_ret (f := ixat), ea]
  refine oks_seq (N := LOf 12 Q12) (oks_set (ok_listN (ok_cons (ok_getQ (P := fun _ => True) (ok_ret trivial) fun _ _ => q12_of q_non fun i e => by cases e) (ok_cons (ok_getQ (P := fun _ => True) (ok_ret trivial) fun _ _ => q12_of q_bl fun i e => by cases e) (ok_cons (ok_getQ (P := fun _ => True) (ok_ret trivial) fun _ _ => q12_of q_bl fun i e => by cases e) (ok_cons (st _ (by unfold CS; decide) (by decide)) (ok_cons (ok_getQ (P := fun y => y = []) (by rw [zlist_eq (by simp)]; exact ok_ret rfl) fun y hy => by rw [hy]; exact l0) (ok_cons (ok_getQ (P := fun y => y = []) (by rw [zlist_eq (by simp)]; exact ok_ret rfl) fun y hy => by rw [hy]; exact t0) (ok_cons (ok_getQ (P := fun y => y = []) (ok_ret rfl) fun y hy => by rw [hy]; exact q12_of q_dict0 fun i e => by cases e) (ok_cons (ok_getQ (P := fun y => y = [[]]) (by rw [zlist_eq (by simp), zcons_ret, zlist_eq (by simp)]; exact ok_ret rfl) fun y hy => by rw [hy]; exact ll) (ok_cons (ok_getQ (P := fun y => y = [1]) (by rw [zcons_ret, zlist_eq (by simp)]; exact ok_ret rfl) fun y hy => by rw [hy]; exact t1) (ok_cons (ok_getQ (P := fun y => y = [(("a" : Str), (1 : Int))]) (by rw [show (nox (ret (1 : Int)) : M Bag Int) = ret 1 from rfl, zget_ret]; exact ok_ret rfl) fun y hy => by rw [hy]; exact q12_of q_dict1 fun i e => by cases e) (ok_cons (st a (cs_name na).1 (by have := (cs_name na).2; omega)) (ok_cons sm ok_nil)))))))))))) (by decide))) fun odd hodd => ?_
  have ep : (zop2 ipow (ret (10 : Int)) (ret (40 : Int)) : M Bag Int) = ret (10 ^ 40) := powB (by unfold powOk CPow; decide)
  have er : (zop2 lrep (ret ns) (ret (4000 : Int)) : M Bag (List Str)) = ret (List.replicate 4000 ns).flatten := by
    rw [zop2_ret]
    refine chk_pos ⟨by decide, by decide, ?_⟩
    rw [size_line]
    show ns.length * 4000 ≤ _
    omega
  have fl : (List.replicate 4000 ns).flatten.length = 4000 * ns.length := by rw [List.length_flatten, List.map_replicate, List.sum_replicate_nat]
  have qr : Q12 (.list ((List.replicate 4000 ns).flatten.map PyData.str)) := q12_of (q_list (fun e he => by
    obtain ⟨n, hn, rfl⟩ := List.mem_map.mp he
    obtain ⟨l, hl, hn⟩ := List.mem_flatten.mp hn
    rw [(List.mem_replicate.mp hl).2] at hn
    exact le_name (h.2.2 n hn)) (by rw [List.length_map, fl]; omega)) fun i e => by cases e
  rw [ep, er]
  exact oks_rt (ok_ix (k := 14) (ok_catL (j := 12) (k := 2) (ok_ret hodd) (ok_listN (ok_cons (ok_getQ (P := fun y => y = 10 ^ 40) (ok_ret rfl) fun y hy => by rw [hy]; exact q12_int (by decide)) (ok_cons (ok_getQ (P := fun y => y = (List.replicate 4000 ns).flatten) (ok_ret rfl) fun y hy => by rw [hy]; exact qr) ok_nil)) (by decide)) (by decide)) (ok_tkU (by omega) (by omega)))
end
end Zk

namespace Zk
open PySem L2
section
variable {ns : List Str} {d : PyData} {k : Int}
def boolsF (ns : List Str) (d : PyData) : List Bool := [wholeF d, nameF d, betwF 0 (10 ^ 20) d, betwF 0 (10 ^ 18) d, betwF (-(10 ^ 12)) (10 ^ 12) d, betwF 0 2000 d, groupF ns d]
theorem asked_eq (hl : ns.length ≤ 100) (h : GOk d) : m_w_asked (ns, d) = ret (boolsF ns d) := by
  have e1 : m_is_price d = ret (betwF 0 (10 ^ 20) d) := by
    unfold m_is_price b_is_price
    rw [zpair_ret, zpair_ret, zapp_ret, between_eq, lft_ret, zrt_ret, zbody_rt]; rfl
  have e2 : m_are_coins d = ret (betwF 0 (10 ^ 18) d) := by
    unfold m_are_coins b_are_coins
    rw [zpair_ret, zpair_ret, zapp_ret, between_eq, lft_ret, zrt_ret, zbody_rt]; rfl
  have e3 : m_is_place d = ret (betwF (-(10 ^ 12)) (10 ^ 12) d) := by
    unfold m_is_place b_is_place
    rw [zop2_ret, isub_eq, zpair_ret, zpair_ret, zapp_ret, between_eq, lft_ret, zrt_ret, zbody_rt]; rfl
  have e4 : m_are_beats d = ret (betwF 0 2000 d) := by
    unfold m_are_beats b_are_beats
    rw [zpair_ret, zpair_ret, zapp_ret, between_eq, lft_ret, zrt_ret, zbody_rt]; rfl
  unfold m_w_asked b_w_asked
  dsimp only
  simp only [zapp_ret, zpair_ret, whole_eq, name_prog h.s, e1, e2, e3, e4, group_prog hl h, lft_ret, zcons_ret]
  rw [zlist_eq (by simp), zlist_eq (by simp), zset_ret, zseq_nx, zop2_ret, lcat_eq (by simp), zrt_ret, zbody_rt]
  rfl
theorem due_eq (hl : ns.length ≤ 100) (h : GOk d) (hw : betwF (-(10 ^ 60)) (10 ^ 60) d = wholeF d) : m_w_due (ns, d) = ret (boolsF ns d) := by
  have p60 : (zop2 ipow (ret (10 : Int)) (ret (60 : Int)) : M Unit Int) = ret (10 ^ 60) := powU (by unfold powOk CPow; decide)
  have p20 : (zop2 ipow (ret (10 : Int)) (ret (20 : Int)) : M Unit Int) = ret (10 ^ 20) := powU (by unfold powOk CPow; decide)
  have p18 : (zop2 ipow (ret (10 : Int)) (ret (18 : Int)) : M Unit Int) = ret (10 ^ 18) := powU (by unfold powOk CPow; decide)
  have p12 : (zop2 ipow (ret (10 : Int)) (ret (12 : Int)) : M Unit Int) = ret (10 ^ 12) := powU (by unfold powOk CPow; decide)
  unfold m_w_due b_w_due
  dsimp only
  rw [p60, p20, p18, p12]
  simp only [zop1_ret, ineg_eq, zapp_ret, zpair_ret, within_eq, name_own h.s, group_own hl h, lft_ret, zcons_ret, hw]
  rw [zlist_eq (by simp), zset_ret, zseq_nx, zlist_eq (by simp), zop2_ret, lcat_eq (by simp), zset_ret, zseq_nx, zlist_eq (by simp), zop2_ret, lcat_eq (by simp), zrt_ret, zbody_rt]
  rfl
theorem frepr_bl7 {τ : Type} {xs : List Bool} (h : xs.length ≤ 100) : (frepr (datL datB) xs : M τ Str) = ret ((datL datB).d xs).shown := by
  have hx : ∀ e ∈ xs.map PyData.bool, Le e := fun e he => by
    obtain ⟨b, _, rfl⟩ := List.mem_map.mp he
    exact le_bl
  have q := (q_list hx (by rw [List.length_map]; omega)).2
  obtain ⟨h1, h2, h3, h4, h5, h6⟩ := les hx
  exact chk_pos ⟨q.s, by show (PyData.list (xs.map PyData.bool)).canLay0 = true; rw [PyData.canLay0]; exact h6, by decide, q.l⟩
theorem names_same {τ : Type} (h : NamesOk k ns) (hl : ns.length ≤ 100) : (dne (datL datS) ns ns : M τ Bool) = ret false := by
  have hx : ∀ e ∈ ns.map PyData.str, Le e := fun e he => by
    obtain ⟨n, hn, rfl⟩ := List.mem_map.mp he
    exact le_name (h.2.2 n hn)
  obtain ⟨h1, h2, h3, h4, h5, h6⟩ := les hx
  have c : ((datL datS).d ns).canLay0 = true := by show (PyData.list (ns.map PyData.str)).canLay0 = true; rw [PyData.canLay0]; exact h6
  rw [dne_eq ⟨c, c, by decide⟩, decide_eq_true rfl]; rfl
end
/-! ### the law -/
theorem law_true : ∀ ns : List Int, ns.length ≤ 63 → m_law ns () = .ok true () := fun xs hx => by
  obtain ⟨cs, ec, hc⟩ := w_cells_ok xs hx
  unfold m_law
  refine law_end (I := Bok) ec ⟨Int.le_refl 0, (by decide : (0 : Int) ≤ 1234567891), Int.le_refl 0, hc⟩ ?_
  unfold r_law
  rw [zapp_ret, frA1_eq]
  refine oks_seq (N := fun _ => True) (oks_for (J := fun _ _ => True) trivial (fun _ _ _ _ => ?_) fun _ _ => trivial) fun _ _ => oks_rt (ok_ret rfl)
  refine oks_seq (N := fun ns => ∃ k : Int, (1 ≤ k ∧ k ≤ 6) ∧ NamesOk k ns) (oks_set (ok_app (ok_pair (P1 := fun _ => True) (P2 := fun v => 1 ≤ v ∧ v ≤ 6) (ok_ret trivial) (ok_op2 (P1 := fun v => v = 1) (P2 := fun v => 0 ≤ v ∧ v < 6) (ok_ret rfl) (ok_tkU (by omega) (by omega)) fun a b ha hb => by rw [iadd_eq]; exact ok_ret (by omega))) fun q hq => (ok_names (u := q.1) (k := q.2) (by have := hq.2; omega)).mono fun ns h => ⟨q.2, hq.2, h⟩)) fun ns hns => ?_
  obtain ⟨k, hk, hn⟩ := hns
  have hl : ns.length ≤ 100 := by have := hn.1; omega
  refine oks_seq (N := Q12) (oks_set (by rw [zpair_ret, zapp_ret]; exact ok_thing hk hn)) fun d hd => ?_
  obtain ⟨⟨hg, hr⟩, hw⟩ := hd
  have er : ∀ {τ : Type}, (freprQ d : M τ Str) = ret d.shown := fun {τ} => chk_pos ⟨hr.s, hr.h, hr.dd, hr.l⟩
  simp only [zapp_ret, zpair_ret, er, due_eq hl hg hw, lft_ret]
  rw [show (ret ns : M Bag (List Str)) = ret ns from rfl, zset_ret, zseq_nx, zset_ret, zseq_nx, frA1_eq]
  dsimp only
  refine oks_seq (N := fun _ => True) (oks_for (J := fun _ _ => True) trivial (fun _ _ _ _ => ?_) fun _ _ => trivial) fun _ _ => oks_nx trivial
  have el : (boolsF ns d).length ≤ 100 := by unfold boolsF; simp
  simp only [asked_eq hl hg, lft_ret, zapp_ret, frepr_bl7 el, zop2_ret, fne_eq, names_same hn hl, er, decide_true, Bool.not_true]
  rw [zor_ff, zor_ff, zifS_ret, if_neg (by decide), znx_ret, zseq_nx]
  exact oks_nx trivial
end Zk

namespace Zk
open PySem L2

theorem all_mk {P : Program} {w : World} {K : PySem.W.Frag} {h : Heap} {mg : Str → Option Value} {fa f_w_bag f_w_take f_w_names f_w_number f_w_text f_w_some f_w_thing f_w_within f_w_is_name f_w_is_group f_w_due f_is_whole f_is_name f_is_between f_is_price f_are_coins f_is_place f_are_beats f_are_unlike f_is_group f_w_asked f_law : Addr} (X : K.In h) (G : h.Ns mainGlobals mg) (hfa : mg "law" = some (.ref fa))
    {u_LETTERS : Value}
    {u_MOST_BEATS : Value}
    {u_MOST_COINS : Value}
    {u_MOST_PLACE : Value}
    {u_MOST_PRICE : Value}
    {u_MOST_SIGNS : Value}
    {od_w_bag an_w_bag : Option Addr} {sl_w_bag : Array (Option Value)} {oc_w_bag kV_w_bag dc_w_bag pm_w_bag cd_w_bag ct_w_bag : Value}
    {od_w_take an_w_take : Option Addr} {sl_w_take : Array (Option Value)} {oc_w_take kV_w_take dc_w_take pm_w_take cd_w_take ct_w_take : Value}
    {od_w_names an_w_names : Option Addr} {sl_w_names : Array (Option Value)} {oc_w_names kV_w_names dc_w_names pm_w_names cd_w_names ct_w_names : Value}
    {od_w_number an_w_number : Option Addr} {sl_w_number : Array (Option Value)} {oc_w_number kV_w_number dc_w_number pm_w_number cd_w_number ct_w_number : Value}
    {od_w_text an_w_text : Option Addr} {sl_w_text : Array (Option Value)} {oc_w_text kV_w_text dc_w_text pm_w_text cd_w_text ct_w_text : Value}
    {od_w_some an_w_some : Option Addr} {sl_w_some : Array (Option Value)} {oc_w_some kV_w_some dc_w_some pm_w_some cd_w_some ct_w_some : Value}
    {od_w_thing an_w_thing : Option Addr} {sl_w_thing : Array (Option Value)} {oc_w_thing kV_w_thing dc_w_thing pm_w_thing cd_w_thing ct_w_thing : Value}
    {od_w_within an_w_within : Option Addr} {sl_w_within : Array (Option Value)} {oc_w_within kV_w_within dc_w_within pm_w_within cd_w_within ct_w_within : Value}
    {od_w_is_name an_w_is_name : Option Addr} {sl_w_is_name : Array (Option Value)} {oc_w_is_name kV_w_is_name dc_w_is_name pm_w_is_name cd_w_is_name ct_w_is_name : Value}
    {od_w_is_group an_w_is_group : Option Addr} {sl_w_is_group : Array (Option Value)} {oc_w_is_group kV_w_is_group dc_w_is_group pm_w_is_group cd_w_is_group ct_w_is_group : Value}
    {od_w_due an_w_due : Option Addr} {sl_w_due : Array (Option Value)} {oc_w_due kV_w_due dc_w_due pm_w_due cd_w_due ct_w_due : Value}
    {od_is_whole an_is_whole : Option Addr} {sl_is_whole : Array (Option Value)} {oc_is_whole kV_is_whole dc_is_whole pm_is_whole cd_is_whole ct_is_whole : Value}
    {od_is_name an_is_name : Option Addr} {sl_is_name : Array (Option Value)} {oc_is_name kV_is_name dc_is_name pm_is_name cd_is_name ct_is_name : Value}
    {od_is_between an_is_between : Option Addr} {sl_is_between : Array (Option Value)} {oc_is_between kV_is_between dc_is_between pm_is_between cd_is_between ct_is_between : Value}
    {od_is_price an_is_price : Option Addr} {sl_is_price : Array (Option Value)} {oc_is_price kV_is_price dc_is_price pm_is_price cd_is_price ct_is_price : Value}
    {od_are_coins an_are_coins : Option Addr} {sl_are_coins : Array (Option Value)} {oc_are_coins kV_are_coins dc_are_coins pm_are_coins cd_are_coins ct_are_coins : Value}
    {od_is_place an_is_place : Option Addr} {sl_is_place : Array (Option Value)} {oc_is_place kV_is_place dc_is_place pm_is_place cd_is_place ct_is_place : Value}
    {od_are_beats an_are_beats : Option Addr} {sl_are_beats : Array (Option Value)} {oc_are_beats kV_are_beats dc_are_beats pm_are_beats cd_are_beats ct_are_beats : Value}
    {od_are_unlike an_are_unlike : Option Addr} {sl_are_unlike : Array (Option Value)} {oc_are_unlike kV_are_unlike dc_are_unlike pm_are_unlike cd_are_unlike ct_are_unlike : Value}
    {od_is_group an_is_group : Option Addr} {sl_is_group : Array (Option Value)} {oc_is_group kV_is_group dc_is_group pm_is_group cd_is_group ct_is_group : Value}
    {od_w_asked an_w_asked : Option Addr} {sl_w_asked : Array (Option Value)} {oc_w_asked kV_w_asked dc_w_asked pm_w_asked cd_w_asked ct_w_asked : Value}
    {od_law an_law : Option Addr} {sl_law : Array (Option Value)} {oc_law kV_law dc_law pm_law cd_law ct_law : Value}
    (z_abs : PySem.W.nsIn K mainGlobals "abs" = some none)
    (z_all : PySem.W.nsIn K mainGlobals "all" = some none)
    (z_bool : PySem.W.nsIn K mainGlobals "bool" = some none)
    (z_int : PySem.W.nsIn K mainGlobals "int" = some none)
    (z_isinstance : PySem.W.nsIn K mainGlobals "isinstance" = some none)
    (z_len : PySem.W.nsIn K mainGlobals "len" = some none)
    (z_list : PySem.W.nsIn K mainGlobals "list" = some none)
    (z_range : PySem.W.nsIn K mainGlobals "range" = some none)
    (z_repr : PySem.W.nsIn K mainGlobals "repr" = some none)
    (z_set : PySem.W.nsIn K mainGlobals "set" = some none)
    (z_str : PySem.W.nsIn K mainGlobals "str" = some none)
    (z_tuple : PySem.W.nsIn K mainGlobals "tuple" = some none)
    (m_LETTERS : PySem.W.nsIn K mainGlobals "LETTERS" = some (some u_LETTERS))
    (r_LETTERS : RelV (.str c_LETTERS) u_LETTERS)
    (m_MOST_BEATS : PySem.W.nsIn K mainGlobals "MOST_BEATS" = some (some u_MOST_BEATS))
    (r_MOST_BEATS : RelV (.int c_MOST_BEATS) u_MOST_BEATS)
    (m_MOST_COINS : PySem.W.nsIn K mainGlobals "MOST_COINS" = some (some u_MOST_COINS))
    (r_MOST_COINS : RelV (.int c_MOST_COINS) u_MOST_COINS)
    (m_MOST_PLACE : PySem.W.nsIn K mainGlobals "MOST_PLACE" = some (some u_MOST_PLACE))
    (r_MOST_PLACE : RelV (.int c_MOST_PLACE) u_MOST_PLACE)
    (m_MOST_PRICE : PySem.W.nsIn K mainGlobals "MOST_PRICE" = some (some u_MOST_PRICE))
    (r_MOST_PRICE : RelV (.int c_MOST_PRICE) u_MOST_PRICE)
    (m_MOST_SIGNS : PySem.W.nsIn K mainGlobals "MOST_SIGNS" = some (some u_MOST_SIGNS))
    (r_MOST_SIGNS : RelV (.int c_MOST_SIGNS) u_MOST_SIGNS)
    (a_w_bag : PySem.W.nsIn K mainGlobals "_law_bag" = some (some (.ref f_w_bag)))
    (l_w_bag : K.lookup f_w_bag = some ⟨oc_w_bag, od_w_bag, .func (PySem.W.fnOf "_law_bag" "_law_bag" (defArgs t_w_bag) (defBody t_w_bag) (defScope t_w_bag) .none kV_w_bag dc_w_bag pm_w_bag an_w_bag cd_w_bag ct_w_bag), sl_w_bag⟩)
    (c_w_bag : PySem.W.codeIn K cd_w_bag "_law_bag" = true)
    (k_w_bag : PySem.W.keepIn K (.ref f_w_bag) = true)
    (a_w_take : PySem.W.nsIn K mainGlobals "_law_take" = some (some (.ref f_w_take)))
    (l_w_take : K.lookup f_w_take = some ⟨oc_w_take, od_w_take, .func (PySem.W.fnOf "_law_take" "_law_take" (defArgs t_w_take) (defBody t_w_take) (defScope t_w_take) .none kV_w_take dc_w_take pm_w_take an_w_take cd_w_take ct_w_take), sl_w_take⟩)
    (c_w_take : PySem.W.codeIn K cd_w_take "_law_take" = true)
    (k_w_take : PySem.W.keepIn K (.ref f_w_take) = true)
    (a_w_names : PySem.W.nsIn K mainGlobals "_law_names" = some (some (.ref f_w_names)))
    (l_w_names : K.lookup f_w_names = some ⟨oc_w_names, od_w_names, .func (PySem.W.fnOf "_law_names" "_law_names" (defArgs t_w_names) (defBody t_w_names) (defScope t_w_names) .none kV_w_names dc_w_names pm_w_names an_w_names cd_w_names ct_w_names), sl_w_names⟩)
    (c_w_names : PySem.W.codeIn K cd_w_names "_law_names" = true)
    (k_w_names : PySem.W.keepIn K (.ref f_w_names) = true)
    (a_w_number : PySem.W.nsIn K mainGlobals "_law_number" = some (some (.ref f_w_number)))
    (l_w_number : K.lookup f_w_number = some ⟨oc_w_number, od_w_number, .func (PySem.W.fnOf "_law_number" "_law_number" (defArgs t_w_number) (defBody t_w_number) (defScope t_w_number) .none kV_w_number dc_w_number pm_w_number an_w_number cd_w_number ct_w_number), sl_w_number⟩)
    (c_w_number : PySem.W.codeIn K cd_w_number "_law_number" = true)
    (k_w_number : PySem.W.keepIn K (.ref f_w_number) = true)
    (a_w_text : PySem.W.nsIn K mainGlobals "_law_text" = some (some (.ref f_w_text)))
    (l_w_text : K.lookup f_w_text = some ⟨oc_w_text, od_w_text, .func (PySem.W.fnOf "_law_text" "_law_text" (defArgs t_w_text) (defBody t_w_text) (defScope t_w_text) .none kV_w_text dc_w_text pm_w_text an_w_text cd_w_text ct_w_text), sl_w_text⟩)
    (c_w_text : PySem.W.codeIn K cd_w_text "_law_text" = true)
    (k_w_text : PySem.W.keepIn K (.ref f_w_text) = true)
    (a_w_some : PySem.W.nsIn K mainGlobals "_law_some" = some (some (.ref f_w_some)))
    (l_w_some : K.lookup f_w_some = some ⟨oc_w_some, od_w_some, .func (PySem.W.fnOf "_law_some" "_law_some" (defArgs t_w_some) (defBody t_w_some) (defScope t_w_some) .none kV_w_some dc_w_some pm_w_some an_w_some cd_w_some ct_w_some), sl_w_some⟩)
    (c_w_some : PySem.W.codeIn K cd_w_some "_law_some" = true)
    (k_w_some : PySem.W.keepIn K (.ref f_w_some) = true)
    (a_w_thing : PySem.W.nsIn K mainGlobals "_law_thing" = some (some (.ref f_w_thing)))
    (l_w_thing : K.lookup f_w_thing = some ⟨oc_w_thing, od_w_thing, .func (PySem.W.fnOf "_law_thing" "_law_thing" (defArgs t_w_thing) (defBody t_w_thing) (defScope t_w_thing) .none kV_w_thing dc_w_thing pm_w_thing an_w_thing cd_w_thing ct_w_thing), sl_w_thing⟩)
    (c_w_thing : PySem.W.codeIn K cd_w_thing "_law_thing" = true)
    (k_w_thing : PySem.W.keepIn K (.ref f_w_thing) = true)
    (a_w_within : PySem.W.nsIn K mainGlobals "_law_within" = some (some (.ref f_w_within)))
    (l_w_within : K.lookup f_w_within = some ⟨oc_w_within, od_w_within, .func (PySem.W.fnOf "_law_within" "_law_within" (defArgs t_w_within) (defBody t_w_within) (defScope t_w_within) .none kV_w_within dc_w_within pm_w_within an_w_within cd_w_within ct_w_within), sl_w_within⟩)
    (c_w_within : PySem.W.codeIn K cd_w_within "_law_within" = true)
    (k_w_within : PySem.W.keepIn K (.ref f_w_within) = true)
    (a_w_is_name : PySem.W.nsIn K mainGlobals "_law_is_name" = some (some (.ref f_w_is_name)))
    (l_w_is_name : K.lookup f_w_is_name = some ⟨oc_w_is_name, od_w_is_name, .func (PySem.W.fnOf "_law_is_name" "_law_is_name" (defArgs t_w_is_name) (defBody t_w_is_name) (defScope t_w_is_name) .none kV_w_is_name dc_w_is_name pm_w_is_name an_w_is_name cd_w_is_name ct_w_is_name), sl_w_is_name⟩)
    (c_w_is_name : PySem.W.codeIn K cd_w_is_name "_law_is_name" = true)
    (k_w_is_name : PySem.W.keepIn K (.ref f_w_is_name) = true)
    (a_w_is_group : PySem.W.nsIn K mainGlobals "_law_is_group" = some (some (.ref f_w_is_group)))
    (l_w_is_group : K.lookup f_w_is_group = some ⟨oc_w_is_group, od_w_is_group, .func (PySem.W.fnOf "_law_is_group" "_law_is_group" (defArgs t_w_is_group) (defBody t_w_is_group) (defScope t_w_is_group) .none kV_w_is_group dc_w_is_group pm_w_is_group an_w_is_group cd_w_is_group ct_w_is_group), sl_w_is_group⟩)
    (c_w_is_group : PySem.W.codeIn K cd_w_is_group "_law_is_group" = true)
    (k_w_is_group : PySem.W.keepIn K (.ref f_w_is_group) = true)
    (a_w_due : PySem.W.nsIn K mainGlobals "_law_due" = some (some (.ref f_w_due)))
    (l_w_due : K.lookup f_w_due = some ⟨oc_w_due, od_w_due, .func (PySem.W.fnOf "_law_due" "_law_due" (defArgs t_w_due) (defBody t_w_due) (defScope t_w_due) .none kV_w_due dc_w_due pm_w_due an_w_due cd_w_due ct_w_due), sl_w_due⟩)
    (c_w_due : PySem.W.codeIn K cd_w_due "_law_due" = true)
    (k_w_due : PySem.W.keepIn K (.ref f_w_due) = true)
    (a_is_whole : PySem.W.nsIn K mainGlobals "is_whole" = some (some (.ref f_is_whole)))
    (l_is_whole : K.lookup f_is_whole = some ⟨oc_is_whole, od_is_whole, .func (PySem.W.fnOf "is_whole" "is_whole" (defArgs t_is_whole) (defBody t_is_whole) (defScope t_is_whole) .none kV_is_whole dc_is_whole pm_is_whole an_is_whole cd_is_whole ct_is_whole), sl_is_whole⟩)
    (c_is_whole : PySem.W.codeIn K cd_is_whole "is_whole" = true)
    (k_is_whole : PySem.W.keepIn K (.ref f_is_whole) = true)
    (a_is_name : PySem.W.nsIn K mainGlobals "is_name" = some (some (.ref f_is_name)))
    (l_is_name : K.lookup f_is_name = some ⟨oc_is_name, od_is_name, .func (PySem.W.fnOf "is_name" "is_name" (defArgs t_is_name) (defBody t_is_name) (defScope t_is_name) .none kV_is_name dc_is_name pm_is_name an_is_name cd_is_name ct_is_name), sl_is_name⟩)
    (c_is_name : PySem.W.codeIn K cd_is_name "is_name" = true)
    (k_is_name : PySem.W.keepIn K (.ref f_is_name) = true)
    (a_is_between : PySem.W.nsIn K mainGlobals "is_between" = some (some (.ref f_is_between)))
    (l_is_between : K.lookup f_is_between = some ⟨oc_is_between, od_is_between, .func (PySem.W.fnOf "is_between" "is_between" (defArgs t_is_between) (defBody t_is_between) (defScope t_is_between) .none kV_is_between dc_is_between pm_is_between an_is_between cd_is_between ct_is_between), sl_is_between⟩)
    (c_is_between : PySem.W.codeIn K cd_is_between "is_between" = true)
    (k_is_between : PySem.W.keepIn K (.ref f_is_between) = true)
    (a_is_price : PySem.W.nsIn K mainGlobals "is_price" = some (some (.ref f_is_price)))
    (l_is_price : K.lookup f_is_price = some ⟨oc_is_price, od_is_price, .func (PySem.W.fnOf "is_price" "is_price" (defArgs t_is_price) (defBody t_is_price) (defScope t_is_price) .none kV_is_price dc_is_price pm_is_price an_is_price cd_is_price ct_is_price), sl_is_price⟩)
    (c_is_price : PySem.W.codeIn K cd_is_price "is_price" = true)
    (k_is_price : PySem.W.keepIn K (.ref f_is_price) = true)
    (a_are_coins : PySem.W.nsIn K mainGlobals "are_coins" = some (some (.ref f_are_coins)))
    (l_are_coins : K.lookup f_are_coins = some ⟨oc_are_coins, od_are_coins, .func (PySem.W.fnOf "are_coins" "are_coins" (defArgs t_are_coins) (defBody t_are_coins) (defScope t_are_coins) .none kV_are_coins dc_are_coins pm_are_coins an_are_coins cd_are_coins ct_are_coins), sl_are_coins⟩)
    (c_are_coins : PySem.W.codeIn K cd_are_coins "are_coins" = true)
    (k_are_coins : PySem.W.keepIn K (.ref f_are_coins) = true)
    (a_is_place : PySem.W.nsIn K mainGlobals "is_place" = some (some (.ref f_is_place)))
    (l_is_place : K.lookup f_is_place = some ⟨oc_is_place, od_is_place, .func (PySem.W.fnOf "is_place" "is_place" (defArgs t_is_place) (defBody t_is_place) (defScope t_is_place) .none kV_is_place dc_is_place pm_is_place an_is_place cd_is_place ct_is_place), sl_is_place⟩)
    (c_is_place : PySem.W.codeIn K cd_is_place "is_place" = true)
    (k_is_place : PySem.W.keepIn K (.ref f_is_place) = true)
    (a_are_beats : PySem.W.nsIn K mainGlobals "are_beats" = some (some (.ref f_are_beats)))
    (l_are_beats : K.lookup f_are_beats = some ⟨oc_are_beats, od_are_beats, .func (PySem.W.fnOf "are_beats" "are_beats" (defArgs t_are_beats) (defBody t_are_beats) (defScope t_are_beats) .none kV_are_beats dc_are_beats pm_are_beats an_are_beats cd_are_beats ct_are_beats), sl_are_beats⟩)
    (c_are_beats : PySem.W.codeIn K cd_are_beats "are_beats" = true)
    (k_are_beats : PySem.W.keepIn K (.ref f_are_beats) = true)
    (a_are_unlike : PySem.W.nsIn K mainGlobals "are_unlike" = some (some (.ref f_are_unlike)))
    (l_are_unlike : K.lookup f_are_unlike = some ⟨oc_are_unlike, od_are_unlike, .func (PySem.W.fnOf "are_unlike" "are_unlike" (defArgs t_are_unlike) (defBody t_are_unlike) (defScope t_are_unlike) .none kV_are_unlike dc_are_unlike pm_are_unlike an_are_unlike cd_are_unlike ct_are_unlike), sl_are_unlike⟩)
    (c_are_unlike : PySem.W.codeIn K cd_are_unlike "are_unlike" = true)
    (k_are_unlike : PySem.W.keepIn K (.ref f_are_unlike) = true)
    (a_is_group : PySem.W.nsIn K mainGlobals "is_group" = some (some (.ref f_is_group)))
    (l_is_group : K.lookup f_is_group = some ⟨oc_is_group, od_is_group, .func (PySem.W.fnOf "is_group" "is_group" (defArgs t_is_group) (defBody t_is_group) (defScope t_is_group) .none kV_is_group dc_is_group pm_is_group an_is_group cd_is_group ct_is_group), sl_is_group⟩)
    (c_is_group : PySem.W.codeIn K cd_is_group "is_group" = true)
    (k_is_group : PySem.W.keepIn K (.ref f_is_group) = true)
    (a_w_asked : PySem.W.nsIn K mainGlobals "_law_asked" = some (some (.ref f_w_asked)))
    (l_w_asked : K.lookup f_w_asked = some ⟨oc_w_asked, od_w_asked, .func (PySem.W.fnOf "_law_asked" "_law_asked" (defArgs t_w_asked) (defBody t_w_asked) (defScope t_w_asked) .none kV_w_asked dc_w_asked pm_w_asked an_w_asked cd_w_asked ct_w_asked), sl_w_asked⟩)
    (c_w_asked : PySem.W.codeIn K cd_w_asked "_law_asked" = true)
    (k_w_asked : PySem.W.keepIn K (.ref f_w_asked) = true)
    (a_law : PySem.W.nsIn K mainGlobals "law" = some (some (.ref f_law)))
    (l_law : K.lookup f_law = some ⟨oc_law, od_law, .func (PySem.W.fnOf "law" "law" (defArgs t_law) (defBody t_law) (defScope t_law) .none kV_law dc_law pm_law an_law cd_law ct_law), sl_law⟩)
    (c_law : PySem.W.codeIn K cd_law "law" = true)
    (k_law : PySem.W.keepIn K (.ref f_law) = true) :
    ∃ fd : FuncData, (∀ (s : Shared) (v : Value), BindsTo s fd ⟨[v], []⟩ [("_law_script", v)]) ∧ ∀ base : Heap, K.In base → base.Ns mainGlobals mg → FnG true P w K mg base 5 fa fd ["_law_script"] (spZ ⟨P, w, K, mg, base⟩ (fun _ : Unit => noE) (fun (_ : Unit) (p : List Int) => [(rSc K rInt).pr p]) m_law rBl) := by
  have e := hfa.symm.trans (PySem.W.mg_of X G a_law)
  cases e
  have F_w_bag := fun_mk (st := t_w_bag) l_w_bag c_w_bag k_w_bag
  have B_w_bag := F_w_bag.binds (ps := ["_law_script"]) fun _ _ _ _ _ _ us hl => match us, hl with | [_], _ => rfl
  have F_w_take := fun_mk (st := t_w_take) l_w_take c_w_take k_w_take
  have B_w_take := F_w_take.binds (ps := ["_law_bag_here", "_law_many"]) fun _ _ _ _ _ _ us hl => match us, hl with | [_, _], _ => rfl
  have F_w_names := fun_mk (st := t_w_names) l_w_names c_w_names k_w_names
  have B_w_names := F_w_names.binds (ps := ["_law_bag_here", "_law_many"]) fun _ _ _ _ _ _ us hl => match us, hl with | [_, _], _ => rfl
  have F_w_number := fun_mk (st := t_w_number) l_w_number c_w_number k_w_number
  have B_w_number := F_w_number.binds (ps := ["_law_bag_here"]) fun _ _ _ _ _ _ us hl => match us, hl with | [_], _ => rfl
  have F_w_text := fun_mk (st := t_w_text) l_w_text c_w_text k_w_text
  have B_w_text := F_w_text.binds (ps := ["_law_bag_here"]) fun _ _ _ _ _ _ us hl => match us, hl with | [_], _ => rfl
  have F_w_some := fun_mk (st := t_w_some) l_w_some c_w_some k_w_some
  have B_w_some := F_w_some.binds (ps := ["_law_bag_here", "_law_names_here"]) fun _ _ _ _ _ _ us hl => match us, hl with | [_, _], _ => rfl
  have F_w_thing := fun_mk (st := t_w_thing) l_w_thing c_w_thing k_w_thing
  have B_w_thing := F_w_thing.binds (ps := ["_law_bag_here", "_law_names_here"]) fun _ _ _ _ _ _ us hl => match us, hl with | [_, _], _ => rfl
  have F_w_within := fun_mk (st := t_w_within) l_w_within c_w_within k_w_within
  have B_w_within := F_w_within.binds (ps := ["_law_thing_here", "_law_low", "_law_high"]) fun _ _ _ _ _ _ us hl => match us, hl with | [_, _, _], _ => rfl
  have F_w_is_name := fun_mk (st := t_w_is_name) l_w_is_name c_w_is_name k_w_is_name
  have B_w_is_name := F_w_is_name.binds (ps := ["_law_thing_here"]) fun _ _ _ _ _ _ us hl => match us, hl with | [_], _ => rfl
  have F_w_is_group := fun_mk (st := t_w_is_group) l_w_is_group c_w_is_group k_w_is_group
  have B_w_is_group := F_w_is_group.binds (ps := ["_law_names_here", "_law_thing_here"]) fun _ _ _ _ _ _ us hl => match us, hl with | [_, _], _ => rfl
  have F_w_due := fun_mk (st := t_w_due) l_w_due c_w_due k_w_due
  have B_w_due := F_w_due.binds (ps := ["_law_names_here", "_law_thing_here"]) fun _ _ _ _ _ _ us hl => match us, hl with | [_, _], _ => rfl
  have F_is_whole := fun_mk (st := t_is_whole) l_is_whole c_is_whole k_is_whole
  have B_is_whole := F_is_whole.binds (ps := ["thing"]) fun _ _ _ _ _ _ us hl => match us, hl with | [_], _ => rfl
  have F_is_name := fun_mk (st := t_is_name) l_is_name c_is_name k_is_name
  have B_is_name := F_is_name.binds (ps := ["thing"]) fun _ _ _ _ _ _ us hl => match us, hl with | [_], _ => rfl
  have F_is_between := fun_mk (st := t_is_between) l_is_between c_is_between k_is_between
  have B_is_between := F_is_between.binds (ps := ["thing", "low", "high"]) fun _ _ _ _ _ _ us hl => match us, hl with | [_, _, _], _ => rfl
  have F_is_price := fun_mk (st := t_is_price) l_is_price c_is_price k_is_price
  have B_is_price := F_is_price.binds (ps := ["thing"]) fun _ _ _ _ _ _ us hl => match us, hl with | [_], _ => rfl
  have F_are_coins := fun_mk (st := t_are_coins) l_are_coins c_are_coins k_are_coins
  have B_are_coins := F_are_coins.binds (ps := ["thing"]) fun _ _ _ _ _ _ us hl => match us, hl with | [_], _ => rfl
  have F_is_place := fun_mk (st := t_is_place) l_is_place c_is_place k_is_place
  have B_is_place := F_is_place.binds (ps := ["thing"]) fun _ _ _ _ _ _ us hl => match us, hl with | [_], _ => rfl
  have F_are_beats := fun_mk (st := t_are_beats) l_are_beats c_are_beats k_are_beats
  have B_are_beats := F_are_beats.binds (ps := ["thing"]) fun _ _ _ _ _ _ us hl => match us, hl with | [_], _ => rfl
  have F_are_unlike := fun_mk (st := t_are_unlike) l_are_unlike c_are_unlike k_are_unlike
  have B_are_unlike := F_are_unlike.binds (ps := ["names"]) fun _ _ _ _ _ _ us hl => match us, hl with | [_], _ => rfl
  have F_is_group := fun_mk (st := t_is_group) l_is_group c_is_group k_is_group
  have B_is_group := F_is_group.binds (ps := ["names", "thing"]) fun _ _ _ _ _ _ us hl => match us, hl with | [_, _], _ => rfl
  have F_w_asked := fun_mk (st := t_w_asked) l_w_asked c_w_asked k_w_asked
  have B_w_asked := F_w_asked.binds (ps := ["_law_names_here", "_law_thing_here"]) fun _ _ _ _ _ _ us hl => match us, hl with | [_, _], _ => rfl
  refine ⟨PySem.W.fnOf "law" "law" (defArgs t_law) (defBody t_law) (defScope t_law) .none kV_law dc_law pm_law an_law cd_law ct_law, fun s v => .of_eq rfl, fun base _ _ => ?_⟩
  have T : Txt ⟨P, w, K, mg, base⟩ ⟨⟩ := {
    b_abs := PySem.W.mg_none_of X G z_abs,
    b_all := PySem.W.mg_none_of X G z_all,
    b_bool := PySem.W.mg_none_of X G z_bool,
    b_int := PySem.W.mg_none_of X G z_int,
    b_isinstance := PySem.W.mg_none_of X G z_isinstance,
    b_len := PySem.W.mg_none_of X G z_len,
    b_list := PySem.W.mg_none_of X G z_list,
    b_range := PySem.W.mg_none_of X G z_range,
    b_repr := PySem.W.mg_none_of X G z_repr,
    b_set := PySem.W.mg_none_of X G z_set,
    b_str := PySem.W.mg_none_of X G z_str,
    b_tuple := PySem.W.mg_none_of X G z_tuple,
    c_LETTERS := ⟨u_LETTERS, PySem.W.mg_of X G m_LETTERS, r_LETTERS⟩,
    c_MOST_BEATS := ⟨u_MOST_BEATS, PySem.W.mg_of X G m_MOST_BEATS, r_MOST_BEATS⟩,
    c_MOST_COINS := ⟨u_MOST_COINS, PySem.W.mg_of X G m_MOST_COINS, r_MOST_COINS⟩,
    c_MOST_PLACE := ⟨u_MOST_PLACE, PySem.W.mg_of X G m_MOST_PLACE, r_MOST_PLACE⟩,
    c_MOST_PRICE := ⟨u_MOST_PRICE, PySem.W.mg_of X G m_MOST_PRICE, r_MOST_PRICE⟩,
    c_MOST_SIGNS := ⟨u_MOST_SIGNS, PySem.W.mg_of X G m_MOST_SIGNS, r_MOST_SIGNS⟩,
    d_w_bag := ⟨f_w_bag, _, PySem.W.mg_of X G a_w_bag, k_w_bag, B_w_bag, F_w_bag⟩,
    d_w_take := ⟨f_w_take, _, PySem.W.mg_of X G a_w_take, k_w_take, B_w_take, F_w_take⟩,
    d_w_names := ⟨f_w_names, _, PySem.W.mg_of X G a_w_names, k_w_names, B_w_names, F_w_names⟩,
    d_w_number := ⟨f_w_number, _, PySem.W.mg_of X G a_w_number, k_w_number, B_w_number, F_w_number⟩,
    d_w_text := ⟨f_w_text, _, PySem.W.mg_of X G a_w_text, k_w_text, B_w_text, F_w_text⟩,
    d_w_some := ⟨f_w_some, _, PySem.W.mg_of X G a_w_some, k_w_some, B_w_some, F_w_some⟩,
    d_w_thing := ⟨f_w_thing, _, PySem.W.mg_of X G a_w_thing, k_w_thing, B_w_thing, F_w_thing⟩,
    d_w_within := ⟨f_w_within, _, PySem.W.mg_of X G a_w_within, k_w_within, B_w_within, F_w_within⟩,
    d_w_is_name := ⟨f_w_is_name, _, PySem.W.mg_of X G a_w_is_name, k_w_is_name, B_w_is_name, F_w_is_name⟩,
    d_w_is_group := ⟨f_w_is_group, _, PySem.W.mg_of X G a_w_is_group, k_w_is_group, B_w_is_group, F_w_is_group⟩,
    d_w_due := ⟨f_w_due, _, PySem.W.mg_of X G a_w_due, k_w_due, B_w_due, F_w_due⟩,
    d_is_whole := ⟨f_is_whole, _, PySem.W.mg_of X G a_is_whole, k_is_whole, B_is_whole, F_is_whole⟩,
    d_is_name := ⟨f_is_name, _, PySem.W.mg_of X G a_is_name, k_is_name, B_is_name, F_is_name⟩,
    d_is_between := ⟨f_is_between, _, PySem.W.mg_of X G a_is_between, k_is_between, B_is_between, F_is_between⟩,
    d_is_price := ⟨f_is_price, _, PySem.W.mg_of X G a_is_price, k_is_price, B_is_price, F_is_price⟩,
    d_are_coins := ⟨f_are_coins, _, PySem.W.mg_of X G a_are_coins, k_are_coins, B_are_coins, F_are_coins⟩,
    d_is_place := ⟨f_is_place, _, PySem.W.mg_of X G a_is_place, k_is_place, B_is_place, F_is_place⟩,
    d_are_beats := ⟨f_are_beats, _, PySem.W.mg_of X G a_are_beats, k_are_beats, B_are_beats, F_are_beats⟩,
    d_are_unlike := ⟨f_are_unlike, _, PySem.W.mg_of X G a_are_unlike, k_are_unlike, B_are_unlike, F_are_unlike⟩,
    d_is_group := ⟨f_is_group, _, PySem.W.mg_of X G a_is_group, k_is_group, B_is_group, F_is_group⟩,
    d_w_asked := ⟨f_w_asked, _, PySem.W.mg_of X G a_w_asked, k_w_asked, B_w_asked, F_w_asked⟩ }
  exact (f_law T (fun_mk (st := t_law) l_law c_law k_law)).up fun _ => rfl
end Zk
open PySem PySem.W PyProof.Rows in
set_option maxRecDepth 100000 in
set_option maxHeartbeats 0 in
theorem PySem.Challenge.cw_aheadpays_k11_kinds_known_holds : PySem.Challenge.rw_aheadpays_k11_kinds_known.Holds := by
  w_on; o_law; k_head; (case hw => w_witness2)
  k_fill
  refine Zk.walk_G (l := PySem.Challenge.rw_aheadpays_k11_kinds_known) (n := 63) (k := 5) (x := "_law_script") (m := Zk.m_law) rfl (by decide) rfl ⟨rfl, by decide, by decide⟩ (fun w h Y => PySem.W.kIn_of Y) ?F Zk.law_true
  case F =>
    intro w mg fa h KX G hmg
    refine' Zk.all_mk KX G hmg ?z_abs ?z_all ?z_bool ?z_int ?z_isinstance ?z_len ?z_list ?z_range ?z_repr ?z_set ?z_str ?z_tuple ?m_LETTERS ?r_LETTERS ?m_MOST_BEATS ?r_MOST_BEATS ?m_MOST_COINS ?r_MOST_COINS ?m_MOST_PLACE ?r_MOST_PLACE ?m_MOST_PRICE ?r_MOST_PRICE ?m_MOST_SIGNS ?r_MOST_SIGNS ?a_w_bag ?l_w_bag ?c_w_bag ?k_w_bag ?a_w_take ?l_w_take ?c_w_take ?k_w_take ?a_w_names ?l_w_names ?c_w_names ?k_w_names ?a_w_number ?l_w_number ?c_w_number ?k_w_number ?a_w_text ?l_w_text ?c_w_text ?k_w_text ?a_w_some ?l_w_some ?c_w_some ?k_w_some ?a_w_thing ?l_w_thing ?c_w_thing ?k_w_thing ?a_w_within ?l_w_within ?c_w_within ?k_w_within ?a_w_is_name ?l_w_is_name ?c_w_is_name ?k_w_is_name ?a_w_is_group ?l_w_is_group ?c_w_is_group ?k_w_is_group ?a_w_due ?l_w_due ?c_w_due ?k_w_due ?a_is_whole ?l_is_whole ?c_is_whole ?k_is_whole ?a_is_name ?l_is_name ?c_is_name ?k_is_name ?a_is_between ?l_is_between ?c_is_between ?k_is_between ?a_is_price ?l_is_price ?c_is_price ?k_is_price ?a_are_coins ?l_are_coins ?c_are_coins ?k_are_coins ?a_is_place ?l_is_place ?c_is_place ?k_is_place ?a_are_beats ?l_are_beats ?c_are_beats ?k_are_beats ?a_are_unlike ?l_are_unlike ?c_are_unlike ?k_are_unlike ?a_is_group ?l_is_group ?c_is_group ?k_is_group ?a_w_asked ?l_w_asked ?c_w_asked ?k_w_asked ?a_law ?l_law ?c_law ?k_law
    (case z_abs => k_is)
    (case z_all => k_is)
    (case z_bool => k_is)
    (case z_int => k_is)
    (case z_isinstance => k_is)
    (case z_len => k_is)
    (case z_list => k_is)
    (case z_range => k_is)
    (case z_repr => k_is)
    (case z_set => k_is)
    (case z_str => k_is)
    (case z_tuple => k_is)
    (case m_LETTERS => k_is)
    (case r_LETTERS => exact ⟨_, rfl⟩)
    (case m_MOST_BEATS => k_is)
    (case r_MOST_BEATS => exact ⟨_, rfl⟩)
    (case m_MOST_COINS => k_is)
    (case r_MOST_COINS => exact ⟨_, rfl⟩)
    (case m_MOST_PLACE => k_is)
    (case r_MOST_PLACE => exact ⟨_, rfl⟩)
    (case m_MOST_PRICE => k_is)
    (case r_MOST_PRICE => exact ⟨_, rfl⟩)
    (case m_MOST_SIGNS => k_is)
    (case r_MOST_SIGNS => exact ⟨_, rfl⟩)
    (case a_w_bag => k_is)
    (case l_w_bag => k_is)
    (case c_w_bag => k_is)
    (case k_w_bag => k_is)
    (case a_w_take => k_is)
    (case l_w_take => k_is)
    (case c_w_take => k_is)
    (case k_w_take => k_is)
    (case a_w_names => k_is)
    (case l_w_names => k_is)
    (case c_w_names => k_is)
    (case k_w_names => k_is)
    (case a_w_number => k_is)
    (case l_w_number => k_is)
    (case c_w_number => k_is)
    (case k_w_number => k_is)
    (case a_w_text => k_is)
    (case l_w_text => k_is)
    (case c_w_text => k_is)
    (case k_w_text => k_is)
    (case a_w_some => k_is)
    (case l_w_some => k_is)
    (case c_w_some => k_is)
    (case k_w_some => k_is)
    (case a_w_thing => k_is)
    (case l_w_thing => k_is)
    (case c_w_thing => k_is)
    (case k_w_thing => k_is)
    (case a_w_within => k_is)
    (case l_w_within => k_is)
    (case c_w_within => k_is)
    (case k_w_within => k_is)
    (case a_w_is_name => k_is)
    (case l_w_is_name => k_is)
    (case c_w_is_name => k_is)
    (case k_w_is_name => k_is)
    (case a_w_is_group => k_is)
    (case l_w_is_group => k_is)
    (case c_w_is_group => k_is)
    (case k_w_is_group => k_is)
    (case a_w_due => k_is)
    (case l_w_due => k_is)
    (case c_w_due => k_is)
    (case k_w_due => k_is)
    (case a_is_whole => k_is)
    (case l_is_whole => k_is)
    (case c_is_whole => k_is)
    (case k_is_whole => k_is)
    (case a_is_name => k_is)
    (case l_is_name => k_is)
    (case c_is_name => k_is)
    (case k_is_name => k_is)
    (case a_is_between => k_is)
    (case l_is_between => k_is)
    (case c_is_between => k_is)
    (case k_is_between => k_is)
    (case a_is_price => k_is)
    (case l_is_price => k_is)
    (case c_is_price => k_is)
    (case k_is_price => k_is)
    (case a_are_coins => k_is)
    (case l_are_coins => k_is)
    (case c_are_coins => k_is)
    (case k_are_coins => k_is)
    (case a_is_place => k_is)
    (case l_is_place => k_is)
    (case c_is_place => k_is)
    (case k_is_place => k_is)
    (case a_are_beats => k_is)
    (case l_are_beats => k_is)
    (case c_are_beats => k_is)
    (case k_are_beats => k_is)
    (case a_are_unlike => k_is)
    (case l_are_unlike => k_is)
    (case c_are_unlike => k_is)
    (case k_are_unlike => k_is)
    (case a_is_group => k_is)
    (case l_is_group => k_is)
    (case c_is_group => k_is)
    (case k_is_group => k_is)
    (case a_w_asked => k_is)
    (case l_w_asked => k_is)
    (case c_w_asked => k_is)
    (case k_w_asked => k_is)
    (case a_law => k_is)
    (case l_law => k_is)
    (case c_law => k_is)
    (case k_law => k_is)
#print axioms PySem.Challenge.cw_aheadpays_k11_kinds_known_holds
